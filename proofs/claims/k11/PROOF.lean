import PyProof.Rows.All
import Wide.All
import OpenK.AllK
import Wide.FinOn
import HandS.ForMost
import HandS.Exc
import HandS.SlotsOwn
import HandS.Dict
import KE.KDictKeyed
import HandS.ForExc
import HandS.Zip
import HandS.TupAny
import HandS.More
import HandS.IsInst
import HandS.Style
import HandS.Deep
import HandS.Conv
import KE.SortData
import KE.DataCmp
import KE.KDictWalk
import HandS.Star
import HandS.TupSets
import HandS.SetFor
import HandS.SetBool
import HandS.DictComp
import HandS.Call
import HandS.Ends
import PyProof.ReprLen
import PySem.Challenge.RW_letinside_k11_kinds_of_any_value
section
set_option Elab.async false
set_option backward.match.sparseCases false
set_option linter.all false
set_option maxRecDepth 100000
set_option maxHeartbeats 2000000
namespace Dn
open PySem L2

/-- deep values: a tuple is what it holds; a list, a dict, an instance is a place of the logical heap -/
inductive W where
  | non | bl (b : Bool) | int (i : Int) | str (x : Str) | ref (n : Nat) | tup (ws : List W) | rol (ws : List W) | ty (n : String) | obj (a : Addr)

inductive GO where
  | lst (ws : List W)
  | dct (lk : Bool) (kvs : List (W × W))
  | ins (C : Addr) (ws : List (Option W))
  | rsv

/-- what stands written, and the world -/
abbrev Kw := PySem.W.Frag × World
abbrev _root_.L2.Cx.kw (X : L2.Cx) : Kw := (X.K, X.w)
/-- a key of a dict whose keys are ints and texts -/
def kW : Key → W
  | .inl i => .int i
  | .inr x => .str x
mutual
/-- a key of any depth, up to == -/
def keyW : W → Option NestedKey
  | .non => some .none
  | .bl b => some (.num (if b = true then 1 else 0))
  | .int i => some (.num i)
  | .str x => some (.text x)
  | .tup ws => (keyWs ws).map .tup
  | _ => none
def keyWs : List W → Option (List NestedKey)
  | [] => some []
  | w :: ws => match keyW w, keyWs ws with
    | some k, some ks => some (k :: ks)
    | _, _ => none
end
/-- a dict whose keys are tuples -/
def DnO (w : World) (a : Addr) (xs : List (NestedKey × Addr × V)) : HO := .ext fun h => ∃ o es ep, h.get? a = some o ∧ o.ExactDict ∧ o.data = .dict es ep ∧ (a == sysModules) = false ∧ xs.length ≤ sizeLine ∧
  ∃ ys : List (NestedKey × Addr × Value), es.toList = ys.map (fun x => ⟨x.1.hash w, .ref x.2.1, x.2.2⟩) ∧ Paired (fun p q => p.1 = q.1 ∧ p.2.1 = q.2.1 ∧ RelV p.2.2 q.2.2) xs ys
abbrev Gh := List GO
abbrev Loc := List (Option W)

structure Xn where
  cls : Addr
  fs : List (Str × W)

inductive Out (α : Type) where
  | ok (a : α) (G : Gh)
  | exc (x : Xn) (G : Gh)
  | stuck

abbrev M (α : Type) := Gh → Out α
def ret {α} (a : α) : M α := fun G => .ok a G
def bnd {α β} (m : M α) (f : α → M β) : M β := fun G => match m G with
  | .ok a G' => f a G'
  | .exc x G' => .exc x G'
  | .stuck => .stuck
def fail {α} : M α := fun _ => .stuck

section
variable (K : Kw)
variable (ρ : List Addr) (H : Hp)
/-- a tuple, a list that stays -/
def StT (b : Addr) (vs : List V) : Prop := b ∉ ρ ∧ H b = some (.tup vs)
def StL (b : Addr) (vs : List V) : Prop := (b ∉ ρ ∧ Rd H b (.lst vs)) ∨ ∃ (o : Obj) (its : Array Value) (n : Nat), K.1.lookup b = some o ∧ o.cls = .type "list" ∧ o.dict = none ∧ o.data = .seq its n ∧ its.size ≤ sizeLine ∧ Vals vs its.toList
end
mutual
/-- v bears w -/
def Abs (K : Kw) (ρ : List Addr) (H : Hp) : W → V → Prop
  | .non, v => v = .non
  | .bl b, v => v = .bl b
  | .int i, v => v = .int i
  | .str x, v => v = .str x
  | .ty n, v => v = .ty n
  | .obj a, v => v = .ref a
  | .ref n, v => ∃ a, ρ[n]? = some a ∧ v = .ref a
  | .tup ws, v => ∃ b vs, v = .ref b ∧ StT ρ H b vs ∧ AbsL K ρ H ws vs
  | .rol ws, v => ∃ b vs, v = .ref b ∧ StL K ρ H b vs ∧ AbsL K ρ H ws vs
def AbsL (K : Kw) (ρ : List Addr) (H : Hp) : List W → List V → Prop
  | [], vs => vs = []
  | w :: ws, vs => ∃ v r, vs = v :: r ∧ Abs K ρ H w v ∧ AbsL K ρ H ws r
end
section
variable (K : Kw)
variable (ρ : List Addr) (H : Hp)
abbrev FP : List (W × W) → List (Key × V) → Prop := Paired fun (p : W × W) (q : Key × V) => p.1 = kW q.1 ∧ Abs K ρ H p.2 q.2
abbrev NP : List (W × W) → List (NestedKey × Addr × V) → Prop := Paired fun (p : W × W) (q : NestedKey × Addr × V) => keyW p.1 = some q.1 ∧ ((∃ us, p.1 = .tup us) ∧ q.1.depth ≤ 8) ∧ Abs K ρ H p.1 (.ref q.2.1) ∧ Abs K ρ H p.2 q.2.2
/-- the two forms of a dict -/
def DForm (a : Addr) (kvs : List (W × W)) (u : HO) : Prop := (∃ fk : List (Key × V), u = .dK fk ∧ FP K ρ H kvs fk) ∨ ∃ xs : List (NestedKey × Addr × V), u = DnO K.2 a xs ∧ (xs.map (·.1)).Nodup ∧ NP K ρ H kvs xs
def AbsO (a : Addr) : GO → Prop
  | .lst ws => ∃ vs, H a = some (.lst vs) ∧ AbsL K ρ H ws vs
  | .dct lk kvs => ∃ u, DForm K ρ H a kvs u ∧ match lk with
    | false => H a = some u
    | true => ∃ o, H a = some (.frz o u)
  | .ins C ws => ∃ dx vs, (SlX.SCls K.1 C ∧ SlX.SIsi K.1 C) ∧ dx ∉ ρ ∧ (∃ u, H dx = some u) ∧ dx ≠ a ∧ SlX.Slt H a C dx vs ∧ ws.length = vs.length ∧ ∀ (i : Nat) (w : W), ws[i]? = some (some w) → ∃ v, vs[i]? = some (some v) ∧ Abs K ρ H w v
  | .rsv => H a = some (.dK [])
structure RG (G : Gh) : Prop where
  len : ρ.length = G.length
  nd : ρ.Nodup
  ob : ∀ (n : Nat) (o : GO) (a : Addr), G[n]? = some o → ρ[n]? = some a → AbsO K ρ H a o
end
/-- from (ρ, H) on to (ρ', H'); locks may be opened -/
structure Go0 (ρ ρ' : List Addr) (H H' : Hp) : Prop where
  pre : ρ <+: ρ'
  kp : ∀ a o, H a = some o → a ∉ ρ → (∀ x, o ≠ .own x) → H' a = some o
  so : ∀ a o, H a = some o → a ∉ ρ → ∃ o', H' a = some o'
  nw : ∀ a, a ∈ ρ' → a ∉ ρ → H a = none
/-- the same; what is locked stays so -/
structure Go (ρ ρ' : List Addr) (H H' : Hp) : Prop extends Go0 ρ ρ' H H' where
  fz : ∀ a o u, H a = some (.frz o u) → H' a = some (.frz o u)

section
variable {K : Kw} {ρ ρ' ρ'' : List Addr} {H H' H'' : Hp}
theorem Go.refl : Go ρ ρ H H := ⟨⟨List.prefix_refl _, fun _ _ h _ _ => h, fun _ o h _ => ⟨o, h⟩, fun _ h n => absurd h n⟩, fun _ _ _ h => h⟩
theorem Go0.trans (g : Go0 ρ ρ' H H') (g' : Go0 ρ' ρ'' H' H'') : Go0 ρ ρ'' H H'' where
  pre := g.pre.trans g'.pre
  kp := fun a o h n k => g'.kp a o (g.kp a o h n k) (fun m => by
    have := g.nw a m n
    rw [h] at this; cases this) k
  so := fun a o h n => by
    obtain ⟨o', h'⟩ := g.so a o h n
    exact g'.so a o' h' fun m => by
      have := g.nw a m n
      rw [h] at this; cases this
  nw := fun a m n => by
    by_cases q : a ∈ ρ'
    · exact g.nw a q n
    · cases e : H a with
      | none => rfl
      | some o =>
        have := g'.nw a m q
        obtain ⟨o', e'⟩ := g.so a o e n
        rw [e'] at this; cases this
theorem Go.trans (g : Go ρ ρ' H H') (g' : Go ρ' ρ'' H' H'') : Go ρ ρ'' H H'' := ⟨g.toGo0.trans g'.toGo0, fun a o u h => g'.fz a o u (g.fz a o u h)⟩
theorem Go0.ix (g : Go0 ρ ρ' H H') {n : Nat} {a : Addr} (h : ρ[n]? = some a) : ρ'[n]? = some a := by
  obtain ⟨t, rfl⟩ := g.pre
  rw [List.getElem?_append_left (List.getElem?_eq_some_iff.mp h).1]
  exact h
theorem Go.ix (g : Go ρ ρ' H H') {n : Nat} {a : Addr} (h : ρ[n]? = some a) : ρ'[n]? = some a := g.toGo0.ix h
theorem Go0.out (g : Go0 ρ ρ' H H') {b : Addr} (hb : b ∉ ρ) {o : HO} (h : H b = some o) : b ∉ ρ' := fun m => by
  have := g.nw b m hb
  rw [h] at this; cases this
theorem Go0.rd (g : Go0 ρ ρ' H H') {b : Addr} (hb : b ∉ ρ) {u : HO} (hu : ∀ x, u ≠ .own x) (h : Rd H b u) : Rd H' b u := by
  rcases h with h | ⟨o, h⟩
  · exact .inl (g.kp b _ h hb hu)
  · exact .inr ⟨o, g.kp b _ h hb (fun x z => by cases z)⟩
end
section
variable {K : Kw} {ρ ρ' : List Addr} {H H' : Hp} {G : Gh}
theorem StT.sq {F : PySem.W.Frag} {b : Addr} {vs : List V} (h : StT ρ H b vs) : SqT F H b vs := .inl (.inl h.2)
theorem StL.sq {b : Addr} {vs : List V} (h : StL K ρ H b vs) : SqL K.1 H b vs := h.imp (·.2) id
theorem StT.go (g : Go0 ρ ρ' H H') {b : Addr} {vs : List V} (h : StT ρ H b vs) : StT ρ' H' b vs := ⟨g.out h.1 h.2, g.kp b _ h.2 h.1 fun x z => by cases z⟩
theorem StL.go (g : Go0 ρ ρ' H H') {b : Addr} {vs : List V} (h : StL K ρ H b vs) : StL K ρ' H' b vs := by
  rcases h with ⟨n, r⟩ | h
  · refine .inl ⟨?_, g.rd n (fun x z => by cases z) r⟩
    rcases r with r | ⟨o, r⟩
    · exact g.out n r
    · exact g.out n r
  · exact .inr h
mutual
theorem Abs.go0 (g : Go0 ρ ρ' H H') : ∀ (w : W) {v : V}, Abs K ρ H w v → Abs K ρ' H' w v
  | .non, _, h => h
  | .bl _, _, h => h
  | .int _, _, h => h
  | .str _, _, h => h
  | .ty _, _, h => h
  | .obj _, _, h => h
  | .ref _, _, h => by
    obtain ⟨a, h, e⟩ := h
    exact ⟨a, g.ix h, e⟩
  | .tup ws, _, h => by
    obtain ⟨b, vs, e, s, l⟩ := h
    exact ⟨b, vs, e, StT.go g s, AbsL.go0 g ws l⟩
  | .rol ws, _, h => by
    obtain ⟨b, vs, e, s, l⟩ := h
    exact ⟨b, vs, e, StL.go g s, AbsL.go0 g ws l⟩
theorem AbsL.go0 (g : Go0 ρ ρ' H H') : ∀ (ws : List W) {vs : List V}, AbsL K ρ H ws vs → AbsL K ρ' H' ws vs
  | [], _, h => h
  | w :: ws, _, h => by
    obtain ⟨v, r, e, h1, h2⟩ := h
    exact ⟨v, r, e, Abs.go0 g w h1, AbsL.go0 g ws h2⟩
end
theorem Abs.go (g : Go ρ ρ' H H') (w : W) {v : V} (h : Abs K ρ H w v) : Abs K ρ' H' w v := Abs.go0 g.toGo0 w h
theorem AbsL.go (g : Go ρ ρ' H H') (ws : List W) {vs : List V} (h : AbsL K ρ H ws vs) : AbsL K ρ' H' ws vs := AbsL.go0 g.toGo0 ws h
end
end Dn
end
section
set_option Elab.async false
set_option backward.match.sparseCases false
set_option linter.all false
set_option maxRecDepth 100000
set_option maxHeartbeats 2000000
namespace Dn
open PySem L2
/-- what a statement leads to -/
inductive SO where
  | nx (σ : Loc) (G : Gh)
  | rt (w : W) (G : Gh)
  | bk (σ : Loc) (G : Gh)
  | ct (σ : Loc) (G : Gh)
  | ex (x : Xn) (σ : Loc) (G : Gh)
  | stuck
abbrev DE := Loc → M W
abbrev DT := Loc → M Bool
abbrev DA := Loc → M (List W)
abbrev DS := Loc → Gh → SO

section
variable (K : Kw)
def AbsS (ρ : List Addr) (H : Hp) (σd : Loc) (σ : St) : Prop := σd.length = σ.length ∧ ∀ (i : Nat) (w : W), σd[i]? = some (some w) → ∃ v, σ[i]? = some (some v) ∧ Abs K ρ H w v
/-- an exception: its class, its own dict -/
def AbsX (ρ : List Addr) (H : Hp) (x : Xn) (c : Value) (d : Option Addr) : Prop :=
  c = .ref x.cls ∧ match x.fs with
    | [] => d = none
    | fs => ∃ a vs, d = some a ∧ a ∉ ρ ∧ H a = some (.xd ((fs.map (·.1)).zip vs)) ∧ AbsL K ρ H (fs.map (·.2)) vs
abbrev RR (α β : Type) := List Addr → Hp → α → β → Prop
def RB : RR Bool Bool := fun _ _ a b => a = b
def Aft {α β : Type} (R : RR α β) (Wx : WX) (σ : St) (ρ : List Addr) (H : Hp) (Q : β → Hp → Prop) : Out α → Prop
  | .ok a G' => ∀ ρ' H' b, Go ρ ρ' H H' → RG K ρ' H' G' → R ρ' H' a b → Q b H'
  | .exc x G' => ∀ ρ' H' c d, Go ρ ρ' H H' → RG K ρ' H' G' → AbsX K ρ' H' x c d → Wx c d σ H'
  | .stuck => False
def Lf {α β : Type} (R : RR α β) (Wx : WX) (d : Loc → M α) : St → Hp → (β → Hp → Prop) → Prop := fun σ H Q =>
  ∃ ρ σd G, RG K ρ H G ∧ AbsS K ρ H σd σ ∧ Aft K R Wx σ ρ H Q (d σd G)
def AftS (Wx : WX) (ρ : List Addr) (H : Hp) (D : Ends) : SO → Prop
  | .nx σd G => ∀ ρ' H' σ, Go ρ ρ' H H' → RG K ρ' H' G → AbsS K ρ' H' σd σ → D.nx σ H'
  | .rt w G => ∀ ρ' H' v, Go ρ ρ' H H' → RG K ρ' H' G → Abs K ρ' H' w v → D.rt v H'
  | .bk σd G => ∀ ρ' H' σ, Go ρ ρ' H H' → RG K ρ' H' G → AbsS K ρ' H' σd σ → D.bk σ H'
  | .ct σd G => ∀ ρ' H' σ, Go ρ ρ' H H' → RG K ρ' H' G → AbsS K ρ' H' σd σ → D.ct σ H'
  | .ex x σd G => ∀ ρ' H' σ c d, Go ρ ρ' H H' → RG K ρ' H' G → AbsS K ρ' H' σd σ → AbsX K ρ' H' x c d → Wx c d σ H'
  | .stuck => False
def LfS (Wx : WX) (d : DS) : TS := fun D σ H => ∃ ρ σd G, RG K ρ H G ∧ AbsS K ρ H σd σ ∧ AftS K Wx ρ H D (d σd G)
end
section
variable {K : Kw} {ρ ρ' : List Addr} {H H' : Hp} {G : Gh} {σ : St} {σd : Loc}
theorem AbsS.go0 (g : Go0 ρ ρ' H H') (h : AbsS K ρ H σd σ) : AbsS K ρ' H' σd σ := ⟨h.1, fun i w e => by
  obtain ⟨v, e1, a⟩ := h.2 i w e
  exact ⟨v, e1, a.go0 g⟩⟩
theorem AbsS.go (g : Go ρ ρ' H H') (h : AbsS K ρ H σd σ) : AbsS K ρ' H' σd σ := h.go0 g.toGo0
variable {α β γ δ : Type} {R : RR α β} {R1 : RR γ δ} {Wx : WX} {Q Q' : β → Hp → Prop}
theorem Aft.mono (h : ∀ b H1, Q b H1 → Q' b H1) : ∀ {o : Out α}, Aft K R Wx σ ρ H Q o → Aft K R Wx σ ρ H Q' o
  | .ok _ _, a => fun ρ' H' b g r q => h b H' (a ρ' H' b g r q)
  | .exc _ _, a => a
  | .stuck, a => a
theorem Aft.go (g : Go ρ ρ' H H') : ∀ {o : Out α}, Aft K R Wx σ ρ H Q o → Aft K R Wx σ ρ' H' Q o
  | .ok _ _, a => fun ρ1 H1 b g1 r q => a ρ1 H1 b (g.trans g1) r q
  | .exc _ _, a => fun ρ1 H1 c d g1 r q => a ρ1 H1 c d (g.trans g1) r q
  | .stuck, a => a
theorem AftS.go (g : Go ρ ρ' H H') {D : Ends} : ∀ {o : SO}, AftS K Wx ρ H D o → AftS K Wx ρ' H' D o
  | .nx _ _, a => fun ρ1 H1 b g1 r q => a ρ1 H1 b (g.trans g1) r q
  | .rt _ _, a => fun ρ1 H1 b g1 r q => a ρ1 H1 b (g.trans g1) r q
  | .bk _ _, a => fun ρ1 H1 b g1 r q => a ρ1 H1 b (g.trans g1) r q
  | .ct _ _, a => fun ρ1 H1 b g1 r q => a ρ1 H1 b (g.trans g1) r q
  | .ex _ _ _, a => fun ρ1 H1 s c d g1 r q => a ρ1 H1 s c d (g.trans g1) r q
  | .stuck, a => a
/-- one, then the other -/
theorem Aft.bnd {m : M γ} {f : γ → M α} {G : Gh} (h : Aft K R Wx σ ρ H Q (bnd m f G)) :
    Aft K R1 Wx σ ρ H (fun b1 H1 => ∃ ρ1 G1 a1, Go ρ ρ1 H H1 ∧ RG K ρ1 H1 G1 ∧ R1 ρ1 H1 a1 b1 ∧ Aft K R Wx σ ρ1 H1 Q (f a1 G1)) (m G) := by
  unfold Dn.bnd at h
  cases e : m G with
  | ok a G1 =>
    rw [e] at h
    exact fun ρ1 H1 b1 g r q => ⟨ρ1, G1, a, g, r, q, Aft.go g h⟩
  | exc x G1 => rw [e] at h; exact h
  | stuck => rw [e] at h; exact h
theorem Lf.mono {d : Loc → M α} (h : ∀ b H1, Q b H1 → Q' b H1) (a : Lf K R Wx d σ H Q) : Lf K R Wx d σ H Q' := by
  obtain ⟨ρ, σd, G, r, s, a⟩ := a
  exact ⟨ρ, σd, G, r, s, a.mono h⟩
/-- a step of an expression, then the rest -/
theorem Lf.bnd {d1 : Loc → M γ} {f : Loc → γ → M α} (h : Lf K R Wx (fun σd => Dn.bnd (d1 σd) (f σd)) σ H Q) :
    Lf K R1 Wx d1 σ H (fun b1 H1 => ∃ ρ1 σd G1 a1, RG K ρ1 H1 G1 ∧ AbsS K ρ1 H1 σd σ ∧ R1 ρ1 H1 a1 b1 ∧ Aft K R Wx σ ρ1 H1 Q (f σd a1 G1)) := by
  obtain ⟨ρ, σd, G, r, s, a⟩ := h
  refine ⟨ρ, σd, G, r, s, (Aft.bnd (R1 := R1) a).mono fun b1 H1 q => ?_⟩
  obtain ⟨ρ1, G1, a1, g, r1, q1, a1'⟩ := q
  exact ⟨ρ1, σd, G1, a1, r1, s.go g, q1, a1'⟩
end

/-! ### the judgements: e is what d says -/
section
variable {X : Cx}
theorem PE.imp {e : Expr} {t t' : TE} (h : PE X e t) (i : ∀ σ H Q, t' σ H Q → t σ H Q) : PE X e t' := ⟨fun p s σ H Q I q => h.run p s σ H Q I (i σ H Q q)⟩
theorem PT.imp {e : Expr} {t t' : TT} (h : PT X e t) (i : ∀ σ H Q, t' σ H Q → t σ H Q) : PT X e t' := ⟨fun p s σ H Q I q => h.run p s σ H Q I (i σ H Q q)⟩
theorem PW.imp {e : Expr} {t t' : TT} (h : PW X e t) (i : ∀ σ H Q, t' σ H Q → t σ H Q) : PW X e t' := ⟨fun wh p s σ H Q I q => h.run wh p s σ H Q I (i σ H Q q)⟩
theorem PA.imp {es : List Expr} {t t' : TA} (h : PA X es t) (i : ∀ σ H Q, t' σ H Q → t σ H Q) : PA X es t' := ⟨fun po p s σ H Q I q => h.run po p s σ H Q I (i σ H Q q)⟩
theorem PS.imp {e : Stmt} {t t' : TS} (h : PS X e t) (i : ∀ D σ H, t' D σ H → t D σ H) : PS X e t' := ⟨fun p s σ H D I q => h.run p s σ H D I (i D σ H q)⟩
theorem PSs.imp {e : List Stmt} {t t' : TS} (h : PSs X e t) (i : ∀ D σ H, t' D σ H → t D σ H) : PSs X e t' := ⟨fun p s σ H D I q => h.run p s σ H D I (i D σ H q)⟩
abbrev LE (X : Cx) (Wx : WX) (e : Expr) (d : DE) : Prop := PE X e (Lf X.kw (Abs X.kw) Wx d)
abbrev LT (X : Cx) (Wx : WX) (e : Expr) (d : DT) : Prop := PT X e (Lf X.kw RB Wx d)
abbrev LW (X : Cx) (Wx : WX) (e : Expr) (d : DT) : Prop := PW X e (Lf X.kw RB Wx d)
abbrev LA (X : Cx) (Wx : WX) (es : List Expr) (d : DA) : Prop := PA X es (Lf X.kw (AbsL X.kw) Wx d)
abbrev LS (X : Cx) (Wx : WX) (e : Stmt) (d : DS) : Prop := PS X e (LfS X.kw Wx d)
abbrev LSs (X : Cx) (Wx : WX) (e : List Stmt) (d : DS) : Prop := PSs X e (LfS X.kw Wx d)

variable {Wx : WX} {a b c e : Expr} {da db dc : DE} {pos : Pos}
/-! names and constants -/
def dVar (i : Nat) : DE := fun σ G => match σ[i]? with
  | some (some w) => .ok w G
  | _ => .stuck
theorem le_var {i : Nat} {x : Str} (h : PE X (.Name x pos) (tVar i)) : LE X Wx (.Name x pos) (dVar i) := PE.imp h fun σ H Q => by
  rintro ⟨ρ, σd, G, r, s, q⟩
  unfold dVar at q
  cases e : σd[i]? with
  | none => rw [e] at q; exact q.elim
  | some o =>
    rw [e] at q
    cases o with
    | none => exact q.elim
    | some w =>
      obtain ⟨v, hv, av⟩ := s.2 i w e
      exact ⟨v, hv, q ρ H v .refl r av⟩
def dC (w : W) : DE := fun _ G => .ok w G
theorem le_c {w : W} {v : V} (h : PE X e (tC v)) (hw : ∀ ρ H, Abs X.kw ρ H w v) : LE X Wx e (dC w) := PE.imp h fun σ H Q => by
  rintro ⟨ρ, σd, G, r, s, q⟩
  exact q ρ H v .refl r (hw ρ H)
theorem le_int {i : Int} {j : Nat} : LE X Wx (.Constant (.int i) j pos) (dC (.int i)) := le_c pe_int fun _ _ => by simp [Abs]
theorem le_bl {b : Bool} {j : Nat} : LE X Wx (.Constant (.bool b) j pos) (dC (.bl b)) := le_c pe_bl fun _ _ => by simp [Abs]
theorem le_non {j : Nat} : LE X Wx (.Constant .none j pos) (dC .non) := le_c pe_non fun _ _ => by simp [Abs]
theorem le_str {x : Str} {j : Nat} : LE X Wx (.Constant (.str x) j pos) (dC (.str x)) := le_c pe_str fun _ _ => by simp [Abs]

/-! operators by values -/
abbrev D2 := W → W → M W
def lf2 (K : Kw) (d : D2) : R2 := fun x y H Q => ∃ ρ G wx wy, RG K ρ H G ∧ Abs K ρ H wx x ∧ Abs K ρ H wy y ∧ Aft K (Abs K) (fun _ _ _ _ => False) [] ρ H Q (d wx wy G)
def d2 (d : D2) (da db : DE) : DE := fun σ => bnd (da σ) fun x => bnd (db σ) fun y => d x y
/-- an operator raises nothing -/
def NoX {α : Type} (o : Out α) : Prop := match o with
  | .exc _ _ => False
  | _ => True
def noX {α : Type} (m : M α) : M α := fun G => match m G with
  | .ok a G' => .ok a G'
  | _ => .stuck
theorem Aft.noX {K : Kw} {α β : Type} {R : RR α β} {σ : St} {ρ : List Addr} {H : Hp} {Q : β → Hp → Prop} {m : M α} {G : Gh} {σ' : St} {Wx Wx' : WX} (h : Aft K R Wx σ ρ H Q (Dn.noX m G)) : Aft K R Wx' σ' ρ H Q (m G) := by
  unfold Dn.noX at h
  cases e : m G with
  | ok a G' => rw [e] at h; exact h
  | exc _ _ => rw [e] at h; exact h.elim
  | stuck => rw [e] at h; exact h
theorem lf2_tOp {K : Kw} {d : D2} {σ : St} {H : Hp} {Q : VK} (h : Lf K (Abs K) Wx (d2 (fun x y => noX (d x y)) da db) σ H Q) : tOp (lf2 K d) (Lf K (Abs K) Wx da) (Lf K (Abs K) Wx db) σ H Q := by
  refine (Lf.bnd (R1 := Abs K) h).mono fun x H1 ⟨ρ1, σd, G1, wx, r1, s1, ax, q1⟩ => ?_
  refine ⟨ρ1, σd, G1, r1, s1, (Aft.bnd (R1 := Abs K) q1).mono fun y H2 ⟨ρ2, G2, wy, g2, r2, ay, q2⟩ => ?_⟩
  exact ⟨ρ2, G2, wx, wy, r2, ax.go g2, ay, q2.noX⟩
theorem le_bin {op : Operator} {d : D2} (ho : OpR X (binaryOp op) (lf2 X.kw d)) (ha : LE X Wx a da) (hb : LE X Wx b db) : LE X Wx (.BinOp a op b pos) (d2 (fun x y => noX (d x y)) da db) :=
  PE.imp (pe_op ho ha hb) fun _ _ _ => lf2_tOp
theorem le_cmp {op : CmpOp} {d : D2} (ho : OpR X (compareOp op) (lf2 X.kw d)) (hm : behindInMarks op b = false) (ha : LE X Wx a da) (hb : LE X Wx b db) : LE X Wx (.Compare a [op] [b] pos) (d2 (fun x y => noX (d x y)) da db) :=
  PE.imp (pe_cmpR ho ha hb hm) fun _ _ _ => lf2_tOp
/-- a value that is True or False, as a test -/
def dB (d : DE) : DT := fun σ => bnd (d σ) fun w G => match w with
  | .bl b => .ok b G
  | _ => .stuck
theorem dB_ok {K : Kw} {d : DE} {σ : St} {H : Hp} {Q : Bool → Hp → Prop} (h : Lf K RB Wx (dB d) σ H Q) : Lf K (Abs K) Wx d σ H fun x H1 => ∃ k, x = .bl k ∧ Q k H1 := by
  refine (Lf.bnd (R1 := Abs K) h).mono fun x H1 ⟨ρ1, σd, G1, wx, r1, s1, ax, q1⟩ => ?_
  cases wx with
  | bl b => 
    simp only [Abs] at ax
    exact ⟨b, ax, q1 ρ1 H1 b .refl r1 rfl⟩
  | _ => exact q1.elim
theorem lt_cmp {op : CmpOp} {d : D2} (ho : OpR X (compareOp op) (lf2 X.kw d)) (hm : behindInMarks op b = false) (ha : LE X Wx a da) (hb : LE X Wx b db) : LT X Wx (.Compare a [op] [b] pos) (dB (d2 (fun x y => noX (d x y)) da db)) :=
  PT.imp (pt_cmpR ho ha hb hm) fun _ _ _ h => lf2_tOp (dB_ok h)
theorem lt_val {d : DE} (h : LE X Wx e d) (he : ∀ whole, isTrue e X.env whole = (do let v ← whole; standAt e.pos; holding [v] (truthy v)) := by intro _; rfl) : LT X Wx e (dB d) :=
  PT.imp (pt_val h he) fun _ _ _ h => dB_ok h
/-! and, or, not: tests -/
variable {ta tb : DT} {rest : List Expr}
def dNot (t : DT) : DT := fun σ => bnd (t σ) fun b => ret (!b)
def dAnd (t u : DT) : DT := fun σ => bnd (t σ) fun b => if b = true then u σ else ret false
def dOr (t u : DT) : DT := fun σ => bnd (t σ) fun b => if b = true then ret true else u σ
theorem lt_not (h : LT X Wx a ta) : LT X Wx (.UnaryOp .Not a pos) (dNot ta) := PT.imp (pt_not h) fun σ H Q h =>
  (Lf.bnd (R1 := RB) h).mono fun x H1 ⟨ρ1, σd, G1, wx, r1, s1, ax, q1⟩ => by
    cases ax
    exact q1 ρ1 H1 _ .refl r1 rfl
theorem lw_and1 (h : LT X Wx a ta) : LW X Wx (.BoolOp .And [a] pos) ta := pw_and1 h
theorem lw_or1 (h : LT X Wx a ta) : LW X Wx (.BoolOp .Or [a] pos) ta := pw_or1 h
theorem lw_and (h : LT X Wx a ta) (h2 : LW X Wx (.BoolOp .And (b :: rest) pos) tb) : LW X Wx (.BoolOp .And (a :: b :: rest) pos) (dAnd ta tb) := PW.imp (pw_and h h2) fun σ H Q h =>
  (Lf.bnd (R1 := RB) h).mono fun x H1 ⟨ρ1, σd, G1, wx, r1, s1, ax, q1⟩ => by
    cases ax
    cases x with
    | true => exact ⟨ρ1, σd, G1, r1, s1, q1⟩
    | false => exact q1 ρ1 H1 _ .refl r1 rfl
theorem lw_or (h : LT X Wx a ta) (h2 : LW X Wx (.BoolOp .Or (b :: rest) pos) tb) : LW X Wx (.BoolOp .Or (a :: b :: rest) pos) (dOr ta tb) := PW.imp (pw_or h h2) fun σ H Q h =>
  (Lf.bnd (R1 := RB) h).mono fun x H1 ⟨ρ1, σd, G1, wx, r1, s1, ax, q1⟩ => by
    cases ax
    cases x with
    | false => exact ⟨ρ1, σd, G1, r1, s1, q1⟩
    | true => exact q1 ρ1 H1 _ .refl r1 rfl
theorem lt_w (h : LW X Wx e ta) : LT X Wx e ta := h.pt
/-! .. values -/
def dAndV (t u : DE) : DE := fun σ => bnd (t σ) fun w => match w with
  | .bl true => u σ
  | .bl false => ret (.bl false)
  | _ => fail
def dOrV (t u : DE) : DE := fun σ => bnd (t σ) fun w => match w with
  | .bl false => u σ
  | .bl true => ret (.bl true)
  | _ => fail
def dNotV (t : DE) : DE := fun σ => bnd (t σ) fun w => match w with
  | .bl b => ret (.bl (!b))
  | _ => fail
theorem le_one {op : BoolOp} (h : LE X Wx a da) : LE X Wx (.BoolOp op [a] pos) da := pe_one h
theorem le_and (h : LE X Wx a da) (h2 : LE X Wx (.BoolOp .And (b :: rest) pos) db) : LE X Wx (.BoolOp .And (a :: b :: rest) pos) (dAndV da db) := PE.imp (pe_and h h2) fun σ H Q h =>
  (Lf.bnd (R1 := Abs X.kw) h).mono fun x H1 ⟨ρ1, σd, G1, wx, r1, s1, ax, q1⟩ => by
    cases wx with
    | bl c => 
      simp only [Abs] at ax
      cases c with
      | true => exact ⟨true, ax, ρ1, σd, G1, r1, s1, q1⟩
      | false => exact ⟨false, ax, q1 ρ1 H1 _ .refl r1 (by simp [Abs])⟩
    | _ => exact q1.elim
theorem le_or (h : LE X Wx a da) (h2 : LE X Wx (.BoolOp .Or (b :: rest) pos) db) : LE X Wx (.BoolOp .Or (a :: b :: rest) pos) (dOrV da db) := PE.imp (pe_or h h2) fun σ H Q h =>
  (Lf.bnd (R1 := Abs X.kw) h).mono fun x H1 ⟨ρ1, σd, G1, wx, r1, s1, ax, q1⟩ => by
    cases wx with
    | bl c => 
      simp only [Abs] at ax
      cases c with
      | false => exact ⟨false, ax, ρ1, σd, G1, r1, s1, q1⟩
      | true => exact ⟨true, ax, q1 ρ1 H1 _ .refl r1 (by simp [Abs])⟩
    | _ => exact q1.elim
theorem le_not (h : LE X Wx a da) : LE X Wx (.UnaryOp .Not a pos) (dNotV da) := PE.imp (pe_not h) fun σ H Q h =>
  (Lf.bnd (R1 := Abs X.kw) h).mono fun x H1 ⟨ρ1, σd, G1, wx, r1, s1, ax, q1⟩ => by
    cases wx with
    | bl c => 
      simp only [Abs] at ax
      exact ⟨c, ax, q1 ρ1 H1 _ .refl r1 (by simp [Abs])⟩
    | _ => exact q1.elim
def dIf (t : DT) (a b : DE) : DE := fun σ => bnd (t σ) fun c => if c = true then a σ else b σ
theorem le_if (hc : LT X Wx c ta) (ha : LE X Wx a da) (hb : LE X Wx b db) : LE X Wx (.IfExp c a b pos) (dIf ta da db) := PE.imp (pe_ifExp hc ha hb) fun σ H Q h =>
  (Lf.bnd (R1 := RB) h).mono fun x H1 ⟨ρ1, σd, G1, wx, r1, s1, ax, q1⟩ => by
    cases ax
    cases x with
    | true => exact ⟨ρ1, σd, G1, r1, s1, q1⟩
    | false => exact ⟨ρ1, σd, G1, r1, s1, q1⟩
/-! lists of arguments -/
def dNil : DA := fun _ => ret []
def dCons (a : DE) (r : DA) : DA := fun σ => bnd (a σ) fun w => bnd (r σ) fun ws => ret (w :: ws)
theorem la_nil : LA X Wx [] dNil := PA.imp pa_nil fun σ H Q => by
  rintro ⟨ρ, σd, G, r, s, q⟩
  exact q ρ H [] .refl r (by simp [AbsL])
end
end Dn
end
section
set_option Elab.async false
set_option backward.match.sparseCases false
set_option linter.all false
set_option maxRecDepth 100000
set_option maxHeartbeats 2000000
namespace Dn
open PySem L2
section
variable {K : Kw} {ρ ρ' : List Addr} {H H' : Hp} {G : Gh}
theorem AbsL.len : ∀ {ws : List W} {vs : List V}, AbsL K ρ H ws vs → ws.length = vs.length
  | [], _, h => by simp only [AbsL] at h; subst h; rfl
  | w :: ws, _, h => by
    simp only [AbsL] at h
    obtain ⟨v, r, rfl, _, h⟩ := h
    rw [List.length_cons, List.length_cons, AbsL.len h]
theorem AbsL.get : ∀ {ws : List W} {vs : List V} {i : Nat} {w : W}, AbsL K ρ H ws vs → ws[i]? = some w → ∃ v, vs[i]? = some v ∧ Abs K ρ H w v
  | [], _, _, _, _, e => by simp at e
  | w :: ws, _, 0, _, h, e => by
    simp only [AbsL] at h
    obtain ⟨v, r, rfl, a, h⟩ := h
    simp at e
    subst e
    exact ⟨v, rfl, a⟩
  | w :: ws, _, i + 1, _, h, e => by
    simp only [AbsL] at h
    obtain ⟨v, r, rfl, a, h⟩ := h
    simp at e
    obtain ⟨v', e', a'⟩ := AbsL.get h e
    exact ⟨v', by simpa using e', a'⟩
theorem AbsL.get' : ∀ {ws : List W} {vs : List V} {i : Nat} {v : V}, AbsL K ρ H ws vs → vs[i]? = some v → ∃ w, ws[i]? = some w ∧ Abs K ρ H w v
  | [], _, _, _, h, e => by simp only [AbsL] at h; subst h; simp at e
  | w :: ws, _, 0, _, h, e => by
    simp only [AbsL] at h
    obtain ⟨v, r, rfl, a, h⟩ := h
    simp at e
    subst e
    exact ⟨w, rfl, a⟩
  | w :: ws, _, i + 1, _, h, e => by
    simp only [AbsL] at h
    obtain ⟨v, r, rfl, a, h⟩ := h
    simp at e
    obtain ⟨v', e', a'⟩ := AbsL.get' h e
    exact ⟨v', by simpa using e', a'⟩
theorem AbsL.append : ∀ {ws ws' : List W} {vs vs' : List V}, AbsL K ρ H ws vs → AbsL K ρ H ws' vs' → AbsL K ρ H (ws ++ ws') (vs ++ vs')
  | [], _, _, _, h, h' => by simp only [AbsL] at h; subst h; exact h'
  | w :: ws, _, _, _, h, h' => by
    simp only [AbsL] at h
    obtain ⟨v, r, rfl, a, h⟩ := h
    show AbsL K ρ H (w :: (ws ++ _)) (v :: (r ++ _))
    exact ⟨v, _, rfl, a, AbsL.append h h'⟩
theorem AbsL.one {w : W} {v : V} (a : Abs K ρ H w v) : AbsL K ρ H [w] [v] := ⟨v, [], rfl, a, rfl⟩
theorem AbsL.take : ∀ {ws : List W} {vs : List V} (n : Nat), AbsL K ρ H ws vs → AbsL K ρ H (ws.take n) (vs.take n)
  | _, _, 0, _ => by simp [AbsL]
  | [], _, n + 1, h => by simp only [AbsL] at h; subst h; simp [AbsL]
  | w :: ws, _, n + 1, h => by
    simp only [AbsL] at h
    obtain ⟨v, r, rfl, a, h⟩ := h
    exact ⟨v, _, rfl, a, AbsL.take n h⟩
theorem AbsL.drop : ∀ {ws : List W} {vs : List V} (n : Nat), AbsL K ρ H ws vs → AbsL K ρ H (ws.drop n) (vs.drop n)
  | _, _, 0, h => h
  | [], _, n + 1, h => by simp only [AbsL] at h; subst h; simp [AbsL]
  | w :: ws, _, n + 1, h => by
    simp only [AbsL] at h
    obtain ⟨v, r, rfl, a, h⟩ := h
    exact AbsL.drop n h
theorem AbsL.set {w : W} {v : V} (a : Abs K ρ H w v) : ∀ {ws : List W} {vs : List V} (n : Nat), AbsL K ρ H ws vs → AbsL K ρ H (ws.set n w) (vs.set n v)
  | [], _, _, h => by simp only [AbsL] at h; subst h; simp [AbsL]
  | w' :: ws, _, 0, h => by
    simp only [AbsL] at h
    obtain ⟨v', r, rfl, _, h⟩ := h
    exact ⟨v, _, rfl, a, h⟩
  | w' :: ws, _, n + 1, h => by
    simp only [AbsL] at h
    obtain ⟨v', r, rfl, a', h⟩ := h
    exact ⟨v', _, rfl, a', AbsL.set a n h⟩

/-- what is tracked is not what is new -/
theorem RG.mem (r : RG K ρ H G) {a : Addr} (h : a ∈ ρ) : ∃ (n : Nat) (o : GO), ρ[n]? = some a ∧ G[n]? = some o ∧ AbsO K ρ H a o := by
  obtain ⟨n, hn, e⟩ := List.getElem_of_mem h
  have e1 : ρ[n]? = some a := by rw [List.getElem?_eq_getElem hn, e]
  have hg : n < G.length := by rw [← r.len]; exact hn
  have e2 : G[n]? = some G[n] := List.getElem?_eq_getElem hg
  exact ⟨n, _, e1, e2, r.ob n _ a e2 e1⟩
theorem AbsO.is {a : Addr} {o : GO} (h : AbsO K ρ H a o) : ∃ u, H a = some u ∧ ∀ xs, u ≠ .tup xs := by
  cases o with
  | lst ws => obtain ⟨vs, e, _⟩ := h; exact ⟨_, e, fun xs z => by cases z⟩
  | dct lk kvs =>
    obtain ⟨u, f, e⟩ := h
    have nt : ∀ xs, u ≠ .tup xs := by
      rcases f with ⟨fk, rfl, _⟩ | ⟨xs, rfl, _⟩
      · exact fun xs z => by cases z
      · exact fun xs z => by unfold DnO at z; cases z
    cases lk with
    | false => exact ⟨_, e, nt⟩
    | true =>
      obtain ⟨o, e⟩ := e
      exact ⟨_, e, fun xs z => by cases z⟩
  | ins C ws =>
    obtain ⟨dx, vs, _, _, _, _, e, _⟩ := h
    rcases e with ⟨e, _⟩ | ⟨e, _⟩
    · exact ⟨_, e, fun xs z => by cases z⟩
    · exact ⟨_, e, fun xs z => by unfold SlX.SlO at z; cases z⟩
  | rsv => exact ⟨_, h, fun xs z => by cases z⟩
theorem RG.fresh (r : RG K ρ H G) {p : Addr} (h : H p = none) : p ∉ ρ := fun m => by
  obtain ⟨n, o, _, _, ao⟩ := r.mem m
  obtain ⟨u, e, _⟩ := ao.is
  rw [h] at e; cases e
theorem RG.ntup (r : RG K ρ H G) {p : Addr} {xs : List V} (h : H p = some (.tup xs)) : p ∉ ρ := fun m => by
  obtain ⟨n, o, _, _, ao⟩ := r.mem m
  obtain ⟨u, e, z⟩ := ao.is
  rw [h] at e; cases e
  exact z xs rfl
theorem DForm.go (g : Go0 ρ ρ' H H') {a : Addr} {kvs : List (W × W)} {u : HO} (h : DForm K ρ H a kvs u) : DForm K ρ' H' a kvs u := by
  rcases h with ⟨fk, e, p⟩ | ⟨xs, e, n, p⟩
  · exact .inl ⟨fk, e, Paired.mapP p fun x y z => ⟨z.1, z.2.go0 g⟩⟩
  · exact .inr ⟨xs, e, n, Paired.mapP p fun x y z => ⟨z.1, z.2.1, z.2.2.1.go0 g, z.2.2.2.go0 g⟩⟩
theorem AbsO.go (g : Go0 ρ ρ' H H') {a : Addr} {o : GO} (k : ∀ b u, H b = some u → (b = a ∨ b ∉ ρ) → (∀ x, u ≠ .own x) → H' b = some u) (h : AbsO K ρ H a o) : AbsO K ρ' H' a o := by
  cases o with
  | lst ws => obtain ⟨vs, e, l⟩ := h; exact ⟨vs, k _ _ e (.inl rfl) (fun x z => by cases z), l.go0 g⟩
  | dct lk kvs =>
    obtain ⟨u, f, e⟩ := h
    have nown : ∀ x, u ≠ .own x := by
      rcases f with ⟨fk, rfl, _⟩ | ⟨xs, rfl, _⟩
      · exact fun x z => by cases z
      · exact fun x z => by unfold DnO at z; cases z
    refine ⟨u, f.go g, ?_⟩
    cases lk with
    | false => exact k _ _ e (.inl rfl) nown
    | true =>
      obtain ⟨o, e⟩ := e
      exact ⟨o, k _ _ e (.inl rfl) (fun x z => by cases z)⟩
  | ins C ws =>
    obtain ⟨dx, vs, cl, n, ⟨u, eu⟩, ne, e, l, f⟩ := h
    refine ⟨dx, vs, cl, fun m => ?_, g.so dx u eu n, ne, ?_, l, fun i w q => ?_⟩
    · have z := g.nw dx m n
      rw [eu] at z; cases z
    · rcases e with ⟨e, ev⟩ | ⟨e, e2⟩
      · exact .inl ⟨k _ _ e (.inl rfl) (fun x z => by cases z), ev⟩
      · exact .inr ⟨k _ _ e (.inl rfl) (fun x z => by unfold SlX.SlO at z; cases z), k _ _ e2 (.inr n) (fun x z => by cases z)⟩
    · obtain ⟨v, ev, av⟩ := f i w q
      exact ⟨v, ev, av.go0 g⟩
  | rsv => exact k _ _ h (.inl rfl) (fun x z => by cases z)
/-- a thing that G does not know is new -/
theorem Go.new {p : Addr} {o : HO} (h : H p = none) : Go ρ ρ H (upd H p o) := ⟨⟨List.prefix_refl _, fun a u e _ _ => by rw [upd_ne (ne_of_none e h)]; exact e, fun a u e _ => ⟨u, by rw [upd_ne (ne_of_none e h)]; exact e⟩, fun _ m n => absurd m n⟩, fun a o u e => by rw [upd_ne (ne_of_none e h)]; exact e⟩
theorem RG.new (r : RG K ρ H G) {p : Addr} {o : HO} (h : H p = none) : RG K ρ (upd H p o) G := ⟨r.len, r.nd, fun n u a e1 e2 => AbsO.go (Go.new h).toGo0 (h := r.ob n u a e1 e2) (k := fun b v e _ _ => by rw [upd_ne (ne_of_none e h)]; exact e)⟩
/-- a thing that G knows is new -/
theorem Go.add (r : RG K ρ H G) {p : Addr} {o : HO} (h : H p = none) : Go ρ (ρ ++ [p]) H (upd H p o) := ⟨⟨List.prefix_append _ _, fun a u e _ _ => by rw [upd_ne (ne_of_none e h)]; exact e, fun a u e _ => ⟨u, by rw [upd_ne (ne_of_none e h)]; exact e⟩, fun a m n => by
  obtain m | m := List.mem_append.mp m
  · exact absurd m n
  · rw [List.mem_singleton] at m
    subst m; exact h⟩, fun a o u e => by rw [upd_ne (ne_of_none e h)]; exact e⟩
theorem RG.add (r : RG K ρ H G) {p : Addr} {o : HO} {u : GO} (h : H p = none) (hu : AbsO K (ρ ++ [p]) (upd H p o) p u) : RG K (ρ ++ [p]) (upd H p o) (G ++ [u]) where
  len := by rw [List.length_append, List.length_append, r.len]; rfl
  nd := by
    rw [List.nodup_append]
    refine ⟨r.nd, by simp, fun a ha b hb e => ?_⟩
    rw [List.mem_singleton] at hb
    subst e
    subst hb
    exact r.fresh h ha
  ob := fun n w a e1 e2 => by
    by_cases q : n < G.length
    · rw [List.getElem?_append_left q] at e1
      rw [List.getElem?_append_left (by rw [r.len]; exact q)] at e2
      exact AbsO.go (Go.add r h).toGo0 (h := r.ob n w a e1 e2) (k := fun b v e _ _ => by rw [upd_ne (ne_of_none e h)]; exact e)
    · have e : n = G.length := by
        have := (List.getElem?_eq_some_iff.mp e1).1
        rw [List.length_append] at this
        simp at this
        omega
      subst e
      rw [List.getElem?_append_right (Nat.le_refl _), Nat.sub_self] at e1
      rw [List.getElem?_append_right (by rw [r.len]; exact Nat.le_refl _), r.len, Nat.sub_self] at e2
      simp at e1 e2
      subst e1
      subst e2
      exact hu
/-- what may be written is not locked -/
theorem nofz {H : Hp} {a : Addr} {v : HO} (h : H a = some v) (m : Mut (some v) := by trivial) : ∀ o u, H a ≠ some (.frz o u) := fun o u e => by
  rw [h] at e; cases e; exact m
theorem Go0.put (r : RG K ρ H G) {n : Nat} {a : Addr} (e : ρ[n]? = some a) {o : HO} : Go0 ρ ρ H (upd H a o) := by
  have k : ∀ b u, H b = some u → b ∉ ρ → upd H a o b = some u := by
    intro b u h m
    rw [upd_ne]
    · exact h
    · rintro rfl
      exact m (List.mem_of_getElem? e)
  exact ⟨List.prefix_refl _, fun b u h m _ => k b u h m, fun b u h m => ⟨u, k b u h m⟩, fun _ m n => absurd m n⟩
theorem Go.put (r : RG K ρ H G) {n : Nat} {a : Addr} (e : ρ[n]? = some a) (nf : ∀ o u, H a ≠ some (.frz o u)) {o : HO} : Go ρ ρ H (upd H a o) := ⟨Go0.put r e, fun b o u h => by
    rw [upd_ne]
    · exact h
    · rintro rfl
      exact nf o u h⟩
/-- the tracked thing is another -/
theorem RG.put (r : RG K ρ H G) {n : Nat} {a : Addr} (e : ρ[n]? = some a) {o : HO} {u : GO} (hu : AbsO K ρ (upd H a o) a u) : RG K ρ (upd H a o) (G.set n u) where
  len := by rw [List.length_set]; exact r.len
  nd := r.nd
  ob := fun m w b e1 e2 => by
    by_cases q : n = m
    · subst q
      rw [e] at e2; cases e2
      have hn : n < G.length := by
        have := (List.getElem?_eq_some_iff.mp e1).1
        rwa [List.length_set] at this
      rw [List.getElem?_set_self hn] at e1
      cases e1
      exact hu
    · rw [List.getElem?_set_ne q] at e1
      refine AbsO.go (Go0.put r e) (h := r.ob m w b e1 e2) (k := fun c v hc z _ => ?_)
      rw [upd_ne]
      · exact hc
      · rintro rfl
        rcases z with rfl | z
        · obtain ⟨h1, x1⟩ := List.getElem?_eq_some_iff.mp e
          obtain ⟨h2, x2⟩ := List.getElem?_eq_some_iff.mp e2
          exact q ((List.getElem_inj r.nd).mp (x1.trans x2.symm))
        · exact z (List.mem_of_getElem? e)
end

section
variable {X : Cx} {Wx : WX} {a b c e : Expr} {es : List Expr} {da db dc : DE} {ds : DA} {pos : Pos}
theorem la_cons (ha : LE X Wx e da) (hr : LA X Wx es ds) (hs : starEach (e :: es) X.env = (false, eval e X.env) :: starEach es X.env := by rfl) : LA X Wx (e :: es) (dCons da ds) := PA.imp (pa_cons ha hr hs) fun σ H Q h =>
  (Lf.bnd (R1 := Abs X.kw) h).mono fun x H1 ⟨ρ1, σd, G1, wx, r1, s1, ax, q1⟩ =>
    ⟨ρ1, σd, G1, r1, s1, (Aft.bnd (R1 := AbsL X.kw) q1).mono fun xs H2 ⟨ρ2, G2, ws, g2, r2, ay, q2⟩ => q2 ρ2 H2 _ .refl r2 ⟨x, xs, rfl, ax.go g2, ay⟩⟩
/-- no length goes beyond the line -/
def dTup (ds : DA) : DE := fun σ => bnd (ds σ) fun ws => if ws.length ≤ 16777216 then ret (.tup ws) else fail
def dLst (ds : DA) : DE := fun σ => bnd (ds σ) fun ws G => if ws.length ≤ 16777216 then .ok (.ref G.length) (G ++ [.lst ws]) else .stuck
theorem line_of {n : Nat} (h : n ≤ 16777216) : n ≤ sizeLine := by rw [sizeLine_eq]; exact h
theorem le_tup {k : Nat} (h : LA X Wx es ds) : LE X Wx (.Tuple es k pos) (dTup ds) := PE.imp (pe_tup h) fun σ H Q h =>
  (Lf.bnd (R1 := AbsL X.kw) h).mono fun xs H1 ⟨ρ1, σd, G1, ws, r1, s1, ax, q1⟩ => by
    by_cases hl : ws.length ≤ 16777216
    · rw [if_pos hl] at q1
      refine ⟨line_of (by rw [← ax.len]; exact hl), fun p hp => ?_⟩
      refine q1 ρ1 _ _ (Go.new hp) (r1.new hp) ?_
      exact ⟨p, xs, rfl, ⟨r1.fresh hp, upd_same⟩, ax.go (Go.new hp)⟩
    · rw [if_neg hl] at q1
      exact q1.elim
theorem le_lst (h : LA X Wx es ds) : LE X Wx (.List es pos) (dLst ds) := PE.imp (pe_lst h) fun σ H Q h =>
  (Lf.bnd (R1 := AbsL X.kw) h).mono fun xs H1 ⟨ρ1, σd, G1, ws, r1, s1, ax, q1⟩ => by
    by_cases hl : ws.length ≤ 16777216
    · rw [if_pos hl] at q1
      refine ⟨line_of (by rw [← ax.len]; exact hl), fun p hp => ?_⟩
      refine q1 (ρ1 ++ [p]) _ _ (Go.add r1 hp) (r1.add hp ⟨xs, upd_same, ax.go (Go.add r1 hp)⟩) ?_
      exact ⟨p, by rw [← r1.len, List.getElem?_append_right (Nat.le_refl _), Nat.sub_self] <;> rfl, rfl⟩
    · rw [if_neg hl] at q1
      exact q1.elim
end

/-! ### statements -/
section
variable {X : Cx} {Wx : WX} {e : Expr} {st : Stmt} {rest : List Stmt} {d : DE} {t u : DS} {ct : DT} {pos : Pos}
def sNext : DS := fun σ G => .nx σ G
def sSeq (t u : DS) : DS := fun σ G => match t σ G with
  | .nx σ' G' => u σ' G'
  | o => o
/-- an expression in a statement -/
def sOf (m : M W) (σ : Loc) (k : W → DS) : Gh → SO := fun G => match m G with
  | .ok w G' => k w σ G'
  | .exc x G' => .ex x σ G'
  | .stuck => .stuck
def sOfT (m : M Bool) (σ : Loc) (k : Bool → DS) : Gh → SO := fun G => match m G with
  | .ok w G' => k w σ G'
  | .exc x G' => .ex x σ G'
  | .stuck => .stuck
theorem AftS.of {K : Kw} {ρ : List Addr} {H : Hp} {G : Gh} {σ : St} {σd : Loc} {D : Ends} {m : M W} {k : W → DS} (s : AbsS K ρ H σd σ) (h : AftS K Wx ρ H D (sOf m σd k G)) :
    Aft K (Abs K) Wx σ ρ H (fun v H1 => ∃ ρ1 G1 w, Go ρ ρ1 H H1 ∧ RG K ρ1 H1 G1 ∧ Abs K ρ1 H1 w v ∧ AftS K Wx ρ1 H1 D (k w σd G1)) (m G) := by
  unfold sOf at h
  cases e : m G with
  | ok w G1 =>
    rw [e] at h
    exact fun ρ1 H1 v g r q => ⟨ρ1, G1, w, g, r, q, AftS.go g h⟩
  | exc x G1 => rw [e] at h; exact fun ρ1 H1 c d g r q => h ρ1 H1 σ c d g r (s.go g) q
  | stuck => rw [e] at h; exact h
theorem AftS.ofT {K : Kw} {ρ : List Addr} {H : Hp} {G : Gh} {σ : St} {σd : Loc} {D : Ends} {m : M Bool} {k : Bool → DS} (s : AbsS K ρ H σd σ) (h : AftS K Wx ρ H D (sOfT m σd k G)) :
    Aft K RB Wx σ ρ H (fun v H1 => ∃ ρ1 G1, Go ρ ρ1 H H1 ∧ RG K ρ1 H1 G1 ∧ AftS K Wx ρ1 H1 D (k v σd G1)) (m G) := by
  unfold sOfT at h
  cases e : m G with
  | ok w G1 =>
    rw [e] at h
    exact fun ρ1 H1 v g r q => by
      cases q
      exact ⟨ρ1, G1, g, r, AftS.go g h⟩
  | exc x G1 => rw [e] at h; exact fun ρ1 H1 c d g r q => h ρ1 H1 σ c d g r (s.go g) q
  | stuck => rw [e] at h; exact h
/-- a statement's expression, then the rest -/
theorem LfS.of {K : Kw} {σ : St} {H : Hp} {D : Ends} {d : DE} {k : W → DS} (h : LfS K Wx (fun σ => sOf (d σ) σ k) D σ H) :
    Lf K (Abs K) Wx d σ H fun v H1 => ∃ ρ1 σd G1 w, RG K ρ1 H1 G1 ∧ AbsS K ρ1 H1 σd σ ∧ Abs K ρ1 H1 w v ∧ AftS K Wx ρ1 H1 D (k w σd G1) := by
  obtain ⟨ρ, σd, G, r, s, a⟩ := h
  refine ⟨ρ, σd, G, r, s, (AftS.of s a).mono fun v H1 ⟨ρ1, G1, w, g, r1, aw, q⟩ => ⟨ρ1, σd, G1, w, r1, s.go g, aw, q⟩⟩
theorem LfS.ofT {K : Kw} {σ : St} {H : Hp} {D : Ends} {d : DT} {k : Bool → DS} (h : LfS K Wx (fun σ => sOfT (d σ) σ k) D σ H) :
    Lf K RB Wx d σ H fun v H1 => ∃ ρ1 σd G1, RG K ρ1 H1 G1 ∧ AbsS K ρ1 H1 σd σ ∧ AftS K Wx ρ1 H1 D (k v σd G1) := by
  obtain ⟨ρ, σd, G, r, s, a⟩ := h
  refine ⟨ρ, σd, G, r, s, (AftS.ofT s a).mono fun v H1 ⟨ρ1, G1, g, r1, q⟩ => ⟨ρ1, σd, G1, r1, s.go g, q⟩⟩
theorem AftS.mono {K : Kw} {ρ : List Addr} {H : Hp} {D D' : Ends} (h1 : ∀ σ H, D.nx σ H → D'.nx σ H) (h2 : ∀ σ H, D.rt σ H → D'.rt σ H) (h3 : ∀ σ H, D.bk σ H → D'.bk σ H) (h4 : ∀ σ H, D.ct σ H → D'.ct σ H) : ∀ {o : SO}, AftS K Wx ρ H D o → AftS K Wx ρ H D' o
  | .nx _ _, a => fun ρ1 H1 b g1 r q => h1 _ _ (a ρ1 H1 b g1 r q)
  | .rt _ _, a => fun ρ1 H1 b g1 r q => h2 _ _ (a ρ1 H1 b g1 r q)
  | .bk _ _, a => fun ρ1 H1 b g1 r q => h3 _ _ (a ρ1 H1 b g1 r q)
  | .ct _ _, a => fun ρ1 H1 b g1 r q => h4 _ _ (a ρ1 H1 b g1 r q)
  | .ex _ _ _, a => a
  | .stuck, a => a
theorem ls_nil : LSs X Wx [] sNext := PSs.imp pss_nil fun D σ H => by
  rintro ⟨ρ, σd, G, r, s, q⟩
  exact q ρ H σ .refl r s
/-- what follows a statement -/
theorem AftS.seq {K : Kw} {ρ : List Addr} {H : Hp} {D : Ends} {σd : Loc} {G : Gh} (h : AftS K Wx ρ H D (sSeq t u σd G)) : AftS K Wx ρ H { D with nx := LfS K Wx u D } (t σd G) := by
  unfold sSeq at h
  cases e : t σd G with
  | nx σ1 G1 => rw [e] at h; exact fun ρ1 H1 σ g r s => ⟨ρ1, σ1, G1, r, s, AftS.go g h⟩
  | rt _ _ => rw [e] at h; exact h
  | bk _ _ => rw [e] at h; exact h
  | ct _ _ => rw [e] at h; exact h
  | ex _ _ _ => rw [e] at h; exact h
  | stuck => rw [e] at h; exact h
theorem ls_cons (h : LS X Wx st t) (hr : LSs X Wx rest u) : LSs X Wx (st :: rest) (sSeq t u) := PSs.imp (pss_cons h hr) fun D σ H ⟨ρ, σd, G, r, s, q⟩ => ⟨ρ, σd, G, r, s, AftS.seq q⟩
theorem ls_one (h : LS X Wx st t) : LSs X Wx [st] t := pss_one h
theorem ls_pass : LS X Wx (.Pass pos) sNext := PS.imp ps_pass fun D σ H ⟨ρ, σd, G, r, s, q⟩ => q ρ H σ .refl r s
def sBreak : DS := fun σ G => .bk σ G
def sCont : DS := fun σ G => .ct σ G
theorem ls_break : LS X Wx (.Break pos) sBreak := PS.imp ps_break fun D σ H ⟨ρ, σd, G, r, s, q⟩ => q ρ H σ .refl r s
theorem ls_continue : LS X Wx (.Continue pos) sCont := PS.imp ps_continue fun D σ H ⟨ρ, σd, G, r, s, q⟩ => q ρ H σ .refl r s
def sNever : DS := fun _ _ => .stuck
theorem ls_never : LS X Wx st sNever := PS.imp ps_never fun D σ H ⟨ρ, σd, G, r, s, q⟩ => q
theorem lss_never : LSs X Wx rest sNever := PSs.imp pss_never fun D σ H ⟨ρ, σd, G, r, s, q⟩ => q
def sExpr (d : DE) : DS := fun σ => sOf (d σ) σ fun _ => sNext
theorem ls_expr (h : LE X Wx e d) (hs : swapsWith e none pos.line X.env = pure false := by rfl) : LS X Wx (.Expr e pos) (sExpr d) := PS.imp (ps_expr h hs) fun D σ H h =>
  (LfS.of h).mono fun v H1 ⟨ρ1, σd, G1, w, r1, s1, aw, q⟩ => q ρ1 H1 σ .refl r1 s1
def sRet (d : DE) : DS := fun σ => sOf (d σ) σ fun w _ G => .rt w G
theorem ls_ret (h : LE X Wx e d) : LS X Wx (.Return (some e) pos) (sRet d) := PS.imp (ps_ret h) fun D σ H h =>
  (LfS.of h).mono fun v H1 ⟨ρ1, σd, G1, w, r1, s1, aw, q⟩ => q ρ1 H1 v .refl r1 aw
def sRetN : DS := fun _ G => .rt .non G
theorem ls_retN : LS X Wx (.Return none pos) sRetN := PS.imp ps_retN fun D σ H ⟨ρ, σd, G, r, s, q⟩ => q ρ H .non .refl r (by simp [Abs])
def sIf (c : DT) (t u : DS) : DS := fun σ => sOfT (c σ) σ fun b => if b = true then t else u
theorem ls_if {c : Expr} {ss us : List Stmt} (hc : LT X Wx c ct) (ha : LSs X Wx ss t) (hb : LSs X Wx us u) : LS X Wx (.If c ss us pos) (sIf ct t u) := PS.imp (ps_if hc ha hb) fun D σ H h =>
  (LfS.ofT h).mono fun v H1 ⟨ρ1, σd, G1, r1, s1, q⟩ => by
    cases v with
    | true => exact ⟨ρ1, σd, G1, r1, s1, q⟩
    | false => exact ⟨ρ1, σd, G1, r1, s1, q⟩
/-! targets -/
abbrev DG := W → Loc → Gh → SO   -- nx or stuck
def LfG (K : Kw) (d : DG) : TG := fun v σ H Q => ∃ ρ σd G w, RG K ρ H G ∧ AbsS K ρ H σd σ ∧ Abs K ρ H w v ∧ match d w σd G with
  | .nx σd' G' => ∀ ρ' H' σ', Go ρ ρ' H H' → RG K ρ' H' G' → AbsS K ρ' H' σd' σ' → Q σ' H'
  | _ => False
theorem PG.imp {tg : Expr} {t t' : TG} (h : PG X tg t) (i : ∀ v σ H Q, t' v σ H Q → t v σ H Q) : PG X tg t' := ⟨fun p s σ H x u Q I r q => h.run p s σ H x u Q I r (i x σ H Q q)⟩
abbrev LG (X : Cx) (tg : Expr) (d : DG) : Prop := PG X tg (LfG X.kw d)
theorem AbsS.set {K : Kw} {ρ : List Addr} {H : Hp} {σ : St} {σd : Loc} {w : W} {v : V} (s : AbsS K ρ H σd σ) (a : Abs K ρ H w v) (i : Nat) : AbsS K ρ H (σd.set i (some w)) (σ.set i (some v)) := by
  refine ⟨by rw [List.length_set, List.length_set]; exact s.1, fun j w' e => ?_⟩
  by_cases q : i = j
  · subst q
    have hi : i < σd.length := by
      have := (List.getElem?_eq_some_iff.mp e).1
      rwa [List.length_set] at this
    rw [List.getElem?_set_self hi] at e
    cases e
    exact ⟨v, List.getElem?_set_self (by rw [← s.1]; exact hi), a⟩
  · rw [List.getElem?_set_ne q] at e
    rw [List.getElem?_set_ne q]
    exact s.2 j w' e
def gV (i : Nat) : DG := fun w σ G => .nx (σ.set i (some w)) G
theorem lg_name {tg : Expr} {i : Nat} (h : PG X tg (gName i)) : LG X tg (gV i) := PG.imp h fun v σ H Q ⟨ρ, σd, G, w, r, s, aw, q⟩ => q ρ H _ .refl r (s.set aw i)
def sAsg (d : DE) (g : DG) : DS := fun σ => sOf (d σ) σ fun w σ G => match g w σ G with
  | .nx σ G => .nx σ G
  | _ => .stuck
theorem ls_asg {tg e : Expr} {g : DG} (he : LE X Wx e d) (hg : LG X tg g) (hs : swapsWithSole [tg] e pos.line X.env = pure false := by rfl) (hw : swappedStores [tg] e X.env = pure none := by rfl) (h1 : (assignEach [tg] X.env).map (·.2) = [assign tg X.env] := by rfl) : LS X Wx (.Assign [tg] e pos) (sAsg d g) :=
  PS.imp (ps_asg he hg hs hw h1) fun D σ H h => (LfS.of h).mono fun v H1 ⟨ρ1, σd, G1, w, r1, s1, aw, q⟩ => by
    refine ⟨ρ1, σd, G1, w, r1, s1, aw, ?_⟩
    cases e : g w σd G1 with
    | nx σ' G' => rw [e] at q; exact q
    | _ => rw [e] at q; exact q.elim
end
end Dn
end
section
set_option Elab.async false
set_option backward.match.sparseCases false
set_option linter.all false
set_option maxRecDepth 100000
set_option maxHeartbeats 2000000
namespace Dn
open PySem L2
/-- a target: a name, a tuple of names -/
inductive Tgt where
  | n (i : Nat)
  | t (is : List Nat)
def setAll : List Nat → List W → Loc → Option Loc
  | [], [], σ => some σ
  | i :: is, w :: ws, σ => setAll is ws (σ.set i (some w))
  | _, _, _ => none
def Tgt.set : Tgt → W → Loc → Option Loc
  | .n i, w, σ => some (σ.set i (some w))
  | .t is, .tup ws, σ => setAll is ws σ
  | .t _, _, _ => none
def Tgt.ix : Tgt → List Nat
  | .n i => [i]
  | .t is => is
def gNames : List Nat → TGs
  | [] => gNil
  | i :: is => gCons (gName i) (gNames is)
def hgT (K : Kw) : Tgt → TG
  | .n i => gName i
  | .t is => gTup K.1 is.length (gNames is)
theorem wipe_set {σ : St} {i : Nat} {x : Option V} {vs : List Nat} (h : i ∈ vs) : wipe (σ.set i x) vs = wipe σ vs := by
  have comm : ∀ (τ : St) (a b : Nat) (u v : Option V), a ≠ b → (τ.set a u).set b v = (τ.set b v).set a u := fun τ a b u v n => List.set_comm u v n
  have pull : ∀ (vs : List Nat) (τ : St) (j : Nat) (u : Option V), j ∉ vs → wipe (τ.set j u) vs = (wipe τ vs).set j u := by
    intro vs
    induction vs with
    | nil => intro τ j u _; rfl
    | cons a vs ih =>
      intro τ j u hj
      show (wipe (τ.set j u) vs).set a none = ((wipe τ vs).set a none).set j u
      rw [ih τ j u (fun m => hj (List.mem_cons_of_mem _ m)), comm _ j a _ _ (fun e => hj (by rw [e]; exact List.mem_cons_self))]
  induction vs with
  | nil => cases h
  | cons a vs ih =>
    show (wipe (σ.set i x) vs).set a none = (wipe σ vs).set a none
    by_cases hm : i ∈ vs
    · rw [ih hm]
    · have e : a = i := by
        obtain e | m := List.mem_cons.mp h
        · exact e.symm
        · exact absurd m hm
      subst e
      rw [pull vs σ a x hm, List.set_set]
section
variable {K : Kw} {ρ : List Addr} {H : Hp} {G : Gh}
theorem gNames_ok : ∀ {is : List Nat} {ws : List W} {vs : List V} {σd σd' : Loc} {σ : St}, AbsS K ρ H σd σ → AbsL K ρ H ws vs → setAll is ws σd = some σd' →
    ∃ σ', AbsS K ρ H σd' σ' ∧ (∀ us, (∀ i ∈ is, i ∈ us) → wipe σ' us = wipe σ us) ∧ ∀ Q : St → Hp → Prop, Q σ' H → gNames is vs σ H Q
  | [], [], _, _, _, σ, s, l, e => by
    simp only [AbsL] at l
    subst l
    simp only [setAll, Option.some.injEq] at e
    subst e
    exact ⟨σ, s, fun _ _ => rfl, fun Q q => ⟨rfl, q⟩⟩
  | [], _ :: _, _, _, _, _, _, _, e => by simp [setAll] at e
  | _ :: _, [], _, _, _, _, _, _, e => by simp [setAll] at e
  | i :: is, w :: ws, _, _, _, σ, s, l, e => by
    simp only [AbsL] at l
    obtain ⟨v, r, rfl, a, l⟩ := l
    obtain ⟨σ', s', hw, hq⟩ := gNames_ok (is := is) (s.set a i) l e
    refine ⟨σ', s', fun us h => ?_, fun Q q => ⟨v, r, rfl, hq Q q⟩⟩
    rw [hw us fun j hj => h j (List.mem_cons_of_mem _ hj), wipe_set (h i List.mem_cons_self)]
theorem hgT_ok {t : Tgt} {w : W} {v : V} {σd σd' : Loc} {σ : St} (s : AbsS K ρ H σd σ) (a : Abs K ρ H w v) (e : t.set w σd = some σd') :
    ∃ σ', AbsS K ρ H σd' σ' ∧ (∀ us, (∀ i ∈ t.ix, i ∈ us) → wipe σ' us = wipe σ us) ∧ ∀ Q : St → Hp → Prop, Q σ' H → hgT K t v σ H Q := by
  cases t with
  | n i =>
    simp only [Tgt.set, Option.some.injEq] at e
    subst e
    exact ⟨_, s.set a i, fun us h => wipe_set (h i (by simp [Tgt.ix])), fun Q q => q⟩
  | t is =>
    cases w with
    | tup ws =>
      simp only [Tgt.set] at e
      simp only [Abs] at a
      obtain ⟨b, vs, rfl, st, l⟩ := a
      obtain ⟨σ', s', hw, hq⟩ := gNames_ok s l e
      refine ⟨σ', s', hw, fun Q q => ⟨b, vs, rfl, st.sq, ?_, hq Q q⟩⟩
      have : ∀ (is : List Nat) (ws : List W) (σ : Loc) (σ' : Loc), setAll is ws σ = some σ' → ws.length = is.length := by
        intro is
        induction is with
        | nil => intro ws σ σ' e; cases ws with
          | nil => rfl
          | cons _ _ => simp [setAll] at e
        | cons i is ih => intro ws σ σ' e; cases ws with
          | nil => simp [setAll] at e
          | cons w ws => simp only [setAll] at e; simp [ih _ _ _ e]
      rw [← l.len]
      exact this _ _ _ _ e
    | _ => simp [Tgt.set] at e
/-! ### what is walked -/
structure Src where
  fuel : Nat
  get : Nat → Gh → Option (Option W)
  lk : Option Nat := none
def SrcOk (K : Kw) : RR Src It := fun ρ H s J => ∀ ρ' H' G i, Go ρ ρ' H H' → RG K ρ' H' G → match s.get i G with
  | none => True
  | some none => J.stop i H'
  | some (some w) => J.go i H' ∧ ∀ x H'', J.yld i H' x H'' → Go ρ' ρ' H' H'' ∧ RG K ρ' H'' G ∧ Abs K ρ' H'' w x
abbrev DI := Loc → M Src
def LfI (K : Kw) (Wx : WX) (d : DI) : TI := fun σ H R => Lf K (SrcOk K) Wx d σ H R
abbrev LI (X : Cx) (Wx : WX) (tg iter : Expr) (d : DI) : Prop := PI X tg iter (LfI X.kw Wx d)
theorem PI.imp {X : Cx} {tg iter : Expr} {t t' : TI} (h : PI X tg iter t) (i : ∀ σ H R, t' σ H R → t σ H R) : PI X tg iter t' := ⟨fun p s σ H R I q => h.run p s σ H R I (i σ H R q)⟩
/-- the lock is opened -/
def unlkG (lk : Option Nat) (G : Gh) : Option Gh := match lk with
  | none => some G
  | some n => match G[n]? with
    | some (.dct true kvs) => some (G.set n (.dct false kvs))
    | _ => none
/-- the lock is the walk's own -/
def lockFree (lk : Option Nat) (G : Gh) : Bool := match lk with
  | none => true
  | some n => match G[n]? with
    | none => true
    | some (.dct false _) => true
    | _ => false
def finS (lk : Option Nat) : SO → SO
  | .nx σ G => match unlkG lk G with
    | some G' => .nx σ G'
    | none => .stuck
  | .rt w G => match unlkG lk G with
    | some G' => .rt w G'
    | none => .stuck
  | .ex x σ G => .ex x σ G
  | _ => .stuck
def loopI (get : Nat → Gh → Option (Option W)) (g : Tgt) (body : DS) : Nat → Nat → DS
  | 0, _, _, _ => .stuck
  | m + 1, i, σ, G => match get i G with
    | none => .stuck
    | some none => .nx σ G
    | some (some w) => match g.set w σ with
      | none => .stuck
      | some σ1 => match body σ1 G with
        | .nx σ2 G2 => loopI get g body m (i + 1) σ2 G2
        | .ct σ2 G2 => loopI get g body m (i + 1) σ2 G2
        | .bk σ2 G2 => .nx σ2 G2
        | o => o
def sFor (src : DI) (g : Tgt) (body : DS) : DS := fun σ G => match src σ G with
  | .ok s G1 => if lockFree s.lk G = true then finS s.lk (loopI s.get g body s.fuel 0 σ G1) else .stuck
  | .exc x G1 => .ex x σ G1
  | .stuck => .stuck
theorem SrcOk.go {ρ' : List Addr} {H' : Hp} (g : Go ρ ρ' H H') {s : Src} {J : It} (h : SrcOk K ρ H s J) : SrcOk K ρ' H' s J := fun ρ1 H1 G i g1 r => h ρ1 H1 G i (g.trans g1) r
end
section
variable {X : Cx} {Wx : WX} {pos : Pos}
/-- the thing is told otherwise -/
def Re (X : Cx) (H H' : Hp) : Prop := ∀ pins σ s, Inv X pins σ H s → Inv X pins σ H' s
def reD (X : Cx) (D : Ends) : Ends := ⟨fun σ' H' => ∃ H'', Re X H' H'' ∧ D.nx σ' H'', fun v H' => ∃ H'', Re X H' H'' ∧ D.rt v H'', fun σ' H' => ∃ H'', Re X H' H'' ∧ D.bk σ' H'', fun σ' H' => ∃ H'', Re X H' H'' ∧ D.ct σ' H''⟩
def FzIn (X : Cx) (H : Hp) : Prop := ∀ b o u, X.H_0 b = some (.frz o u) → H b = some (.frz o u)
theorem ps_fz {st : Stmt} {t : TS} (h : PS X st t) : PS X st (fun D σ H => FzIn X H → t (reD X D) σ H) := by
  constructor; intro pins s σ H D I hw
  refine thn (h.run pins s σ _ _ I (hw I.base.frzs)) fun f s1 q => ?_
  cases f with
  | next => obtain ⟨σ', H', I2, H'', re, q⟩ := q; exact ⟨σ', _, re _ _ _ I2, q⟩
  | brk => obtain ⟨σ', H', I2, H'', re, q⟩ := q; exact ⟨σ', _, re _ _ _ I2, q⟩
  | cont => obtain ⟨σ', H', I2, H'', re, q⟩ := q; exact ⟨σ', _, re _ _ _ I2, q⟩
  | ret v => obtain ⟨x, σ', H', I2, r, H'', re, q⟩ := q; exact ⟨x, σ', _, re _ _ _ I2, r, q⟩
theorem pe_fz {e : Expr} {t : TE} (h : PE X e t) : PE X e (fun σ H Q => FzIn X H → t σ H fun v H' => ∃ H'', Re X H' H'' ∧ Q v H'') := by
  constructor; intro pins s σ H Q I hw
  exact thn (h.run pins s σ _ _ I (hw I.base.frzs)) fun v s1 ⟨x, H1, I2, r, H'', re, q⟩ => ⟨x, _, re _ _ _ I2, r, q⟩
section
variable {ρ ρ' : List Addr} {H H' : Hp} {G G' : Gh} {lk : Option Nat}
theorem free_nf (r : RG X.kw ρ H G) (g : Go ρ ρ' H H') (r' : RG X.kw ρ' H' G') {n : Nat} {a : Addr} (e : ρ'[n]? = some a) (h : lockFree (some n) G = true) : ∀ o u, H a ≠ some (.frz o u) := by
  unfold lockFree at h
  dsimp only at h
  cases q : G[n]? with
  | none =>
    have hn : ρ.length ≤ n := by rw [r.len]; exact List.getElem?_eq_none_iff.mp q
    have ha : a ∉ ρ := fun m => by
      obtain ⟨k, hk, ek⟩ := List.getElem_of_mem m
      have e2 : ρ'[k]? = some a := g.ix (by rw [List.getElem?_eq_getElem hk, ek])
      obtain ⟨h1, x1⟩ := List.getElem?_eq_some_iff.mp e
      obtain ⟨h2, x2⟩ := List.getElem?_eq_some_iff.mp e2
      have := (List.getElem_inj r'.nd).mp (x1.trans x2.symm)
      omega
    intro o u z
    rw [g.nw a (List.mem_of_getElem? e) ha] at z
    cases z
  | some x =>
    rw [q] at h
    have hn : n < ρ.length := by rw [r.len]; exact (List.getElem?_eq_some_iff.mp q).1
    have e0 : ρ[n]? = some a := by
      have := g.ix (List.getElem?_eq_getElem hn)
      rw [e] at this
      rw [List.getElem?_eq_getElem hn]
      exact this.symm
    cases x with
    | lst _ => cases h
    | ins _ _ => cases h
    | rsv => cases h
    | dct l kvs =>
      cases l with
      | true => cases h
      | false =>
        obtain ⟨u, f, hu⟩ := r.ob n _ a q e0
        refine nofz hu ?_
        rcases f with ⟨fk, rfl, _⟩ | ⟨xs, rfl, _⟩
        · trivial
        · unfold DnO; trivial
theorem unlk_ok (fz : FzIn X H) (r : RG X.kw ρ H G) (g : Go ρ ρ' H H') (r' : RG X.kw ρ' H' G') (hf : lockFree lk G = true) {G2 : Gh} (hu : unlkG lk G' = some G2) : ∃ H'', Re X H' H'' ∧ RG X.kw ρ' H'' G2 ∧ Go ρ ρ' H H'' ∧ Go0 ρ' ρ' H' H'' := by
  cases lk with
  | none =>
    cases hu
    exact ⟨H', fun _ _ _ I => I, r', g, Go.refl.toGo0⟩
  | some n =>
    unfold unlkG at hu
    dsimp only at hu
    split at hu
    · rename_i kvs q
      cases hu
      have hn : n < ρ'.length := by rw [r'.len]; exact (List.getElem?_eq_some_iff.mp q).1
      have e := List.getElem?_eq_getElem hn
      generalize ρ'[n] = a at e
      have nf := free_nf r g r' e hf
      obtain ⟨u, f, o, hu⟩ := r'.ob n _ a q e
      refine ⟨upd H' a u, fun pins σ s I => I.unlock hu fun o' u' z => nf o' u' (fz _ _ _ z), r'.put e ⟨u, f.go (Go0.put r' e), upd_same⟩, ⟨g.toGo0.trans (Go0.put r' e), fun b o1 u1 hb => ?_⟩, Go0.put r' e⟩
      rw [upd_ne (by rintro rfl; exact nf o1 u1 hb)]
      exact g.fz b o1 u1 hb
    · cases hu
theorem fin_nx (fz : FzIn X H) (r : RG X.kw ρ H G) (g : Go ρ ρ' H H') (r' : RG X.kw ρ' H' G') (hf : lockFree lk G = true) {D : Ends} {σd : Loc} {σ : St} (s' : AbsS X.kw ρ' H' σd σ) (h : AftS X.kw Wx ρ H D (finS lk (.nx σd G'))) : ∃ H'', Re X H' H'' ∧ D.nx σ H'' := by
  unfold finS at h
  dsimp only at h
  cases hu : unlkG lk G' with
  | none => rw [hu] at h; exact h.elim
  | some G2 =>
    rw [hu] at h
    obtain ⟨H'', re, r2, g2, g0⟩ := unlk_ok fz r g r' hf hu
    exact ⟨H'', re, h ρ' H'' σ g2 r2 (s'.go0 g0)⟩
theorem fin_rt (fz : FzIn X H) (r : RG X.kw ρ H G) (g : Go ρ ρ' H H') (r' : RG X.kw ρ' H' G') (hf : lockFree lk G = true) {D : Ends} {w : W} {v : V} (a' : Abs X.kw ρ' H' w v) (h : AftS X.kw Wx ρ H D (finS lk (.rt w G'))) : ∃ H'', Re X H' H'' ∧ D.rt v H'' := by
  unfold finS at h
  dsimp only at h
  cases hu : unlkG lk G' with
  | none => rw [hu] at h; exact h.elim
  | some G2 =>
    rw [hu] at h
    obtain ⟨H'', re, r2, g2, g0⟩ := unlk_ok fz r g r' hf hu
    exact ⟨H'', re, h ρ' H'' v g2 r2 (a'.go0 g0)⟩
end
theorem ls_for {tg iter : Expr} {body : List Stmt} {src : DI} {g : Tgt} {tb : DS} (hp : PassesOwn (model X.prog X.w) X.A X.env X.xe) (hc : X.calm = true) (hi : LI X Wx tg iter src) (hg : PG X tg (hgT X.kw g)) (hb : LSs X Wx body tb)
    (hs : ∀ x, foldedSetIterable iter X.env x = pure x := by intro _; rfl) : LS X Wx (.For tg iter body [] pos) (sFor src g tb) := PS.imp (ps_fz (ps_for hp hc hi hg hb hs)) fun D σ H h fz => by
  obtain ⟨ρ, σd, G, r, s, a⟩ := h
  refine ⟨ρ, σd, G, r, s, ?_⟩
  unfold sFor at a
  cases e0 : src σd G with
  | stuck => rw [e0] at a; exact a.elim
  | exc x G1 => rw [e0] at a; exact fun ρ1 H1 c d g r q => a ρ1 H1 σ c d g r (s.go g) q
  | ok sr G1 =>
    rw [e0] at a
    dsimp only at a
    by_cases hf : lockFree sr.lk G = true
    · rw [if_pos hf] at a
      intro ρ1 H1 J g1 r1 sok
      refine ⟨fun i m σ' H' => ∃ ρ' σd' G', Go ρ ρ' H H' ∧ RG X.kw ρ' H' G' ∧ AbsS X.kw ρ' H' σd' σ' ∧ SrcOk X.kw ρ' H' sr J ∧ AftS X.kw Wx ρ H D (finS sr.lk (loopI sr.get g tb m i σd' G')), ⟨sr.fuel, ρ1, σd, G1, g1, r1, s.go g1, sok, a⟩, ?_⟩
      rintro i m σ' H' ⟨ρ', σd', G', g', r', s', sok', q'⟩
      cases m with
      | zero => exact q'.elim
      | succ m =>
        have so := sok' ρ' H' G' i .refl r'
        unfold loopI at q'
        cases e : sr.get i G' with
        | none => rw [e] at q'; exact q'.elim
        | some o =>
          rw [e] at q' so
          cases o with
          | none => exact .inl ⟨so, fin_nx fz r g' r' hf s' q'⟩
          | some w =>
            refine .inr ⟨so.1, fun σ2 H2 => ∃ ρ2 σd2 G2, Go ρ ρ2 H H2 ∧ RG X.kw ρ2 H2 G2 ∧ AbsS X.kw ρ2 H2 σd2 σ2 ∧ SrcOk X.kw ρ2 H2 sr J ∧ AftS X.kw Wx ρ H D (finS sr.lk (loopI sr.get g tb m (i + 1) σd2 G2)), fun σ2 H2 h2 => ⟨m, Nat.lt_succ_self m, h2⟩, fun x H2 y => ?_⟩
            obtain ⟨gg, r2, ax⟩ := so.2 x H2 y
            dsimp only at q'
            cases e2 : g.set w σd' with
            | none => rw [e2] at q'; exact q'.elim
            | some σd1 =>
              rw [e2] at q'
              dsimp only at q'
              obtain ⟨σ3, s3, _, hq⟩ := hgT_ok (s'.go gg) ax e2
              refine hq _ ⟨ρ', σd1, G', r2, s3, ?_⟩
              have so2 := sok'.go gg
              have g2 := g'.trans gg
              cases e3 : tb σd1 G' with
              | nx σd2 G2 => rw [e3] at q'; exact fun ρ4 H4 σ4 g4 r4 s4 => ⟨ρ4, σd2, G2, g2.trans g4, r4, s4, so2.go g4, q'⟩
              | ct σd2 G2 => rw [e3] at q'; exact fun ρ4 H4 σ4 g4 r4 s4 => ⟨ρ4, σd2, G2, g2.trans g4, r4, s4, so2.go g4, q'⟩
              | bk σd2 G2 => rw [e3] at q'; exact fun ρ4 H4 σ4 g4 r4 s4 => fin_nx fz r (g2.trans g4) r4 hf s4 q'
              | rt w2 G2 => rw [e3] at q'; exact fun ρ4 H4 v4 g4 r4 a4 => fin_rt fz r (g2.trans g4) r4 hf a4 q'
              | ex x2 σ2 G2 => rw [e3] at q'; exact fun ρ4 H4 σ4 c d g4 r4 s4 a4 => q' ρ4 H4 σ4 c d (g2.trans g4) r4 s4 a4
              | stuck => rw [e3] at q'; exact q'.elim
    · rw [if_neg hf] at a
      exact a.elim
/-! while -/
def loopW (c : DT) (body : DS) : Nat → DS
  | 0, _, _ => .stuck
  | m + 1, σ, G => match c σ G with
    | .ok true G1 => match body σ G1 with
      | .nx σ2 G2 => loopW c body m σ2 G2
      | .ct σ2 G2 => loopW c body m σ2 G2
      | .bk σ2 G2 => .nx σ2 G2
      | o => o
    | .ok false G1 => .nx σ G1
    | .exc x G1 => .ex x σ G1
    | .stuck => .stuck
theorem ls_while {c : Expr} {body : List Stmt} {tc : DT} {tb : DS} (fuel : Nat) (hp : PassesOwn (model X.prog X.w) X.A X.env X.xe) (hc : LT X Wx c tc) (hb : LSs X Wx body tb) : LS X Wx (.While c body [] pos) (loopW tc tb fuel) := PS.imp (ps_while hp hc hb) fun D σ H h => by
  obtain ⟨ρ, σd, G, r, s, a⟩ := h
  refine ⟨fun m σ' H' => ∃ ρ' σd' G', RG X.kw ρ' H' G' ∧ AbsS X.kw ρ' H' σd' σ' ∧ AftS X.kw Wx ρ' H' D (loopW tc tb m σd' G'), ⟨fuel, ρ, σd, G, r, s, a⟩, ?_⟩
  rintro m σ' H' ⟨ρ', σd', G', r', s', q'⟩
  cases m with
  | zero => exact q'.elim
  | succ m =>
    unfold loopW at q'
    refine ⟨ρ', σd', G', r', s', ?_⟩
    cases e : tc σd' G' with
    | exc x G1 => rw [e] at q'; exact fun ρ1 H1 c d g1 r1 q => q' ρ1 H1 σ' c d g1 r1 (s'.go g1) q
    | stuck => rw [e] at q'; exact q'
    | ok b G1 =>
      rw [e] at q'
      intro ρ1 H1 b' g1 r1 eb
      cases eb
      have q1 := AftS.go g1 q'
      cases b with
      | false => exact q1 ρ1 H1 σ' .refl r1 (s'.go g1)
      | true =>
        refine ⟨fun σ2 H2 => ∃ ρ2 σd2 G2, RG X.kw ρ2 H2 G2 ∧ AbsS X.kw ρ2 H2 σd2 σ2 ∧ AftS X.kw Wx ρ2 H2 D (loopW tc tb m σd2 G2), fun σ2 H2 h2 => ⟨m, Nat.lt_succ_self m, h2⟩, ρ1, σd', G1, r1, s'.go g1, ?_⟩
        dsimp only at q1
        cases e3 : tb σd' G1 with
        | nx σd2 G2 => rw [e3] at q1; exact fun ρ4 H4 σ4 g4 r4 s4 => ⟨ρ4, σd2, G2, r4, s4, AftS.go g4 q1⟩
        | ct σd2 G2 => rw [e3] at q1; exact fun ρ4 H4 σ4 g4 r4 s4 => ⟨ρ4, σd2, G2, r4, s4, AftS.go g4 q1⟩
        | bk σd2 G2 => rw [e3] at q1; exact q1
        | rt _ _ => rw [e3] at q1; exact q1
        | ex _ _ _ => rw [e3] at q1; exact q1
        | stuck => rw [e3] at q1; exact q1
end
end Dn
end
section
set_option Elab.async false
set_option backward.match.sparseCases false
set_option linter.all false
set_option maxRecDepth 100000
set_option maxHeartbeats 2000000
namespace Dn
open PySem L2 PySem.Spec PyProof.Rows
/-- what a body's derivation may lean on -/
structure Ctx (X : Cx) (Wx : WX) (k : Nat) : Prop where
  tk : Takes X Wx
  po : PassesOwn (model X.prog X.w) X.A X.env X.xe
  calm : X.calm = true
  nd : X.N.Nodup
  rm : Room k X.A
  gd : X.A.guards = some []
  sm : ∃ o, X.base.get? sysModules = some o
theorem Ctx.mono {X : Cx} {Wx : WX} {j k : Nat} (c : Ctx X Wx k) (h : j ≤ k) : Ctx X Wx j := ⟨c.tk, c.po, c.calm, c.nd, c.rm.mono h, c.gd, c.sm⟩
abbrev W0 : WX := fun _ _ _ _ => False
/-! ### functions -/
abbrev DF := List W → M W
def LfF (K : Kw) (f : DF) : Sp := fun vs H Q E => ∃ ρ G ws, RG K ρ H G ∧ AbsL K ρ H ws vs ∧ Aft K (Abs K) (fun c d _ H => E c d H) [] ρ H Q (f ws G)
/-- a body as a function of n parameters with N slots -/
def runB (d : DS) (σ : Loc) : M W := fun G => match d σ G with
  | .nx _ G' => .ok .non G'
  | .rt w G' => .ok w G'
  | .ex x _ G' => .exc x G'
  | _ => .stuck
def slots (N : Nat) (ws : List W) : Loc := ws.map some ++ List.replicate (N - ws.length) none
def defB (N n : Nat) (d : DS) : DF := fun ws => if ws.length = n then runB d (slots N ws) else fail
/-- the def at f, of the parameters ps, does what F says, in k frames; no text is being shown meanwhile -/
structure LF (P : Program) (w : World) (K : PySem.W.Frag) (mg : Str → Option Value) (base : Heap) (k : Nat) (f : Addr) (fd : FuncData) (ps : List Str) (F : DF) : Prop where
  len : ∀ vs H Q E, LfF (K, w) F vs H Q E → vs.length = ps.length
  run : ∀ (A : Around) (outer : List Env) (s : Shared) (H : Hp) (args : Args) (us : List Value) (vs : List V) (Q : VK) (E : XK), Room k A → A.guards = some [] → Env0 P w K mg base A outer s H →
    BindsTo s fd args (ps.zip us) → Vals vs us → LfF (K, w) F vs H Q E → codeAny (model P w) A (.call (.ref f) args) (CR (L2.CX P w) outer P w H s Q E) s
section
variable {K : PySem.W.Frag} {mg : Str → Option Value} {base : Heap} {P : Program} {w : World}
theorem start_abs {K : Kw} {ρ : List Addr} {H : Hp} {N : List Str} {ws : List W} {vs : List V} (l : AbsL K ρ H ws vs) : AbsS K ρ H (slots N.length ws) (L2.start N vs) := by
  have hl := l.len
  refine ⟨by unfold slots L2.start; simp [hl], fun i w e => ?_⟩
  unfold slots at e
  by_cases hi : i < ws.length
  · rw [List.getElem?_append_left (by simpa using hi), List.getElem?_map] at e
    cases q : ws[i]? with
    | none => rw [q] at e; exact nomatch e
    | some u =>
      rw [q] at e
      cases e
      obtain ⟨v, ev, av⟩ := l.get q
      refine ⟨v, ?_, av⟩
      unfold L2.start
      rw [List.getElem?_append_left (by simpa [← hl] using hi), List.getElem?_map, ev]
      rfl
  · rw [List.getElem?_append_right (by simpa using hi), List.getElem?_replicate] at e
    split at e <;> cases e
/-- a body's run is its call's -/
theorem lf_run {x qual : Str} {st : Stmt} {f : Addr} {fd : FuncData} {N ps : List Str} {k : Nat} {F' : DF} (F : Fun K x qual st f fd) (S : FnScope N ps (defScope st)) (ln : ∀ vs H Q E, LfF (K, w) F' vs H Q E → vs.length = ps.length)
    (hb : ∀ (cdv : Value) (A : Around) (outer : List Env) (s : Shared) (H : Hp) (vs : List V) (Q : VK) (E : XK), Room k (A.deeper (envOfC qual (defScope st) s.heap.objs.size f cdv)) → A.guards = some [] → LfF (K, w) F' vs H Q E →
      ∃ t, PSs (cxOf (L2.CX P w) P w K mg base N qual (defScope st) f cdv A outer s H E) (defBody st) t ∧ t { nx := fun _ H' => Q .non H', rt := Q } (L2.start N vs) H) : LF P w K mg base (k + 1) f fd ps F' := by
  rcases F.ex with ⟨oc, od, kV, doc, pm, an, cdv, ct, osl, rfl, lk, hcd⟩
  refine ⟨ln, ?_⟩
  intro A outer s H args us vs Q E room gds e0 bt rel want
  have lens := ln vs H Q E want
  have stays : ∀ b o, base.get? b = some o → s.heap.get? b = some o := fun b o e => (e0.bs b o e).1
  have Kin : K.In s.heap := e0.mod.kin.keeps stays
  have nolim : s.heap.NoLimit := e0.mod.nolimit.keeps stays
  have kinds : ∀ y ∈ ps.zip us, (defScope st).names.lookup y.1 = some .local ∨
      ((defScope st).names.lookup y.1 = some .cell ∧ ((cellsFrom (s.heap.objs.size + 1) (defScope st).names []).lookup y.1).isSome = true) := by
    intro y hy
    rcases S.par y.1 (List.of_mem_zip (show (y.1, y.2) ∈ ps.zip us from hy)).1 with q | q
    · exact Or.inl q
    · exact Or.inr ⟨q, PySem.W.cellsFrom_some _ _ _ (Or.inl q)⟩
  have entry := PySem.W.codeRec_of Kin hcd
  refine codeAny_call_function room.depth (Kin _ _ lk) rfl S.co
    S.gen rfl entry (bt _ _ _ _ ?_)
  refine wpAny_newFunctionEnv_cells S.kind kinds
    (fun env henv s1 inC => ?_)
  subst henv
  refine ⟨nolim.keeps inC.toInCall.keep,
    codeAny_func ?_⟩
  obtain ⟨t, derived, reads⟩ := hb cdv A outer s H vs Q E (room.deeper _) gds want
  have begun : Inv (cxOf (L2.CX P w) P w K mg base N qual (defScope st) f cdv A outer s H E) [] (L2.start N vs) H s1 :=
    inv_start S room.hd e0 lens rel inC
  refine wpAny_mono (derived.run [] s1 (L2.start N vs) H _ begun reads) ?_ (fun _ _ z => z)
  intro flow s2 ends
  cases flow with
  | brk => obtain ⟨_, _, _, z⟩ := ends; exact z.elim
  | cont => obtain ⟨_, _, _, z⟩ := ends; exact z.elim
  | next =>
    obtain ⟨σ2, H2, J2, z⟩ := ends
    exact ⟨.non, H2, J2.os, J2.bare, J2.base, J2.hok, rfl, z⟩
  | ret u =>
    obtain ⟨v2, σ2, H2, J2, rv2, z⟩ := ends
    exact ⟨v2, H2, J2.os, J2.bare, J2.base, J2.hok, rv2, z⟩
theorem lf_def {x qual : Str} {st : Stmt} {f : Addr} {fd : FuncData} {N ps : List Str} {k : Nat} {d : DS} (sm : ∃ o, base.get? sysModules = some o) (F : Fun K x qual st f fd) (S : FnScope N ps (defScope st))
    (hb : ∀ (cdv : Value) (A : Around) (outer : List Env) (s : Shared) (H : Hp) (E : XK), Ctx (cxOf (L2.CX P w) P w K mg base N qual (defScope st) f cdv A outer s H E) (fun c d _ H => E c d H) k →
      LSs (cxOf (L2.CX P w) P w K mg base N qual (defScope st) f cdv A outer s H E) (fun c d _ H => E c d H) (defBody st) d) :
    LF P w K mg base (k + 1) f fd ps (defB N.length ps.length d) := by
  refine lf_run F S (fun vs H Q E h => ?_) (fun cdv A outer s H vs Q E hr hg h => ?_)
  · obtain ⟨ρ, G, ws, r, l, a⟩ := h
    rw [← l.len]
    unfold defB at a
    by_cases e : ws.length = ps.length
    · exact e
    · rw [if_neg e] at a; exact a.elim
  · obtain ⟨ρ, G, ws, r, l, a⟩ := h
    unfold defB at a
    by_cases e : ws.length = ps.length
    · rw [if_pos e] at a
      refine ⟨_, hb cdv A outer s H E ⟨takes_of rfl rfl rfl rfl, passes_of rfl, rfl, S.nd, hr, hg, sm⟩, ρ, slots N.length ws, G, r, start_abs l, ?_⟩
      unfold runB at a
      cases q : d (slots N.length ws) G with
      | nx σ G' => rw [q] at a; exact fun ρ1 H1 σ1 g r1 _ => a ρ1 H1 .non g r1 (by simp [Abs])
      | rt u G' => rw [q] at a; exact a
      | ex y σ G' => rw [q] at a; exact fun ρ1 H1 _ c dd g r1 _ ax => a ρ1 H1 c dd g r1 ax
      | bk _ _ => rw [q] at a; exact a.elim
      | ct _ _ => rw [q] at a; exact a.elim
      | stuck => rw [q] at a; exact a.elim
    · rw [if_neg e] at a; exact a.elim
end
/-! ### a lesser word of a function: what is made on the way and not told is forgotten -/
mutual
def W.lt (n : Nat) : W → Prop
  | .ref i => i < n
  | .tup ws => ltL n ws
  | .rol ws => ltL n ws
  | _ => True
def ltL (n : Nat) : List W → Prop
  | [] => True
  | w :: ws => w.lt n ∧ ltL n ws
end
def GO.lt (n : Nat) : GO → Prop
  | .lst ws => ltL n ws
  | .dct _ kvs => ltL n (kvs.map (·.1)) ∧ ltL n (kvs.map (·.2))
  | .ins _ ws => ∀ (i : Nat) (w : W), ws[i]? = some (some w) → w.lt n
  | .rsv => True
def Wf (G : Gh) : Prop := ∀ o ∈ G, o.lt G.length
section
variable {K : Kw} {ρ ρ' : List Addr} {H H' : Hp} {G : Gh}
mutual
theorem Abs.lt : ∀ (w : W) {v : V}, Abs K ρ H w v → w.lt ρ.length
  | .non, _, _ => trivial
  | .bl _, _, _ => trivial
  | .int _, _, _ => trivial
  | .str _, _, _ => trivial
  | .ty _, _, _ => trivial
  | .obj _, _, _ => trivial
  | .ref _, _, h => by
    obtain ⟨a, h, e⟩ := h
    exact (List.getElem?_eq_some_iff.1 h).1
  | .tup ws, _, h => by
    obtain ⟨b, vs, e, s, l⟩ := h
    exact AbsL.lt ws l
  | .rol ws, _, h => by
    obtain ⟨b, vs, e, s, l⟩ := h
    exact AbsL.lt ws l
theorem AbsL.lt : ∀ (ws : List W) {vs : List V}, AbsL K ρ H ws vs → ltL ρ.length ws
  | [], _, h => trivial
  | w :: ws, _, h => by
    obtain ⟨v, r, e, h1, h2⟩ := h
    exact ⟨Abs.lt w h1, AbsL.lt ws h2⟩
end
mutual
theorem Abs.cut {n : Nat} : ∀ (w : W) {v : V}, Abs K ρ H w v → w.lt n → Abs K (ρ.take n) H w v
  | .non, _, h, _ => h
  | .bl _, _, h, _ => h
  | .int _, _, h, _ => h
  | .str _, _, h, _ => h
  | .ty _, _, h, _ => h
  | .obj _, _, h, _ => h
  | .ref i, _, h, l => by
    obtain ⟨a, h, e⟩ := h
    exact ⟨a, by rw [List.getElem?_take_of_lt l]; exact h, e⟩
  | .tup ws, _, h, l => by
    obtain ⟨b, vs, e, s, q⟩ := h
    exact ⟨b, vs, e, ⟨fun m => s.1 (List.mem_of_mem_take m), s.2⟩, AbsL.cut ws q l⟩
  | .rol ws, _, h, l => by
    obtain ⟨b, vs, e, s, q⟩ := h
    exact ⟨b, vs, e, s.imp (fun z => ⟨fun m => z.1 (List.mem_of_mem_take m), z.2⟩) id, AbsL.cut ws q l⟩
theorem AbsL.cut {n : Nat} : ∀ (ws : List W) {vs : List V}, AbsL K ρ H ws vs → ltL n ws → AbsL K (ρ.take n) H ws vs
  | [], _, h, _ => h
  | w :: ws, _, h, l => by
    obtain ⟨v, r, e, h1, h2⟩ := h
    exact ⟨v, r, e, Abs.cut w h1 l.1, AbsL.cut ws h2 l.2⟩
end
theorem kW_lt {n : Nat} {w : W} {k : Key} (h : w = kW k) : w.lt n := by
  subst h
  cases k <;> trivial
theorem AbsO.lt {a : Addr} {o : GO} (h : AbsO K ρ H a o) : o.lt ρ.length := by
  cases o with
  | lst ws => obtain ⟨vs, _, l⟩ := h; exact l.lt
  | dct lk kvs =>
    obtain ⟨u, f, _⟩ := h
    rcases f with ⟨fk, e, p⟩ | ⟨xs, e, n, p⟩
    · clear e
      induction p with
      | nil => exact ⟨trivial, trivial⟩
      | cons r t ih => exact ⟨⟨kW_lt r.1, ih.1⟩, r.2.lt, ih.2⟩
    · clear e n
      induction p with
      | nil => exact ⟨trivial, trivial⟩
      | cons r t ih => exact ⟨⟨r.2.2.1.lt, ih.1⟩, r.2.2.2.lt, ih.2⟩
  | ins C ws =>
    obtain ⟨dx, vs, _, n, _, _, e, l, f⟩ := h
    intro i w q
    obtain ⟨v, _, av⟩ := f i w q
    exact av.lt
  | rsv => exact trivial
theorem AbsO.cut {n : Nat} {a : Addr} {o : GO} (h : AbsO K ρ H a o) (l : o.lt n) : AbsO K (ρ.take n) H a o := by
  cases o with
  | lst ws => obtain ⟨vs, e, q⟩ := h; exact ⟨vs, e, q.cut _ l⟩
  | dct lk kvs =>
    obtain ⟨u, f, e⟩ := h
    refine ⟨u, ?_, e⟩
    clear e
    rcases f with ⟨fk, e, p⟩ | ⟨xs, e, n, p⟩
    · refine .inl ⟨fk, e, ?_⟩
      clear e
      induction p with
      | nil => exact .nil
      | cons r t ih => exact .cons ⟨r.1, r.2.cut _ l.2.1⟩ (ih ⟨l.1.2, l.2.2⟩)
    · refine .inr ⟨xs, e, n, ?_⟩
      clear e n
      induction p with
      | nil => exact .nil
      | cons r t ih => exact .cons ⟨r.1, r.2.1, r.2.2.1.cut _ l.1.1, r.2.2.2.cut _ l.2.1⟩ (ih ⟨l.1.2, l.2.2⟩)
  | ins C ws =>
    obtain ⟨dx, vs, cl, m, u, ne, e, z, f⟩ := h
    refine ⟨dx, vs, cl, fun k => m (List.mem_of_mem_take k), u, ne, e, z, fun i w q => ?_⟩
    obtain ⟨v, ev, av⟩ := f i w q
    exact ⟨v, ev, av.cut _ (l i w q)⟩
  | rsv => exact h
theorem RG.wf (r : RG K ρ H G) : Wf G := fun o ho => by
  obtain ⟨n, hn, e⟩ := List.getElem_of_mem ho
  have e2 : G[n]? = some o := by rw [List.getElem?_eq_getElem hn, e]
  have hr : n < ρ.length := by rw [r.len]; exact hn
  have := (r.ob n o ρ[n] e2 (List.getElem?_eq_getElem hr)).lt
  rwa [r.len] at this
theorem RG.cut {J : Gh} (r : RG K ρ H (G ++ J)) (wf : Wf G) : RG K (ρ.take G.length) H G where
  len := by rw [List.length_take, r.len, List.length_append]; omega
  nd := r.nd.sublist (List.take_sublist _ _)
  ob := fun n o a e1 e2 => by
    have hn : n < G.length := (List.getElem?_eq_some_iff.mp e1).1
    rw [List.getElem?_take_of_lt hn] at e2
    exact (r.ob n o a (by rw [List.getElem?_append_left hn]; exact e1) e2).cut (wf o (List.mem_of_getElem? e1))
theorem Go.cut {n : Nat} (g : Go ρ ρ' H H') (h : ρ.length ≤ n) : Go ρ (ρ'.take n) H H' := ⟨⟨by
    obtain ⟨t, rfl⟩ := g.pre
    rw [List.take_append, List.take_of_length_le h]
    exact List.prefix_append _ _, g.kp, g.so, fun a m => g.nw a (List.mem_of_mem_take m)⟩, g.fz⟩
end
/-- f does what f' says where f' says something -/
def Wk (f f' : DF) : Prop := ∀ ws G, Wf G → ltL G.length ws → match f' ws G with
  | .ok w G' => ∃ J, f ws G = .ok w (G' ++ J) ∧ w.lt G'.length ∧ Wf G' ∧ G.length ≤ G'.length
  | .exc x G' => ∃ J, f ws G = .exc x (G' ++ J) ∧ ltL G'.length (x.fs.map (·.2)) ∧ Wf G' ∧ G.length ≤ G'.length
  | .stuck => True
theorem AbsX.cut {K : Kw} {ρ : List Addr} {H : Hp} {n : Nat} {x : Xn} {c : Value} {d : Option Addr} (h : AbsX K ρ H x c d) (l : ltL n (x.fs.map (·.2))) : AbsX K (ρ.take n) H x c d := by
  obtain ⟨e, h⟩ := h
  refine ⟨e, ?_⟩
  obtain ⟨C, fs⟩ := x
  cases fs with
  | nil => exact h
  | cons f fs =>
    obtain ⟨a, vs, e1, na, e2, q⟩ := h
    exact ⟨a, vs, e1, fun m => na (List.mem_of_mem_take m), e2, q.cut _ l⟩
theorem LfF.wk {K : Kw} {f f' : DF} (h : Wk f f') {vs : List V} {H : Hp} {Q : VK} {E : XK} (q : LfF K f' vs H Q E) : LfF K f vs H Q E := by
  obtain ⟨ρ, G, ws, r, l, a⟩ := q
  refine ⟨ρ, G, ws, r, l, ?_⟩
  have hl : ltL G.length ws := by
    have := l.lt
    rwa [r.len] at this
  have hw := h ws G r.wf hl
  cases e : f' ws G with
  | ok w G' =>
    rw [e] at a hw
    obtain ⟨J, e1, lw, wf, ln⟩ := hw
    rw [e1]
    intro ρ' H' v g r' av
    refine a (ρ'.take G'.length) H' v (g.cut (by rw [r.len]; exact ln)) (r'.cut wf) (av.cut _ lw)
  | exc x G' =>
    rw [e] at a hw
    obtain ⟨J, e1, lw, wf, ln⟩ := hw
    rw [e1]
    intro ρ' H' c d g r' av
    exact a (ρ'.take G'.length) H' c d (g.cut (by rw [r.len]; exact ln)) (r'.cut wf) (av.cut lw)
  | stuck => rw [e] at a; exact a.elim
theorem LF.wk {P : Program} {w : World} {K : PySem.W.Frag} {mg : Str → Option Value} {base : Heap} {k : Nat} {f : Addr} {fd : FuncData} {ps : List Str} {F F' : DF} (h : LF P w K mg base k f fd ps F) (hw : Wk F F') : LF P w K mg base k f fd ps F' :=
  ⟨fun vs H Q E q => h.len vs H Q E (q.wk hw), fun A outer s H args us vs Q E r g e0 b v q => h.run A outer s H args us vs Q E r g e0 b v (q.wk hw)⟩
theorem LF.mono {P : Program} {w : World} {K : PySem.W.Frag} {mg : Str → Option Value} {base : Heap} {j k : Nat} {f : Addr} {fd : FuncData} {ps : List Str} {F : DF} (h : LF P w K mg base j f fd ps F) (hj : j ≤ k) : LF P w K mg base k f fd ps F :=
  ⟨h.len, fun A outer s H args us vs Q E r => h.run A outer s H args us vs Q E (r.mono hj)⟩
/-! ### calls of defs -/
section
variable {X : Cx} {Wx : WX} {k : Nat} {f : Addr} {fd : FuncData} {ps : List Str} {F : DF} {x : Str} {p pos : Pos} {e : Expr} {es : List Expr} {ds : DA}
def dCall (F : DF) (ds : DA) : DE := fun σ => bnd (ds σ) F
/-- the callee, by values -/
theorem run_lf {pins : List (Addr × Obj)} {σ : L2.St} {H : Hp} {s : Shared} {Q : VK} {us : List Value} {vs : List V} (c : Ctx X Wx k) (G : LF X.prog X.w X.K X.mg X.base k f fd ps F) (hb : Binds X.K fd ps [])
    (I : Inv X pins σ H s) (r : Vals vs us) (h : LfF X.kw F vs H Q (WE Wx σ)) : wpAny (model X.prog X.w) X.A (call (.ref f) us) (EP X pins σ Q) X.xe s := by
  have ln : us.length = ps.length := r.length.symm.trans (G.len _ _ _ _ h)
  have bound : BindsTo s fd ⟨us, []⟩ (ps.zip us) := by
    have z := hb s us I.kIn (by simpa using ln)
    simpa using z
  refine wpAny_call (codeAny_mono (G.run X.A X.stack s H ⟨us, []⟩ us vs Q (WE Wx σ) c.rm c.gd I.env0 bound r h) ?_)
  intro res s' q
  match res, q with
  | .error e, q => exact passAt c.tk σ pins H s e s' I q
  | .ok (.ret u), q => exact I.after q
theorem le_call (c : Ctx X Wx k) (G : LF X.prog X.w X.K X.mg X.base k f fd ps F) (hg : Gl X x) (hm : X.mg x = some (.ref f)) (hk : PySem.W.keepIn X.K (.ref f) = true) (hb : Binds X.K fd ps [])
    (ha : LA X Wx (e :: es) ds) (hdb : (x == ("__debug__" : Str)) = false := by decide) (he : starEach (e :: es) X.env = (false, eval e X.env) :: starEach es X.env := by rfl) (hpl : (backTo pos (starEach es X.env)).any (·.1) = false := by rfl) :
    LE X Wx (.Call (.Name x p) (e :: es) [] pos) (dCall F ds) := by
  refine ⟨fun pins s σ H Q I h => wpAny_Call_Name_kw (ld_glob I hg hm ?_ hdb)⟩
  have args := ha.run pos pins s σ H _ I (Lf.bnd (R1 := AbsL X.kw) h)
  refine PySem.W.callWith_K (h₀ := X.base) I.ok.mod.kin hk (thn args ?_) he hpl
  rintro us s1 ⟨vs, H1, I1, rv, ρ1, σd, G1, ws, r1, s2, al, q1⟩
  refine ⟨I1.kIn, run_lf c G hb I1 rv ⟨ρ1, G1, ws, r1, al, ?_⟩⟩
  cases q : F ws G1 with
  | ok w G' => rw [q] at q1; exact q1
  | exc x G' => rw [q] at q1; exact q1
  | stuck => rw [q] at q1; exact q1
end
/-! ### built-ins by values -/
section
variable {X : Cx} {Wx : WX} {x : Str} {p pos : Pos} {e : Expr} {es : List Expr} {ds : DA} {id T : String}
def lfC (K : Kw) (d : DF) : List V → Hp → VK → Prop := fun vs H Q => ∃ ρ G ws, RG K ρ H G ∧ AbsL K ρ H ws vs ∧ Aft K (Abs K) W0 [] ρ H Q (d ws G)
def dCallB (F : DF) (ds : DA) : DE := fun σ => bnd (ds σ) fun ws => noX (F ws)
theorem lfC_ok {K : Kw} {F : DF} {σ : L2.St} {H : Hp} {Q : VK} (h : Lf K (Abs K) Wx (dCallB F ds) σ H Q) : tCB (lfC K F) (Lf K (AbsL K) Wx ds) σ H Q :=
  (Lf.bnd (R1 := AbsL K) h).mono fun vs H1 ⟨ρ1, σd, G1, ws, r1, s1, al, q1⟩ => ⟨ρ1, G1, ws, r1, al, q1.noX⟩
theorem le_callB {F : DF} (hc : CallR X (.builtin id) (lfC X.kw F)) (hg : Gl X x) (hm : X.mg x = none) (hv : bootBuiltins x = some (.builtin id)) (ha : LA X Wx (e :: es) ds) (hn : x ≠ "__name__" := by decide) (hdb : (x == ("__debug__" : Str)) = false := by decide)
    (he : starEach (e :: es) X.env = (false, eval e X.env) :: starEach es X.env := by rfl) (hpl : (backTo pos (starEach es X.env)).any (·.1) = false := by rfl) : LE X Wx (.Call (.Name x p) (e :: es) [] pos) (dCallB F ds) :=
  PE.imp (pe_callB hc hg hm hv ha hn hdb he hpl) fun _ _ _ => lfC_ok
theorem le_callTy {F : DF} (hc : CallR X (.type T) (lfC X.kw F)) (hg : Gl X x) (hm : X.mg x = none) (hv : bootBuiltins x = some (.type T)) (ha : LA X Wx (e :: es) ds) (hn : x ≠ "__name__" := by decide) (hdb : (x == ("__debug__" : Str)) = false := by decide)
    (he : starEach (e :: es) X.env = (false, eval e X.env) :: starEach es X.env := by rfl) (hpl : (backTo pos (starEach es X.env)).any (·.1) = false := by rfl) : LE X Wx (.Call (.Name x p) (e :: es) [] pos) (dCallB F ds) :=
  PE.imp (pe_callTy hc hg hm hv ha hn hdb he hpl) fun _ _ _ => lfC_ok
end
end Dn
end
section
set_option Elab.async false
set_option backward.match.sparseCases false
set_option linter.all false
set_option maxRecDepth 100000
set_option maxHeartbeats 2000000
namespace Dn
open PySem L2
/-! ### sources -/
def getL (n : Nat) : Nat → Gh → Option (Option W) := fun i G => match G[n]? with
  | some (.lst ws) => some ws[i]?
  | _ => none
def getS (ws : List W) : Nat → Gh → Option (Option W) := fun i _ => some ws[i]?
/-- a list, a tuple, walked -/
def srcOf (w : W) : M Src := fun G => match w with
  | .ref n => match G[n]? with
    | some (.lst ws) => .ok ⟨ws.length + 1, getL n, none⟩ G
    | _ => .stuck
  | .tup ws => .ok ⟨ws.length + 1, getS ws, none⟩ G
  | .rol ws => .ok ⟨ws.length + 1, getS ws, none⟩ G
  | .str x => .ok ⟨x.cps.size + 1, getS (x.cps.toList.map fun c => .str ⟨#[c]⟩), none⟩ G
  | _ => .stuck
def iSeq (d : DE) : DI := fun σ => bnd (d σ) srcOf
def getR (lo : Int) (n : Nat) : Nat → Gh → Option (Option W) := fun i _ => some (if i < n then some (.int (lo + i)) else none)
def srcR1 : List W → M Src := fun ws G => match ws with
  | [.int j] => if -(2 ^ 62) ≤ j ∧ j < 2 ^ 62 then .ok ⟨j.toNat + 1, getR 0 j.toNat, none⟩ G else .stuck
  | _ => .stuck
def srcR2 : List W → M Src := fun ws G => match ws with
  | [.int i, .int j] => if -(2 ^ 62) ≤ i ∧ i < 2 ^ 62 ∧ -(2 ^ 62) ≤ j ∧ j < 2 ^ 62 then .ok ⟨(j - i).toNat + 1, getR i (j - i).toNat, none⟩ G else .stuck
  | _ => .stuck
def iR1 (d : DA) : DI := fun σ => bnd (d σ) srcR1
def iR2 (d : DA) : DI := fun σ => bnd (d σ) srcR2
section
variable {K : Kw} {ρ ρ' : List Addr} {H H' : Hp} {G : Gh}
theorem RG.lst (r : RG K ρ H G) {n : Nat} {a : Addr} {ws : List W} (e : ρ[n]? = some a) (g : G[n]? = some (.lst ws)) : ∃ vs, H a = some (.lst vs) ∧ AbsL K ρ H ws vs := r.ob n _ a g e
theorem src_list {n f : Nat} {a : Addr} (e : ρ[n]? = some a) : SrcOk K ρ H ⟨f, getL n, none⟩ (Itl K.1 a) := fun ρ' H' G i g r => by
  show match getL n i G with
    | none => True
    | some none => (Itl K.1 a).stop i H'
    | some (some w) => (Itl K.1 a).go i H' ∧ ∀ x H'', (Itl K.1 a).yld i H' x H'' → Go ρ' ρ' H' H'' ∧ RG K ρ' H'' G ∧ Abs K ρ' H'' w x
  unfold getL
  cases q : G[n]? with
  | none => trivial
  | some o =>
    cases o with
    | dct _ _ => trivial
    | ins _ _ => trivial
    | rsv => trivial
    | lst ws =>
      obtain ⟨vs, h, l⟩ := r.lst (g.ix e) q
      show match (some ws[i]? : Option (Option W)) with
        | none => True
        | some none => (Itl K.1 a).stop i H'
        | some (some w) => (Itl K.1 a).go i H' ∧ ∀ x H'', (Itl K.1 a).yld i H' x H'' → Go ρ' ρ' H' H'' ∧ RG K ρ' H'' G ∧ Abs K ρ' H'' w x
      cases z : ws[i]? with
      | none =>
        refine ⟨vs, SqL.of h, ?_⟩
        rw [← l.len]
        exact List.getElem?_eq_none_iff.mp z
      | some w =>
        obtain ⟨v, hv, av⟩ := l.get z
        refine ⟨⟨vs, v, SqL.of h, hv⟩, fun x H'' y => ?_⟩
        obtain ⟨rfl, y⟩ := y
        have := y vs (SqL.of h)
        rw [hv] at this; cases this
        exact ⟨.refl, r, av⟩
theorem src_tup {f : Nat} {b : Addr} {ws : List W} {vs : List V} (st : StT ρ H b vs) (l : AbsL K ρ H ws vs) : SrcOk K ρ H ⟨f, getS ws, none⟩ (Itt K.1 b) := fun ρ' H' G i g r => by
  have st' := st.go g.toGo0
  have l' := l.go g
  show match (some ws[i]? : Option (Option W)) with
    | none => True
    | some none => (Itt K.1 b).stop i H'
    | some (some w) => (Itt K.1 b).go i H' ∧ ∀ x H'', (Itt K.1 b).yld i H' x H'' → Go ρ' ρ' H' H'' ∧ RG K ρ' H'' G ∧ Abs K ρ' H'' w x
  cases z : ws[i]? with
  | none =>
    refine ⟨vs, st'.sq, ?_⟩
    rw [← l.len]
    exact List.getElem?_eq_none_iff.mp z
  | some w =>
    obtain ⟨v, hv, av⟩ := l'.get z
    refine ⟨⟨vs, v, st'.sq, hv⟩, fun x H'' y => ?_⟩
    obtain ⟨rfl, y⟩ := y
    have := y vs st'.sq
    rw [hv] at this; cases this
    exact ⟨.refl, r, av⟩
theorem src_rol {f : Nat} {b : Addr} {ws : List W} {vs : List V} (st : StL K ρ H b vs) (l : AbsL K ρ H ws vs) : SrcOk K ρ H ⟨f, getS ws, none⟩ (Itl K.1 b) := fun ρ' H' G i g r => by
  have st' := st.go g.toGo0
  have l' := l.go g
  show match (some ws[i]? : Option (Option W)) with
    | none => True
    | some none => (Itl K.1 b).stop i H'
    | some (some w) => (Itl K.1 b).go i H' ∧ ∀ x H'', (Itl K.1 b).yld i H' x H'' → Go ρ' ρ' H' H'' ∧ RG K ρ' H'' G ∧ Abs K ρ' H'' w x
  cases z : ws[i]? with
  | none =>
    refine ⟨vs, st'.sq, ?_⟩
    rw [← l.len]
    exact List.getElem?_eq_none_iff.mp z
  | some w =>
    obtain ⟨v, hv, av⟩ := l'.get z
    refine ⟨⟨vs, v, st'.sq, hv⟩, fun x H'' y => ?_⟩
    obtain ⟨rfl, y⟩ := y
    have := y vs st'.sq
    rw [hv] at this; cases this
    exact ⟨.refl, r, av⟩
theorem src_str {f : Nat} {x : Str} : SrcOk K ρ H ⟨f, getS (x.cps.toList.map fun c => .str ⟨#[c]⟩), none⟩ (Its x) := fun ρ' H' G i g r => by
  show match (some (x.cps.toList.map fun c => W.str ⟨#[c]⟩)[i]? : Option (Option W)) with
    | none => True
    | some none => (Its x).stop i H'
    | some (some w) => (Its x).go i H' ∧ ∀ v H'', (Its x).yld i H' v H'' → Go ρ' ρ' H' H'' ∧ RG K ρ' H'' G ∧ Abs K ρ' H'' w v
  rw [List.getElem?_map]
  cases z : x.cps.toList[i]? with
  | none =>
    have := List.getElem?_eq_none_iff.mp z
    show x.cps.size ≤ i
    simpa using this
  | some c =>
    have h := (List.getElem?_eq_some_iff.mp z).1
    refine ⟨by show i < x.cps.size; simpa using h, fun v H'' y => ?_⟩
    obtain ⟨rfl, c', hc, rfl⟩ := y
    have : x.cps.toList[i]? = some c' := by simpa using hc
    rw [z] at this; cases this
    exact ⟨.refl, r, by simp [Abs]⟩
theorem src_rng {f n : Nat} {lo : Int} : SrcOk K ρ H ⟨f, getR lo n, none⟩ (Itr lo n) := fun ρ' H' G i g r => by
  show match getR lo n i G with
    | none => True
    | some none => (Itr lo n).stop i H'
    | some (some w) => (Itr lo n).go i H' ∧ ∀ v H'', (Itr lo n).yld i H' v H'' → Go ρ' ρ' H' H'' ∧ RG K ρ' H'' G ∧ Abs K ρ' H'' w v
  unfold getR
  by_cases h : i < n
  · rw [if_pos h]
    refine ⟨h, fun v H'' y => ?_⟩
    obtain ⟨rfl, rfl⟩ := y
    exact ⟨.refl, r, by simp [Abs]⟩
  · rw [if_neg h]
    exact Nat.le_of_not_lt h
end
section
variable {X : Cx} {Wx : WX} {pos : Pos} {tg e : Expr} {d : DE} {ds : DA}
theorem RG.nk {pins : List (Addr × Obj)} {σ : St} {H : Hp} {s : Shared} (I : Inv X pins σ H s) {a : Addr} {u : HO} (h : H a = some u) (hm : ∀ o v, u ≠ .frz o v) : X.K.lookup a = none := by
  cases e : X.K.lookup a with
  | none => rfl
  | some o =>
    have b := I.ok.mod.kin a o e
    have := (I.bs a o b).2
    rw [h] at this; cases this
theorem li_seq (he : LE X Wx e d) : LI X Wx tg e (iSeq d) := ⟨fun pins s σ H R I h => by
  obtain ⟨ρ, σd, G, r, sd, a⟩ := id h
  have hh := Lf.bnd (R1 := Abs X.kw) h
  unfold iSeq Dn.bnd at a
  cases q : d σd G with
  | exc x G' =>
    rw [q] at a
    refine wpAny_mono (he.run pins s σ H (fun _ _ => False) I ⟨ρ, σd, G, r, sd, ?_⟩) (fun v s1 z => ?_) fun _ _ z => z
    · rw [q]; exact a
    · obtain ⟨_, _, _, _, z⟩ := z; exact z.elim
  | stuck => rw [q] at a; exact a.elim
  | ok w G' =>
    rw [q] at a
    dsimp only at a
    cases w with
    | ref n =>
      refine (pi_list he).run pins s σ H R I ⟨ρ, σd, G, r, sd, ?_⟩
      rw [q]
      intro ρ1 H1 v g r1 av
      obtain ⟨b, hb, rfl⟩ := av
      unfold srcOf at a
      cases z : G'[n]? with
      | none => simp only [z] at a; exact a.elim
      | some o =>
        simp only [z] at a
        cases o with
        | dct _ _ => exact a.elim
        | ins _ _ => exact a.elim
        | rsv => exact a.elim
        | lst ws =>
          obtain ⟨vs, hv, l⟩ := r1.lst hb z
          exact ⟨b, rfl, ⟨vs, SqL.of hv⟩, a ρ1 H1 _ g r1 (src_list hb)⟩
    | tup ws =>
      refine (pi_tup he).run pins s σ H R I ⟨ρ, σd, G, r, sd, ?_⟩
      rw [q]
      intro ρ1 H1 v g r1 av
      obtain ⟨b, vs, rfl, st, l⟩ := av
      exact ⟨b, rfl, ⟨vs, st.sq⟩, a ρ1 H1 _ g r1 (src_tup st l)⟩
    | rol ws =>
      refine (pi_list he).run pins s σ H R I ⟨ρ, σd, G, r, sd, ?_⟩
      rw [q]
      intro ρ1 H1 v g r1 av
      obtain ⟨b, vs, rfl, st, l⟩ := av
      exact ⟨b, rfl, ⟨vs, st.sq⟩, a ρ1 H1 _ g r1 (src_rol st l)⟩
    | str x =>
      refine (pi_str he).run pins s σ H R I ⟨ρ, σd, G, r, sd, ?_⟩
      rw [q]
      intro ρ1 H1 v g r1 av
      simp only [Abs] at av
      exact ⟨x, av, a ρ1 H1 _ g r1 src_str⟩
    | _ => exact a.elim⟩
theorem li_range1 {a : Expr} {p : Pos} (hg : Gl X "range") (hm : X.mg "range" = none) (ha : LA X Wx [a] ds) (hs : starEach [a] X.env = [(false, eval a X.env)] := by rfl) : LI X Wx tg (.Call (.Name "range" p) [a] [] pos) (iR1 ds) := PI.imp (pi_range1 hg hm ha hs) fun σ H R h =>
  (Lf.bnd (R1 := AbsL X.kw) h).mono fun vs H1 ⟨ρ1, σd, G1, ws, r1, s1, al, q1⟩ => by
    unfold srcR1 at q1
    split at q1
    · rename_i j
      obtain ⟨v, r, rfl, a1, a2⟩ := al
      simp only [Abs] at a1
      simp only [AbsL] at a2
      subst a1
      subst a2
      split at q1
      · rename_i hj
        exact ⟨j, rfl, hj.1, hj.2, q1 ρ1 H1 _ .refl r1 src_rng⟩
      · exact q1.elim
    · exact q1.elim
theorem li_range2 {a b : Expr} {p : Pos} (hg : Gl X "range") (hm : X.mg "range" = none) (ha : LA X Wx [a, b] ds) (hs : starEach [a, b] X.env = [(false, eval a X.env), (false, eval b X.env)] := by rfl) (hs2 : starEach [b] X.env = [(false, eval b X.env)] := by rfl) :
    LI X Wx tg (.Call (.Name "range" p) [a, b] [] pos) (iR2 ds) := PI.imp (pi_range2 hg hm ha hs hs2) fun σ H R h =>
  (Lf.bnd (R1 := AbsL X.kw) h).mono fun vs H1 ⟨ρ1, σd, G1, ws, r1, s1, al, q1⟩ => by
    unfold srcR2 at q1
    split at q1
    · rename_i i j
      obtain ⟨v, r, rfl, a1, v', r', rfl, a2, a3⟩ := al
      simp only [Abs] at a1 a2
      simp only [AbsL] at a3
      subst a1
      subst a2
      subst a3
      split at q1
      · rename_i hj
        exact ⟨i, j, rfl, hj, q1 ρ1 H1 _ .refl r1 src_rng⟩
      · exact q1.elim
    · exact q1.elim
/-! ### comprehensions -/
def wipeD (σ : Loc) : List Nat → Loc
  | [] => σ
  | v :: vs => (wipeD σ vs).set v none
/-- one clause: the list at D grows -/
def loopC (get : Nat → Gh → Option (Option W)) (g : Tgt) (t : DT) (e : DE) (σ : Loc) (D : Nat) : Nat → Nat → Gh → Out Unit
  | 0, _, _ => .stuck
  | m + 1, i, G => match get i G with
    | none => .stuck
    | some none => .ok () G
    | some (some w) => match g.set w σ with
      | none => .stuck
      | some σ1 => match t σ1 G with
        | .ok false G1 => loopC get g t e σ D m (i + 1) G1
        | .ok true G1 => match e σ1 G1 with
          | .ok w1 G2 => match G2[D]? with
            | some (.lst acc) => if acc.length < 16777216 then loopC get g t e σ D m (i + 1) (G2.set D (.lst (acc ++ [w1]))) else .stuck
            | _ => .stuck
          | _ => .stuck
        | _ => .stuck
def dLc (src : DI) (g : Tgt) (t : DT) (e : DE) (vs : List Nat) : DE := fun σ G => match src σ G with
  | .ok s G1 => if lockFree s.lk G = true then match loopC s.get g t e (wipeD σ vs) G1.length s.fuel 0 (G1 ++ [.lst []]) with
    | .ok _ G' => match unlkG s.lk G' with
      | some G2 => .ok (.ref G1.length) G2
      | none => .stuck
    | _ => .stuck
    else .stuck
  | .exc x G1 => .exc x G1
  | .stuck => .stuck
def dYes : DT := fun _ => ret true
theorem AbsS.wipe {K : Kw} {ρ : List Addr} {H : Hp} {σ : St} {σd : Loc} (s : AbsS K ρ H σd σ) : ∀ vs, AbsS K ρ H (wipeD σd vs) (L2.wipe σ vs)
  | [] => s
  | v :: vs => by
    have ih := AbsS.wipe s vs
    refine ⟨by show ((wipeD σd vs).set v none).length = ((L2.wipe σ vs).set v none).length; rw [List.length_set, List.length_set]; exact ih.1, fun i w e => ?_⟩
    show ∃ x, ((L2.wipe σ vs).set v none)[i]? = some (some x) ∧ _
    have e' : ((wipeD σd vs).set v none)[i]? = some (some w) := e
    by_cases q : v = i
    · subst q
      by_cases hv : v < (wipeD σd vs).length
      · rw [List.getElem?_set_self hv] at e'; cases e'
      · rw [List.getElem?_eq_none (by simpa using hv)] at e'; cases e'
    · rw [List.getElem?_set_ne q] at e'
      rw [List.getElem?_set_ne q]
      exact ih.2 i w e'
theorem tLc_ok {X : Cx} {src : DI} {g : Tgt} {t : DT} {el : DE} {vs : List Nat} (hv : ∀ i ∈ g.ix, i ∈ vs) {σ : St} {H : Hp} {Q : VK} (h : Lf X.kw (Abs X.kw) Wx (dLc src g t el vs) σ H Q) (fz : FzIn X H) :
    tLc (LfI X.kw Wx src) (hgT X.kw g) (Lf X.kw RB W0 t) (Lf X.kw (Abs X.kw) W0 el) vs σ H fun v H' => ∃ H'', Re X H' H'' ∧ Q v H'' := by
  obtain ⟨ρ, σd, G, r, s, a⟩ := h
  refine ⟨ρ, σd, G, r, s, ?_⟩
  unfold dLc at a
  cases e0 : src σd G with
  | stuck => rw [e0] at a; exact a.elim
  | exc x G1 => rw [e0] at a; exact a
  | ok sr G1 =>
  rw [e0] at a
  dsimp only at a
  by_cases hf : lockFree sr.lk G = true
  case neg => rw [if_neg hf] at a; exact a.elim
  rw [if_pos hf] at a
  intro ρ1 H1 J g1 r1 sok D hD
  have s1 := s.go g1
  -- the rest from a turn on ends well
  let End : Out Unit → List Addr → Hp → Prop := fun o ρ' H' => match o with
    | .ok _ G' => ∀ ρ2 H2, Go ρ' ρ2 H' H2 → RG X.kw ρ2 H2 G' → ∃ H'', Re X H2 H'' ∧ Q (.ref D) H''
    | _ => False
  have Egd : ∀ {o : Out Unit} {ρa ρb : List Addr} {Ha Hb : Hp}, Go ρa ρb Ha Hb → End o ρa Ha → End o ρb Hb := fun {o ρa ρb Ha Hb} gg e => by
    cases o with
    | ok _ G' => exact fun ρ2 H2 g2 r2 => e ρ2 H2 (gg.trans g2) r2
    | exc _ _ => exact e
    | stuck => exact e
  have gD : Go ρ1 (ρ1 ++ [D]) H1 (upd H1 D (.lst [])) := Go.add r1 hD
  have rD : RG X.kw (ρ1 ++ [D]) (upd H1 D (.lst [])) (G1 ++ [.lst []]) := r1.add hD ⟨[], upd_same, rfl⟩
  have xD : (ρ1 ++ [D])[G1.length]? = some D := by rw [← r1.len, List.getElem?_append_right (Nat.le_refl _), Nat.sub_self] <;> rfl
  refine ⟨fun i m H' => ∃ ρ' G', Go ρ1 ρ' H1 H' ∧ RG X.kw ρ' H' G' ∧ ρ'[G1.length]? = some D ∧ SrcOk X.kw ρ' H' sr J ∧ End (loopC sr.get g t el (wipeD σd vs) G1.length m i G') ρ' H', ⟨sr.fuel, ρ1 ++ [D], G1 ++ [.lst []], gD, rD, xD, sok.go gD, ?_⟩, ?_⟩
  · cases e : loopC sr.get g t el (wipeD σd vs) G1.length sr.fuel 0 (G1 ++ [.lst []]) with
    | ok u G' =>
      rw [e] at a
      dsimp only at a
      cases hu : unlkG sr.lk G' with
      | none => rw [hu] at a; exact a.elim
      | some Gf =>
        rw [hu] at a
        intro ρ2 H2 g2 r2
        obtain ⟨H'', re, r3, g3, _⟩ := unlk_ok fz r (g1.trans (gD.trans g2)) r2 hf hu
        exact ⟨H'', re, a ρ2 H'' _ g3 r3 ⟨D, g2.ix xD, rfl⟩⟩
    | exc _ _ => rw [e] at a; exact a
    | stuck => rw [e] at a; exact a
  · rintro i m H' ⟨ρ', G', g', r', xd, sok', en⟩
    cases m with
    | zero => exact en.elim
    | succ m =>
      have so := sok' ρ' H' G' i .refl r'
      unfold loopC at en
      cases e : sr.get i G' with
      | none => rw [e] at en; exact en.elim
      | some o =>
        rw [e] at en so
        cases o with
        | none => exact .inl ⟨so, en ρ' H' .refl r'⟩
        | some w =>
          refine .inr ⟨so.1, fun H2 => ∃ ρ2 G2, Go ρ1 ρ2 H1 H2 ∧ RG X.kw ρ2 H2 G2 ∧ ρ2[G1.length]? = some D ∧ SrcOk X.kw ρ2 H2 sr J ∧ End (loopC sr.get g t el (wipeD σd vs) G1.length m (i + 1) G2) ρ2 H2, fun H2 h2 => ⟨m, Nat.lt_succ_self m, h2⟩, fun x H2 y => ?_⟩
          obtain ⟨gg, r2, ax⟩ := so.2 x H2 y
          dsimp only at en
          cases e2 : g.set w (wipeD σd vs) with
          | none => rw [e2] at en; exact en.elim
          | some σ1 =>
            rw [e2] at en
            dsimp only at en
            obtain ⟨σ3, s3, hw, hq⟩ := hgT_ok (((s1.go g').go gg).wipe vs) ax e2
            refine hq _ ⟨?_, ρ', σ1, G', r2, s3, ?_⟩
            · have hww : ∀ (us : List Nat), L2.wipe (L2.wipe σ us) us = L2.wipe σ us := by
                intro us
                have gen : ∀ (us ws : List Nat), (∀ i ∈ ws, i ∈ us) → L2.wipe (L2.wipe σ ws) us = L2.wipe σ us := by
                  intro us ws
                  induction ws with
                  | nil => intro _; rfl
                  | cons a ws ih =>
                    intro hm
                    show L2.wipe ((L2.wipe σ ws).set a none) us = L2.wipe σ us
                    rw [wipe_set (hm a List.mem_cons_self), ih fun i hi => hm i (List.mem_cons_of_mem _ hi)]
                exact gen us us fun _ h => h
              rw [hw vs hv, hww]
            cases e3 : t σ1 G' with
            | exc _ _ => rw [e3] at en; exact en.elim
            | stuck => rw [e3] at en; exact en.elim
            | ok b G3 =>
              rw [e3] at en
              intro ρ3 H3 b' g3 r3 eb
              cases eb
              cases b with
              | false => exact ⟨ρ3, G3, (g'.trans gg).trans g3, r3, g3.ix xd, (sok'.go gg).go g3, Egd (gg.trans g3) en⟩
              | true =>
                dsimp only at en
                refine ⟨ρ3, σ1, G3, r3, s3.go g3, ?_⟩
                cases e4 : el σ1 G3 with
                | exc _ _ => rw [e4] at en; exact en.elim
                | stuck => rw [e4] at en; exact en.elim
                | ok w1 G4 =>
                  rw [e4] at en
                  intro ρ4 H4 v4 g4 r4 a4
                  dsimp only at en
                  have xd4 := g4.ix (g3.ix xd)
                  cases e5 : G4[G1.length]? with
                  | none => rw [e5] at en; exact en.elim
                  | some o =>
                    rw [e5] at en
                    cases o with
                    | dct _ _ => exact en.elim
                    | ins _ _ => exact en.elim
                    | rsv => exact en.elim
                    | lst acc =>
                      dsimp only at en
                      obtain ⟨av, hav, la⟩ := r4.lst xd4 e5
                      by_cases hz : acc.length < 16777216
                      · rw [if_pos hz] at en
                        refine ⟨av, hav, by rw [← la.len, sizeLine_eq]; exact hz, ρ4, G4.set G1.length (.lst (acc ++ [w1])), ?_, ?_, xd4, ?_, ?_⟩
                        · exact (((g'.trans gg).trans g3).trans g4).trans (Go.put r4 xd4 (nofz hav))
                        · exact r4.put xd4 ⟨av ++ [v4], upd_same, (la.append (AbsL.one a4)).go (Go.put r4 xd4 (nofz hav))⟩
                        · exact (((sok'.go gg).go g3).go g4).go (Go.put r4 xd4 (nofz hav))
                        · exact Egd (((gg.trans g3).trans g4).trans (Go.put r4 xd4 (nofz hav))) en
                      · rw [if_neg hz] at en; exact en.elim
end
end Dn
end
section
set_option Elab.async false
set_option backward.match.sparseCases false
set_option linter.all false
set_option maxRecDepth 100000
set_option maxHeartbeats 2000000
namespace Dn
open PySem L2
/-! ### operators by deep values -/
def addW : D2 := fun x y G => match x, y with
  | .int i, .int j => .ok (.int (i + j)) G
  | .str i, .str j => if i.length + j.length ≤ 16777216 then .ok (.str (i ++ j)) G else .stuck
  | .tup a, .tup b => if a.length + b.length ≤ 16777216 then .ok (.tup (a ++ b)) G else .stuck
  | .ref a, .ref b => match G[a]?, G[b]? with
    | some (.lst xs), some (.lst ys) => if xs.length + ys.length ≤ 16777216 then .ok (.ref G.length) (G ++ [.lst (xs ++ ys)]) else .stuck
    | _, _ => .stuck
  | _, _ => .stuck
def subW : D2 := fun x y G => match x, y with
  | .int i, .int j => .ok (.int (i - j)) G
  | _, _ => .stuck
def rept (ws : List W) : Nat → List W
  | 0 => []
  | n + 1 => ws ++ rept ws n
def mulW : D2 := fun x y G => match x, y with
  | .int i, .int j => if (-(2 ^ 64) < i ∧ i < 2 ^ 64) ∨ (-(2 ^ 64) < j ∧ j < 2 ^ 64) then .ok (.int (i * j)) G else .stuck
  | .ref a, .int k => match G[a]? with
    | some (.lst xs) => if -(2 ^ 63) ≤ k ∧ k < 2 ^ 63 ∧ xs.length * k.toNat ≤ 16777216 then .ok (.ref G.length) (G ++ [.lst (rept xs k.toNat)]) else .stuck
    | _ => .stuck
  | _, _ => .stuck
def fdivW : D2 := fun x y G => match x, y with
  | .int i, .int j => if 0 < j ∧ j < 1073741824 then .ok (.int (i / j)) G else .stuck
  | _, _ => .stuck
def modW : D2 := fun x y G => match x, y with
  | .int i, .int j => if 0 < j then .ok (.int (i % j)) G else .stuck
  | _, _ => .stuck
def powW : D2 := fun x y G => match x, y with
  | .int i, .int j => if 0 ≤ j ∧ j ≤ 1000000 ∧ i.natAbs < 2 ^ 64 then .ok (.int (i ^ j.toNat)) G else .stuck
  | _, _ => .stuck
/-- the order of texts, of numbers -/
def ltW : D2 := fun x y G => match x, y with
  | .int i, .int j => .ok (.bl (decide (i < j))) G
  | .str i, .str j => .ok (.bl (decide (i.cps.toList < j.cps.toList))) G
  | _, _ => .stuck
def leW : D2 := fun x y G => match x, y with
  | .int i, .int j => .ok (.bl (decide (i ≤ j))) G
  | .str i, .str j => .ok (.bl (!decide (j.cps.toList < i.cps.toList))) G
  | _, _ => .stuck
def gtW : D2 := fun x y => ltW y x
def geW : D2 := fun x y => leW y x
def negW : W → M W := fun x G => match x with
  | .int i => .ok (.int (-i)) G
  | _ => .stuck
def isNonW (neg : Bool) : W → M W := fun x G => match x with
  | .non => .ok (.bl (!neg)) G
  | _ => .ok (.bl neg) G
section
variable {K : Kw} {ρ : List Addr} {H : Hp} {G : Gh}
theorem Aft.bad {α β : Type} {R : RR α β} {Wx : WX} {σ : St} {Q : β → Hp → Prop} {P : Prop} (h : Aft K R Wx σ ρ H Q .stuck) : P := False.elim h
theorem rept_flat (ws : List W) (vs : List V) (l : AbsL K ρ H ws vs) : ∀ n, AbsL K ρ H (rept ws n) (List.replicate n vs).flatten
  | 0 => by simp [rept, AbsL]
  | n + 1 => by
    simp only [List.replicate_succ, List.flatten_cons]
    exact l.append (rept_flat ws vs l n)
theorem rept_len (ws : List W) : ∀ n, (rept ws n).length = ws.length * n
  | 0 => by simp [rept]
  | n + 1 => by rw [rept, List.length_append, rept_len ws n, Nat.mul_succ, Nat.add_comm]
/-- a new list's end -/
theorem new_lst {Wx : WX} {σ : St} {Q : VK} (r : RG K ρ H G) {ws : List W} {vs : List V} (l : AbsL K ρ H ws vs) (q : Aft K (Abs K) Wx σ ρ H Q (.ok (.ref G.length) (G ++ [.lst ws]))) (p : Addr) (hp : H p = none) : Q (.ref p) (upd H p (.lst vs)) :=
  q (ρ ++ [p]) _ _ (Go.add r hp) (r.add hp ⟨vs, upd_same, l.go (Go.add r hp)⟩) ⟨p, by rw [← r.len, List.getElem?_append_right (Nat.le_refl _), Nat.sub_self] <;> rfl, rfl⟩
theorem new_tup {Wx : WX} {σ : St} {Q : VK} (r : RG K ρ H G) {ws : List W} {vs : List V} (l : AbsL K ρ H ws vs) (q : Aft K (Abs K) Wx σ ρ H Q (.ok (.tup ws) G)) (p : Addr) (hp : H p = none) : Q (.ref p) (upd H p (.tup vs)) :=
  q ρ _ _ (Go.new hp) (r.new hp) ⟨p, vs, rfl, ⟨r.fresh hp, upd_same⟩, l.go (Go.new hp)⟩
end
section
variable {X : Cx}
theorem op_addW : OpR X (binaryOp .Add) (lf2 X.kw addW) := by
  intro pins s σ H x y v u Q I rx ry ⟨ρ, G, wx, wy, r, ax, ay, q⟩
  unfold addW at q
  split at q
  · simp only [Abs] at ax ay
    exact op_add pins s σ H _ _ v u Q I rx ry ⟨_, _, ax, ay, q ρ H _ .refl r (by simp [Abs])⟩
  · simp only [Abs] at ax ay
    split at q
    · rename_i hz
      exact op_add_str pins s σ H _ _ v u Q I rx ry ⟨_, _, ax, ay, line_of hz, q ρ H _ .refl r (by simp [Abs])⟩
    · exact q.bad
  · rename_i wa wb
    obtain ⟨a, vs, rfl, st, l⟩ := ax
    obtain ⟨b, us, rfl, su, l2⟩ := ay
    split at q
    · rename_i hz
      refine op_catA pins s σ H _ _ v u Q I rx ry ⟨a, b, vs, us, rfl, rfl, st.sq, su.sq, by rw [← l.len, ← l2.len]; exact line_of hz, fun e => ?_, fun _ e => ?_, fun _ _ p hp => new_tup r (l.append l2) q p hp⟩
      · subst e
        have z : wa = [] := List.eq_nil_of_length_eq_zero l.len
        subst z
        exact q ρ H _ .refl r ⟨b, us, rfl, su, l2⟩
      · subst e
        have z : wb = [] := List.eq_nil_of_length_eq_zero l2.len
        subst z
        rw [List.append_nil] at q
        exact q ρ H _ .refl r ⟨a, vs, rfl, st, l⟩
    · exact q.bad
  · obtain ⟨a, ea, rfl⟩ := ax
    obtain ⟨b, eb, rfl⟩ := ay
    split at q
    · rename_i xs ys g1 g2
      obtain ⟨vs, h1, l1⟩ := r.lst ea g1
      obtain ⟨us, h2, l2⟩ := r.lst eb g2
      split at q
      · rename_i hz
        exact op_cat pins s σ H _ _ v u Q I rx ry ⟨a, b, vs, us, rfl, rfl, h1, h2, by rw [← l1.len, ← l2.len]; exact line_of hz, fun p hp => new_lst r (l1.append l2) q p hp⟩
      · exact q.bad
    · exact q.bad
  · exact q.bad
theorem op_subW : OpR X (binaryOp .Sub) (lf2 X.kw subW) := by
  intro pins s σ H x y v u Q I rx ry ⟨ρ, G, wx, wy, r, ax, ay, q⟩
  unfold subW at q
  split at q
  · simp only [Abs] at ax ay
    exact op_sub pins s σ H _ _ v u Q I rx ry ⟨_, _, ax, ay, q ρ H _ .refl r (by simp [Abs])⟩
  · exact q.bad
theorem op_mulW : OpR X (binaryOp .Mult) (lf2 X.kw mulW) := by
  intro pins s σ H x y v u Q I rx ry ⟨ρ, G, wx, wy, r, ax, ay, q⟩
  unfold mulW at q
  split at q
  · simp only [Abs] at ax ay
    split at q
    · rename_i hz
      exact op_mul pins s σ H _ _ v u Q I rx ry ⟨_, _, ax, ay, hz, q ρ H _ .refl r (by simp [Abs])⟩
    · exact q.bad
  · obtain ⟨a, ea, rfl⟩ := ax
    simp only [Abs] at ay
    split at q
    · rename_i xs g1
      obtain ⟨vs, h1, l1⟩ := r.lst ea g1
      split at q
      · rename_i hz
        exact op_rep pins s σ H _ _ v u Q I rx ry ⟨a, _, vs, rfl, ay, h1, hz.1, hz.2.1, by rw [← l1.len]; exact line_of hz.2.2, fun p hp => new_lst r (rept_flat _ _ l1 _) q p hp⟩
      · exact q.bad
    · exact q.bad
  · exact q.bad
theorem op_fdivW : OpR X (binaryOp .FloorDiv) (lf2 X.kw fdivW) := by
  intro pins s σ H x y v u Q I rx ry ⟨ρ, G, wx, wy, r, ax, ay, q⟩
  unfold fdivW at q
  split at q
  · simp only [Abs] at ax ay
    split at q
    · rename_i hz
      exact op_fdiv pins s σ H _ _ v u Q I rx ry ⟨_, _, ax, ay, hz, q ρ H _ .refl r (by simp [Abs])⟩
    · exact q.bad
  · exact q.bad
theorem op_modW : OpR X (binaryOp .Mod) (lf2 X.kw modW) := by
  intro pins s σ H x y v u Q I rx ry ⟨ρ, G, wx, wy, r, ax, ay, q⟩
  unfold modW at q
  split at q
  · simp only [Abs] at ax ay
    split at q
    · rename_i hz
      exact op_mod pins s σ H _ _ v u Q I rx ry ⟨_, _, ax, ay, hz, q ρ H _ .refl r (by simp [Abs])⟩
    · exact q.bad
  · exact q.bad
theorem op_powW : OpR X (binaryOp .Pow) (lf2 X.kw powW) := by
  intro pins s σ H x y v u Q I rx ry ⟨ρ, G, wx, wy, r, ax, ay, q⟩
  unfold powW at q
  split at q
  · simp only [Abs] at ax ay
    split at q
    · rename_i hz
      exact op_pow pins s σ H _ _ v u Q I rx ry ⟨_, _, ax, ay, hz, q ρ H _ .refl r (by simp [Abs])⟩
    · exact q.bad
  · exact q.bad
theorem op_ltW : OpR X (compareOp .Lt) (lf2 X.kw ltW) := by
  intro pins s σ H x y v u Q I rx ry ⟨ρ, G, wx, wy, r, ax, ay, q⟩
  unfold ltW at q
  split at q
  · simp only [Abs] at ax ay
    exact op_lt pins s σ H _ _ v u Q I rx ry ⟨_, _, ax, ay, q ρ H _ .refl r (by simp [Abs])⟩
  · simp only [Abs] at ax ay
    exact op_lt_str pins s σ H _ _ v u Q I rx ry ⟨_, _, ax, ay, q ρ H _ .refl r (by simp [Abs])⟩
  · exact q.bad
theorem op_leW : OpR X (compareOp .LtE) (lf2 X.kw leW) := by
  intro pins s σ H x y v u Q I rx ry ⟨ρ, G, wx, wy, r, ax, ay, q⟩
  unfold leW at q
  split at q
  · simp only [Abs] at ax ay
    exact op_le pins s σ H _ _ v u Q I rx ry ⟨_, _, ax, ay, q ρ H _ .refl r (by simp [Abs])⟩
  · simp only [Abs] at ax ay
    exact op_le_str pins s σ H _ _ v u Q I rx ry ⟨_, _, ax, ay, q ρ H _ .refl r (by simp [Abs])⟩
  · exact q.bad
theorem op_gtW : OpR X (compareOp .Gt) (lf2 X.kw gtW) := by
  intro pins s σ H x y v u Q I rx ry ⟨ρ, G, wx, wy, r, ax, ay, q⟩
  unfold gtW ltW at q
  split at q
  · simp only [Abs] at ax ay
    exact op_gt pins s σ H _ _ v u Q I rx ry ⟨_, _, ax, ay, q ρ H _ .refl r (by simp [Abs])⟩
  · simp only [Abs] at ax ay
    exact op_gt_str pins s σ H _ _ v u Q I rx ry ⟨_, _, ax, ay, q ρ H _ .refl r (by simp [Abs])⟩
  · exact q.bad
theorem op_geW : OpR X (compareOp .GtE) (lf2 X.kw geW) := by
  intro pins s σ H x y v u Q I rx ry ⟨ρ, G, wx, wy, r, ax, ay, q⟩
  unfold geW leW at q
  split at q
  · simp only [Abs] at ax ay
    exact op_ge pins s σ H _ _ v u Q I rx ry ⟨_, _, ax, ay, q ρ H _ .refl r (by simp [Abs])⟩
  · simp only [Abs] at ax ay
    exact op_ge_str pins s σ H _ _ v u Q I rx ry ⟨_, _, ax, ay, q ρ H _ .refl r (by simp [Abs])⟩
  · exact q.bad
end
/-! ### comprehensions, in full -/
section
variable {X : Cx} {Wx : WX} {k : Nat} {pos : Pos} {e : Expr} {d : DE} {t : DT}
theorem Ctx.blk (c : Ctx X Wx k) {s : Shared} {H : Hp} {scope : Scope} {env : Env} {fp : List Addr} : Ctx (X.blk s H scope env fp) W0 k := ⟨takes0, PassesOwn.never, c.calm, c.nd, c.rm, c.gd, c.sm⟩
abbrev LTs (X : Cx) (ifs : List Expr) (t : DT) : Prop := PTs X ifs (Lf X.kw RB W0 t)
theorem lts_nil : LTs X [] dYes := ⟨fun pins s σ H Q I h => by
  obtain ⟨ρ, σd, G, r, sd, a⟩ := h
  exact pts_nil.run pins s σ H Q I (a ρ H true .refl r rfl)⟩
theorem lts_one {c : Expr} (h : LT X W0 c t) : LTs X [c] t := pts_one h
theorem le_lc {elt tg iter : Expr} {ifs : List Expr} {scope : Scope} {own : List (Str × Nat)} {src : DI} {g : Tgt} (c : Ctx X Wx k) (hi : LI X Wx tg iter src) (ok : blkC X.N X.env.scope scope own = true) (hv : ∀ i ∈ g.ix, i ∈ own.map (·.2))
    (hg : ∀ (s : Shared) (H : Hp) (C : Addr) (cl : List (Str × Addr)) (fp : List Addr), PG (X.blk s H scope (compEnvC scope cl C X.env) fp) tg (hgT X.kw g))
    (ht : ∀ (s : Shared) (H : Hp) (C : Addr) (cl : List (Str × Addr)) (fp : List Addr), Ctx (X.blk s H scope (compEnvC scope cl C X.env) fp) W0 k → LTs (X.blk s H scope (compEnvC scope cl C X.env) fp) ifs t)
    (he : ∀ (s : Shared) (H : Hp) (C : Addr) (cl : List (Str × Addr)) (fp : List Addr), Ctx (X.blk s H scope (compEnvC scope cl C X.env) fp) W0 k → LE (X.blk s H scope (compEnvC scope cl C X.env) fp) W0 elt d)
    (hs : ∀ x, foldedSetIterable iter X.env x = pure x := by intro _; rfl) : LE X Wx (.ListComp elt [⟨tg, iter, ifs, 0⟩] scope pos) (dLc src g t d (own.map (·.2))) :=
  PE.imp (pe_fz (pe_lc c.calm c.nd hi (blkOk_by ok) hg (fun s H C cl fp => ht s H C cl fp c.blk) (fun s H C cl fp => he s H C cl fp c.blk) hs)) fun _ _ _ h fz => tLc_ok hv h fz
theorem ls_setLc {i : Nat} {y : Str} {py spos : Pos} {elt tg iter : Expr} {ifs : List Expr} {scope : Scope} {own : List (Str × Nat)} {src : DI} {g : Tgt} (c : Ctx X Wx k) (hy : X.N[i]? = some y) (hyl : X.env.scope.names.lookup y = some .local)
    (hsw : swapsWith (.ListComp elt [⟨tg, iter, ifs, 0⟩] scope pos) (some (.Name y py)) spos.line X.env = pure true) (hi : LI X Wx tg iter src) (ok : blkC X.N X.env.scope scope own = true) (hv : ∀ i ∈ g.ix, i ∈ own.map (·.2))
    (hg : ∀ (s : Shared) (H : Hp) (C : Addr) (cl : List (Str × Addr)) (fp : List Addr), PG (X.blk s H scope (compEnvC scope cl C X.env) fp) tg (hgT X.kw g))
    (ht : ∀ (s : Shared) (H : Hp) (C : Addr) (cl : List (Str × Addr)) (fp : List Addr), Ctx (X.blk s H scope (compEnvC scope cl C X.env) fp) W0 k → LTs (X.blk s H scope (compEnvC scope cl C X.env) fp) ifs t)
    (he : ∀ (s : Shared) (H : Hp) (C : Addr) (cl : List (Str × Addr)) (fp : List Addr), Ctx (X.blk s H scope (compEnvC scope cl C X.env) fp) W0 k → LE (X.blk s H scope (compEnvC scope cl C X.env) fp) W0 elt d)
    (hs : ∀ x, foldedSetIterable iter X.env x = pure x := by intro _; rfl) : LS X Wx (.Assign [.Name y py] (.ListComp elt [⟨tg, iter, ifs, 0⟩] scope pos) spos) (sAsg (dLc src g t d (own.map (·.2))) (gV i)) :=
  PS.imp (ps_fz (ps_setLc c.calm c.nd hy hyl hsw hi (blkOk_by ok) hg (fun s H C cl fp => ht s H C cl fp c.blk) (fun s H C cl fp => he s H C cl fp c.blk) hs)) fun D σ H h fz =>
    tLc_ok hv ((LfS.of h).mono fun v H1 ⟨ρ1, σd, G1, w, r1, s1, aw, q⟩ => q ρ1 H1 _ .refl r1 (s1.set aw i)) fz
end
end Dn
end
section
set_option Elab.async false
set_option backward.match.sparseCases false
set_option linter.all false
set_option maxRecDepth 100000
set_option maxHeartbeats 2000000
namespace Dn
open PySem L2
/-! ### items and slices -/
def ixOf (n : Nat) (i : Int) : Option Nat := if 0 ≤ i then (if i < n then some i.toNat else none) else if -(n : Int) ≤ i then some (i + n).toNat else none
theorem ixOf_eq (n : Nat) (i : Int) : ixOf n i = ixN n i := by
  unfold ixOf ixN
  first | rfl | (split <;> split <;> first | rfl | (try split) <;> simp_all <;> omega)
def ixW : D2 := fun x y G => match x, y with
  | .ref n, .int i => match G[n]? with
    | some (.lst ws) => match (ixOf ws.length i).bind (ws[·]?) with
      | some w => .ok w G
      | none => .stuck
    | _ => .stuck
  | .tup ws, .int i => match (ixOf ws.length i).bind (ws[·]?) with
      | some w => .ok w G
      | none => .stuck
  | .rol ws, .int i => match (ixOf ws.length i).bind (ws[·]?) with
      | some w => .ok w G
      | none => .stuck
  | .str x, .int i => if x.length ≤ 16777216 then match (ixOf x.cps.toList.length i).bind (x.cps.toList[·]?) with
      | some c => .ok (.str ⟨#[c]⟩) G
      | none => .stuck
    else .stuck
  | _, _ => .stuck
def cutW (ws : List W) (lo hi : Option Int) : List W := (ws.drop (HT.sIx ws.length 0 lo)).take (HT.sIx ws.length ws.length hi - HT.sIx ws.length 0 lo)
def slW (x : W) (lo hi : Option Int) : M W := fun G => match x with
  | .ref n => match G[n]? with
    | some (.lst ws) => .ok (.ref G.length) (G ++ [.lst (cutW ws lo hi)])
    | _ => .stuck
  | .rol ws => .ok (.ref G.length) (G ++ [.lst (cutW ws lo hi)])
  | .tup ws => .ok (.tup (cutW ws lo hi)) G
  | _ => .stuck
abbrev DO := Loc → M (Option Int)
def dNoPart : DO := fun _ => ret none
def dPart (d : DE) : DO := fun σ => bnd (d σ) fun w G => match w with
  | .int i => .ok (some i) G
  | _ => .stuck
def dSl (x : DE) (lo hi : DO) : DE := fun σ => bnd (x σ) fun w => bnd (lo σ) fun l => bnd (hi σ) fun h => noX (slW w l h)
section
variable {K : Kw} {ρ : List Addr} {H : Hp} {G : Gh}
theorem cut_abs {ws : List W} {vs : List V} (l : AbsL K ρ H ws vs) (lo hi : Option Int) : AbsL K ρ H (cutW ws lo hi) (cutV vs lo hi) := by
  unfold cutW cutV
  rw [l.len]
  exact (l.drop _).take _
theorem atI_of {α : Type} {xs : List α} {i : Int} {j : Nat} {x : α} (h : ixOf xs.length i = some j) (hx : xs[j]? = some x) : atI xs i = some x := by
  rw [ixOf_eq] at h
  unfold atI
  rw [h]
  exact hx
end
section
variable {X : Cx} {Wx : WX} {pos p2 : Pos} {a b e : Expr} {da db d : DE} {lo hi : Option Expr} {dl dh : DO}
theorem ix_W : IxR X (lf2 X.kw ixW) := by
  intro value slice pins s σ H x y v u Q I rx ry ⟨ρ, G, wx, wy, r, ax, ay, q⟩ hs
  unfold ixW at q
  split at q
  · rename_i n i
    simp only [Abs] at ay
    obtain ⟨p, ep, rfl⟩ := ax
    split at q
    · rename_i ws g
      obtain ⟨vs, hv, l⟩ := r.lst ep g
      cases ej : ixOf ws.length i with
      | none => rw [ej] at q; exact q.bad
      | some j =>
        rw [ej] at q
        cases ew : ws[j]? with
        | none => simp only [Option.bind, ew] at q; exact q.bad
        | some w =>
          simp only [Option.bind, ew] at q
          obtain ⟨z, ez, az⟩ := l.get ew
          rw [l.len] at ej
          exact ix_list value slice pins s σ H _ _ v u Q I rx ry ⟨p, vs, i, z, rfl, ay, SqL.of hv, atI_of ej ez, q ρ H _ .refl r az⟩ hs
    · exact q.bad
  · rename_i ws i
    simp only [Abs] at ay
    obtain ⟨p, vs, rfl, st, l⟩ := ax
    cases ej : ixOf ws.length i with
    | none => rw [ej] at q; exact q.bad
    | some j =>
      rw [ej] at q
      cases ew : ws[j]? with
      | none => simp only [Option.bind, ew] at q; exact q.bad
      | some w =>
        simp only [Option.bind, ew] at q
        obtain ⟨z, ez, az⟩ := l.get ew
        rw [l.len] at ej
        exact ix_tup value slice pins s σ H _ _ v u Q I rx ry ⟨p, vs, i, z, rfl, ay, st.sq, atI_of ej ez, q ρ H _ .refl r az⟩ hs
  · rename_i ws i
    simp only [Abs] at ay
    obtain ⟨p, vs, rfl, st, l⟩ := ax
    cases ej : ixOf ws.length i with
    | none => rw [ej] at q; exact q.bad
    | some j =>
      rw [ej] at q
      cases ew : ws[j]? with
      | none => simp only [Option.bind, ew] at q; exact q.bad
      | some w =>
        simp only [Option.bind, ew] at q
        obtain ⟨z, ez, az⟩ := l.get ew
        rw [l.len] at ej
        exact ix_list value slice pins s σ H _ _ v u Q I rx ry ⟨p, vs, i, z, rfl, ay, st.sq, atI_of ej ez, q ρ H _ .refl r az⟩ hs
  · rename_i x i
    simp only [Abs] at ax ay
    split at q
    · rename_i hz
      cases ej : ixOf x.cps.toList.length i with
      | none => rw [ej] at q; exact q.bad
      | some j =>
        rw [ej] at q
        cases ew : x.cps.toList[j]? with
        | none => simp only [Option.bind, ew] at q; exact q.bad
        | some c =>
          simp only [Option.bind, ew] at q
          exact ix_str value slice pins s σ H _ _ v u Q I rx ry ⟨x, i, c, ax, ay, line_of hz, atI_of ej ew, q ρ H _ .refl r (by simp [Abs])⟩ hs
    · exact q.bad
  · exact q.bad
theorem le_ix (ha : LE X Wx a da) (hb : LE X Wx b db) (hs : PlainIx b := by intro _ _; rfl) : LE X Wx (.Subscript a b pos) (d2 (fun x y => noX (ixW x y)) da db) :=
  PE.imp (pe_ix ix_W ha hb hs) fun _ _ _ => lf2_tOp
abbrev RO : RR (Option Int) (Option Int) := fun _ _ a b => a = b
abbrev LO (X : Cx) (Wx : WX) (e : Option Expr) (d : DO) : Prop := PO X e (Lf X.kw RO Wx d)
theorem PO.imp {e : Option Expr} {t t' : TO} (h : PO X e t) (i : ∀ σ H Q, t' σ H Q → t σ H Q) : PO X e t' := ⟨fun p s σ H Q I q => h.run p s σ H Q I (i σ H Q q)⟩
theorem lo_none : LO X Wx none dNoPart := PO.imp po_none fun σ H Q ⟨ρ, σd, G, r, s, q⟩ => q ρ H none .refl r rfl
theorem lo_some (h : LE X Wx e d) : LO X Wx (some e) (dPart d) := PO.imp (po_some h) fun σ H Q h =>
  (Lf.bnd (R1 := Abs X.kw) h).mono fun x H1 ⟨ρ1, σd, G1, wx, r1, s1, ax, q1⟩ => by
    cases wx with
    | int i =>
      simp only [Abs] at ax
      exact ⟨i, ax, q1 ρ1 H1 _ .refl r1 rfl⟩
    | _ => exact q1.elim
theorem cutW_id {ws : List W} {lo hi : Option Int} (h : HT.sIx ws.length 0 lo = 0 ∧ HT.sIx ws.length ws.length hi = ws.length) : cutW ws lo hi = ws := by
  unfold cutW
  rw [h.1, h.2, List.drop_zero, Nat.sub_zero, List.take_length]
def rSlW (K : Kw) : V → Option Int → Option Int → Hp → VK → Prop := fun x lo hi H Q => ∃ ρ G wx, RG K ρ H G ∧ Abs K ρ H wx x ∧ Aft K (Abs K) W0 [] ρ H Q (slW wx lo hi G)
theorem sl_W : SlR X (rSlW X.kw) := by
  intro pins s σ H x v vl vu lo hi sl Q I rx hs pl pu ⟨ρ, G, wx, r, ax, q⟩
  unfold slW at q
  split at q
  · obtain ⟨p, ep, rfl⟩ := ax
    split at q
    · rename_i ws g
      obtain ⟨vs, hv, l⟩ := r.lst ep g
      exact sl_list pins s σ H _ v vl vu lo hi sl Q I rx hs pl pu ⟨p, vs, rfl, SqL.of hv, fun p hp => new_lst r (cut_abs l lo hi) q p hp⟩
    · exact q.bad
  · obtain ⟨p, vs, rfl, st, l⟩ := ax
    exact sl_list pins s σ H _ v vl vu lo hi sl Q I rx hs pl pu ⟨p, vs, rfl, st.sq, fun p hp => new_lst r (cut_abs l lo hi) q p hp⟩
  · rename_i ws
    obtain ⟨p, vs, rfl, st, l⟩ := ax
    refine sl_tupA pins s σ H _ v vl vu lo hi sl Q I rx hs pl pu ⟨p, vs, rfl, st.sq, fun hw => ?_, fun _ p hp => new_tup r (cut_abs l lo hi) q p hp⟩
    rw [← l.len] at hw
    rw [cutW_id hw] at q
    exact q ρ H _ .refl r ⟨p, vs, rfl, st, l⟩
  · exact q.bad
theorem le_sl (ha : LE X Wx a da) (hl : LO X Wx lo dl) (hh : LO X Wx hi dh) : LE X Wx (.Subscript a (.Slice lo hi none p2) pos) (dSl da dl dh) := PE.imp (pe_slice sl_W ha hl hh) fun σ H Q h =>
  (Lf.bnd (R1 := Abs X.kw) h).mono fun x H1 ⟨ρ1, σd, G1, wx, r1, s1, ax, q1⟩ =>
    ⟨ρ1, σd, G1, r1, s1, (Aft.bnd (R1 := RO) q1).mono fun l H2 ⟨ρ2, G2, l', g2, r2, el, q2⟩ => by
      cases el
      exact ⟨ρ2, σd, G2, r2, s1.go g2, (Aft.bnd (R1 := RO) q2).mono fun h H3 ⟨ρ3, G3, h', g3, r3, eh, q3⟩ => by
        cases eh
        exact ⟨ρ3, G3, wx, r3, ax.go (g2.trans g3), q3.noX⟩⟩⟩
/-! ### name op= e; xs[i] = v; xs[i] op= e -/
def sAug (i : Nat) (d : DE) (f : D2) : DS := fun σ => match σ[i]? with
  | some (some x) => sOf (bnd (d σ) fun y => noX (f x y)) σ fun w σ G => .nx (σ.set i (some w)) G
  | _ => fun _ => .stuck
theorem LfS.ofE {K : Kw} {ρ : List Addr} {H : Hp} {G : Gh} {σ : St} {σd : Loc} {D : Ends} {d : M W} {f : W → M W} {k : W → DS} (r : RG K ρ H G) (s : AbsS K ρ H σd σ) (h : AftS K Wx ρ H D (sOf (bnd d f) σd k G)) :
    Aft K (Abs K) Wx σ ρ H (fun y H1 => ∃ ρ1 G1 wy, Go ρ ρ1 H H1 ∧ RG K ρ1 H1 G1 ∧ Abs K ρ1 H1 wy y ∧ AftS K Wx ρ1 H1 D (sOf (f wy) σd k G1)) (d G) := by
  unfold sOf Dn.bnd at h
  cases e : d G with
  | ok w G1 =>
    rw [e] at h
    refine fun ρ1 H1 v g r1 q => ⟨ρ1, G1, w, g, r1, q, ?_⟩
    unfold sOf
    exact AftS.go g h
  | exc x G1 =>
    rw [e] at h
    exact fun ρ1 H1 c d g r q => h ρ1 H1 σ c d g r (s.go g) q
  | stuck => rw [e] at h; exact h.elim
def addI : D2 := fun x y G => match x, y with
  | .int i, .int j => .ok (.int (i + j)) G
  | _, _ => .stuck
/-- an operator that changes in place -/
theorem ls_aug {i : Nat} {x : Str} {op : Operator} {f : D2} {pos' : Pos} {k : Nat} (c : Ctx X Wx k) (hi : X.N[i]? = some x) (hx : L2.Loc X.env.scope x) (he : LE X Wx e d) (ho : PIp X op (lf2 X.kw f))
    (hf : X.fn x = true ∨ X.env.scope.names.lookup x = some .local := by first | exact .inl rfl | exact .inr rfl) : LS X Wx (.AugAssign (.Name x pos') op e pos) (sAug i d f) := PS.imp (ps_aug c.nd hi hx he ho hf) fun D σ H ⟨ρ, σd, G, r, s, q⟩ => by
  unfold sAug at q
  cases ei : σd[i]? with
  | none => rw [ei] at q; exact q.elim
  | some o =>
    rw [ei] at q
    cases o with
    | none => exact q.elim
    | some w =>
      obtain ⟨v, ev, av⟩ := s.2 i w ei
      refine ⟨v, ev, ρ, σd, G, r, s, (LfS.ofE r s q).mono fun y H1 ⟨ρ1, G1, wy, g1, r1, ay, q1⟩ => ?_⟩
      refine ⟨ρ1, G1, w, wy, r1, av.go g1, ay, ?_⟩
      unfold sOf noX at q1
      cases ef : f w wy G1 with
      | ok z G2 =>
        rw [ef] at q1
        exact fun ρ2 H2 b g2 r2 ab => q1 ρ2 H2 _ g2 r2 (((s.go g1).go g2).set ab i)
      | exc _ _ => rw [ef] at q1; exact q1.elim
      | stuck => rw [ef] at q1; exact q1.elim
theorem ip_of {op : Operator} {f : D2} (h : OpR X (inplaceOp op) (lf2 X.kw f)) : PIp X op (lf2 X.kw f) := h
theorem ip_addI : PIp X .Add (lf2 X.kw addI) := by
  intro pins s σ H x y v u Q I rx ry ⟨ρ, G, wx, wy, r, ax, ay, q⟩
  unfold addI at q
  split at q
  · simp only [Abs] at ax ay
    exact ip_add pins s σ H _ _ v u Q I rx ry ⟨_, _, ax, ay, q ρ H _ .refl r (by simp [Abs])⟩
  · exact q.bad
theorem ip_subI : PIp X .Sub (lf2 X.kw subW) := by
  intro pins s σ H x y v u Q I rx ry ⟨ρ, G, wx, wy, r, ax, ay, q⟩
  unfold subW at q
  split at q
  · simp only [Abs] at ax ay
    exact ip_sub pins s σ H _ _ v u Q I rx ry ⟨_, _, ax, ay, q ρ H _ .refl r (by simp [Abs])⟩
  · exact q.bad
end
end Dn
end
section
set_option Elab.async false
set_option backward.match.sparseCases false
set_option linter.all false
set_option maxRecDepth 100000
set_option maxHeartbeats 2000000
namespace Dn
open PySem L2
/-! ### methods of built-in types -/
def tyW (T : String) (x : W) (G : Gh) : Bool := match x with
  | .str _ => T == "str"
  | .ref n => match G[n]? with
    | some (.lst _) => T == "list"
    | some (.dct _ _) => T == "dict"
    | _ => false
  | _ => false
abbrev DM := W → List W → M W
def dMeth (T : String) (f : DM) (o : DE) (a : DA) : DE := fun σ => bnd (o σ) fun x G => if tyW T x G = true then bnd (a σ) (fun ws => noX (f x ws)) G else .stuck
def lfM (K : Kw) (f : DM) : V → List V → Hp → VK → Prop := fun x xs H Q => ∃ ρ G wx ws, RG K ρ H G ∧ Abs K ρ H wx x ∧ AbsL K ρ H ws xs ∧ Aft K (Abs K) W0 [] ρ H Q (f wx ws G)
section
variable {X : Cx} {Wx : WX} {pins : List (Addr × Obj)} {σ : St} {H : Hp} {s : Shared} {ρ : List Addr} {G : Gh}
/-- what a dict is described by -/
theorem dct_rd (r : RG X.kw ρ H G) {n : Nat} {b : Addr} {lk : Bool} {kvs : List (W × W)} (eb : ρ[n]? = some b) (g : G[n]? = some (.dct lk kvs)) : ∃ u, DForm X.kw ρ H b kvs u ∧ Rd H b u := by
  obtain ⟨u, f, e⟩ := r.ob _ _ b g eb
  cases lk with
  | false => exact ⟨u, f, .inl e⟩
  | true => exact ⟨u, f, .inr e⟩
theorem dct_obj (I : Inv X pins σ H s) (r : RG X.kw ρ H G) {n : Nat} {b : Addr} {lk : Bool} {kvs : List (W × W)} (eb : ρ[n]? = some b) (g : G[n]? = some (.dct lk kvs)) : ∃ o, s.heap.get? b = some o ∧ o.ExactDict := by
  obtain ⟨u, f, e⟩ := dct_rd r eb g
  have ok := e.ok I.hok
  rcases f with ⟨fk, rfl, _⟩ | ⟨xs, rfl, _⟩
  · obtain ⟨_, _, _, _, o, _, _, e, ex, _⟩ := ok
    exact ⟨o, e, ex⟩
  · obtain ⟨⟨o, _, _, e, ex, _⟩, _⟩ := ok
    exact ⟨o, e, ex⟩
theorem tyW_is (I : Inv X pins σ H s) (r : RG X.kw ρ H G) {T : String} {w : W} {x : V} {v : Value} (a : Abs X.kw ρ H w x) (rx : RelV x v) (h : tyW T w G = true) :
    s.TypeIs v T ∧ ∀ b, v = .ref b → ∃ ob, s.heap.get? b = some ob ∧ ob.dict = none := by
  unfold tyW at h
  split at h
  · rw [beq_iff_eq] at h
    simp only [Abs] at a
    subst a
    exact tyV_is I rx (show tyV X.K T (.str _) H from h)
  · obtain ⟨b, eb, rfl⟩ := a
    split at h
    · rename_i ws g
      rw [beq_iff_eq] at h
      obtain ⟨vs, hv, _⟩ := r.lst eb g
      exact tyV_is I rx (show tyV X.K T (.ref b) H from .inl ⟨h, vs, SqL.of hv⟩)
    · rename_i lk kvs g
      rw [beq_iff_eq] at h
      subst h
      cases rx
      have z := dct_obj I r eb g
      obtain ⟨o, e, ex⟩ := z
      exact ⟨⟨o, e, ex.1⟩, fun c ec => by cases ec; exact ⟨o, e, ex.2.1⟩⟩
    · cases h
  · cases h
/-- no star among the arguments -/
def NoStars (es : List Expr) (env : Env) : Prop := starEach es env = es.map fun e => (false, eval e env)
theorem NoStars.tail {e : Expr} {es : List Expr} {env : Env} (free : NoStars (e :: es) env) : NoStars es env := by
  cases e <;> first | exact (List.cons.inj free).2 | exact absurd (congrArg Prod.fst (List.cons.inj free).1) (by decide)
theorem NoStars.cons {e : Expr} {es : List Expr} {env : Env} (free : NoStars (e :: es) env) : starEach (e :: es) env = (false, eval e env) :: starEach es env := by
  rw [show starEach (e :: es) env = _ from free, show starEach es env = _ from free.tail, List.map_cons]
theorem NoStars.any {es : List Expr} {env : Env} (free : NoStars es env) : (starEach es env).any (·.1) = false := by
  rw [show starEach es env = _ from free]
  simp
theorem few_free {e : Expr} {es : List Expr} {env : Env} {pos : Pos} (free : NoStars (e :: es) env) (short : es.length < 28) : (List.all (backTo pos (starEach (e :: es) env)) (fun x => !x.1) && List.all (backToKw pos (keywordEach [] env)) (fun x => x.1.isSome) &&
    decide ((e :: es).length + List.length ([] : List Keyword) + (if List.isEmpty ([] : List Keyword) then 0 else 1) < 30)) = true := by
  rw [show starEach (e :: es) env = _ from free]
  simp [backTo, backToKw, keywordEach]
  omega
/-- the thing whose attribute is asked is no module, class or super() that is treated apart -/
abbrev PlainBase (o : Expr) (name : Str) (env : Env) : Prop := attributeBase o name env (eval o env) = eval o env
variable {o e : Expr} {es : List Expr} {name : Str} {apos cpos : Pos} {T id : String} {f : DM} {d : DE} {da : DA}
/-- o.m() -/
theorem le_meth0 (pa : PlainAttrs T) (slot : Slot T name id) (hty : typeOf (.builtin id) = pure (.type "method_descriptor")) (hm : MtR X id (lfM X.kw f)) (ho : LE X Wx o d)
    (plain : PlainBase o name X.env := by rfl) (row : (apos.endLine == cpos.line) = true := by rfl) : LE X Wx (.Call (.Attribute o name apos) [] [] cpos) (dMeth T f d dNil) := by
  refine ⟨fun pins s σ H Q I h => wpAny_Call_method0_late plain row (thn (ho.run pins s σ H _ I (Lf.bnd (R1 := Abs X.kw) h)) fun v s1 ⟨x, H1, I1, r1, ρ1, σd, G1, wx, g1, s2, ax, q1⟩ => ?_)⟩
  by_cases ht : tyW T wx G1 = true
  · rw [if_pos ht] at q1
    obtain ⟨h1, h2⟩ := tyW_is I1 g1 ax r1 ht
    exact ⟨T, id, pa, slot, hty, h1, h2, Calls.callWith_builtin rfl (PySem.evalArgs_none (hm pins s1 σ H1 x [] v [] Q I1 r1 .nil ⟨ρ1, G1, wx, [], g1, ax, by simp [AbsL], Aft.noX (show Aft X.kw (Abs X.kw) Wx σ ρ1 H1 Q (noX (f wx []) G1) from q1)⟩))⟩
  · rw [if_neg ht] at q1
    exact q1.elim
/-- o.m(..) -/
theorem le_meth (pa : PlainAttrs T) (slot : Slot T name id) (hty : typeOf (.builtin id) = pure (.type "method_descriptor")) (hm : MtR X id (lfM X.kw f)) (ho : LE X Wx o d) (ha : LA X Wx (e :: es) da)
    (plain : PlainBase o name X.env := by rfl) (row : (apos.endLine == cpos.line) = true := by rfl) (free : NoStars (e :: es) X.env := by rfl) (short : es.length < 28 := by decide) :
    LE X Wx (.Call (.Attribute o name apos) (e :: es) [] cpos) (dMeth T f d da) := by
  refine ⟨fun pins s σ H Q I h => wpAny_Call_method_late plain (few_free free short) row rfl (thn (ho.run pins s σ H _ I (Lf.bnd (R1 := Abs X.kw) h)) fun v s1 ⟨x, H1, I1, r1, ρ1, σd, G1, wx, g1, s2, ax, q1⟩ => ?_)⟩
  by_cases ht : tyW T wx G1 = true
  · rw [if_pos ht] at q1
    obtain ⟨isT, own⟩ := tyW_is I1 g1 ax r1 ht
    refine ⟨T, id, pa, slot, hty, isT, own, ?_⟩
    have args := ha.run cpos pins s1 σ H1 _ I1 ⟨ρ1, σd, G1, g1, s2, Aft.bnd (R1 := AbsL X.kw) q1⟩
    rw [free.cons] at args ⊢
    refine Calls.callWith_builtin (by rw [show starEach es X.env = _ from free.tail]; simp [backTo]) (Calls.evalArgs_plain ?_)
    exact thn args fun us s3 ⟨vs, H2, I2, r2, ρ2, G2, ws, g2, rg2, al, q2⟩ => hm pins s3 σ H2 x vs v us Q I2 r1 r2 ⟨ρ2, G2, wx, ws, rg2, ax.go g2, al, q2.noX⟩
  · rw [if_neg ht] at q1
    exact q1.elim
end
/-! ### lists' methods -/
def appendW : DM := fun x ws G => match x, ws with
  | .ref n, [w] => match G[n]? with
    | some (.lst xs) => if xs.length < 16777216 then .ok .non (G.set n (.lst (xs ++ [w]))) else .stuck
    | _ => .stuck
  | _, _ => .stuck
def extendW : DM := fun x ws G => match x, ws with
  | .ref n, [.ref m] => match G[n]?, G[m]? with
    | some (.lst xs), some (.lst ys) => if xs.length + ys.length ≤ 16777216 then .ok .non (G.set n (.lst (xs ++ ys))) else .stuck
    | _, _ => .stuck
  | _, _ => .stuck
def popW : DM := fun x ws G => match x, ws with
  | .ref n, [] => match G[n]? with
    | some (.lst xs) => match xs[xs.length - 1]? with
      | some w => .ok w (G.set n (.lst xs.dropLast))
      | none => .stuck
    | _ => .stuck
  | _, _ => .stuck
def popAtW : DM := fun x ws G => match x, ws with
  | .ref n, [.int i] => match G[n]? with
    | some (.lst xs) => if 0 ≤ i ∧ i < 2 ^ 62 then match xs[i.toNat]? with
      | some w => .ok w (G.set n (.lst (xs.eraseIdx i.toNat)))
      | none => .stuck
      else .stuck
    | _ => .stuck
  | _, _ => .stuck
def insertW : DM := fun x ws G => match x, ws with
  | .ref n, [.int i, w] => match G[n]? with
    | some (.lst xs) => if 0 ≤ i ∧ i < 2 ^ 62 ∧ xs.length < 16777216 then .ok .non (G.set n (.lst (xs.take i.toNat ++ [w] ++ xs.drop i.toNat))) else .stuck
    | _ => .stuck
  | _, _ => .stuck
def clearW : DM := fun x ws G => match x, ws with
  | .ref n, [] => match G[n]? with
    | some (.lst xs) => .ok .non (G.set n (.lst []))
    | _ => .stuck
  | _, _ => .stuck
def reverseW : DM := fun x ws G => match x, ws with
  | .ref n, [] => match G[n]? with
    | some (.lst xs) => .ok .non (G.set n (.lst xs.reverse))
    | _ => .stuck
  | _, _ => .stuck
section
variable {K : Kw} {ρ : List Addr} {H : Hp} {G : Gh}
theorem AbsL.eraseIdx : ∀ {ws : List W} {vs : List V} (i : Nat), AbsL K ρ H ws vs → AbsL K ρ H (ws.eraseIdx i) (vs.eraseIdx i)
  | [], _, i, h => by simp only [AbsL] at h; subst h; simp [AbsL]
  | w :: ws, _, 0, h => by
    simp only [AbsL] at h
    obtain ⟨v, r, rfl, a, h⟩ := h
    exact h
  | w :: ws, _, i + 1, h => by
    simp only [AbsL] at h
    obtain ⟨v, r, rfl, a, h⟩ := h
    exact ⟨v, _, rfl, a, AbsL.eraseIdx i h⟩
theorem AbsL.dropLast {ws : List W} {vs : List V} (h : AbsL K ρ H ws vs) : AbsL K ρ H ws.dropLast vs.dropLast := by
  rw [List.dropLast_eq_take, List.dropLast_eq_take, h.len]
  exact h.take _
theorem AbsL.reverse : ∀ {ws : List W} {vs : List V}, AbsL K ρ H ws vs → AbsL K ρ H ws.reverse vs.reverse
  | [], _, h => by simp only [AbsL] at h; subst h; simp [AbsL]
  | w :: ws, _, h => by
    simp only [AbsL] at h
    obtain ⟨v, r, rfl, a, h⟩ := h
    simp only [List.reverse_cons]
    exact (AbsL.reverse h).append (AbsL.one a)
/-- a list's end, written -/
theorem put_lst {Wx : WX} {σ : St} {Q : VK} (r : RG K ρ H G) {n : Nat} {a : Addr} {ws : List W} {vs : List V} {w : W} {v : V} (e : ρ[n]? = some a) {vs0 : List V} (h0 : H a = some (.lst vs0)) (l : AbsL K ρ H ws vs) (aw : Abs K ρ H w v) (q : Aft K (Abs K) Wx σ ρ H Q (.ok w (G.set n (.lst ws)))) : Q v (upd H a (.lst vs)) :=
  q ρ _ _ (Go.put r e (nofz h0)) (r.put e ⟨vs, upd_same, l.go (Go.put r e (nofz h0))⟩) (aw.go (Go.put r e (nofz h0)))
end
section
variable {X : Cx}
theorem mt_appendW : MtR X "list.append" (lfM X.kw appendW) := by
  intro pins s σ H x xs v us Q I rx rv ⟨ρ, G, wx, ws, r, ax, al, q⟩
  unfold appendW at q
  split at q
  · rename_i n w
    obtain ⟨a, ea, rfl⟩ := ax
    obtain ⟨y, _, rfl, ay, rfl⟩ := al
    split at q
    · rename_i zs g
      obtain ⟨vs, hv, l⟩ := r.lst ea g
      split at q
      · rename_i hz
        exact mt_append pins s σ H _ _ v us Q I rx rv ⟨a, vs, y, rfl, rfl, hv, by rw [← l.len, sizeLine_eq]; exact hz, put_lst r ea hv (l.append (AbsL.one ay)) (by simp [Abs]) q⟩
      · exact q.bad
    · exact q.bad
  · exact q.bad
theorem mt_extendW : MtR X "list.extend" (lfM X.kw extendW) := by
  intro pins s σ H x xs v us Q I rx rv ⟨ρ, G, wx, ws, r, ax, al, q⟩
  unfold extendW at q
  split at q
  · rename_i n m
    obtain ⟨a, ea, rfl⟩ := ax
    obtain ⟨y, _, rfl, ⟨b, eb, rfl⟩, rfl⟩ := al
    split at q
    · rename_i zs ys g1 g2
      obtain ⟨vs, hv, l⟩ := r.lst ea g1
      obtain ⟨ts, ht, l2⟩ := r.lst eb g2
      split at q
      · rename_i hz
        exact mt_extend pins s σ H _ _ v us Q I rx rv ⟨a, b, vs, ts, rfl, rfl, hv, ht, by rw [← l.len, ← l2.len, sizeLine_eq]; exact hz, put_lst r ea hv (l.append l2) (by simp [Abs]) q⟩
      · exact q.bad
    · exact q.bad
  · exact q.bad
theorem mt_popW : MtR X "list.pop" (lfM X.kw popW) := by
  intro pins s σ H x xs v us Q I rx rv ⟨ρ, G, wx, ws, r, ax, al, q⟩
  unfold popW at q
  split at q
  · rename_i n
    obtain ⟨a, ea, rfl⟩ := ax
    simp only [AbsL] at al
    subst al
    split at q
    · rename_i zs g
      obtain ⟨vs, hv, l⟩ := r.lst ea g
      split at q
      · rename_i w ew
        obtain ⟨y, ey, ay⟩ := l.get ew
        rw [l.len] at ey
        exact mt_pop pins s σ H _ _ v us Q I rx rv ⟨a, vs, y, rfl, rfl, hv, ey, put_lst r ea hv l.dropLast ay q⟩
      · exact q.bad
    · exact q.bad
  · exact q.bad
theorem seqIx {i : Int} {n : Nat} (h0 : 0 ≤ i) (h1 : i.toNat < n) : seqIndex? i n = some i.toNat := by
  unfold seqIndex?
  first | (simp; omega) | (split <;> first | (simp; omega) | rfl | omega)
theorem mt_popAtW : MtR X "list.pop" (lfM X.kw popAtW) := by
  intro pins s σ H x xs v us Q I rx rv ⟨ρ, G, wx, ws, r, ax, al, q⟩
  unfold popAtW at q
  split at q
  · rename_i n i
    obtain ⟨a, ea, rfl⟩ := ax
    obtain ⟨y, _, rfl, ay, rfl⟩ := al
    simp only [Abs] at ay
    subst ay
    split at q
    · rename_i zs g
      obtain ⟨vs, hv, l⟩ := r.lst ea g
      split at q
      · rename_i hz
        split at q
        · rename_i w ew
          obtain ⟨y, ey, ay⟩ := l.get ew
          exact mt_popAt pins s σ H _ _ v us Q I rx rv ⟨a, vs, i, i.toNat, y, rfl, rfl, hv, by omega, by omega, seqIx hz.1 (List.getElem?_eq_some_iff.mp ey).1, ey, put_lst r ea hv (l.eraseIdx _) ay q⟩
        · exact q.bad
      · exact q.bad
    · exact q.bad
  · exact q.bad
theorem mt_insertW : MtR X "list.insert" (lfM X.kw insertW) := by
  intro pins s σ H x xs v us Q I rx rv ⟨ρ, G, wx, ws, r, ax, al, q⟩
  unfold insertW at q
  split at q
  · rename_i n i w
    obtain ⟨a, ea, rfl⟩ := ax
    obtain ⟨y, _, rfl, ay, z, _, rfl, az, rfl⟩ := al
    simp only [Abs] at ay
    subst ay
    split at q
    · rename_i zs g
      obtain ⟨vs, hv, l⟩ := r.lst ea g
      split at q
      · rename_i hz
        exact mt_insert pins s σ H _ _ v us Q I rx rv ⟨a, vs, i, z, rfl, rfl, hv, by rw [← l.len, sizeLine_eq]; exact hz.2.2, hz.1, by omega, put_lst r ea hv (((l.take _).append (AbsL.one az)).append (l.drop _)) (by simp [Abs]) q⟩
      · exact q.bad
    · exact q.bad
  · exact q.bad
theorem mt_clearW : MtR X "list.clear" (lfM X.kw clearW) := by
  intro pins s σ H x xs v us Q I rx rv ⟨ρ, G, wx, ws, r, ax, al, q⟩
  unfold clearW at q
  split at q
  · rename_i n
    obtain ⟨a, ea, rfl⟩ := ax
    simp only [AbsL] at al
    subst al
    split at q
    · rename_i zs g
      obtain ⟨vs, hv, l⟩ := r.lst ea g
      exact mt_clear pins s σ H _ _ v us Q I rx rv ⟨a, vs, rfl, rfl, hv, put_lst r ea hv (by simp [AbsL]) (by simp [Abs]) q⟩
    · exact q.bad
  · exact q.bad
theorem mt_reverseW : MtR X "list.reverse" (lfM X.kw reverseW) := by
  intro pins s σ H x xs v us Q I rx rv ⟨ρ, G, wx, ws, r, ax, al, q⟩
  unfold reverseW at q
  split at q
  · rename_i n
    obtain ⟨a, ea, rfl⟩ := ax
    simp only [AbsL] at al
    subst al
    split at q
    · rename_i zs g
      obtain ⟨vs, hv, l⟩ := r.lst ea g
      exact mt_reverse pins s σ H _ _ v us Q I rx rv ⟨a, vs, rfl, rfl, hv, put_lst r ea hv l.reverse (by simp [Abs]) q⟩
    · exact q.bad
  · exact q.bad
end
end Dn
end
section
set_option Elab.async false
set_option backward.match.sparseCases false
set_option linter.all false
set_option maxRecDepth 100000
set_option maxHeartbeats 2000000
namespace Dn
open PySem L2
/-! ### what a value reads as -/
mutual
def datV (rec : Nat → Option PyData) : W → Option PyData
  | .non => some .none
  | .bl b => some (.bool b)
  | .int i => some (.int i)
  | .str x => some (.str x)
  | .ref n => rec n
  | .tup ws => (datVs rec ws).map .tuple
  | .rol _ => none
  | .ty _ => none
  | .obj _ => none
def datVs (rec : Nat → Option PyData) : List W → Option (List PyData)
  | [] => some []
  | w :: ws => match datV rec w, datVs rec ws with
    | some x, some xs => some (x :: xs)
    | _, _ => none
end
def datO (rec : Nat → Option PyData) : GO → Option PyData
  | .lst ws => (datVs rec ws).map .list
  | .dct _ kvs => match datVs rec (kvs.map (·.1)), datVs rec (kvs.map (·.2)) with
    | some ks, some vs => some (.dict (ks.zip vs))
    | _, _ => none
  | .ins _ _ => none
  | .rsv => none
def datR (G : Gh) : Nat → Nat → Option PyData
  | 0, _ => none
  | f + 1, n => match G[n]? with
    | some o => datO (datR G f) o
    | none => none
def datW (G : Gh) (w : W) : Option PyData := datV (datR G 70) w
section
variable {X : Cx} {pins : List (Addr × Obj)} {σ : St} {H : Hp} {s : Shared} {ρ : List Addr} {G : Gh} {rec : Nat → Option PyData}
/-- what a reading leans on is tracked -/
def Trk (H : Hp) (as : List Addr) : Prop := ∀ b ∈ as, ∃ o, H b = some o
def RecOk (s : Shared) (ρ : List Addr) (H : Hp) (rec : Nat → Option PyData) : Prop := ∀ n d a, rec n = some d → ρ[n]? = some a → ∃ as, Reads s.heap (.ref a) d as ∧ Trk H as
theorem Trk.append {as bs : List Addr} (h : Trk H as) (h' : Trk H bs) : Trk H (as ++ bs) := fun b hb => (List.mem_append.mp hb).elim (h b) (h' b)
mutual
theorem readsV (I : Inv X pins σ H s) (hr : RecOk s ρ H rec) : ∀ (w : W) (d : PyData) (v : V) (u : Value), datV rec w = some d → Abs X.kw ρ H w v → RelV v u → ∃ as, Reads s.heap u d as ∧ Trk H as
  | .non, d, v, u, e, a, r => by
    simp only [datV, Option.some.injEq] at e
    simp only [Abs] at a
    subst e a
    cases r
    exact ⟨[], .none, fun b h => nomatch h⟩
  | .bl b, d, v, u, e, a, r => by
    simp only [datV, Option.some.injEq] at e
    simp only [Abs] at a
    subst e a
    cases r
    exact ⟨[], .bool b, fun b h => nomatch h⟩
  | .int i, d, v, u, e, a, r => by
    simp only [datV, Option.some.injEq] at e
    simp only [Abs] at a
    subst e a
    obtain ⟨t, rfl⟩ := r
    exact ⟨[], .int i t, fun b h => nomatch h⟩
  | .str x, d, v, u, e, a, r => by
    simp only [datV, Option.some.injEq] at e
    simp only [Abs] at a
    subst e a
    obtain ⟨t, rfl⟩ := r
    exact ⟨[], .str x t, fun b h => nomatch h⟩
  | .ty _, _, _, _, e, _, _ => by simp [datV] at e
  | .obj _, _, _, _, e, _, _ => by simp [datV] at e
  | .ref n, d, v, u, e, a, r => by
    simp only [datV] at e
    obtain ⟨b, eb, rfl⟩ := a
    cases r
    exact hr n d b e eb
  | .tup ws, d, v, u, e, a, r => by
    simp only [datV] at e
    rcases Option.map_eq_some_iff.mp e with ⟨ds, ed, rfl⟩
    obtain ⟨b, vs, rfl, st, l⟩ := a
    cases r
    obtain ⟨its, rv, ⟨o, ho, hc, n, hd⟩, _⟩ := I.tuple (st.sq (F := X.K))
    obtain ⟨as, h1, h2⟩ := readsVs I hr ws ds vs _ ed l rv
    exact ⟨as, .tuple ho hc hd h1, h2⟩
  | .rol _, _, _, _, e, _, _ => by simp [datV] at e
theorem readsVs (I : Inv X pins σ H s) (hr : RecOk s ρ H rec) : ∀ (ws : List W) (ds : List PyData) (vs : List V) (us : List Value), datVs rec ws = some ds → AbsL X.kw ρ H ws vs → Vals vs us → ∃ as, ReadsAll s.heap us ds as ∧ Trk H as
  | [], ds, vs, us, e, a, r => by
    simp only [datVs, Option.some.injEq] at e
    simp only [AbsL] at a
    subst e a
    cases r
    exact ⟨[], .nil, fun b h => nomatch h⟩
  | w :: ws, ds, vs, us, e, a, r => by
    obtain ⟨v, vs', rfl, a1, a2⟩ := a
    cases r with
    | cons r1 r2 =>
      unfold datVs at e
      split at e
      · rename_i d ds' e1 e2
        cases e
        obtain ⟨as, q1, t1⟩ := readsV I hr w d v _ e1 a1 r1
        obtain ⟨bs, q2, t2⟩ := readsVs I hr ws ds' vs' _ e2 a2 r2
        exact ⟨_, .cons q1 q2, t1.append t2⟩
      · cases e
end
theorem dk_entries : ∀ {es : List DictEntry} {vv : List (Key × Value)} {kvs : List (Key × V)}, Pairs (mixKind X.prog X.w) es vv → KV kvs vv → Vals (kvs.map fun kv => kV kv.1) (es.map (·.key)) ∧ Vals (kvs.map (·.2)) (es.map (·.val))
  | [], _, _, p, r => by
    cases p
    cases r
    exact ⟨.nil, .nil⟩
  | e :: es, _, _, p, r => by
    cases p with
    | cons h1 h2 h3 =>
      cases r with
      | cons q t =>
        obtain ⟨i1, i2⟩ := dk_entries h3 t
        refine ⟨.cons ?_ i1, .cons (by show RelV _ e.val; rw [h2]; exact q.2) i2⟩
        show RelV (kV _) e.key
        rw [q.1]
        rcases keyIs_shape h1 with ⟨i, tk, e1, e2⟩ | ⟨x, tk, e1, e2⟩
        · rw [e1, e2]; exact ⟨tk, rfl⟩
        · rw [e1, e2]; exact ⟨tk, rfl⟩
theorem kW_abs {K : Kw} (k : Key) : Abs K ρ H (kW k) (kV k) := by cases k <;> simp [kW, kV, Abs]
theorem kW_abs' {K : Kw} {w : W} {k : Key} (h : w = kW k) : Abs K ρ H w (kV k) := h ▸ kW_abs k
theorem flat_abs {K : Kw} : ∀ {kvs : List (W × W)} {fk : List (Key × V)}, FP K ρ H kvs fk → AbsL K ρ H (kvs.map (·.1)) (fk.map fun q => kV q.1) ∧ AbsL K ρ H (kvs.map (·.2)) (fk.map fun q => q.2)
  | _, _, .nil => ⟨by simp [AbsL], by simp [AbsL]⟩
  | _, _, .cons r t => ⟨⟨_, _, rfl, kW_abs' r.1, (flat_abs t).1⟩, ⟨_, _, rfl, r.2, (flat_abs t).2⟩⟩
theorem nest_abs {K : Kw} : ∀ {kvs : List (W × W)} {xs : List (NestedKey × Addr × V)}, NP K ρ H kvs xs → AbsL K ρ H (kvs.map (·.1)) (xs.map fun q => V.ref q.2.1) ∧ AbsL K ρ H (kvs.map (·.2)) (xs.map fun q => q.2.2)
  | _, _, .nil => ⟨by simp [AbsL], by simp [AbsL]⟩
  | _, _, .cons r t => ⟨⟨_, _, rfl, r.2.2.1, (nest_abs t).1⟩, ⟨_, _, rfl, r.2.2.2, (nest_abs t).2⟩⟩
abbrev XY : List (NestedKey × Addr × V) → List (NestedKey × Addr × Value) → Prop := Paired fun p q => p.1 = q.1 ∧ p.2.1 = q.2.1 ∧ RelV p.2.2 q.2.2
theorem nest_vals : ∀ {xs : List (NestedKey × Addr × V)} {ys : List (NestedKey × Addr × Value)}, XY xs ys → Vals (xs.map fun q => V.ref q.2.1) (ys.map fun q => Value.ref q.2.1) ∧ Vals (xs.map fun q => q.2.2) (ys.map fun q => q.2.2)
  | _, _, .nil => ⟨.nil, .nil⟩
  | _, _, .cons r t => ⟨.cons (by show Value.ref _ = Value.ref _; rw [r.2.1]) (nest_vals t).1, .cons r.2.2 (nest_vals t).2⟩
theorem readsO (I : Inv X pins σ H s) (rg : RG X.kw ρ H G) (hr : RecOk s ρ H rec) {n : Nat} {o : GO} {d : PyData} {a : Addr} (g : G[n]? = some o) (e : datO rec o = some d) (ea : ρ[n]? = some a) : ∃ as, Reads s.heap (.ref a) d as ∧ Trk H as := by
  have ao := rg.ob n o a g ea
  cases o with
  | lst ws =>
    rcases Option.map_eq_some_iff.mp e with ⟨ds, ed, rfl⟩
    obtain ⟨vs, hv, l⟩ := ao
    obtain ⟨its, rv, ⟨o, n, ho, hc, _, hd⟩, _⟩ := I.list (SqL.of hv)
    obtain ⟨as, h1, h2⟩ := readsVs I hr ws ds vs _ ed l rv
    refine ⟨a :: as, .list ho hc hd h1, fun c hb => ?_⟩
    obtain e | hb := List.mem_cons.mp hb
    · subst e
      exact ⟨_, hv⟩
    · exact h2 c hb
  | ins C ws => cases e
  | rsv => cases e
  | dct lk kvs =>
    simp only [datO] at e
    split at e
    · rename_i ks vs e1 e2
      simp only [Option.some.injEq] at e
      subst e
      have lens : ∀ (ws : List W) (ds : List PyData), datVs rec ws = some ds → ws.length = ds.length := by
        intro ws
        induction ws with
        | nil => intro ds h; simp only [datVs, Option.some.injEq] at h; subst h; rfl
        | cons w ws ih =>
          intro ds h
          unfold datVs at h
          split at h
          · cases h; simp only [List.length_cons]; rw [ih _ (by assumption)]
          · cases h
      have l1 := lens _ _ e1
      have l2 := lens _ _ e2
      rw [List.length_map] at l1 l2
      have z1 : (ks.zip vs).map (·.1) = ks := List.map_fst_zip (by omega)
      have z2 : (ks.zip vs).map (·.2) = vs := List.map_snd_zip (by omega)
      -- the entries as values
      have ent : ∃ (o : Obj) (es : Array DictEntry) (ep : Nat) (u1 u2 : List V), s.heap.get? a = some o ∧ o.cls = .type "dict" ∧ o.data = .dict es ep ∧ (∃ x, H a = some x) ∧
          AbsL X.kw ρ H (kvs.map (·.1)) u1 ∧ AbsL X.kw ρ H (kvs.map (·.2)) u2 ∧ Vals u1 (es.toList.map (·.key)) ∧ Vals u2 (es.toList.map (·.val)) := by
        obtain ⟨u, f, eu⟩ := dct_rd rg ea g
        have e3 : ∃ x, H a = some x := by
          rcases eu with eu | ⟨o, eu⟩
          · exact ⟨_, eu⟩
          · exact ⟨_, eu⟩
        have ok := eu.ok I.hok
        rcases f with ⟨fk, rfl, p⟩ | ⟨xs, rfl, e4, p⟩
        · obtain ⟨_, _, vv, rel, ob, es, ep, h1, h2, h3, h4, h5⟩ := ok
          obtain ⟨h6, h7⟩ := dk_entries h5.1 rel
          exact ⟨ob, es, ep, _, _, h1, h2.1, h3, e3, (flat_abs p).1, (flat_abs p).2, h6, h7⟩
        · obtain ⟨⟨ob, es, ep, h1, h2, h3, _, _, ys, h4, h5⟩, _⟩ := ok
          refine ⟨ob, es, ep, _, _, h1, h2.1, h3, e3, (nest_abs p).1, (nest_abs p).2, ?_, ?_⟩
          · rw [h4, List.map_map]
            exact (nest_vals h5).1
          · rw [h4, List.map_map]
            exact (nest_vals h5).2
      obtain ⟨o, es, ep, u1, u2, h1, h2, h3, ⟨x, hx⟩, a1, a2, v1, v2⟩ := ent
      obtain ⟨as, q1, t1⟩ := readsVs I hr _ ks u1 _ e1 a1 v1
      obtain ⟨bs, q2, t2⟩ := readsVs I hr _ vs u2 _ e2 a2 v2
      refine ⟨a :: as ++ bs, .dict h1 h2 h3 (by rw [z1]; exact q1) (by rw [z2]; exact q2), fun c hb => ?_⟩
      obtain hb | hb := List.mem_append.mp hb
      · obtain e | hb := List.mem_cons.mp hb
        · subst e; exact ⟨_, hx⟩
        · exact t1 c hb
      · exact t2 c hb
    · cases e
theorem readsR (I : Inv X pins σ H s) (rg : RG X.kw ρ H G) : ∀ f, RecOk s ρ H (datR G f)
  | 0 => fun n d a e _ => by cases e
  | f + 1 => fun n d a e ea => by
    unfold datR at e
    split at e
    · rename_i o g
      exact readsO I rg (readsR I rg f) g e ea
    · cases e
/-- a value reads as its data -/
theorem reads_W (I : Inv X pins σ H s) (rg : RG X.kw ρ H G) {w : W} {d : PyData} {v : V} {u : Value} (e : datW G w = some d) (a : Abs X.kw ρ H w v) (r : RelV v u) : ∃ as, Reads s.heap u d as ∧ Trk H as :=
  readsV I (readsR I rg 70) w d v u e a r
theorem Trk.sys (I : Inv X pins σ H s) {as : List Addr} (t : Trk H as) (sm : ∃ o, X.base.get? sysModules = some o) : sysModules ∉ as := fun m => by
  obtain ⟨o, e⟩ := t _ m
  obtain ⟨ob, eb⟩ := sm
  have := (I.bs _ _ eb).2
  rw [e] at this; cases this
end
end Dn
end
section
set_option Elab.async false
set_option backward.match.sparseCases false
set_option linter.all false
set_option maxRecDepth 100000
set_option maxHeartbeats 2000000
namespace Dn
open PySem L2
/-! ### ==, !=, in, not in, is -/
def eqW : D2 := fun x y G => match datW G x, datW G y with
  | some d, some e => if SeqAt.shaped d = true ∧ SeqAt.shaped e = true then .ok (.bl (PyData.eqv d e)) G else .stuck
  | _, _ => .stuck
def neW : D2 := fun x y G => match datW G x, datW G y with
  | some d, some e => if SeqAt.shaped d = true ∧ SeqAt.shaped e = true then .ok (.bl (!PyData.eqv d e)) G else .stuck
  | _, _ => .stuck
/-- a text within a text -/
def inS (x y : Str) : Bool := !(Builtin.Str.occurrences y x 0 y.length 1).isEmpty
def inQ (x y : W) (G : Gh) : Option Bool := match x, y with
  | .str a, .str b => some (inS a b)
  | x, y => match datW G x, datW G y with
    | some d, some (.list ds) => if SeqAt.shaped d = true ∧ SeqAt.shaped (.list ds) = true then some (ds.any fun z => PyData.eqv z d) else none
    | some d, some (.tuple ds) => if SeqAt.shaped d = true ∧ SeqAt.shaped (.tuple ds) = true then some (ds.any fun z => PyData.eqv z d) else none
    | _, _ => none
def inW : D2 := fun x y G => match inQ x y G with
  | some b => .ok (.bl b) G
  | none => .stuck
def notInW : D2 := fun x y G => match inQ x y G with
  | some b => .ok (.bl (!b)) G
  | none => .stuck
def isNon : W → Bool
  | .non => true
  | _ => false
def isQ (x y : W) : Option Bool := match x, y with
  | .bl a, .bl b => some (decide (a = b))
  | x, .non => some (isNon x)
  | _, _ => none
def isW : D2 := fun x y G => match isQ x y with
  | some b => .ok (.bl b) G
  | none => .stuck
def isNotW : D2 := fun x y G => match isQ x y with
  | some b => .ok (.bl (!b)) G
  | none => .stuck
theorem isNon_abs {K : Kw} {ρ : List Addr} {H : Hp} {w : W} {x : V} (a : Abs K ρ H w x) : decide (x = V.non) = isNon w := by
  cases w with
  | non => simp only [Abs] at a; subst a; rfl
  | bl b => simp only [Abs] at a; subst a; rfl
  | int i => simp only [Abs] at a; subst a; rfl
  | str s => simp only [Abs] at a; subst a; rfl
  | ty n => simp only [Abs] at a; subst a; rfl
  | obj b => simp only [Abs] at a; subst a; rfl
  | ref n => obtain ⟨b, _, rfl⟩ := a; rfl
  | tup ws => obtain ⟨b, vs, rfl, _⟩ := a; rfl
  | rol ws => obtain ⟨b, vs, rfl, _⟩ := a; rfl
section
variable {X : Cx} {Wx : WX} {k : Nat}
theorem op_eqW (c : Ctx X Wx k) : OpR X (compareOp .Eq) (lf2 X.kw eqW) := by
  intro pins s σ H x y v u Q I rx ry ⟨ρ, G, wx, wy, r, ax, ay, q⟩
  unfold eqW at q
  split at q
  · rename_i d e e1 e2
    split at q
    · rename_i hs
      obtain ⟨as, r1, _⟩ := reads_W I r e1 ax rx
      obtain ⟨bs, r2, _⟩ := reads_W I r e2 ay ry
      exact SeqAt.compareEq_shaped r1 r2 hs.1 hs.2 c.rm.units ⟨.bl _, H, I, rfl, q ρ H _ .refl r (by simp [Abs])⟩
    · exact q.bad
  · exact q.bad
theorem op_neW (c : Ctx X Wx k) : OpR X (compareOp .NotEq) (lf2 X.kw neW) := by
  intro pins s σ H x y v u Q I rx ry ⟨ρ, G, wx, wy, r, ax, ay, q⟩
  unfold neW at q
  split at q
  · rename_i d e e1 e2
    split at q
    · rename_i hs
      obtain ⟨as, r1, _⟩ := reads_W I r e1 ax rx
      obtain ⟨bs, r2, _⟩ := reads_W I r e2 ay ry
      exact SeqAt.compareNe_shaped r1 r2 hs.1 hs.2 c.rm.units ⟨.bl _, H, I, rfl, q ρ H _ .refl r (by simp [Abs])⟩
    · exact q.bad
  · exact q.bad
theorem units65 (c : Ctx X Wx k) : X.A.units + 65 < cLine := by have := c.rm.un; omega
theorem op_inW (c : Ctx X Wx k) : OpR X (compareOp .In) (lf2 X.kw inW) := by
  intro pins s σ H x y v u Q I rx ry ⟨ρ, G, wx, wy, r, ax, ay, q⟩
  unfold inW at q
  cases e : inQ wx wy G with
  | none => rw [e] at q; exact q.bad
  | some b =>
    rw [e] at q
    have fin : ∀ (bb : Bool), bb = b → Q (.bl bb) H := fun bb z => q ρ H _ .refl r (by simp [Abs, z])
    unfold inQ at e
    split at e
    · simp only [Option.some.injEq] at e
      simp only [Abs] at ax ay
      exact op_in_str pins s σ H _ _ v u Q I rx ry ⟨_, _, ax, ay, fin _ e⟩
    · split at e
      · rename_i d ds e1 e2
        split at e
        · rename_i hs
          simp only [Option.some.injEq] at e
          obtain ⟨as, r1, _⟩ := reads_W I r e1 ax rx
          obtain ⟨bs, r2, _⟩ := reads_W I r e2 ay ry
          exact SeqAt.in_list_reads r2 r1 (SeqAt.canLay_of_shaped hs.2) (SeqAt.canLay_of_shaped hs.1) (PyProof.Rows.room_in_shaped hs.1 (units65 c)) ⟨.bl _, H, I, rfl, fin _ e⟩
        · cases e
      · rename_i d ds e1 e2
        split at e
        · rename_i hs
          simp only [Option.some.injEq] at e
          obtain ⟨as, r1, _⟩ := reads_W I r e1 ax rx
          obtain ⟨bs, r2, _⟩ := reads_W I r e2 ay ry
          exact SeqAt.in_tuple_reads r2 r1 (SeqAt.canLay_of_shaped hs.2) (SeqAt.canLay_of_shaped hs.1) (PyProof.Rows.room_in_shaped hs.1 (units65 c)) ⟨.bl _, H, I, rfl, fin _ e⟩
        · cases e
      · cases e
theorem op_notInW (c : Ctx X Wx k) : OpR X (compareOp .NotIn) (lf2 X.kw notInW) := by
  intro pins s σ H x y v u Q I rx ry ⟨ρ, G, wx, wy, r, ax, ay, q⟩
  unfold notInW at q
  cases e : inQ wx wy G with
  | none => rw [e] at q; exact q.bad
  | some b =>
    rw [e] at q
    have fin : ∀ (bb : Bool), bb = b → Q (.bl (!bb)) H := fun bb z => q ρ H _ .refl r (by simp [Abs, z])
    unfold inQ at e
    split at e
    · simp only [Option.some.injEq] at e
      simp only [Abs] at ax ay
      exact op_notIn_str pins s σ H _ _ v u Q I rx ry ⟨_, _, ax, ay, fin _ e⟩
    · split at e
      · rename_i d ds e1 e2
        split at e
        · rename_i hs
          simp only [Option.some.injEq] at e
          obtain ⟨as, r1, _⟩ := reads_W I r e1 ax rx
          obtain ⟨bs, r2, _⟩ := reads_W I r e2 ay ry
          exact SeqAt.notIn_list_reads r2 r1 (SeqAt.canLay_of_shaped hs.2) (SeqAt.canLay_of_shaped hs.1) (PyProof.Rows.room_in_shaped hs.1 (units65 c)) ⟨.bl _, H, I, rfl, fin _ e⟩
        · cases e
      · rename_i d ds e1 e2
        split at e
        · rename_i hs
          simp only [Option.some.injEq] at e
          obtain ⟨as, r1, _⟩ := reads_W I r e1 ax rx
          obtain ⟨bs, r2, _⟩ := reads_W I r e2 ay ry
          exact SeqAt.notIn_tuple_reads r2 r1 (SeqAt.canLay_of_shaped hs.2) (SeqAt.canLay_of_shaped hs.1) (PyProof.Rows.room_in_shaped hs.1 (units65 c)) ⟨.bl _, H, I, rfl, fin _ e⟩
        · cases e
      · cases e
theorem op_isW : OpR X (compareOp .Is) (lf2 X.kw isW) := by
  intro pins s σ H x y v u Q I rx ry ⟨ρ, G, wx, wy, r, ax, ay, q⟩
  unfold isW at q
  cases e : isQ wx wy with
  | none => rw [e] at q; exact q.bad
  | some b =>
    rw [e] at q
    have fin : ∀ (bb : Bool), bb = b → Q (.bl bb) H := fun bb z => q ρ H _ .refl r (by simp [Abs, z])
    unfold isQ at e
    split at e
    · simp only [Option.some.injEq] at e
      simp only [Abs] at ax ay
      exact op_isBl pins s σ H _ _ v u Q I rx ry ⟨_, _, ax, ay, fin _ e⟩
    · simp only [Option.some.injEq] at e
      simp only [Abs] at ay
      exact op_isN pins s σ H _ _ v u Q I rx ry ⟨ay, fin _ ((isNon_abs ax).trans e)⟩
    · cases e
theorem op_isNotW : OpR X (compareOp .IsNot) (lf2 X.kw isNotW) := by
  intro pins s σ H x y v u Q I rx ry ⟨ρ, G, wx, wy, r, ax, ay, q⟩
  unfold isNotW at q
  cases e : isQ wx wy with
  | none => rw [e] at q; exact q.bad
  | some b =>
    rw [e] at q
    have fin : ∀ (bb : Bool), bb = b → Q (.bl (!bb)) H := fun bb z => q ρ H _ .refl r (by simp [Abs, z])
    unfold isQ at e
    split at e
    · simp only [Option.some.injEq] at e
      simp only [Abs] at ax ay
      exact op_notBl pins s σ H _ _ v u Q I rx ry ⟨_, _, ax, ay, fin _ e⟩
    · simp only [Option.some.injEq] at e
      simp only [Abs] at ay
      exact op_notN pins s σ H _ _ v u Q I rx ry ⟨ay, fin _ ((isNon_abs ax).trans e)⟩
    · cases e
end
/-! ### repr -/
/-- what repr(x) shows -/
def reprW : DF := fun ws G => match ws with
  | [w] => match datW G w with
    | some d => if d.showable = true ∧ d.depth ≤ 100 ∧ d.shown.length ≤ 16777216 then .ok (.str d.shown) G else .stuck
    | none => .stuck
  | _ => .stuck
section
variable {X : Cx} {Wx : WX} {k : Nat}
theorem call_reprW (c : Ctx X Wx k) : CallR X (.builtin "repr") (lfC X.kw reprW) := by
  intro pins s σ H xs us Q I rx ⟨ρ, G, ws, r, al, q⟩
  unfold reprW at q
  split at q
  · rename_i w
    obtain ⟨v, _, rfl, av, rfl⟩ := al
    obtain ⟨u, rfl, ru⟩ := rx.one
    split at q
    · rename_i d e
      split at q
      · rename_i hs
        obtain ⟨as, r1, tk⟩ := reads_W I r e av ru
        have hu : X.A.units + (d.depth + 1) < cLine := by have := c.rm.un; omega
        have fin : ∀ t s', Inv X pins σ H s' → EP X pins σ Q (.str d.shown t) s' := fun t s' J => ⟨.str _, H, J, ⟨t, rfl⟩, q ρ H _ .refl r (by simp [Abs])⟩
        cases r1 with
        | none => exact P.repr_of_none (fin _ _ (I.tok _))
        | bool b => exact P.repr_of_bool (by cases b <;> exact fin _ _ (I.tok _))
        | int i t => exact P.repr_of_int (by simpa [PyData.showable] using hs.1) (fin _ _ (I.tok _))
        | str x t => exact P.repr_of_str (fin _ _ (I.tok _)) (line_of hs.2.2)
        | list h1 h2 h3 h4 => exact repr_of_reads' (Reads.list h1 h2 h3 h4) hs.1 (fun _ => tk.sys I c.sm) c.gd hu (fun _ _ z => z) (fun h' u t hk => fin _ _ (I.kept hk)) (line_of hs.2.2)
        | tuple h1 h2 h3 h4 => exact repr_of_reads' (Reads.tuple h1 h2 h3 h4) hs.1 (fun _ => tk.sys I c.sm) c.gd hu (fun _ _ z => z) (fun h' u t hk => fin _ _ (I.kept hk)) (line_of hs.2.2)
        | dict h1 h2 h3 h4 h5 => exact repr_of_reads' (Reads.dict h1 h2 h3 h4 h5) hs.1 (fun _ => tk.sys I c.sm) c.gd hu (fun _ _ z => z) (fun h' u t hk => fin _ _ (I.kept hk)) (line_of hs.2.2)
      · exact q.bad
    · exact q.bad
  · exact q.bad
end
end Dn
end
section
set_option Elab.async false
set_option backward.match.sparseCases false
set_option linter.all false
set_option maxRecDepth 100000
set_option maxHeartbeats 2000000
namespace Dn
open PySem L2
/-! ### the order of data -/
def notNon : PyData → Bool
  | .none => false
  | _ => true
def ordQ (f : PyData → PyData → Bool) : D2 := fun x y G => match datW G x, datW G y with
  | some d, some e => if PySem.W.alike d e = true ∧ notNon d = true ∧ d.depth ≤ 64 then .ok (.bl (f d e)) G else .stuck
  | _, _ => .stuck
def ltD : D2 := ordQ fun d e => PySem.W.dataLt d e
def gtD : D2 := ordQ fun d e => PySem.W.dataLt e d
def leD : D2 := ordQ fun d e => !PySem.W.dataLt e d
def geD : D2 := ordQ fun d e => !PySem.W.dataLt d e
section
variable {X : Cx} {Wx : WX} {k : Nat}
theorem depth_room (c : Ctx X Wx k) {d e : PyData} (h : d.depth ≤ 64) : X.A.units + min d.depth e.depth < cLine := by
  have := c.rm.un
  have h1 := Nat.min_le_left d.depth e.depth
  omega
theorem notNone {d : PyData} (h : notNon d = true) : d ≠ .none := by
  rintro rfl
  cases h
theorem op_ltD (c : Ctx X Wx k) : OpR X (compareOp .Lt) (lf2 X.kw ltD) := by
  intro pins s σ H x y v u Q I rx ry ⟨ρ, G, wx, wy, r, ax, ay, q⟩
  unfold ltD ordQ at q
  split at q
  · rename_i d e e1 e2
    split at q
    · rename_i hs
      obtain ⟨as, r1, _⟩ := reads_W I r e1 ax rx
      obtain ⟨bs, r2, _⟩ := reads_W I r e2 ay ry
      exact PySem.W.lt_data r1 r2 hs.1 (notNone hs.2.1) (depth_room c hs.2.2) ⟨.bl _, H, I, rfl, q ρ H _ .refl r (by simp [Abs])⟩
    · exact q.bad
  · exact q.bad
theorem op_gtD (c : Ctx X Wx k) : OpR X (compareOp .Gt) (lf2 X.kw gtD) := by
  intro pins s σ H x y v u Q I rx ry ⟨ρ, G, wx, wy, r, ax, ay, q⟩
  unfold gtD ordQ at q
  split at q
  · rename_i d e e1 e2
    split at q
    · rename_i hs
      obtain ⟨as, r1, _⟩ := reads_W I r e1 ax rx
      obtain ⟨bs, r2, _⟩ := reads_W I r e2 ay ry
      exact PySem.W.gt_data r1 r2 hs.1 (notNone hs.2.1) (depth_room c hs.2.2) ⟨.bl _, H, I, rfl, q ρ H _ .refl r (by simp [Abs])⟩
    · exact q.bad
  · exact q.bad
theorem op_leD (c : Ctx X Wx k) : OpR X (compareOp .LtE) (lf2 X.kw leD) := by
  intro pins s σ H x y v u Q I rx ry ⟨ρ, G, wx, wy, r, ax, ay, q⟩
  unfold leD ordQ at q
  split at q
  · rename_i d e e1 e2
    split at q
    · rename_i hs
      obtain ⟨as, r1, _⟩ := reads_W I r e1 ax rx
      obtain ⟨bs, r2, _⟩ := reads_W I r e2 ay ry
      exact PySem.W.le_data r1 r2 hs.1 (notNone hs.2.1) (depth_room c hs.2.2) ⟨.bl _, H, I, rfl, q ρ H _ .refl r (by simp [Abs])⟩
    · exact q.bad
  · exact q.bad
theorem op_geD (c : Ctx X Wx k) : OpR X (compareOp .GtE) (lf2 X.kw geD) := by
  intro pins s σ H x y v u Q I rx ry ⟨ρ, G, wx, wy, r, ax, ay, q⟩
  unfold geD ordQ at q
  split at q
  · rename_i d e e1 e2
    split at q
    · rename_i hs
      obtain ⟨as, r1, _⟩ := reads_W I r e1 ax rx
      obtain ⟨bs, r2, _⟩ := reads_W I r e2 ay ry
      exact PySem.W.ge_data r1 r2 hs.1 (notNone hs.2.1) (depth_room c hs.2.2) ⟨.bl _, H, I, rfl, q ρ H _ .refl r (by simp [Abs])⟩
    · exact q.bad
  · exact q.bad
end
/-! ### sorted -/
/-- each with what it reads as -/
def datEach (G : Gh) : List W → Option (List (W × PyData))
  | [] => some []
  | w :: ws => match datW G w, datEach G ws with
    | some d, some r => some ((w, d) :: r)
    | _, _ => none
def sortable (ds : List PyData) : Bool := (ds.all fun d => ds.all fun e => PySem.W.alike d e) && (ds.all (fun d => match d with | .tuple (_ :: _) => true | _ => false) || ds.all fun d => match d with | .none => false | .tuple _ => false | _ => true) && ds.all fun d => decide (d.depth ≤ 64)
def sortD (ps : List (W × PyData)) : List W := (ps.mergeSort (PySem.W.dataLe false (·.2))).map (·.1)
/-- the items of a sequence -/
def seqW (w : W) (G : Gh) : Option (List W) := match w with
  | .tup ws => some ws
  | .rol ws => some ws
  | .ref n => match G[n]? with
    | some (.lst ws) => some ws
    | _ => none
  | _ => none
def sortedL (ws : List W) : M W := fun G => match datEach G ws with
  | some ps => if sortable (ps.map (·.2)) = true ∧ ws.length ≤ 16777216 then .ok (.ref G.length) (G ++ [.lst (sortD ps)]) else .stuck
  | none => .stuck
/-- sorted(xs), xs a list -/
def sortedW : DF := fun ws G => match ws with
  | [.ref n] => match G[n]? with
    | some (.lst xs) => sortedL xs G
    | _ => .stuck
  | _ => .stuck
section
variable {X : Cx} {Wx : WX} {k : Nat} {pins : List (Addr × Obj)} {σ : St} {H : Hp} {s : Shared} {ρ : List Addr} {G : Gh}
theorem sortable_ok {ds : List PyData} (h : sortable ds = true) : PySem.W.AllAlike ds ∧ PySem.W.Sortable ds ∧ ∀ d ∈ ds, d.depth ≤ 64 := by
  unfold sortable at h
  rw [Bool.and_eq_true, Bool.and_eq_true, Bool.or_eq_true] at h
  obtain ⟨⟨h1, h2⟩, h3⟩ := h
  refine ⟨fun d hd e he => ?_, ?_, fun d hd => ?_⟩
  · have := List.all_eq_true.mp h1 d hd
    exact List.all_eq_true.mp this e he
  · rcases h2 with h2 | h2
    · refine .inl fun d hd => ?_
      have := List.all_eq_true.mp h2 d hd
      cases d with
      | tuple xs => cases xs with
        | nil => cases this
        | cons head others => exact ⟨head, others, rfl⟩
      | _ => cases this
    · refine .inr fun d hd => ?_
      have := List.all_eq_true.mp h2 d hd
      cases d with
      | none => cases this
      | tuple xs => cases this
      | _ => exact ⟨(fun z => by cases z), fun xs z => by cases z⟩
  · have := List.all_eq_true.mp h3 d hd
    exact of_decide_eq_true this
/-- the items, with what they are -/
theorem datEach_ok (I : Inv X pins σ H s) (r : RG X.kw ρ H G) : ∀ {ws : List W} {ps : List (W × PyData)} {vs : List V} {us : List Value}, datEach G ws = some ps → AbsL X.kw ρ H ws vs → Vals vs us →
    ∃ bs : List ((W × PyData) × V), bs.map (·.1) = ps ∧ PySem.W.EachIs (fun u b => RelV b.2 u ∧ Abs X.kw ρ H b.1.1 b.2) us bs ∧ PySem.W.EachIs (fun u b => ∃ as, Reads s.heap u b.1.2 as) us bs
  | [], _, _, _, e, a, rv => by
    simp only [datEach, Option.some.injEq] at e
    simp only [AbsL] at a
    subst e a
    cases rv
    exact ⟨[], rfl, .nil, .nil⟩
  | w :: ws, _, _, _, e, a, rv => by
    obtain ⟨v, vs', rfl, a1, a2⟩ := a
    cases rv with
    | cons r1 r2 =>
      unfold datEach at e
      split at e
      · rename_i d ps' e1 e2
        cases e
        obtain ⟨bs, h1, h2, h3⟩ := datEach_ok I r e2 a2 r2
        obtain ⟨as, q, _⟩ := reads_W I r e1 a1 r1
        exact ⟨((w, d), v) :: bs, by simp [h1], .cons ⟨r1, a1⟩ h2, .cons ⟨as, q⟩ h3⟩
      · cases e
theorem datEach_fst {G : Gh} : ∀ {ws : List W} {ps : List (W × PyData)}, datEach G ws = some ps → ps.map (·.1) = ws
  | [], _, e => by simp only [datEach, Option.some.injEq] at e; subst e; rfl
  | w :: ws, _, e => by
    unfold datEach at e
    split at e
    · rename_i d ps' e1 e2
      cases e
      simp [datEach_fst e2]
    · cases e
/-- what is sorted, told -/
theorem each_out : ∀ {out : List Value} {bs : List ((W × PyData) × V)}, PySem.W.EachIs (fun u b => RelV b.2 u ∧ Abs X.kw ρ H b.1.1 b.2) out bs → Vals (bs.map (·.2)) out ∧ AbsL X.kw ρ H (bs.map (·.1.1)) (bs.map (·.2))
  | _, _, .nil => ⟨.nil, by simp [AbsL]⟩
  | _, _, .cons h t => ⟨.cons h.1 (each_out t).1, ⟨_, _, rfl, h.2, (each_out t).2⟩⟩
theorem sorted_list (c : Ctx X Wx k) (I : Inv X pins σ H s) (r : RG X.kw ρ H G) {a : Addr} {ws : List W} {vs : List V} {its : List Value} (hl : s.heap.IsList a its.toArray) (l : AbsL X.kw ρ H ws vs) (rv : Vals vs its) {Q : VK}
    (q : Aft X.kw (Abs X.kw) W0 [] ρ H Q (sortedL ws G)) : wpAny (model X.prog X.w) X.A (call (.builtin "sorted") [.ref a]) (EP X pins σ Q) X.xe s := by
  unfold sortedL at q
  split at q
  · rename_i ps e
    split at q
    · rename_i hs
      obtain ⟨bs, e1, e2, e3⟩ := datEach_ok I r e l rv
      obtain ⟨al, so, dp⟩ := sortable_ok hs.1
      have em : bs.map (fun b => b.1.2) = ps.map (·.2) := by rw [← e1, List.map_map]; rfl
      have lb : bs.length = ws.length := by rw [← datEach_fst e, ← e1]; simp
      refine PySem.W.sorted_data (enc := fun b : (W × PyData) × V => b.1.2) (R := fun u b => RelV b.2 u ∧ Abs X.kw ρ H b.1.1 b.2) hl e2 e3 (by rw [em]; exact al) (by rw [em]; exact so) (by rw [lb]; exact line_of hs.2) (fun b hb => ?_) fun out ho hr => ?_
      · have := dp b.1.2 (by rw [← em]; exact List.mem_map.mpr ⟨b, hb, rfl⟩)
        have := c.rm.un
        omega
      · obtain ⟨o1, o2⟩ := each_out hr
        have key : (bs.mergeSort (PySem.W.dataLe false fun b => b.1.2)).map (fun b => b.1.1) = sortD ps := by
          unfold sortD
          rw [← e1, ← List.map_mergeSort (r := PySem.W.dataLe false fun b : (W × PyData) × V => b.1.2) (s := PySem.W.dataLe false (·.2)) (f := fun b : (W × PyData) × V => b.1) (fun a _ b _ => rfl), List.map_map]
          rfl
        rw [key] at o2
        rcases PyProof.Rows.sortedAll_at s.heap its out.toArray with ⟨ep, he'⟩
        generalize (bs.mergeSort (PySem.W.dataLe false fun b => b.1.2)).map (·.2) = vo at o1 o2
        have hn : H (s.heap.objs.size + 1) = none := I.hok.fresh (Nat.le_succ _)
        have hz : vo.length ≤ sizeLine := by rw [o1.length, ho, lb]; exact line_of hs.2
        exact ⟨.ref _, upd H (s.heap.objs.size + 1) (.lst vo), I.laid (t' := s.toks) (fun _ _ => PyProof.Rows.sortedAll_old) (Nat.le_succ _) ⟨hz, out, ep, o1, he'⟩, rfl, new_lst r o2 q _ hn⟩
    · exact q.bad
  · exact q.bad
theorem call_sortedW (c : Ctx X Wx k) : CallR X (.builtin "sorted") (lfC X.kw sortedW) := by
  intro pins s σ H xs us Q I rx ⟨ρ, G, ws, r, al, q⟩
  unfold sortedW at q
  split at q
  · rename_i n
    obtain ⟨v, _, rfl, ⟨a, ea, rfl⟩, rfl⟩ := al
    rw [Vals.ref1 rx]
    split at q
    · rename_i xs g
      obtain ⟨vs, hv, l⟩ := r.lst ea g
      obtain ⟨its, rv, hl, _⟩ := I.list (SqL.of hv)
      exact sorted_list c I r hl.isList l rv q
    · exact q.bad
  · exact q.bad
end
end Dn
end
section
set_option Elab.async false
set_option backward.match.sparseCases false
set_option linter.all false
set_option maxRecDepth 100000
set_option maxHeartbeats 2000000
namespace Dn
open PySem L2
/-! ### built-ins by deep values -/
def lenQ (w : W) (G : Gh) : Option Nat := match w with
  | .str x => if x.length ≤ 16777216 then some x.length else none
  | .tup ws => some ws.length
  | .rol ws => some ws.length
  | .ref n => match G[n]? with
    | some (.lst ws) => some ws.length
    | _ => none
  | _ => none
def lenW : DF := fun ws G => match ws with
  | [w] => match lenQ w G with
    | some n => .ok (.int n) G
    | none => .stuck
  | _ => .stuck
def listW : DF := fun ws G => match ws with
  | [w] => match seqW w G with
    | some xs => .ok (.ref G.length) (G ++ [.lst xs])
    | none => .stuck
  | _ => .stuck
def tupleW : DF := fun ws G => match ws with
  | [w] => match seqW w G with
    | some xs => .ok (.tup xs) G
    | none => .stuck
  | _ => .stuck
def intW : DF := fun ws G => match ws with
  | [.int i] => .ok (.int i) G
  | [.bl b] => .ok (.int (if b = true then 1 else 0)) G
  | _ => .stuck
def absW : DF := fun ws G => match ws with
  | [.int i] => .ok (.int (if i < 0 then -i else i)) G
  | _ => .stuck
def max2W : DF := fun ws G => match ws with
  | [.int i, .int j] => .ok (.int (if j > i then j else i)) G
  | _ => .stuck
def min2W : DF := fun ws G => match ws with
  | [.int i, .int j] => .ok (.int (if j < i then j else i)) G
  | _ => .stuck
def blOf : List W → Option (List Bool)
  | [] => some []
  | .bl b :: ws => (blOf ws).map (b :: ·)
  | _ => none
def intOf : List W → Option (List Int)
  | [] => some []
  | .int b :: ws => (intOf ws).map (b :: ·)
  | _ => none
def lstOf (w : W) (G : Gh) : Option (List W) := match w with
  | .ref n => match G[n]? with
    | some (.lst ws) => some ws
    | _ => none
  | _ => none
def allW : DF := fun ws G => match ws with
  | [w] => match (lstOf w G).bind blOf with
    | some bs => .ok (.bl (bs.all id)) G
    | none => .stuck
  | _ => .stuck
def anyW : DF := fun ws G => match ws with
  | [w] => match (lstOf w G).bind blOf with
    | some bs => .ok (.bl (bs.any id)) G
    | none => .stuck
  | _ => .stuck
def sumW : DF := fun ws G => match ws with
  | [w] => match (lstOf w G).bind intOf with
    | some bs => .ok (.int bs.sum) G
    | none => .stuck
  | _ => .stuck
section
variable {X : Cx} {Wx : WX} {k : Nat} {pins : List (Addr × Obj)} {σ : St} {H : Hp} {s : Shared} {ρ : List Addr} {G : Gh}
theorem seq_sq (I : Inv X pins σ H s) (r : RG X.kw ρ H G) {w : W} {x : V} {xs : List W} (a : Abs X.kw ρ H w x) (e : seqW w G = some xs) : ∃ p vs, x = .ref p ∧ AbsL X.kw ρ H xs vs ∧ ((SqL X.K H p vs ∧ w ≠ .tup xs) ∨ (SqT X.K H p vs ∧ w = .tup xs ∧ StT ρ H p vs)) := by
  unfold seqW at e
  split at e
  · cases e
    obtain ⟨p, vs, rfl, st, l⟩ := a
    exact ⟨p, vs, rfl, l, .inr ⟨st.sq, rfl, st⟩⟩
  · cases e
    obtain ⟨p, vs, rfl, st, l⟩ := a
    exact ⟨p, vs, rfl, l, .inl ⟨st.sq, fun z => by cases z⟩⟩
  · obtain ⟨p, ep, rfl⟩ := a
    split at e
    · rename_i ws g
      cases e
      obtain ⟨vs, hv, l⟩ := r.lst ep g
      exact ⟨p, vs, rfl, l, .inl ⟨SqL.of hv, fun z => by cases z⟩⟩
    · cases e
  · cases e
theorem call_lenW : CallR X (.builtin "len") (lfC X.kw lenW) := by
  intro pins s σ H xs us Q I rx ⟨ρ, G, ws, r, al, q⟩
  unfold lenW at q
  split at q
  · rename_i w
    obtain ⟨v, _, rfl, av, rfl⟩ := al
    cases e : lenQ w G with
    | none => rw [e] at q; exact q.bad
    | some n =>
      rw [e] at q
      have fin : ∀ m : Nat, m = n → Q (.int (m : Int)) H := fun m z => q ρ H _ .refl r (by simp [Abs, z])
      unfold lenQ at e
      split at e
      · split at e
        · rename_i hz
          simp only [Option.some.injEq] at e
          simp only [Abs] at av
          exact call_len pins s σ H _ us Q I rx ⟨v, _, rfl, by rw [av]; exact ⟨line_of hz, rfl⟩, fin _ e⟩
        · cases e
      · simp only [Option.some.injEq] at e
        obtain ⟨p, vs, rfl, st, l⟩ := av
        exact call_len pins s σ H _ us Q I rx ⟨_, _, rfl, .inr ⟨vs, st.sq, rfl⟩, fin _ (by rw [← l.len]; exact e)⟩
      · simp only [Option.some.injEq] at e
        obtain ⟨p, vs, rfl, st, l⟩ := av
        exact call_len pins s σ H _ us Q I rx ⟨_, _, rfl, .inl ⟨vs, st.sq, rfl⟩, fin _ (by rw [← l.len]; exact e)⟩
      · obtain ⟨p, ep, rfl⟩ := av
        split at e
        · rename_i zs g
          simp only [Option.some.injEq] at e
          obtain ⟨vs, hv, l⟩ := r.lst ep g
          exact call_len pins s σ H _ us Q I rx ⟨_, _, rfl, .inl ⟨vs, SqL.of hv, rfl⟩, fin _ (by rw [← l.len]; exact e)⟩
        · cases e
      · cases e
  · exact q.bad
theorem call_listW : CallR X (.type "list") (lfC X.kw listW) := by
  intro pins s σ H xs us Q I rx ⟨ρ, G, ws, r, al, q⟩
  unfold listW at q
  split at q
  · rename_i w
    obtain ⟨v, _, rfl, av, rfl⟩ := al
    split at q
    · rename_i xs e
      obtain ⟨p, vs, rfl, l, h⟩ := seq_sq I r av e
      exact call_list_of pins s σ H _ us Q I rx ⟨p, vs, rfl, h.imp (·.1) (·.1), fun p hp => new_lst r l q p hp⟩
    · exact q.bad
  · exact q.bad
theorem call_tupleW : CallR X (.type "tuple") (lfC X.kw tupleW) := by
  intro pins s σ H xs us Q I rx ⟨ρ, G, ws, r, al, q⟩
  unfold tupleW at q
  split at q
  · rename_i w
    obtain ⟨v, _, rfl, av, rfl⟩ := al
    split at q
    · rename_i xs e
      obtain ⟨p, vs, rfl, l, h⟩ := seq_sq I r av e
      exact call_tuple_of pins s σ H _ us Q I rx ⟨p, vs, rfl, h.imp (fun z => ⟨z.1, fun p hp => new_tup r l q p hp⟩) fun z => ⟨z.1, q ρ H _ .refl r ⟨p, vs, rfl, z.2.2, l⟩⟩⟩
    · exact q.bad
  · exact q.bad
theorem call_intW : CallR X (.type "int") (lfC X.kw intW) := by
  intro pins s σ H xs us Q I rx ⟨ρ, G, ws, r, al, q⟩
  unfold intW at q
  split at q
  · obtain ⟨v, _, rfl, av, rfl⟩ := al
    simp only [Abs] at av
    subst av
    exact call_int1 pins s σ H _ us Q I rx (.inl ⟨_, rfl, q ρ H _ .refl r (by simp [Abs])⟩)
  · obtain ⟨v, _, rfl, av, rfl⟩ := al
    simp only [Abs] at av
    subst av
    exact call_int1 pins s σ H _ us Q I rx (.inr ⟨_, rfl, q ρ H _ .refl r (by simp [Abs])⟩)
  · exact q.bad
theorem call_absW : CallR X (.builtin "abs") (lfC X.kw absW) := by
  intro pins s σ H xs us Q I rx ⟨ρ, G, ws, r, al, q⟩
  unfold absW at q
  split at q
  · obtain ⟨v, _, rfl, av, rfl⟩ := al
    simp only [Abs] at av
    subst av
    exact call_abs pins s σ H _ us Q I rx ⟨_, rfl, q ρ H _ .refl r (by simp [Abs])⟩
  · exact q.bad
theorem call_max2W (c : Ctx X Wx k) : CallR X (.builtin "max") (lfC X.kw max2W) := by
  intro pins s σ H xs us Q I rx ⟨ρ, G, ws, r, al, q⟩
  unfold max2W at q
  split at q
  · obtain ⟨v, _, rfl, av, v2, _, rfl, av2, rfl⟩ := al
    simp only [Abs] at av av2
    subst av av2
    exact call_max2 c.calm pins s σ H _ us Q I rx ⟨_, _, rfl, q ρ H _ .refl r (by simp [Abs])⟩
  · exact q.bad
theorem call_min2W (c : Ctx X Wx k) : CallR X (.builtin "min") (lfC X.kw min2W) := by
  intro pins s σ H xs us Q I rx ⟨ρ, G, ws, r, al, q⟩
  unfold min2W at q
  split at q
  · obtain ⟨v, _, rfl, av, v2, _, rfl, av2, rfl⟩ := al
    simp only [Abs] at av av2
    subst av av2
    exact call_min2 c.calm pins s σ H _ us Q I rx ⟨_, _, rfl, q ρ H _ .refl r (by simp [Abs])⟩
  · exact q.bad
theorem blOf_abs {K : Kw} : ∀ {ws : List W} {bs : List Bool} {vs : List V}, blOf ws = some bs → AbsL K ρ H ws vs → vs = bs.map V.bl
  | [], _, _, e, a => by
    simp only [blOf, Option.some.injEq] at e
    simp only [AbsL] at a
    subst e a
    rfl
  | .bl b :: ws, _, _, e, a => by
    simp only [blOf] at e
    obtain ⟨bs, e', rfl⟩ := Option.map_eq_some_iff.mp e
    obtain ⟨v, vs, rfl, av, l⟩ := a
    simp only [Abs] at av
    rw [av, blOf_abs e' l]
    rfl
  | .non :: _, _, _, e, _ => by simp [blOf] at e
  | .int _ :: _, _, _, e, _ => by simp [blOf] at e
  | .str _ :: _, _, _, e, _ => by simp [blOf] at e
  | .ref _ :: _, _, _, e, _ => by simp [blOf] at e
  | .tup _ :: _, _, _, e, _ => by simp [blOf] at e
  | .rol _ :: _, _, _, e, _ => by simp [blOf] at e
  | .ty _ :: _, _, _, e, _ => by simp [blOf] at e
  | .obj _ :: _, _, _, e, _ => by simp [blOf] at e
theorem intOf_abs {K : Kw} : ∀ {ws : List W} {bs : List Int} {vs : List V}, intOf ws = some bs → AbsL K ρ H ws vs → vs = bs.map V.int
  | [], _, _, e, a => by
    simp only [intOf, Option.some.injEq] at e
    simp only [AbsL] at a
    subst e a
    rfl
  | .int b :: ws, _, _, e, a => by
    simp only [intOf] at e
    obtain ⟨bs, e', rfl⟩ := Option.map_eq_some_iff.mp e
    obtain ⟨v, vs, rfl, av, l⟩ := a
    simp only [Abs] at av
    rw [av, intOf_abs e' l]
    rfl
  | .non :: _, _, _, e, _ => by simp [intOf] at e
  | .bl _ :: _, _, _, e, _ => by simp [intOf] at e
  | .str _ :: _, _, _, e, _ => by simp [intOf] at e
  | .ref _ :: _, _, _, e, _ => by simp [intOf] at e
  | .tup _ :: _, _, _, e, _ => by simp [intOf] at e
  | .rol _ :: _, _, _, e, _ => by simp [intOf] at e
  | .ty _ :: _, _, _, e, _ => by simp [intOf] at e
  | .obj _ :: _, _, _, e, _ => by simp [intOf] at e
theorem lstOf_abs (r : RG X.kw ρ H G) {w : W} {x : V} {xs : List W} (a : Abs X.kw ρ H w x) (e : lstOf w G = some xs) : ∃ p vs, x = .ref p ∧ SqL X.K H p vs ∧ AbsL X.kw ρ H xs vs := by
  unfold lstOf at e
  split at e
  · obtain ⟨p, ep, rfl⟩ := a
    split at e
    · rename_i ws g
      cases e
      obtain ⟨vs, hv, l⟩ := r.lst ep g
      exact ⟨p, vs, rfl, SqL.of hv, l⟩
    · cases e
  · cases e
theorem call_allW (c : Ctx X Wx k) : CallR X (.builtin "all") (lfC X.kw allW) := by
  intro pins s σ H xs us Q I rx ⟨ρ, G, ws, r, al, q⟩
  unfold allW at q
  split at q
  · obtain ⟨v, _, rfl, av, rfl⟩ := al
    split at q
    · rename_i bs e
      obtain ⟨xs, e1, e2⟩ := Option.bind_eq_some_iff.mp e
      obtain ⟨p, vs, rfl, hv, l⟩ := lstOf_abs r av e1
      rw [blOf_abs e2 l] at hv
      exact cr_all c.calm pins s σ H _ us Q I rx ⟨p, bs, rfl, hv, q ρ H _ .refl r (by simp [Abs])⟩
    · exact q.bad
  · exact q.bad
theorem call_anyW (c : Ctx X Wx k) : CallR X (.builtin "any") (lfC X.kw anyW) := by
  intro pins s σ H xs us Q I rx ⟨ρ, G, ws, r, al, q⟩
  unfold anyW at q
  split at q
  · obtain ⟨v, _, rfl, av, rfl⟩ := al
    split at q
    · rename_i bs e
      obtain ⟨xs, e1, e2⟩ := Option.bind_eq_some_iff.mp e
      obtain ⟨p, vs, rfl, hv, l⟩ := lstOf_abs r av e1
      rw [blOf_abs e2 l] at hv
      exact cr_any c.calm pins s σ H _ us Q I rx ⟨p, bs, rfl, hv, q ρ H _ .refl r (by simp [Abs])⟩
    · exact q.bad
  · exact q.bad
theorem call_sumW (c : Ctx X Wx k) : CallR X (.builtin "sum") (lfC X.kw sumW) := by
  intro pins s σ H xs us Q I rx ⟨ρ, G, ws, r, al, q⟩
  unfold sumW at q
  split at q
  · obtain ⟨v, _, rfl, av, rfl⟩ := al
    split at q
    · rename_i bs e
      obtain ⟨xs, e1, e2⟩ := Option.bind_eq_some_iff.mp e
      obtain ⟨p, vs, rfl, hv, l⟩ := lstOf_abs r av e1
      rw [intOf_abs e2 l] at hv
      exact cr_sum c.calm pins s σ H _ us Q I rx ⟨p, bs, rfl, hv, q ρ H _ .refl r (by simp [Abs])⟩
    · exact q.bad
  · exact q.bad
end
/-! ### isinstance -/
def tyOfW (w : W) (G : Gh) : Option Value := match w with
  | .non => some (.type "NoneType")
  | .bl _ => some (.type "bool")
  | .int _ => some (.type "int")
  | .str _ => some (.type "str")
  | .tup _ => some (.type "tuple")
  | .ref n => match G[n]? with
    | some (.lst _) => some (.type "list")
    | some (.dct _ _) => some (.type "dict")
    | some (.ins C _) => some (.ref C)
    | _ => none
  | _ => none
def clsOfW : W → Option Value
  | .ty n => some (.type n)
  | .obj C => some (.ref C)
  | _ => none
def clsOfWs : List W → Option (List Value)
  | [] => some []
  | w :: ws => match clsOfW w, clsOfWs ws with
    | some c, some cs => some (c :: cs)
    | _, _ => none
def isiQ (K : PySem.W.Frag) (w c : W) (G : Gh) : Option Bool := match tyOfW w G with
  | none => none
  | some t => match c with
    | .tup cs => (clsOfWs cs).bind (PySem.W.kitAny K t)
    | c => (clsOfW c).bind (PySem.W.kitOne K t)
def isiW (K : PySem.W.Frag) : DF := fun ws G => match ws with
  | [w, c] => match isiQ K w c G with
    | some b => .ok (.bl b) G
    | none => .stuck
  | _ => .stuck
section
variable {X : Cx} {pins : List (Addr × Obj)} {σ : St} {H : Hp} {s : Shared} {ρ : List Addr} {G : Gh}
theorem kit_W (I : Inv X pins σ H s) (r : RG X.kw ρ H G) {w : W} {x : V} {u t : Value} (a : Abs X.kw ρ H w x) (rx : RelV x u) (e : tyOfW w G = some t) :
    ∃ P : Heap → Prop, PySem.W.KitX X.K u t P ∧ P s.heap ∧ u ≠ .builtin "__main__.__loader__#opaque" := by
  unfold tyOfW at e
  split at e
  · cases e; simp only [Abs] at a; subst a; exact kit_of I rx (.base .non)
  · cases e; simp only [Abs] at a; subst a; exact kit_of I rx (.base (.bl _))
  · cases e; simp only [Abs] at a; subst a; exact kit_of I rx (.base (.int _))
  · cases e; simp only [Abs] at a; subst a; exact kit_of I rx (.base (.str _))
  · cases e
    obtain ⟨p, vs, rfl, st, l⟩ := a
    exact kit_of I rx (.base (.tup st.2))
  · obtain ⟨p, ep, rfl⟩ := a
    split at e
    · rename_i g
      cases e
      obtain ⟨vs, hv, l⟩ := r.lst ep g
      exact kit_of I rx (.base (.lst hv))
    · rename_i lk kvs g
      cases e
      cases rx
      obtain ⟨o, h, ex⟩ := dct_obj I r ep g
      exact ⟨_, PySem.W.kitx_dict, ⟨o, h, ex.1⟩, fun z => nomatch z⟩
    · rename_i C ws g
      cases e
      obtain ⟨dx, vs, ⟨sc, si⟩, _, _, _, sl, _⟩ := r.ob _ _ p g ep
      cases rx
      obtain ⟨_, od, _, J, _⟩ := SlX.slt_inst I sl
      exact ⟨_, OwX.kitx_slt sc.ic (sc.get _) si.ca si.cn si.ct si.cm, J, fun z => nomatch z⟩
    · cases e
  · cases e
theorem clsOfW_ok {w : W} {v : V} {c u : Value} (a : Abs X.kw ρ H w v) (r : RelV v u) (e : clsOfW w = some c) : u = c := by
  unfold clsOfW at e
  split at e
  · cases e; simp only [Abs] at a; subst a; exact r
  · cases e; simp only [Abs] at a; subst a; exact r
  · cases e
theorem clsOfWs_ok : ∀ {ws : List W} {vs : List V} {cs us : List Value}, AbsL X.kw ρ H ws vs → Vals vs us → clsOfWs ws = some cs → us = cs
  | [], _, _, _, a, r, e => by
    simp only [clsOfWs, Option.some.injEq] at e
    simp only [AbsL] at a
    subst e a
    cases r
    rfl
  | w :: ws, _, _, _, a, r, e => by
    obtain ⟨v, vs, rfl, a1, a2⟩ := a
    cases r with
    | cons r1 r2 =>
      unfold clsOfWs at e
      split at e
      · rename_i c cs e1 e2
        cases e
        rw [clsOfW_ok a1 r1 e1, clsOfWs_ok a2 r2 e2]
      · cases e
theorem call_isiW : CallR X (.builtin "isinstance") (lfC X.kw (isiW X.K)) := by
  intro pins s σ H xs us Q I rx ⟨ρ, G, ws, r, al, q⟩
  unfold isiW at q
  split at q
  · rename_i w c
    obtain ⟨x, _, rfl, ax, y, _, rfl, ay, rfl⟩ := al
    obtain ⟨u1, u2, rfl, r1, r2⟩ := rx.two
    split at q
    · rename_i b e
      unfold isiQ at e
      split at e
      · cases e
      · rename_i t et
        obtain ⟨P, Z, p, hx⟩ := kit_W I r ax r1 et
        have fin : ∀ tk, EP X pins σ Q (.bool b) { s with toks := tk } := fun tk => ⟨.bl b, H, I.tok tk, rfl, q ρ H _ .refl r (by simp [Abs])⟩
        split at e
        · rename_i cs
          obtain ⟨cc, e1, e2⟩ := Option.bind_eq_some_iff.mp e
          obtain ⟨tp, vs, rfl, st, l⟩ := ay
          obtain rfl : u2 = Value.ref tp := r2
          obtain ⟨_, its, rv, o, h1, h2, n, h3⟩ := (show ObjOk X.prog X.w H s.heap tp (.tup vs) from I.hok tp _ st.2)
          have e3 := clsOfWs_ok l rv e1
          subst e3
          obtain ⟨oc, od, dt, sl⟩ := o
          simp only at h2 h3
          subst h2 h3
          exact PySem.W.kia_tup Z I.kIn p h1 e2 hx fin
        · obtain ⟨cc, e1, e2⟩ := Option.bind_eq_some_iff.mp e
          cases clsOfW_ok ay r2 e1
          exact PySem.W.kia_one Z I.kIn p e2 hx fin
    · exact q.bad
  · exact q.bad
end
end Dn
end
section
set_option Elab.async false
set_option backward.match.sparseCases false
set_option linter.all false
set_option maxRecDepth 100000
set_option maxHeartbeats 2000000
namespace Dn
open PySem L2
/-! ### dicts -/
def isFlat : W → Bool
  | .int _ => true
  | .str _ => true
  | _ => false
def flatKey : W → Option Key
  | .int i => some (.inl i)
  | .str x => some (.inr x)
  | _ => none
/-- a key that is a tuple -/
def tupKey : W → Option NestedKey
  | .tup ws => match keyW (.tup ws) with
    | some k => if k.depth ≤ 8 then some k else none
    | none => none
  | _ => none
def sameKey (a b : W) : Bool := decide (keyW a = keyW b)
def dfind (kvs : List (W × W)) (k : W) : Option W := (kvs.find? fun p => sameKey p.1 k).map (·.2)
def dput (kvs : List (W × W)) (k v : W) : List (W × W) := if (dfind kvs k).isSome = true then kvs.map fun p => if sameKey p.1 k = true then (p.1, v) else p else kvs ++ [(k, v)]
def ddrop (kvs : List (W × W)) (k : W) : List (W × W) := kvs.filter fun p => !sameKey p.1 k
/-- the key is of the kind of the dict's keys -/
def keyFits (lk : Bool) (kvs : List (W × W)) (k : W) : Bool := (!lk || !kvs.isEmpty) && (((flatKey k).isSome && kvs.all fun p => (flatKey p.1).isSome) || ((tupKey k).isSome && kvs.all fun p => (tupKey p.1).isSome))
theorem flatKey_kW {w : W} {k : Key} (h : flatKey w = some k) : w = kW k := by
  unfold flatKey at h
  split at h
  · cases h; rfl
  · cases h; rfl
  · cases h
theorem kW_flat (k : Key) : flatKey (kW k) = some k := by cases k <;> rfl
theorem kW_not (k : Key) : tupKey (kW k) = none := by cases k <;> rfl
theorem same_flat (a b : Key) : sameKey (kW a) (kW b) = decide (a = b) := by
  unfold sameKey
  cases a <;> cases b <;> simp [kW, keyW]
theorem tupKey_is {w : W} {k : NestedKey} (h : tupKey w = some k) : keyW w = some k ∧ (∃ us, w = .tup us) ∧ k.depth ≤ 8 := by
  unfold tupKey at h
  split at h
  · rename_i ws
    split at h
    · rename_i k' e
      split at h
      · cases h
        exact ⟨e, ⟨ws, rfl⟩, by assumption⟩
      · cases h
    · cases h
  · cases h
theorem tupKey_of {w : W} {k : NestedKey} (h : keyW w = some k) (ht : ∃ us, w = .tup us) (hd : k.depth ≤ 8) : tupKey w = some k := by
  obtain ⟨us, rfl⟩ := ht
  show (match keyW (.tup us) with
    | some k => if k.depth ≤ 8 then some k else none
    | none => none) = some k
  rw [h]
  simp [hd]
theorem tup_notflat {w : W} {k : NestedKey} (h : tupKey w = some k) : flatKey w = none := by
  obtain ⟨_, ⟨us, rfl⟩, _⟩ := tupKey_is h
  rfl
section
variable {X : Cx} {Wx : WX} {k : Nat} {pins : List (Addr × Obj)} {σ : St} {H : Hp} {s : Shared} {ρ : List Addr} {G : Gh}
mutual
/-- a tracked value is its key -/
theorem keyV_is (I : Inv X pins σ H s) : ∀ (w : W) (k : NestedKey) (v : V) (u : Value), keyW w = some k → Abs X.kw ρ H w v → RelV v u → NestedIs s.heap k u
  | .non, k, v, u, e, a, r => by
    simp only [keyW, Option.some.injEq] at e
    simp only [Abs] at a
    subst e a
    cases r
    exact .none
  | .bl b, k, v, u, e, a, r => by
    simp only [keyW, Option.some.injEq] at e
    simp only [Abs] at a
    subst e a
    cases r
    exact .bool rfl
  | .int i, k, v, u, e, a, r => by
    simp only [keyW, Option.some.injEq] at e
    simp only [Abs] at a
    subst e a
    obtain ⟨t, rfl⟩ := r
    exact .int i t
  | .str x, k, v, u, e, a, r => by
    simp only [keyW, Option.some.injEq] at e
    simp only [Abs] at a
    subst e a
    obtain ⟨t, rfl⟩ := r
    exact .text x t
  | .tup ws, k, v, u, e, a, r => by
    simp only [keyW] at e
    rcases Option.map_eq_some_iff.mp e with ⟨ks, ek, rfl⟩
    obtain ⟨b, vs, rfl, st, l⟩ := a
    cases r
    obtain ⟨its, rv, ⟨o, ho, hc, n, hd⟩, _⟩ := I.tuple (st.sq (F := X.K))
    exact .tup ho hc hd (keyVs_is I ws ks vs _ ek l rv)
  | .ref _, _, _, _, e, _, _ => by simp [keyW] at e
  | .rol _, _, _, _, e, _, _ => by simp [keyW] at e
  | .ty _, _, _, _, e, _, _ => by simp [keyW] at e
  | .obj _, _, _, _, e, _, _ => by simp [keyW] at e
theorem keyVs_is (I : Inv X pins σ H s) : ∀ (ws : List W) (ks : List NestedKey) (vs : List V) (us : List Value), keyWs ws = some ks → AbsL X.kw ρ H ws vs → Vals vs us → NestedAll s.heap ks us
  | [], ks, vs, us, e, a, r => by
    simp only [keyWs, Option.some.injEq] at e
    simp only [AbsL] at a
    subst e a
    cases r
    exact .nil
  | w :: ws, ks, vs, us, e, a, r => by
    obtain ⟨v, vs', rfl, a1, a2⟩ := a
    cases r with
    | cons r1 r2 =>
      unfold keyWs at e
      split at e
      · rename_i k ks' e1 e2
        cases e
        exact .cons (keyV_is I w k v _ e1 a1 r1) (keyVs_is I ws ks' vs' _ e2 a2 r2)
      · cases e
end
/-- there, locked or not -/
def LkAt (H : Hp) (a : Addr) (lk : Bool) (u : HO) : Prop := match lk with
  | false => H a = some u
  | true => ∃ o, H a = some (.frz o u)
theorem LkAt.rd {H : Hp} {a : Addr} {lk : Bool} {u : HO} (h : LkAt H a lk u) : Rd H a u := by
  cases lk with
  | false => exact .inl h
  | true => exact .inr h
/-- the two forms of a dict -/
def FlatAt (K : Kw) (ρ : List Addr) (H : Hp) (a : Addr) (lk : Bool) (kvs : List (W × W)) : Prop := ∃ fk : List (Key × V), LkAt H a lk (.dK fk) ∧ FP K ρ H kvs fk
def NestAt (K : Kw) (ρ : List Addr) (H : Hp) (a : Addr) (lk : Bool) (kvs : List (W × W)) : Prop := ∃ xs : List (NestedKey × Addr × V), LkAt H a lk (DnO K.2 a xs) ∧ (xs.map (·.1)).Nodup ∧ NP K ρ H kvs xs
theorem FP.flat {K : Kw} : ∀ {kvs : List (W × W)} {fk : List (Key × V)}, FP K ρ H kvs fk → ∀ p ∈ kvs, (flatKey p.1).isSome = true
  | _, _, .nil, p, h => nomatch h
  | _, _, .cons r t, p, h => by
    obtain e | h := List.mem_cons.mp h
    · subst e
      rw [r.1, kW_flat]
      rfl
    · exact FP.flat t p h
theorem NP.tups {K : Kw} : ∀ {kvs : List (W × W)} {xs : List (NestedKey × Addr × V)}, NP K ρ H kvs xs → ∀ p ∈ kvs, (tupKey p.1).isSome = true
  | _, _, .nil, p, h => nomatch h
  | _, _, .cons r t, p, h => by
    obtain e | h := List.mem_cons.mp h
    · subst e
      rw [tupKey_of r.1 r.2.1.1 r.2.1.2]
      rfl
    · exact NP.tups t p h
/-- what one knows of the nested dict at a -/
theorem dn_get (I : Inv X pins σ H s) {a : Addr} {xs : List (NestedKey × Addr × V)} (e : Rd H a (DnO X.w a xs)) : (a == sysModules) = false ∧ xs.length ≤ sizeLine ∧
    ∃ o es ep, s.heap.get? a = some o ∧ o.ExactDict ∧ o.data = .dict es ep ∧ ∃ ys, es.toList = ys.map (fun x : NestedKey × Addr × Value => ⟨x.1.hash X.w, .ref x.2.1, x.2.2⟩) ∧ XY xs ys := by
  obtain ⟨⟨o, es, ep, h1, h2, h3, h4, h5, ys, h6, h7⟩, _⟩ := e.ok I.hok
  exact ⟨h4, h5, o, es, ep, h1, h2, h3, ys, h6, h7⟩
theorem dn_ok {H' : Hp} {h' : Heap} {a : Addr} {xs : List (NestedKey × Addr × V)} {o : Obj} {es : Array DictEntry} {ep : Nat} {ys : List (NestedKey × Addr × Value)} (P : Program) (w : World) (h1 : h'.get? a = some o) (h2 : o.ExactDict) (h3 : o.data = .dict es ep) (h4 : (a == sysModules) = false) (h5 : xs.length ≤ sizeLine)
    (h6 : es.toList = ys.map (fun x => ⟨x.1.hash w, .ref x.2.1, x.2.2⟩)) (h7 : XY xs ys) : ObjOk P w H' h' a (DnO w a xs) :=
  ⟨⟨o, es, ep, h1, h2, h3, h4, h5, ys, h6, h7⟩, ⟨o, h1⟩, fun g1 g2 ⟨o, es, ep, h1, r⟩ hk => ⟨o, es, ep, hk o h1, r⟩⟩
theorem RG.self (r : RG X.kw ρ H G) {n : Nat} {a : Addr} {u : GO} {o : HO} (e : ρ[n]? = some a) (g : G[n]? = some u) (hu : AbsO X.kw ρ (upd H a o) a u) : RG X.kw ρ (upd H a o) G := by
  have := r.put (u := u) e hu
  rwa [show G.set n u = G from by
    refine List.ext_getElem? fun i => ?_
    by_cases q : n = i
    · subst q
      rw [g, List.getElem?_set_self (List.getElem?_eq_some_iff.mp g).1]
    · rw [List.getElem?_set_ne q]] at this
/-- a dict of ints and texts stands in its flat form (one that is locked and empty is left) -/
theorem to_flat (I : Inv X pins σ H s) (r : RG X.kw ρ H G) {n : Nat} {a : Addr} {lk : Bool} {kvs : List (W × W)} (e : ρ[n]? = some a) (g : G[n]? = some (.dct lk kvs)) (hl : lk = false ∨ kvs ≠ []) (hf : ∀ p ∈ kvs, (flatKey p.1).isSome = true) :
    ∃ H', Inv X pins σ H' s ∧ RG X.kw ρ H' G ∧ Go ρ ρ H H' ∧ FlatAt X.kw ρ H' a lk kvs := by
  obtain ⟨u, f, hu⟩ := r.ob _ _ a g e
  rcases f with ⟨fk, rfl, p⟩ | ⟨xs, rfl, hn, p⟩
  · exact ⟨H, I, r, .refl, fk, hu, p⟩
  · cases p with
    | cons r1 t =>
      have := hf _ List.mem_cons_self
      rw [tup_notflat (tupKey_of r1.1 r1.2.1.1 r1.2.1.2)] at this
      cases this
    | nil =>
      rcases hl with rfl | hl
      · have hx : H a = some (DnO X.w a []) := hu
        obtain ⟨h4, h5, o, es, ep, h1, h2, h3, ys, h6, h7⟩ := dn_get I (.inl hx)
        cases h7
        have ze : es = #[] := Array.toList_inj.mp (by simpa using h6)
        subst ze
        have I' : Inv X pins σ (upd H a (.dK [])) { s with heap := s.heap, toks := s.toks } := d_write (h' := s.heap) (t' := s.toks) I (by rw [hx]; trivial) ⟨rfl, fun _ _ => rfl⟩ ⟨o, h1⟩ (dk_new (vs := []) (Nat.zero_le _) h4 .nil ⟨o, #[], ep, h1, h2, h3, by intro x hx; simp at hx, .nil, List.nodup_nil⟩)
        exact ⟨_, I', r.self e g ⟨_, .inl ⟨[], rfl, .nil⟩, upd_same⟩, Go.put r e (nofz hx), [], upd_same, .nil⟩
      · exact absurd rfl hl
/-- a dict of tuples stands in its nested form -/
theorem to_nest (I : Inv X pins σ H s) (r : RG X.kw ρ H G) {n : Nat} {a : Addr} {lk : Bool} {kvs : List (W × W)} (e : ρ[n]? = some a) (g : G[n]? = some (.dct lk kvs)) (hl : lk = false ∨ kvs ≠ []) (hf : ∀ p ∈ kvs, (tupKey p.1).isSome = true) :
    ∃ H', Inv X pins σ H' s ∧ RG X.kw ρ H' G ∧ Go ρ ρ H H' ∧ NestAt X.kw ρ H' a lk kvs := by
  obtain ⟨u, f, hu⟩ := r.ob _ _ a g e
  rcases f with ⟨fk, rfl, p⟩ | ⟨xs, rfl, hn, p⟩
  · cases p with
    | cons r1 t =>
      have := hf _ List.mem_cons_self
      rw [r1.1, kW_not] at this
      cases this
    | nil =>
      rcases hl with rfl | hl
      · have hx : H a = some (.dK []) := hu
        obtain ⟨_, h4, vs, rel, o, es, ep, h1, h2, h3, h5⟩ := (show ObjOk X.prog X.w H s.heap a (.dK []) from I.hok a _ hx)
        cases rel
        have ze : es = #[] := by
          have := h5.2.1.length
          exact Array.eq_empty_of_size_eq_zero (by simpa using this)
        subst ze
        have I' : Inv X pins σ (upd H a (DnO X.w a [])) { s with heap := s.heap, toks := s.toks } := d_write (h' := s.heap) (t' := s.toks) I (by rw [hx]; trivial) ⟨rfl, fun _ _ => rfl⟩ ⟨o, h1⟩ (dn_ok (ys := []) X.prog X.w h1 h2 h3 h4 (Nat.zero_le _) rfl .nil)
        exact ⟨_, I', r.self e g ⟨_, .inr ⟨[], rfl, List.nodup_nil, .nil⟩, upd_same⟩, Go.put r e (nofz hx), [], upd_same, List.nodup_nil, .nil⟩
      · exact absurd rfl hl
  · exact ⟨H, I, r, .refl, xs, hu, hn, p⟩
end
end Dn
end
section
set_option Elab.async false
set_option backward.match.sparseCases false
set_option linter.all false
set_option maxRecDepth 100000
set_option maxHeartbeats 2000000
namespace Dn
open PySem L2
/-! ### what a dict holds, in its two forms -/
section
variable {K : Kw} {ρ : List Addr} {H : Hp}
/-- what is there -/
def Held (K : Kw) (ρ : List Addr) (H : Hp) : Option W → Option V → Prop
  | some w, some v => Abs K ρ H w v
  | none, none => True
  | _, _ => False
theorem dfind_cons {p : W × W} {r : List (W × W)} {k : W} : dfind (p :: r) k = if sameKey p.1 k = true then some p.2 else dfind r k := by
  unfold dfind
  rw [List.find?_cons]
  split <;> simp_all
theorem FP.find : ∀ {kvs : List (W × W)} {fk : List (Key × V)}, FP K ρ H kvs fk → ∀ k : Key, Held K ρ H (dfind kvs (kW k)) (valV fk k)
  | _, _, .nil, k => trivial
  | _, _, .cons (a := p) (b := q) r t, k => by
    rw [dfind_cons, show p.1 = kW q.1 from r.1, same_flat]
    by_cases e : q.1 = k
    · rw [valV_pos e, if_pos (by simpa using e)]
      exact r.2
    · rw [valV_neg e, if_neg (by simpa using e)]
      exact FP.find t k
theorem held_some {o : Option W} {u : Option V} (h : Held K ρ H o u) : o.isSome = u.isSome := by
  cases o <;> cases u <;> first | rfl | exact h.elim
theorem FP.repl {k : Key} {w : W} {v : V} (aw : Abs K ρ H w v) : ∀ {kvs : List (W × W)} {fk : List (Key × V)}, FP K ρ H kvs fk →
    FP K ρ H (kvs.map fun p => if sameKey p.1 (kW k) = true then (p.1, w) else p) (fk.map fun kv => if kv.1 = k then (kv.1, v) else kv)
  | _, _, .nil => .nil
  | _, _, .cons (a := p) (b := q) r t => by
    refine .cons ?_ (FP.repl aw t)
    show (if sameKey p.1 (kW k) = true then (p.1, w) else p).1 = kW (if q.1 = k then (q.1, v) else q).1 ∧ Abs K ρ H (if sameKey p.1 (kW k) = true then (p.1, w) else p).2 (if q.1 = k then (q.1, v) else q).2
    have e0 : sameKey p.1 (kW k) = decide (q.1 = k) := by rw [show p.1 = kW q.1 from r.1, same_flat]
    rw [e0]
    by_cases e : q.1 = k
    · simp only [e, decide_true, if_true]
      exact ⟨r.1.trans (by rw [e]), aw⟩
    · simp only [e, decide_false, Bool.false_eq_true, if_false]
      exact r
theorem FP.append : ∀ {a b : List (W × W)} {c d : List (Key × V)}, FP K ρ H a c → FP K ρ H b d → FP K ρ H (a ++ b) (c ++ d)
  | _, _, _, _, .nil, h => h
  | _, _, _, _, .cons r t, h => .cons r (FP.append t h)
theorem FP.put {kvs : List (W × W)} {fk : List (Key × V)} {k : Key} {w : W} {v : V} (h : FP K ρ H kvs fk) (aw : Abs K ρ H w v) : FP K ρ H (dput kvs (kW k) w) (putK fk k v) := by
  have e1 := held_some (h.find k)
  unfold dput putK
  rw [valV_any, ← e1]
  split
  · exact h.repl aw
  · exact h.append (.cons ⟨rfl, aw⟩ .nil)
theorem FP.drop {k : Key} : ∀ {kvs : List (W × W)} {fk : List (Key × V)}, FP K ρ H kvs fk → FP K ρ H (ddrop kvs (kW k)) (dropK fk k)
  | _, _, .nil => .nil
  | _, _, .cons (a := p) (b := q) r t => by
    unfold ddrop dropK
    rw [List.filter_cons, List.filter_cons, show p.1 = kW q.1 from r.1, same_flat]
    by_cases e : q.1 = k
    · simp only [e, decide_true, Bool.not_true, Bool.false_eq_true, if_false, ne_eq, not_true_eq_false, decide_false]
      exact FP.drop t
    · simp only [e, decide_false, Bool.not_false, if_true, ne_eq, not_false_eq_true, decide_true]
      exact .cons r (FP.drop t)
theorem FP.len {kvs : List (W × W)} {fk : List (Key × V)} (h : FP K ρ H kvs fk) : kvs.length = fk.length := Paired.length h
theorem NP.len {kvs : List (W × W)} {xs : List (NestedKey × Addr × V)} (h : NP K ρ H kvs xs) : kvs.length = xs.length := Paired.length h
theorem FP.go {ρ' : List Addr} {H' : Hp} (g : Go ρ ρ' H H') {kvs : List (W × W)} {fk : List (Key × V)} (h : FP K ρ H kvs fk) : FP K ρ' H' kvs fk := Paired.mapP h fun _ _ z => ⟨z.1, z.2.go g⟩
theorem NP.go {ρ' : List Addr} {H' : Hp} (g : Go ρ ρ' H H') {kvs : List (W × W)} {xs : List (NestedKey × Addr × V)} (h : NP K ρ H kvs xs) : NP K ρ' H' kvs xs := Paired.mapP h fun _ _ z => ⟨z.1, z.2.1, z.2.2.1.go g, z.2.2.2.go g⟩
/-! nested -/
def fX (xs : List (NestedKey × Addr × V)) (k : NestedKey) : Option (Addr × V) := (xs.find? fun x => decide (x.1 = k)).map (·.2)
def stX (xs : List (NestedKey × Addr × V)) (k : NestedKey) (a : Addr) (v : V) : List (NestedKey × Addr × V) := if (fX xs k).isSome = true then xs.map (fun x => if x.1 = k then (x.1, x.2.1, v) else x) else xs ++ [(k, a, v)]
def drX (xs : List (NestedKey × Addr × V)) (k : NestedKey) : List (NestedKey × Addr × V) := xs.filter fun x => decide (x.1 ≠ k)
theorem fX_cons {p : NestedKey × Addr × V} {r : List (NestedKey × Addr × V)} {k : NestedKey} : fX (p :: r) k = if p.1 = k then some p.2 else fX r k := by
  unfold fX
  rw [List.find?_cons]
  rcases Decidable.em (p.1 = k) with e | e <;> simp [e]
theorem atKey_cons {p : NestedKey × Addr × Value} {r : List (NestedKey × Addr × Value)} {k : NestedKey} : atKey (p :: r) k = if p.1 = k then some p.2 else atKey r k := by
  unfold atKey
  rw [List.find?_cons]
  rcases Decidable.em (p.1 = k) with e | e <;> simp [e]
theorem same_nest {a b : W} {x y : NestedKey} (ha : keyW a = some x) (hb : keyW b = some y) : sameKey a b = decide (x = y) := by
  unfold sameKey
  rw [ha, hb]
  simp
theorem NP.find {k : W} {nk : NestedKey} (hk : keyW k = some nk) : ∀ {kvs : List (W × W)} {xs : List (NestedKey × Addr × V)}, NP K ρ H kvs xs → Held K ρ H (dfind kvs k) ((fX xs nk).map (·.2))
  | _, _, .nil => trivial
  | _, _, .cons (a := p) (b := q) r t => by
    rw [dfind_cons, fX_cons, same_nest r.1 hk]
    by_cases e : q.1 = nk
    · rw [if_pos (by simpa using e), if_pos e]
      exact r.2.2.2
    · rw [if_neg (by simpa using e), if_neg e]
      exact NP.find hk t
theorem XY.find (nk : NestedKey) : ∀ {xs : List (NestedKey × Addr × V)} {ys : List (NestedKey × Addr × Value)}, XY xs ys → RelO ((fX xs nk).map (·.2)) ((atKey ys nk).map (·.2))
  | _, _, .nil => trivial
  | _, _, .cons (a := p) (b := q) r t => by
    rw [fX_cons, atKey_cons, r.1]
    by_cases e : q.1 = nk
    · rw [if_pos e, if_pos e]
      exact r.2.2
    · rw [if_neg e, if_neg e]
      exact XY.find nk t
theorem fX_any {ys : List (NestedKey × Addr × Value)} {xs : List (NestedKey × Addr × V)} (h : XY xs ys) (nk : NestedKey) : (fX xs nk).isSome = (atKey ys nk).isSome := by
  have := (XY.find nk h).isSome_eq
  rwa [Option.isSome_map, Option.isSome_map] at this
theorem NP.append : ∀ {a b : List (W × W)} {c d : List (NestedKey × Addr × V)}, NP K ρ H a c → NP K ρ H b d → NP K ρ H (a ++ b) (c ++ d)
  | _, _, _, _, .nil, h => h
  | _, _, _, _, .cons r t, h => .cons r (NP.append t h)
theorem XY.append : ∀ {a b : List (NestedKey × Addr × V)} {c d : List (NestedKey × Addr × Value)}, XY a c → XY b d → XY (a ++ b) (c ++ d)
  | _, _, _, _, .nil, h => h
  | _, _, _, _, .cons r t, h => .cons r (XY.append t h)
theorem NP.repl {k w : W} {nk : NestedKey} {v : V} (hk : keyW k = some nk) (aw : Abs K ρ H w v) : ∀ {kvs : List (W × W)} {xs : List (NestedKey × Addr × V)}, NP K ρ H kvs xs →
    NP K ρ H (kvs.map fun p => if sameKey p.1 k = true then (p.1, w) else p) (xs.map fun x => if x.1 = nk then (x.1, x.2.1, v) else x)
  | _, _, .nil => .nil
  | _, _, .cons (a := p) (b := q) r t => by
    refine .cons ?_ (NP.repl hk aw t)
    dsimp only
    rw [same_nest r.1 hk]
    by_cases e : q.1 = nk
    · simp only [e, decide_true, if_true]
      exact ⟨by rw [r.1, e], ⟨r.2.1.1, by rw [← e]; exact r.2.1.2⟩, r.2.2.1, aw⟩
    · simp only [e, decide_false, Bool.false_eq_true, if_false]
      exact r
theorem XY.repl {nk : NestedKey} {v : V} {u : Value} (rv : RelV v u) : ∀ {xs : List (NestedKey × Addr × V)} {ys : List (NestedKey × Addr × Value)}, XY xs ys →
    XY (xs.map fun x => if x.1 = nk then (x.1, x.2.1, v) else x) (ys.map (putAt nk u))
  | _, _, .nil => .nil
  | _, _, .cons (a := p) (b := q) r t => by
    refine .cons ?_ (XY.repl rv t)
    dsimp only
    unfold putAt
    rw [r.1]
    by_cases e : q.1 = nk
    · rw [if_pos e, if_pos e]
      exact ⟨rfl, r.2.1, rv⟩
    · rw [if_neg e, if_neg e]
      exact r
theorem NP.put {kvs : List (W × W)} {xs : List (NestedKey × Addr × V)} {k w : W} {nk : NestedKey} {b : Addr} {v : V} (h : NP K ρ H kvs xs) (hk : tupKey k = some nk) (ab : Abs K ρ H k (.ref b)) (aw : Abs K ρ H w v) : NP K ρ H (dput kvs k w) (stX xs nk b v) := by
  obtain ⟨k1, k2, k3⟩ := tupKey_is hk
  have e1 := held_some (h.find k1)
  rw [Option.isSome_map] at e1
  unfold dput stX
  rw [e1]
  split
  · exact h.repl k1 aw
  · exact h.append (.cons ⟨k1, ⟨k2, k3⟩, ab, aw⟩ .nil)
theorem XY.put {xs : List (NestedKey × Addr × V)} {ys : List (NestedKey × Addr × Value)} {nk : NestedKey} {b : Addr} {v : V} {u : Value} (h : XY xs ys) (rv : RelV v u) : XY (stX xs nk b v) (storedH ys nk b u) := by
  unfold stX storedH
  rw [fX_any h]
  split
  · exact h.repl rv
  · exact h.append (.cons ⟨rfl, rfl, rv⟩ .nil)
theorem stX_keys {xs : List (NestedKey × Addr × V)} {nk : NestedKey} {b : Addr} {v : V} (h : (xs.map (·.1)).Nodup) : ((stX xs nk b v).map (·.1)).Nodup := by
  unfold stX
  split
  · rw [List.map_map, show ((fun x : NestedKey × Addr × V => x.1) ∘ fun x => if x.1 = nk then (x.1, x.2.1, v) else x) = (·.1) from funext fun x => by dsimp only [Function.comp]; split <;> rfl]
    exact h
  · rename_i hn
    simp only [List.map_append, List.nodup_append]
    refine ⟨h, by simp, fun a ha c hc e => ?_⟩
    rw [List.map_cons, List.map_nil, List.mem_singleton] at hc
    subst e
    subst hc
    apply hn
    obtain ⟨x, hx, ex⟩ := List.mem_map.mp ha
    unfold fX
    rw [Option.isSome_map, List.find?_isSome]
    exact ⟨x, hx, by simpa using ex⟩
theorem stX_len {xs : List (NestedKey × Addr × V)} {nk : NestedKey} {b : Addr} {v : V} : (stX xs nk b v).length ≤ xs.length + 1 := by
  unfold stX
  split
  · rw [List.length_map]; omega
  · simp
end
section
variable {X : Cx} {Wx : WX} {k : Nat} {pins : List (Addr × Obj)} {σ : St} {H : Hp} {s : Shared} {ρ : List Addr} {G : Gh}
/-- the nested dict as the library knows it -/
theorem dn_dict (I : Inv X pins σ H s) {a : Addr} {kvs : List (W × W)} {xs : List (NestedKey × Addr × V)} (e : Rd H a (DnO X.w a xs)) (hn : (xs.map (·.1)).Nodup) (p : NP X.kw ρ H kvs xs) :
    (a == sysModules) = false ∧ xs.length ≤ sizeLine ∧ ∃ ys, XY xs ys ∧ s.heap.DictOfH (nestedKind X.prog X.w) a ys := by
  obtain ⟨h4, h5, o, es, ep, h1, h2, h3, ys, h6, h7⟩ := dn_get I e
  refine ⟨h4, h5, ys, h7, o, es, ep, h1, h2, h3, h6, ?_, ?_⟩
  · have all : ∀ {kvs : List (W × W)} {xs : List (NestedKey × Addr × V)} {ys : List (NestedKey × Addr × Value)}, NP X.kw ρ H kvs xs → XY xs ys → ∀ x ∈ ys, (nestedKind X.prog X.w).is s.heap x.1 x.2.1 := by
      intro kvs xs ys p
      induction p generalizing ys with
      | nil => intro h x hx; cases h; exact nomatch hx
      | cons r t ih =>
        intro h x hx
        cases h with
        | cons q t' =>
          obtain e | hx := List.mem_cons.mp hx
          · subst e
            refine ⟨?_, by rw [← q.1]; exact r.2.1.2⟩
            rw [← q.1]
            exact keyV_is I _ _ _ _ r.1 r.2.2.1 (by show Value.ref _ = Value.ref _; rw [q.2.1])
          · exact ih t' x hx
    exact all p h7
  · have : xs.map (·.1) = ys.map (·.1) := by
      clear h6 h5 p hn e
      induction h7 with
      | nil => rfl
      | cons r t ih => rw [List.map_cons, List.map_cons, r.1, ih]
    rw [← this]
    exact hn
/-- the dict is written anew -/
theorem dn_write (I : Inv X pins σ H s) {a : Addr} {xs xs' : List (NestedKey × Addr × V)} {ys' : List (NestedKey × Addr × Value)} {h' : Heap} {t' : Nat} (e : H a = some (DnO X.w a xs)) (hd : (a == sysModules) = false) (hz : xs'.length ≤ sizeLine) (hs : Heap.SameBut a s.heap h') (dd : h'.DictOfH (nestedKind X.prog X.w) a ys') (p : XY xs' ys') :
    Inv X pins σ (upd H a (DnO X.w a xs')) { s with heap := h', toks := t' } := by
  obtain ⟨o, es, ep, h1, h2, h3, h4, _, _⟩ := dd
  exact d_write I (by rw [e]; trivial) hs ⟨o, h1⟩ (dn_ok X.prog X.w h1 h2 h3 hd hz h4 p)
theorem nroom (c : Ctx X Wx k) : (nestedKind X.prog X.w).room X.A.in1 := by
  show X.A.units + 1 + 8 < cLine
  have := c.rm.un
  omega
theorem units1 (c : Ctx X Wx k) : X.A.units + 1 < cLine := by have := c.rm.un; omega
theorem fits_cases {lk : Bool} {kvs : List (W × W)} {k : W} (h : keyFits lk kvs k = true) : (lk = false ∨ kvs ≠ []) ∧ ((∃ kk, k = kW kk ∧ ∀ p ∈ kvs, (flatKey p.1).isSome = true) ∨ ∃ nk, tupKey k = some nk ∧ ∀ p ∈ kvs, (tupKey p.1).isSome = true) := by
  unfold keyFits at h
  obtain ⟨h0, h⟩ := Bool.and_eq_true_iff.mp h
  rw [Bool.or_eq_true, Bool.and_eq_true, Bool.and_eq_true] at h
  refine ⟨by cases lk <;> simp_all, ?_⟩
  obtain ⟨h1, h2⟩ | ⟨h1, h2⟩ := h
  · obtain ⟨kk, e⟩ := Option.isSome_iff_exists.mp h1
    exact .inl ⟨kk, flatKey_kW e, fun p hp => List.all_eq_true.mp h2 p hp⟩
  · obtain ⟨nk, e⟩ := Option.isSome_iff_exists.mp h1
    exact .inr ⟨nk, e, fun p hp => List.all_eq_true.mp h2 p hp⟩
theorem tup_ref {w : W} {nk : NestedKey} {y : V} {u : Value} (h : tupKey w = some nk) (a : Abs X.kw ρ H w y) (r : RelV y u) : ∃ b, y = .ref b ∧ u = .ref b := by
  obtain ⟨_, ⟨us, rfl⟩, _⟩ := tupKey_is h
  obtain ⟨b, vs, rfl, _⟩ := a
  exact ⟨b, rfl, r⟩
/-- the end of a reading -/
abbrev Rdg (X : Cx) (pins : List (Addr × Obj)) (σ : St) (ρ : List Addr) (G : Gh) (H : Hp) (w : W) (Q : Value → Shared → Prop) : Prop := ∀ u s' H' v, Inv X pins σ H' s' → RG X.kw ρ H' G → Go ρ ρ H H' → Abs X.kw ρ H' w v → RelV v u → Q u s'
theorem dget_item (c : Ctx X Wx k) (I : Inv X pins σ H s) (r : RG X.kw ρ H G) {n : Nat} {a : Addr} {lk : Bool} {kvs : List (W × W)} {kw w : W} {y : V} {u : Value} {E : Value → Shared → Prop} {Q : Value → Shared → Prop} (e : ρ[n]? = some a) (g : G[n]? = some (.dct lk kvs)) (ft : keyFits lk kvs kw = true) (ay : Abs X.kw ρ H kw y) (ry : RelV y u) (ef : dfind kvs kw = some w)
    (h : Rdg X pins σ ρ G H w Q) : wpAny (model X.prog X.w) X.A (getItem (.ref a) u) Q E s := by
  obtain ⟨hl, ft⟩ := fits_cases ft
  rcases ft with ⟨kk, rfl, hf⟩ | ⟨nk, hk, hf⟩
  · obtain ⟨H', I', r', g', fk, hx, p⟩ := to_flat I r e g hl hf
    have hh := p.find kk
    rw [ef] at hh
    cases ev : valV fk kk with
    | none => rw [ev] at hh; exact hh.elim
    | some v =>
      rw [ev] at hh
      have ey : y = kV kk := by cases kk <;> simpa [kW, kV, Abs] using ay
      subst ey
      have dg : DGet H' a (kV kk) (valV fk kk) := .inl ⟨fk, kk, hx.rd, rfl, rfl⟩
      rw [ev] at dg
      exact d_getItem (units1 c) I' dg ry fun w' s' I2 rw' => h w' s' H' v I2 r' g' hh rw'
  · obtain ⟨H', I', r', g', xs, hx, hn, p⟩ := to_nest I r e g hl hf
    obtain ⟨hd, hz, ys, xy, dd⟩ := dn_dict I' hx.rd hn p
    obtain ⟨b, rfl, rfl⟩ := tup_ref hk ay ry
    obtain ⟨k1, k2, k3⟩ := tupKey_is hk
    have hh := p.find k1
    rw [ef] at hh
    have hxy := xy.find nk
    cases ev : fX xs nk with
    | none => rw [ev] at hh; exact hh.elim
    | some q =>
      rw [ev] at hh hxy
      cases ea : atKey ys nk with
      | none => rw [ea] at hxy; exact hxy.elim
      | some q' =>
        rw [ea] at hxy
        exact wpAny_getItem_heap (nroom c) ⟨keyV_is I' _ _ _ _ k1 (ay.go g') ry, k3⟩ dd ea (h _ _ H' q.2 (I'.tok _) r' g' hh hxy)
end
end Dn
end
section
set_option Elab.async false
set_option backward.match.sparseCases false
set_option linter.all false
set_option maxRecDepth 100000
set_option maxHeartbeats 2000000
namespace Dn
open PySem L2 PyProof.Rows
/-! ### a dict's operations -/
section
variable {X : Cx} {Wx : WX} {k : Nat} {pins : List (Addr × Obj)} {σ : L2.St} {H : Hp} {s : Shared} {ρ : List Addr} {G : Gh} {n : Nat} {a : Addr} {lk : Bool} {kvs : List (W × W)} {kw : W} {y : V} {u : Value} {E : Value → Shared → Prop}
theorem dget_in (c : Ctx X Wx k) (I : L2.Inv X pins σ H s) (r : RG X.kw ρ H G) {Q : Value → Shared → Prop} (e : ρ[n]? = some a) (g : G[n]? = some (.dct lk kvs)) (ft : keyFits lk kvs kw = true) (ay : Abs X.kw ρ H kw y) (ry : RelV y u) (neg : Bool)
    (h : ∀ s' H', L2.Inv X pins σ H' s' → RG X.kw ρ H' G → Go ρ ρ H H' → Q (.bool (if neg = true then !(dfind kvs kw).isSome else (dfind kvs kw).isSome)) s') : wpAny (model X.prog X.w) X.A (compareOp (if neg = true then .NotIn else .In) u (.ref a)) Q E s := by
  obtain ⟨hl, ft⟩ := fits_cases ft
  rcases ft with ⟨kk, rfl, hf⟩ | ⟨nk, hk, hf⟩
  · obtain ⟨H', I', r', g', fk, hx, p⟩ := to_flat I r e g hl hf
    have hh := held_some (p.find kk)
    have ey : y = kV kk := by cases kk <;> simpa [kW, kV, Abs] using ay
    subst ey
    have dg : DGet H' a (kV kk) (valV fk kk) := .inl ⟨fk, kk, hx.rd, rfl, rfl⟩
    cases neg with
    | true => exact d_notIn (units1 c) I' dg ry fun s' I2 => by rw [← hh]; exact h s' H' I2 r' g'
    | false => exact d_in (units1 c) I' dg ry fun s' I2 => by rw [← hh]; exact h s' H' I2 r' g'
  · obtain ⟨H', I', r', g', xs, hx, hn, p⟩ := to_nest I r e g hl hf
    obtain ⟨hd, hz, ys, xy, dd⟩ := dn_dict I' hx.rd hn p
    obtain ⟨b, rfl, rfl⟩ := tup_ref hk ay ry
    obtain ⟨k1, k2, k3⟩ := tupKey_is hk
    have hh := held_some (p.find k1)
    rw [Option.isSome_map, fX_any xy] at hh
    have kis : (nestedKind X.prog X.w).is s.heap nk b := ⟨keyV_is I' _ _ _ _ k1 (ay.go g') ry, k3⟩
    cases neg with
    | true => exact wpAny_notIn_heap (nroom c) kis hd dd (by rw [← hh]; exact h _ H' (I'.tok _) r' g')
    | false => exact wpAny_in_heap (nroom c) kis hd dd (by rw [← hh]; exact h _ H' (I'.tok _) r' g')
/-- d.get(k, x) -/
theorem dget_or (c : Ctx X Wx k) (I : L2.Inv X pins σ H s) (r : RG X.kw ρ H G) {w : W} {z : V} {zu : Value} {Q : Value → Shared → Prop} (e : ρ[n]? = some a) (g : G[n]? = some (.dct lk kvs)) (ft : keyFits lk kvs kw = true) (ay : Abs X.kw ρ H kw y) (ry : RelV y u)
    (az : Abs X.kw ρ H w z) (rz : RelV z zu) (h : Rdg X pins σ ρ G H ((dfind kvs kw).getD w) Q) : wpAny (model X.prog X.w) X.A (call (.builtin "dict.get") [.ref a, u, zu]) Q E s := by
  obtain ⟨hl, ft⟩ := fits_cases ft
  rcases ft with ⟨kk, rfl, hf⟩ | ⟨nk, hk, hf⟩
  · obtain ⟨H', I', r', g', fk, hx, p⟩ := to_flat I r e g hl hf
    have hh := p.find kk
    have ey : y = kV kk := by cases kk <;> simpa [kW, kV, Abs] using ay
    subst ey
    have dg : DGet H' a (kV kk) (valV fk kk) := .inl ⟨fk, kk, hx.rd, rfl, rfl⟩
    refine d_get2 (units1 c) I' dg ry rz fun w' s' I2 rw' => h w' s' H' _ I2 r' g' ?_ rw'
    cases e1 : dfind kvs (kW kk) <;> cases e2 : valV fk kk <;> rw [e1, e2] at hh
    · exact az.go g'
    · exact hh.elim
    · exact hh.elim
    · exact hh
  · obtain ⟨H', I', r', g', xs, hx, hn, p⟩ := to_nest I r e g hl hf
    obtain ⟨hd, hz, ys, xy, dd⟩ := dn_dict I' hx.rd hn p
    obtain ⟨b, rfl, rfl⟩ := tup_ref hk ay ry
    obtain ⟨k1, k2, k3⟩ := tupKey_is hk
    have hh := p.find k1
    have hxy := xy.find nk
    have kis : (nestedKind X.prog X.w).is s.heap nk b := ⟨keyV_is I' _ _ _ _ k1 (ay.go g') ry, k3⟩
    refine call_meetsIn PySem.F.slot_dict_get dd.typeIs PySem.F.entry_dict_get (PySem.F.args_dict_get_3 _ _ _) (meetsH_dict_get_default (nestedKind X.prog X.w) a b hd zu) ⟨nroom c, nk, ys, kis, dd, ?_⟩
    cases e1 : dfind kvs kw <;> cases e2 : fX xs nk <;> cases e3 : atKey ys nk <;> rw [e1, e2] at hh <;> rw [e2, e3] at hxy
    · rw [e1] at h; exact h zu _ H' z (I'.tok _) r' g' (az.go g') rz
    · exact hxy.elim
    · exact hh.elim
    · exact hh.elim
    · exact hh.elim
    · exact hh.elim
    · exact hxy.elim
    · rename_i w0 q q'
      rw [e1] at h
      exact h q'.2 _ H' q.2 (I'.tok _) r' g' hh hxy
/-- d.get(k) -/
theorem dget_non (c : Ctx X Wx k) (I : L2.Inv X pins σ H s) (r : RG X.kw ρ H G) {Q : Value → Shared → Prop} (e : ρ[n]? = some a) (g : G[n]? = some (.dct lk kvs)) (ft : keyFits lk kvs kw = true) (ay : Abs X.kw ρ H kw y) (ry : RelV y u)
    (h : Rdg X pins σ ρ G H ((dfind kvs kw).getD .non) Q) : wpAny (model X.prog X.w) X.A (call (.builtin "dict.get") [.ref a, u]) Q E s := by
  have az : ∀ {ρ H}, Abs X.kw ρ H .non .non := by simp [Abs]
  obtain ⟨hl, ft⟩ := fits_cases ft
  rcases ft with ⟨kk, rfl, hf⟩ | ⟨nk, hk, hf⟩
  · obtain ⟨H', I', r', g', fk, hx, p⟩ := to_flat I r e g hl hf
    have hh := p.find kk
    have ey : y = kV kk := by cases kk <;> simpa [kW, kV, Abs] using ay
    subst ey
    have dg : DGet H' a (kV kk) (valV fk kk) := .inl ⟨fk, kk, hx.rd, rfl, rfl⟩
    refine d_get1 (units1 c) I' dg ry fun w' s' I2 rw' => h w' s' H' _ I2 r' g' ?_ rw'
    cases e1 : dfind kvs (kW kk) <;> cases e2 : valV fk kk <;> rw [e1, e2] at hh
    · exact az
    · exact hh.elim
    · exact hh.elim
    · exact hh
  · obtain ⟨H', I', r', g', xs, hx, hn, p⟩ := to_nest I r e g hl hf
    obtain ⟨hd, hz, ys, xy, dd⟩ := dn_dict I' hx.rd hn p
    obtain ⟨b, rfl, rfl⟩ := tup_ref hk ay ry
    obtain ⟨k1, k2, k3⟩ := tupKey_is hk
    have hh := p.find k1
    have hxy := xy.find nk
    have kis : (nestedKind X.prog X.w).is s.heap nk b := ⟨keyV_is I' _ _ _ _ k1 (ay.go g') ry, k3⟩
    refine call_meetsIn PySem.F.slot_dict_get dd.typeIs PySem.F.entry_dict_get (PySem.F.args_dict_get_2 _ _) (meetsH_dict_get (nestedKind X.prog X.w) a b hd) ⟨nroom c, nk, ys, kis, dd, ?_⟩
    cases e1 : dfind kvs kw <;> cases e2 : fX xs nk <;> cases e3 : atKey ys nk <;> rw [e1, e2] at hh <;> rw [e2, e3] at hxy
    · rw [e1] at h; exact h .none _ H' .non (I'.tok _) r' g' az rfl
    · exact hxy.elim
    · exact hh.elim
    · exact hh.elim
    · exact hh.elim
    · exact hh.elim
    · exact hxy.elim
    · rename_i w0 q q'
      rw [e1] at h
      exact h q'.2 _ H' q.2 (I'.tok _) r' g' hh hxy
/-- d[k] = x -/
theorem dset_item (c : Ctx X Wx k) (I : L2.Inv X pins σ H s) (r : RG X.kw ρ H G) {w : W} {z : V} {zu : Value} {Q : Unit → Shared → Prop} (e : ρ[n]? = some a) (g : G[n]? = some (.dct false kvs)) (ft : keyFits false kvs kw = true) (hz : kvs.length < 16777216) (ay : Abs X.kw ρ H kw y) (ry : RelV y u)
    (az : Abs X.kw ρ H w z) (rz : RelV z zu) (h : ∀ s' H', L2.Inv X pins σ H' s' → RG X.kw ρ H' (G.set n (.dct false (dput kvs kw w))) → Go ρ ρ H H' → Q () s') : wpAny (model X.prog X.w) X.A (setItem (.ref a) u zu) Q E s := by
  obtain ⟨hl, ft⟩ := fits_cases ft
  rcases ft with ⟨kk, rfl, hf⟩ | ⟨nk, hk, hf⟩
  · obtain ⟨H', I', r', g', fk, hx, p⟩ := to_flat I r e g hl hf
    have ey : y = kV kk := by cases kk <;> simpa [kW, kV, Abs] using ay
    subst ey
    have dp := DPut.k (k := kk) (v := z) hx (by rw [← p.len, sizeLine_eq]; exact hz)
    refine d_setItem (units1 c) I' dp ry rz fun s' I2 => h s' _ I2 (r'.put e ⟨_, .inl ⟨_, rfl, ?_⟩, upd_same⟩) (g'.trans (Go.put r' e (nofz hx)))
    exact (p.go (Go.put r' e (nofz hx))).put ((az.go g').go (Go.put r' e (nofz hx)))
  · obtain ⟨H', I', r', g', xs, hx, hn, p⟩ := to_nest I r e g hl hf
    obtain ⟨hd, hzz, ys, xy, dd⟩ := dn_dict I' hx.rd hn p
    obtain ⟨b, rfl, rfl⟩ := tup_ref hk ay ry
    obtain ⟨k1, k2, k3⟩ := tupKey_is hk
    have kis : (nestedKind X.prog X.w).is s.heap nk b := ⟨keyV_is I' _ _ _ _ k1 (ay.go g') ry, k3⟩
    have hlen : xs.length < 16777216 := by rw [← p.len]; exact hz
    refine wpAny_setItem_heap (hsz := by rw [← Paired.length xy, sizeLine_eq]; omega) (nroom c) kis dd fun h' dd' hs => ?_
    have I2 := dn_write (t' := s.toks + (nestedKind X.prog X.w).draws nk) I' hx hd (xs' := stX xs nk b z) (by have := stX_len (xs := xs) (nk := nk) (b := b) (v := z); rw [sizeLine_eq]; omega) hs dd' (xy.put rz)
    refine h _ _ I2 (r'.put e ⟨_, .inr ⟨_, rfl, stX_keys hn, ?_⟩, upd_same⟩) (g'.trans (Go.put r' e (nofz hx)))
    exact (p.go (Go.put r' e (nofz hx))).put hk ((ay.go g').go (Go.put r' e (nofz hx))) ((az.go g').go (Go.put r' e (nofz hx)))
/-- d.setdefault(k, x), k a tuple -/
theorem dset_dflt (c : Ctx X Wx k) (I : L2.Inv X pins σ H s) (r : RG X.kw ρ H G) {w : W} {z : V} {zu : Value} {Q : Value → Shared → Prop} (e : ρ[n]? = some a) (g : G[n]? = some (.dct false kvs)) (ft : keyFits false kvs kw = true) (ht : (tupKey kw).isSome = true) (hz : kvs.length < 16777216) (ay : Abs X.kw ρ H kw y) (ry : RelV y u)
    (az : Abs X.kw ρ H w z) (rz : RelV z zu) (h1 : ∀ w0, dfind kvs kw = some w0 → Rdg X pins σ ρ G H w0 Q) (h2 : dfind kvs kw = none → ∀ s' H', L2.Inv X pins σ H' s' → RG X.kw ρ H' (G.set n (.dct false (kvs ++ [(kw, w)]))) → Go ρ ρ H H' → Abs X.kw ρ H' w z → Q zu s') :
    wpAny (model X.prog X.w) X.A (call (.builtin "dict.setdefault") [.ref a, u, zu]) Q E s := by
  obtain ⟨hl, ft⟩ := fits_cases ft
  rcases ft with ⟨kk, rfl, hf⟩ | ⟨nk, hk, hf⟩
  · rw [kW_not] at ht; cases ht
  · obtain ⟨H', I', r', g', xs, hx, hn, p⟩ := to_nest I r e g hl hf
    obtain ⟨hd, hzz, ys, xy, dd⟩ := dn_dict I' hx.rd hn p
    obtain ⟨b, rfl, rfl⟩ := tup_ref hk ay ry
    obtain ⟨k1, k2, k3⟩ := tupKey_is hk
    have hh := p.find k1
    have hxy := xy.find nk
    have kis : (nestedKind X.prog X.w).is s.heap nk b := ⟨keyV_is I' _ _ _ _ k1 (ay.go g') ry, k3⟩
    have hlen : xs.length < 16777216 := by rw [← p.len]; exact hz
    refine call_setdefault_heap (hsz := by rw [← Paired.length xy, sizeLine_eq]; omega) (nroom c) kis hd dd (fun q hq => ?_) fun hq h' dd' hs => ?_
    · cases e1 : dfind kvs kw <;> cases e2 : fX xs nk <;> rw [e1, e2] at hh <;> rw [e2, hq] at hxy
      · exact hxy.elim
      · exact hh.elim
      · exact hxy.elim
      · exact h1 _ e1 _ _ H' _ (I'.tok _) r' g' hh hxy
    · have e2 : fX xs nk = none := by
        have := fX_any xy nk
        rw [hq] at this
        exact Option.isSome_eq_false_iff.mp (by simpa using this) |> Option.isNone_iff_eq_none.mp
      have e1 : dfind kvs kw = none := by
        rw [e2] at hh
        cases e1 : dfind kvs kw with
        | none => rfl
        | some w0 => rw [e1] at hh; exact hh.elim
      have I2 := dn_write (t' := s.toks + (nestedKind X.prog X.w).draws nk) I' hx hd (xs' := stX xs nk b z) (by have := stX_len (xs := xs) (nk := nk) (b := b) (v := z); rw [sizeLine_eq]; omega) hs dd' (xy.put rz)
      have e3 : kvs ++ [(kw, w)] = dput kvs kw w := by unfold dput; rw [e1]; rfl
      refine h2 e1 _ _ I2 (r'.put e ⟨_, .inr ⟨_, rfl, stX_keys hn, ?_⟩, upd_same⟩) (g'.trans (Go.put r' e (nofz hx))) ((az.go g').go (Go.put r' e (nofz hx)))
      rw [e3]
      exact (p.go (Go.put r' e (nofz hx))).put hk ((ay.go g').go (Go.put r' e (nofz hx))) ((az.go g').go (Go.put r' e (nofz hx)))
/-- len(d), any form -/
theorem dct_raw (I : L2.Inv X pins σ H s) (r : RG X.kw ρ H G) (e : ρ[n]? = some a) (g : G[n]? = some (.dct lk kvs)) : (a == sysModules) = false ∧ kvs.length ≤ 16777216 ∧ ∃ o es ep, s.heap.get? a = some o ∧ o.ExactDict ∧ o.data = .dict es ep ∧ es.size = kvs.length := by
  obtain ⟨u, f, hx⟩ := dct_rd r e g
  rcases f with ⟨fk, rfl, p⟩ | ⟨xs, rfl, hn, p⟩
  · obtain ⟨z, h4, vs, rel, o, es, ep, h1, h2, h3, h5⟩ := (show ObjOk X.prog X.w H s.heap a (.dK fk) from hx.ok I.hok)
    refine ⟨h4, by rw [Paired.length p, ← sizeLine_eq]; exact z, o, es, ep, h1, h2, h3, ?_⟩
    have := h5.2.1.length
    simp only [Array.length_toList] at this
    rw [this, Paired.length p, rel.length]
  · obtain ⟨h4, h5, o, es, ep, h1, h2, h3, ys, h6, h7⟩ := dn_get I hx
    refine ⟨h4, by rw [Paired.length p, ← sizeLine_eq]; exact h5, o, es, ep, h1, h2, h3, ?_⟩
    rw [← Array.length_toList, h6, List.length_map, ← Paired.length h7, Paired.length p]
theorem dct_len (I : L2.Inv X pins σ H s) (r : RG X.kw ρ H G) (e : ρ[n]? = some a) (g : G[n]? = some (.dct lk kvs)) {Q : Value → Shared → Prop} (h : ∀ t s', L2.Inv X pins σ H s' → Q (.int kvs.length t) s') : wpAny (model X.prog X.w) X.A (call (.builtin "len") [.ref a]) Q E s := by
  obtain ⟨hd, hz, o, es, ep, h1, h2, h3, hl⟩ := dct_raw I r e g
  have ty : s.TypeIs (.ref a) "dict" := ⟨o, h1, h2.1⟩
  exact PyProof.Rows.call_len_slot (n := kvs.length) ty PySem.F.slot_dict_len (fun R r => call_len_raw hd ⟨o, h1, h2, h3⟩ (by rw [hl]; exact r)) (by omega) (by omega) (h _ _ (I.tok _))
end
end Dn
end
section
set_option Elab.async false
set_option backward.match.sparseCases false
set_option linter.all false
set_option maxRecDepth 100000
set_option maxHeartbeats 4000100
namespace Dn
open PySem L2
/-! ## walks whose iterator is one object -/
section
variable {P : Program} {w : World} {K : PySem.W.Frag} {tg : Expr} {J : It} {it : Addr} {tn : Nat → Heap → Prop}
/-- only the iterator has changed -/
def OnlyAt (it : Addr) (before after : Heap) : Prop := ∀ b, b ≠ it → ∀ o, before.get? b = some o → after.get? b = some o
/-- what is to be known of such an iterator: it is told by its own object; what next yields; that it ends; that iter tells itself -/
structure OneIt (P : Program) (w : World) (K : PySem.W.Frag) (tg : Expr) (J : It) (it : Addr) (tn : Nat → Heap → Prop) : Prop where
  seen : ∀ i h, tn i h → ∃ o, h.get? it = some o ∧ (∀ v, o.data ≠ .cell v) ∧ ∀ after, after.get? it = some o → tn i after
  yields : ∀ (X : Cx), X.prog = P → X.w = w → X.K = K → X.calm = true → ∀ i pins s σ H E, L2.Inv X pins σ H s → tn i s.heap → J.go i H →
    ∀ R, (∀ after u, tn (i + 1) after → OnlyAt it s.heap after → (∃ x, RelV x u ∧ J.yld i H x H) → R (some u) { s with heap := after }) → wpAny (model P w) X.A (pyNext (.ref it)) R E s
  ends : ∀ (X : Cx), X.prog = P → X.w = w → X.K = K → X.calm = true → ∀ i pins s σ H E, L2.Inv X pins σ H s → tn i s.heap → J.stop i H →
    ∀ R, (∀ after, OnlyAt it s.heap after → R none { s with heap := after }) → wpAny (model P w) X.A (pyNext (.ref it)) R E s
  plain : ∀ i h, tn i h → ∃ o n vs, h.get? it = some o ∧ o.cls = .type n ∧ o.data = .fields vs ∧ ["enumerate", "zip", "dict_itemiterator", "dict_reverseitemiterator", "odict_iterator", "itertools.zip_longest", "itertools.pairwise"].contains n = false
  own : ∀ (A : Around) i s Q E, tn i s.heap → Q (.ref it) s → wpAny (model P w) A (pyIter (.ref it)) Q E s
/-- after a step of next the abstract heap stands -/
theorem stands {X : Cx} {pins : List (Addr × Obj)} {σ : L2.St} {H : Hp} {s : Shared} {after : Heap} (I : L2.Inv X pins σ H s) (foot : FpOk X pins H it) (only : OnlyAt it s.heap after) : L2.Inv X pins σ H { s with heap := after } :=
  I.turned (t' := s.toks) (fun b o ne at1 => only b (fun e => ne e) o at1) foot.1 foot.2.1 foot.2.2.2.1 foot.2.2.2.2.1 foot.2.2.2.2.2
theorem OneIt.turn (one : OneIt P w K tg J it tn) : Turn P w K tg J [it] it tn := by
  have only : ∀ {b : Addr}, b ∈ [it] → b = it := fun h => List.mem_singleton.mp h
  constructor
  · exact List.mem_singleton.mpr rfl
  · intro i h t b hb
    obtain ⟨o, at1, cell, _⟩ := one.seen i h t
    exact only hb ▸ ⟨o, at1, cell⟩
  · intro i h after t same
    obtain ⟨o, at1, _, again⟩ := one.seen i h t
    exact again after (same it (List.mem_singleton.mpr rfl) o at1)
  · intro X e1 e2 e3 calm i pins s σ H E I foot t go
    have mine := foot it (List.mem_singleton.mpr rfl)
    refine one.yields X e1 e2 e3 calm i pins s σ H E I t go _ fun after u t1 oo ⟨x, rel, y⟩ => ⟨u, rfl, ?_⟩
    obtain ⟨o, n, vs, at1, cls, data, quiet⟩ := one.plain _ _ t1
    exact go_of (s := { s with heap := after }) at1 cls data quiet ⟨x, H, stands I mine oo, rel, y, t1, fun b hb => (foot b hb).1⟩
  · intro X e1 e2 e3 calm i pins s σ H E I foot t stop
    exact one.ends X e1 e2 e3 calm i pins s σ H E I t stop _ fun after oo => ⟨rfl, stands I (foot it (List.mem_singleton.mpr rfl)) oo⟩
  · exact fun A i s Q E t q => one.own A i s Q E t q
end
end Dn
end
section
set_option Elab.async false
set_option backward.match.sparseCases false
set_option linter.all false
set_option maxRecDepth 100000
set_option maxHeartbeats 2000000
namespace Dn
open PySem L2 PySem.Spec PyProof.Rows
/-! ### dicts walked -/
/-- the keys and the values by the dict's word -/
def PairsOf (w : World) (d : Addr) (u : HO) (u1 u2 : List V) : Prop := (∃ fk : List (Key × V), u = .dK fk ∧ u1 = fk.map (fun q => kV q.1) ∧ u2 = fk.map (fun q => q.2)) ∨
  ∃ xs : List (NestedKey × Addr × V), u = DnO w d xs ∧ u1 = xs.map (fun q => V.ref q.2.1) ∧ u2 = xs.map (fun q => q.2.2)
theorem relV_one {x y : V} {u : Value} (h : RelV x u) (h' : RelV y u) : x = y := by
  cases x <;> cases y <;> simp only [L2.RelV] at h h' <;> first
    | rfl
    | (subst h; cases h'; rfl)
    | (subst h; cases h'; done)
    | (obtain ⟨t, rfl⟩ := h; obtain ⟨t', h'⟩ := h'; cases h'; rfl)
    | (obtain ⟨t, rfl⟩ := h; obtain ⟨t', h'⟩ := h'; cases h')
    | (subst h; obtain ⟨t', h'⟩ := h'; cases h')
    | (obtain ⟨t, rfl⟩ := h; cases h'; done)
theorem vals_one : ∀ {xs ys : List V} {us : List Value}, Vals xs us → Vals ys us → xs = ys
  | _, _, _, .nil, .nil => rfl
  | _, _, _, .cons r t, .cons r' t' => by rw [relV_one r r', vals_one t t']
theorem form_pairs {K : Kw} {ρ : List Addr} {H : Hp} {a : Addr} {kvs : List (W × W)} {u : HO} (f : DForm K ρ H a kvs u) : ∃ u1 u2, PairsOf K.2 a u u1 u2 ∧ AbsL K ρ H (kvs.map (·.1)) u1 ∧ AbsL K ρ H (kvs.map (·.2)) u2 := by
  rcases f with ⟨fk, rfl, p⟩ | ⟨xs, rfl, n, p⟩
  · exact ⟨_, _, .inl ⟨fk, rfl, rfl, rfl⟩, (flat_abs p).1, (flat_abs p).2⟩
  · exact ⟨_, _, .inr ⟨xs, rfl, rfl, rfl⟩, (nest_abs p).1, (nest_abs p).2⟩
section
variable {X : Cx} {pins : List (Addr × Obj)} {σ : L2.St} {H : Hp} {s : Shared} {d : Addr} {o : Obj} {u : HO}
/-- the locked dict's object -/
theorem lk_view (I : L2.Inv X pins σ H s) (h : H d = some (.frz o u)) {u1 u2 : List V} (p : PairsOf X.w d u u1 u2) :
    (d == sysModules) = false ∧ ∃ es ep, o.data = .dict es ep ∧ s.heap.DictRaw d es ep ∧ Vals u1 (es.toList.map (·.key)) ∧ Vals u2 (es.toList.map (·.val)) := by
  obtain ⟨hg, ok⟩ := I.hok d _ h
  rcases p with ⟨fk, rfl, rfl, rfl⟩ | ⟨xs, rfl, rfl, rfl⟩
  · obtain ⟨_, hd, vv, rel, ob, es, ep, h1, h2, h3, h4, h5⟩ := ok
    rw [hg] at h1
    cases h1
    obtain ⟨h6, h7⟩ := dk_entries h5.1 rel
    exact ⟨hd, es, ep, h3, ⟨o, hg, h2, h3⟩, h6, h7⟩
  · obtain ⟨⟨ob, es, ep, h1, h2, h3, hd, _, ys, h4, h5⟩, _⟩ := ok
    rw [hg] at h1
    cases h1
    refine ⟨hd, es, ep, h3, ⟨o, hg, h2, h3⟩, ?_, ?_⟩
    · rw [h4, List.map_map]
      exact (nest_vals h5).1
    · rw [h4, List.map_map]
      exact (nest_vals h5).2
end
/-- the keys, the values, the pairs of the locked dict -/
def ItDk (w : World) (d : Addr) (o : Obj) (u : HO) : It :=
  ⟨fun i H => H d = some (.frz o u) ∧ ∃ u1 u2, PairsOf w d u u1 u2 ∧ i < u1.length, fun i H x H' => H' = H ∧ ∀ u1 u2, PairsOf w d u u1 u2 → u1[i]? = some x, fun i H => H d = some (.frz o u) ∧ ∃ u1 u2, PairsOf w d u u1 u2 ∧ u1.length ≤ i⟩
def ItDv (w : World) (d : Addr) (o : Obj) (u : HO) : It :=
  ⟨fun i H => H d = some (.frz o u) ∧ ∃ u1 u2, PairsOf w d u u1 u2 ∧ i < u1.length, fun i H x H' => H' = H ∧ ∀ u1 u2, PairsOf w d u u1 u2 → u2[i]? = some x, fun i H => H d = some (.frz o u) ∧ ∃ u1 u2, PairsOf w d u u1 u2 ∧ u1.length ≤ i⟩
def ItDi (w : World) (d : Addr) (o : Obj) (u : HO) : It :=
  ⟨fun i H => H d = some (.frz o u) ∧ ∃ u1 u2, PairsOf w d u u1 u2 ∧ i < u1.length, fun i H x H' => ∃ T k v, x = .ref T ∧ H T = none ∧ H' = upd H T (.tup [k, v]) ∧ ∀ u1 u2, PairsOf w d u u1 u2 → u1[i]? = some k ∧ u2[i]? = some v, fun i H => H d = some (.frz o u) ∧ ∃ u1 u2, PairsOf w d u u1 u2 ∧ u1.length ≤ i⟩
theorem dict_same {o : Obj} {es es' : Array DictEntry} {ep ep' : Nat} (h : o.data = .dict es ep) (h' : o.data = .dict es' ep') : es' = es ∧ ep' = ep := by
  rw [h] at h'
  cases h'
  exact ⟨rfl, rfl⟩
theorem at_entry {us : List V} {es : Array DictEntry} {f : DictEntry → Value} (v : Vals us (es.toList.map f)) {i : Nat} (hi : i < es.size) : ∃ x, us[i]? = some x ∧ RelV x (f es[i]) := by
  have hl : us.length = es.size := by rw [L2.Vals.length v, List.length_map, Array.length_toList]
  obtain ⟨y, hy, ry⟩ := L2.Vals.get v (i := i) (x := us[i]'(by omega)) (List.getElem?_eq_getElem (by omega))
  refine ⟨_, List.getElem?_eq_getElem (by omega), ?_⟩
  rw [List.getElem?_map] at hy
  have : es.toList[i]? = some es[i] := by simp [hi]
  rw [this] at hy
  cases hy
  exact ry
section
variable {P : Program} {w : World} {K : PySem.W.Frag} {tg : Expr} {d : Addr} {o : Obj} {u : HO} {es : Array DictEntry} {ep : Nat}
theorem view_len {u1 : List V} {es : Array DictEntry} {f : DictEntry → Value} (v : Vals u1 (es.toList.map f)) : u1.length = es.size := by rw [v.length, List.length_map, Array.length_toList]
/-- the dict's own table, as long as it stays locked -/
theorem table_of {X : Cx} {pins : List (Addr × Obj)} {σ : L2.St} {H : Hp} {s : Shared} (I : L2.Inv X pins σ H s) (hod : o.data = .dict es ep) (at1 : H d = some (.frz o u)) {k1 k2 : List V} (p : PairsOf X.w d u k1 k2) :
    s.heap.DictRaw d es ep ∧ Vals k1 (es.toList.map (·.key)) ∧ Vals k2 (es.toList.map (·.val)) := by
  obtain ⟨_, _, _, same, raw, v1, v2⟩ := lk_view I at1 p
  cases dict_same hod same with
  | intro a c => subst a; subst c; exact ⟨raw, v1, v2⟩
theorem one_dk (it : Addr) (hod : o.data = .dict es ep) : OneIt P w K tg (ItDk w d o u) it (fun i h => h.IsKeyIter it d i es.size ep) := by
  constructor
  · rintro i h ⟨oi, at1, cls, data⟩
    exact ⟨oi, at1, fun v z => by simp [data] at z, fun after again => ⟨oi, again, cls, data⟩⟩
  · rintro X rfl rfl rfl calm i inP s lo H E I t ⟨at1, k1, k2, p, few⟩ R goOn
    obtain ⟨raw, v1, _⟩ := table_of I hod at1 p
    have sizes := view_len v1
    obtain ⟨x, place, rel⟩ := at_entry v1 (i := i) (by omega)
    exact wpAny_pyNext_keys_item_raw t raw (by omega) fun after t1 same => goOn after _ t1 (fun b ne ob e => (same.2 b ne).trans e) ⟨x, rel, rfl, fun m1 m2 q => (vals_one (table_of I hod at1 q).2.1 v1) ▸ place⟩
  · rintro X rfl rfl rfl calm i inP s lo H E I t ⟨at1, k1, k2, p, all⟩ R goOn
    obtain ⟨raw, v1, _⟩ := table_of I hod at1 p
    exact wpAny_pyNext_keys_end_raw (I.ok.hd calm) t raw (by rw [← view_len v1]; exact all) fun after same => goOn after fun b ne ob e => same b ob ne e
  · rintro i h ⟨oi, at1, cls, data⟩
    exact ⟨oi, _, _, at1, cls, data, by decide⟩
  · exact fun A i s Q E t q => wpAny_pyIter_keyiter t q
theorem one_dv (it : Addr) (hod : o.data = .dict es ep) : OneIt P w K tg (ItDv w d o u) it (fun i h => h.IsValIter it d i es.size ep) := by
  constructor
  · rintro i h ⟨oi, at1, cls, data⟩
    exact ⟨oi, at1, fun v z => by simp [data] at z, fun after again => ⟨oi, again, cls, data⟩⟩
  · rintro X rfl rfl rfl calm i inP s lo H E I t ⟨at1, k1, k2, p, few⟩ R goOn
    obtain ⟨raw, v1, v2⟩ := table_of I hod at1 p
    have sizes := view_len v1
    obtain ⟨x, place, rel⟩ := at_entry v2 (i := i) (by omega)
    exact wpAny_pyNext_values_item_raw t raw (by omega) fun after t1 same => goOn after _ t1 (fun b ne ob e => (same.2 b ne).trans e) ⟨x, rel, rfl, fun m1 m2 q => (vals_one (table_of I hod at1 q).2.2 v2) ▸ place⟩
  · rintro X rfl rfl rfl calm i inP s lo H E I t ⟨at1, k1, k2, p, all⟩ R goOn
    obtain ⟨raw, v1, _⟩ := table_of I hod at1 p
    exact wpAny_pyNext_values_end_raw (I.ok.hd calm) t raw (by rw [← view_len v1]; exact all) fun after same => goOn after fun b ne ob e => same b ob ne e
  · rintro i h ⟨oi, at1, cls, data⟩
    exact ⟨oi, _, _, at1, cls, data, by decide⟩
  · exact fun A i s Q E t q => wpAny_pyIter_valiter t q
theorem turn_dk (it : Addr) (hod : o.data = .dict es ep) : Turn P w K tg (ItDk w d o u) [it] it (fun i h => h.IsKeyIter it d i es.size ep) := (one_dk it hod).turn
theorem turn_dv (it : Addr) (hod : o.data = .dict es ep) : Turn P w K tg (ItDv w d o u) [it] it (fun i h => h.IsValIter it d i es.size ep) := (one_dv it hod).turn
end
/-! the denotations -/
def getDk (n : Nat) : Nat → Gh → Option (Option W) := fun i G => match G[n]? with
  | some (.dct true kvs) => some ((kvs[i]?).map (·.1))
  | _ => none
def getDv (n : Nat) : Nat → Gh → Option (Option W) := fun i G => match G[n]? with
  | some (.dct true kvs) => some ((kvs[i]?).map (·.2))
  | _ => none
def getDi (n : Nat) : Nat → Gh → Option (Option W) := fun i G => match G[n]? with
  | some (.dct true kvs) => some ((kvs[i]?).map fun p => .tup [p.1, p.2])
  | _ => none
theorem getDk_cases (n i : Nat) (G : Gh) : getDk n i G = none ∨ ∃ kvs, G[n]? = some (.dct true kvs) ∧ getDk n i G = some ((kvs[i]?).map (·.1)) := by
  unfold getDk
  split
  · rename_i kvs q
    exact .inr ⟨kvs, q, rfl⟩
  · exact .inl rfl
theorem getDv_cases (n i : Nat) (G : Gh) : getDv n i G = none ∨ ∃ kvs, G[n]? = some (.dct true kvs) ∧ getDv n i G = some ((kvs[i]?).map (·.2)) := by
  unfold getDv
  split
  · rename_i kvs q
    exact .inr ⟨kvs, q, rfl⟩
  · exact .inl rfl
theorem getDi_cases (n i : Nat) (G : Gh) : getDi n i G = none ∨ ∃ kvs, G[n]? = some (.dct true kvs) ∧ getDi n i G = some ((kvs[i]?).map fun p => .tup [p.1, p.2]) := by
  unfold getDi
  split
  · rename_i kvs q
    exact .inr ⟨kvs, q, rfl⟩
  · exact .inl rfl
/-- the dict is locked for the walk -/
def lockSrc (get : Nat → Nat → Gh → Option (Option W)) : W → M Src := fun w G => match w with
  | .ref n => match G[n]? with
    | some (.dct false kvs) => .ok ⟨kvs.length + 1, get n, some n⟩ (G.set n (.dct true kvs))
    | some (.dct true kvs) => .ok ⟨kvs.length + 1, get n, none⟩ G
    | _ => .stuck
  | _ => .stuck
def srcAny (w : W) : M Src := fun G => match w with
  | .ref n => match G[n]? with
    | some (.lst ws) => .ok ⟨ws.length + 1, getL n, none⟩ G
    | some (.dct _ _) => lockSrc getDk (.ref n) G
    | _ => .stuck
  | w => srcOf w G
def iAny (d : DE) : DI := fun σ => bnd (d σ) srcAny
def iDv (d : DE) : DI := fun σ => bnd (d σ) (lockSrc getDv)
def iDi (d : DE) : DI := fun σ => bnd (d σ) (lockSrc getDi)
section
variable {X : Cx} {Wx : WX} {pins : List (Addr × Obj)} {σ : L2.St} {H : Hp} {s : Shared} {ρ ρ' : List Addr} {G : Gh}
theorem RG.lk (r : RG X.kw ρ H G) {n : Nat} {a : Addr} {kvs : List (W × W)} (e : ρ[n]? = some a) (g : G[n]? = some (.dct true kvs)) : ∃ o u, H a = some (.frz o u) ∧ DForm X.kw ρ H a kvs u := by
  obtain ⟨u, f, o, h⟩ := r.ob n _ a g e
  exact ⟨o, u, h, f⟩
theorem frz_one {H : Hp} {a : Addr} {o o' : Obj} {u u' : HO} (h : H a = some (.frz o u)) (h' : H a = some (.frz o' u')) : o' = o ∧ u' = u := by
  rw [h] at h'; cases h'; exact ⟨rfl, rfl⟩
theorem src_dk {f n : Nat} {a : Addr} {o : Obj} {u : HO} {lk : Option Nat} (e : ρ[n]? = some a) (h : H a = some (.frz o u)) : SrcOk X.kw ρ H ⟨f, getDk n, lk⟩ (ItDk X.w a o u) := fun ρ' H' G i g r => by
  show match getDk n i G with
    | none => True
    | some none => (ItDk X.w a o u).stop i H'
    | some (some w) => (ItDk X.w a o u).go i H' ∧ ∀ x H'', (ItDk X.w a o u).yld i H' x H'' → Go ρ' ρ' H' H'' ∧ RG X.kw ρ' H'' G ∧ Abs X.kw ρ' H'' w x
  rcases getDk_cases n i G with z0 | ⟨kvs, q, z0⟩
  · rw [z0]; trivial
  rw [z0]
  obtain ⟨o', u', hf, fm⟩ := r.lk (g.ix e) q
  obtain ⟨rfl, rfl⟩ := frz_one (g.fz a o u h) hf
  obtain ⟨u1, u2, p, a1, a2⟩ := form_pairs fm
  have hl := a1.len
  rw [List.length_map] at hl
  cases z : kvs[i]? with
  | none =>
    have := List.getElem?_eq_none_iff.mp z
    exact ⟨hf, u1, u2, p, by omega⟩
  | some kv =>
    have := (List.getElem?_eq_some_iff.mp z).1
    refine ⟨⟨hf, u1, u2, p, by omega⟩, fun x H'' y => ?_⟩
    obtain ⟨rfl, y⟩ := y
    obtain ⟨v, hv, av⟩ := a1.get (i := i) (w := kv.1) (by rw [List.getElem?_map, z]; rfl)
    rw [y u1 u2 p] at hv
    cases hv
    exact ⟨.refl, r, av⟩
theorem src_dv {f n : Nat} {a : Addr} {o : Obj} {u : HO} {lk : Option Nat} (e : ρ[n]? = some a) (h : H a = some (.frz o u)) : SrcOk X.kw ρ H ⟨f, getDv n, lk⟩ (ItDv X.w a o u) := fun ρ' H' G i g r => by
  show match getDv n i G with
    | none => True
    | some none => (ItDv X.w a o u).stop i H'
    | some (some w) => (ItDv X.w a o u).go i H' ∧ ∀ x H'', (ItDv X.w a o u).yld i H' x H'' → Go ρ' ρ' H' H'' ∧ RG X.kw ρ' H'' G ∧ Abs X.kw ρ' H'' w x
  rcases getDv_cases n i G with z0 | ⟨kvs, q, z0⟩
  · rw [z0]; trivial
  rw [z0]
  obtain ⟨o', u', hf, fm⟩ := r.lk (g.ix e) q
  obtain ⟨rfl, rfl⟩ := frz_one (g.fz a o u h) hf
  obtain ⟨u1, u2, p, a1, a2⟩ := form_pairs fm
  have hl := a1.len
  rw [List.length_map] at hl
  cases z : kvs[i]? with
  | none =>
    have := List.getElem?_eq_none_iff.mp z
    exact ⟨hf, u1, u2, p, by omega⟩
  | some kv =>
    have := (List.getElem?_eq_some_iff.mp z).1
    refine ⟨⟨hf, u1, u2, p, by omega⟩, fun x H'' y => ?_⟩
    obtain ⟨rfl, y⟩ := y
    obtain ⟨v, hv, av⟩ := a2.get (i := i) (w := kv.2) (by rw [List.getElem?_map, z]; rfl)
    rw [y u1 u2 p] at hv
    cases hv
    exact ⟨.refl, r, av⟩
theorem src_di {f n : Nat} {a : Addr} {o : Obj} {u : HO} {lk : Option Nat} (e : ρ[n]? = some a) (h : H a = some (.frz o u)) : SrcOk X.kw ρ H ⟨f, getDi n, lk⟩ (ItDi X.w a o u) := fun ρ' H' G i g r => by
  show match getDi n i G with
    | none => True
    | some none => (ItDi X.w a o u).stop i H'
    | some (some w) => (ItDi X.w a o u).go i H' ∧ ∀ x H'', (ItDi X.w a o u).yld i H' x H'' → Go ρ' ρ' H' H'' ∧ RG X.kw ρ' H'' G ∧ Abs X.kw ρ' H'' w x
  rcases getDi_cases n i G with z0 | ⟨kvs, q, z0⟩
  · rw [z0]; trivial
  rw [z0]
  obtain ⟨o', u', hf, fm⟩ := r.lk (g.ix e) q
  obtain ⟨rfl, rfl⟩ := frz_one (g.fz a o u h) hf
  obtain ⟨u1, u2, p, a1, a2⟩ := form_pairs fm
  have hl := a1.len
  rw [List.length_map] at hl
  cases z : kvs[i]? with
  | none =>
    have := List.getElem?_eq_none_iff.mp z
    exact ⟨hf, u1, u2, p, by omega⟩
  | some kv =>
    have := (List.getElem?_eq_some_iff.mp z).1
    refine ⟨⟨hf, u1, u2, p, by omega⟩, fun x H'' y => ?_⟩
    obtain ⟨T, k, v, rfl, hT, rfl, y⟩ := y
    obtain ⟨k', hk, ak⟩ := a1.get (i := i) (w := kv.1) (by rw [List.getElem?_map, z]; rfl)
    obtain ⟨v', hv, av⟩ := a2.get (i := i) (w := kv.2) (by rw [List.getElem?_map, z]; rfl)
    obtain ⟨y1, y2⟩ := y u1 u2 p
    rw [y1] at hk
    rw [y2] at hv
    cases hk
    cases hv
    have gn : Go ρ' ρ' H' (upd H' T (.tup [k, v])) := Go.new hT
    exact ⟨gn, r.new hT, T, [k, v], rfl, ⟨r.fresh hT, upd_same⟩, ⟨k, [v], rfl, ak.go gn, ⟨v, [], rfl, av.go gn, rfl⟩⟩⟩
/-- the lock is laid -/
theorem lay_lock (I : L2.Inv X pins σ H s) (r : RG X.kw ρ H G) {get : Nat → Nat → Gh → Option (Option W)} {n : Nat} {a : Addr} {sr : Src} {G1 : Gh} (e : ρ[n]? = some a) (h : lockSrc get (.ref n) G = .ok sr G1) :
    ∃ H1 o u kvs, L2.Inv X pins σ H1 s ∧ RG X.kw ρ H1 G1 ∧ Go ρ ρ H H1 ∧ H1 a = some (.frz o u) ∧ DForm X.kw ρ H1 a kvs u ∧ ∃ f lk, sr = ⟨f, get n, lk⟩ := by
  unfold lockSrc at h
  dsimp only at h
  split at h
  · rename_i kvs q
    cases h
    obtain ⟨u, f, hu⟩ := r.ob n _ a q e
    have mu : Mut (some u) := by
      rcases f with ⟨fk, rfl, _⟩ | ⟨xs, rfl, _⟩
      · trivial
      · unfold DnO; trivial
    obtain ⟨od, I1⟩ := I.lock hu mu
    exact ⟨_, od, u, kvs, I1, r.put e ⟨u, f.go (Go0.put r e), od, upd_same⟩, Go.put r e (nofz hu mu), upd_same, f.go (Go0.put r e), _, _, rfl⟩
  · rename_i kvs q
    cases h
    obtain ⟨o, u, hf, fm⟩ := r.lk e q
    exact ⟨H, o, u, kvs, I, r, .refl, hf, fm, _, _, rfl⟩
  · cases h
variable {tg e : Expr} {d : DE} {apos cpos : Pos}
/-- for k in d -/
theorem pi_dk {R : It → Hp → Prop} {n : Nat} {a : Addr} {sr : Src} {G1 : Gh} (I : L2.Inv X pins σ H s) (r : RG X.kw ρ H G) (e : ρ[n]? = some a) (h : lockSrc getDk (.ref n) G = .ok sr G1)
    (q : ∀ ρ' H' J, Go ρ ρ' H H' → RG X.kw ρ' H' G1 → SrcOk X.kw ρ' H' sr J → R J H') : wpAny (model X.prog X.w) X.A (pyIter (.ref a)) (PIE X pins σ tg R) X.xe s := by
  obtain ⟨H1, o, u, kvs, I1, r1, g1, hf, fm, f, lk, rfl⟩ := lay_lock I r e h
  obtain ⟨u1, u2, p, a1, a2⟩ := form_pairs fm
  obtain ⟨hs, es, ep, hdt, raw, v1, v2⟩ := lk_view I1 hf p
  exact wpAny_pyIter_dict_raw hs raw (pi_one (tk := s.toks) I1 _ (turn_dk _ hdt) ⟨_, Heap.get?_push_size _ rfl, rfl, rfl⟩ (q ρ H1 _ g1 r1 (src_dk e hf)))
theorem li_any (he : LE X Wx e d) : LI X Wx tg e (iAny d) := by
  constructor; intro pins s σ H R I h
  obtain ⟨ρ, σd, G, r, sd, a⟩ := h
  unfold iAny Dn.bnd at a
  cases q : d σd G with
  | exc x G' =>
    rw [q] at a
    exact thn (he.run pins s σ H (fun _ _ => False) I ⟨ρ, σd, G, r, sd, by rw [q]; exact a⟩) fun u s1 ⟨_, _, _, _, z⟩ => z.elim
  | stuck => rw [q] at a; exact a.elim
  | ok w G' =>
    rw [q] at a
    cases w with
    | ref n =>
      cases z : G'[n]? with
      | none =>
        have a' : Aft X.kw (SrcOk X.kw) Wx σ ρ H R (srcAny (.ref n) G') := a
        unfold srcAny at a'
        simp only [z] at a'
        exact a'.elim
      | some ob =>
        have a' : Aft X.kw (SrcOk X.kw) Wx σ ρ H R (srcAny (.ref n) G') := a
        unfold srcAny at a'
        simp only [z] at a'
        cases ob with
        | ins _ _ => exact a'.elim
        | rsv => exact a'.elim
        | lst ws => exact (li_seq he).run pins s σ H R I ⟨ρ, σd, G, r, sd, by
            unfold iSeq Dn.bnd
            rw [q]
            show Aft X.kw (SrcOk X.kw) Wx σ ρ H R (srcOf (.ref n) G')
            unfold srcOf
            simp only [z]
            exact a'⟩
        | dct lk kvs =>
          dsimp only at a'
          refine thn (he.run pins s σ H (fun x H1 => ∃ ρ1, Go ρ ρ1 H H1 ∧ RG X.kw ρ1 H1 G' ∧ Abs X.kw ρ1 H1 (.ref n) x) I ⟨ρ, σd, G, r, sd, by rw [q]; exact fun ρ1 H1 v g r1 av => ⟨ρ1, g, r1, av⟩⟩) fun u s1 ⟨x, H1, I1, rx, ρ1, g1, r1, av⟩ => ?_
          obtain ⟨b, eb, rfl⟩ := av
          cases rx
          cases e3 : lockSrc getDk (.ref n) G' with
          | stuck => rw [e3] at a'; exact a'.elim
          | exc _ _ =>
            exfalso
            unfold lockSrc at e3
            dsimp only at e3
            split at e3 <;> cases e3
          | ok sr G1 =>
            rw [e3] at a'
            exact pi_dk I1 r1 eb e3 fun ρ' H' J g2 r2 ok => a' ρ' H' J (g1.trans g2) r2 ok
    | _ => exact (li_seq he).run pins s σ H R I ⟨ρ, σd, G, r, sd, by
        unfold iSeq Dn.bnd
        rw [q]
        exact a⟩
end
end Dn
end
section
set_option Elab.async false
set_option backward.match.sparseCases false
set_option linter.all false
set_option maxRecDepth 100000
set_option maxHeartbeats 2000000
namespace Dn
open PySem L2 PySem.Spec PyProof.Rows
section
variable {X : Cx} {Wx : WX} {k : Nat} {tg e : Expr} {d : DE} {apos cpos pos : Pos}
theorem lock_ref {get : Nat → Nat → Gh → Option (Option W)} {w : W} {G G1 : Gh} {sr : Src} (h : lockSrc get w G = .ok sr G1) : ∃ n, w = .ref n := by
  unfold lockSrc at h
  split at h
  · exact ⟨_, rfl⟩
  · cases h
theorem lock_noexc {get : Nat → Nat → Gh → Option (Option W)} {w : W} {G G1 : Gh} {x : Xn} (h : lockSrc get w G = .exc x G1) : False := by
  unfold lockSrc at h
  split at h
  · split at h <;> cases h
  · cases h
/-- for v in d.values() -/
theorem li_values (he : LE X Wx e d) (hbase : attributeBase e "values" X.env (eval e X.env) = eval e X.env := by rfl) (hline : (apos.endLine == cpos.line) = true := by rfl) : LI X Wx tg (.Call (.Attribute e "values" apos) [] [] cpos) (iDv d) := by
  constructor; intro pins s σ H R I h
  refine wpAny_Call_method (T := "dict") (id := "dict.values") hbase rfl hline PySem.F.plainAttrs_dict PySem.F.slot_dict_values PySem.F.type_dict_values (thn (he.run pins s σ H _ I (Lf.bnd (R1 := Abs X.kw) h)) fun u s1 ⟨x, H1, I1, rx, ρ1, σd, G1, wx, r1, s2, ax, q⟩ => ?_)
  cases e3 : lockSrc getDv wx G1 with
  | stuck => rw [e3] at q; exact q.elim
  | exc _ _ => exact (lock_noexc e3).elim
  | ok sr G2 =>
    rw [e3] at q
    obtain ⟨n, rfl⟩ := lock_ref e3
    obtain ⟨a, ea, rfl⟩ := ax
    cases rx
    obtain ⟨H2, o, u, kvs, I2, r2, g2, hf, fm, f, lk, rfl⟩ := lay_lock I1 r1 ea e3
    obtain ⟨u1, u2, p, a1, a2⟩ := form_pairs fm
    obtain ⟨hs, es, ep, hdt, raw, v1, v2⟩ := lk_view I2 hf p
    obtain ⟨o', ho, hx, _⟩ := id raw
    refine ⟨raw.typeIs, fun b z => by cases z; exact ⟨o', ho, hx.2.1⟩, ?_⟩
    have I3 : L2.Inv X pins σ H2 { s1 with heap := s1.heap.push { cls := .type "dict_values", data := .fields #[.ref a] } } := I2.kept (t' := s1.toks) fun b ob q => Heap.get?_push_of_some _ q
    have fin : wpAny (model X.prog X.w) X.A (pyIter (.ref s1.heap.objs.size)) (PIE X pins σ tg R) X.xe { s1 with heap := s1.heap.push { cls := .type "dict_values", data := .fields #[.ref a] } } := by
      refine wpAny_pyIter_values_raw (d := a) ⟨_, Heap.get?_push_size _ rfl, rfl, rfl⟩ (raw.at fun _ e => Heap.get?_push_of_some _ e) (pi_one (tk := s1.toks) I3 _ (turn_dv _ hdt) ⟨_, Heap.get?_push_size _ rfl, rfl, rfl⟩ (q ρ1 H2 _ g2 r2 (src_dv ea hf)))
    show wpAny _ _ (callWith cpos (.builtin "dict.values") [.ref a] [] []) _ X.xe s1
    exact method_meetsIn PySem.F.slot_dict_values PySem.F.entry_dict_values rfl (PySem.evalArgs_none ⟨rfl, raw.typeIs, PySem.F.args_dict_values_1 _, _, meets_dict_values_raw a hs, ⟨es, ep, raw⟩, fin⟩)
end
/-! ### items of lists, tuples, texts, dicts -/
def dctQ (w : W) (G : Gh) : Option (Nat × Bool × List (W × W)) := match w with
  | .ref n => match G[n]? with
    | some (.dct lk kvs) => some (n, lk, kvs)
    | _ => none
  | _ => none
def itemW : D2 := fun x y G => match dctQ x G with
  | some (_, lk, kvs) => if keyFits lk kvs y = true then match dfind kvs y with
    | some w => .ok w G
    | none => .stuck
    else .stuck
  | none => ixW x y G
theorem dctQ_some {w : W} {G : Gh} {n : Nat} {lk : Bool} {kvs : List (W × W)} (h : dctQ w G = some (n, lk, kvs)) : w = .ref n ∧ G[n]? = some (.dct lk kvs) := by
  unfold dctQ at h
  split at h
  · split at h
    · cases h; exact ⟨rfl, by assumption⟩
    · cases h
  · cases h
section
variable {X : Cx} {Wx : WX} {k : Nat} {pins : List (Addr × Obj)} {σ : L2.St} {H : Hp} {s : Shared} {ρ : List Addr} {G : Gh}
/-- behind the item -/
theorem tail_any {prog : Program} {w : World} {A : Around} {E : Value → Shared → Prop} {s : Shared} {value slice : Expr} {o i : Value} {T id : String} {Q : Value → Shared → Prop} (hT : s.TypeIs o T) (hl : typeLookup (.type T) "__getitem__" = pure (some (.builtin id)))
    (h : wpAny (model prog w) A (getItem o i) Q E s) (hs : subscripted slice false o i = operate [o, i] (getItem o i)) : wpAny (model prog w) A (subscriptTail value slice o i) Q E s := by
  unfold subscriptTail
  refine wpAny_bind ?_
  simp only [getitemInPython_of_ne hT.not_modules]
  apply wpAny_bind; apply wpAny_specialOf hT hl
  have last : wpAny (model prog w) A (subscripted slice false o i) (fun r s₃ => wpAny (model prog w) A (letTemporaryGo value o r >>= fun _ => pure r) Q E s₃) E s := by
    rw [hs]
    exact wpAny_operating (wpAny_mono h (fun r s₃ h₃ => wpAny_bind (wpAny_letTemporaryGo (wpAny_pure h₃))) fun _ _ x => x)
  first
    | exact wpAny_bind (wpAny_pure (wpAny_bind last))
    | exact wpAny_pure (wpAny_bind last)
    | exact wpAny_bind last
theorem item_dct (c : Ctx X Wx k) (I : L2.Inv X pins σ H s) (r : RG X.kw ρ H G) {wx wy w : W} {x y : V} {v u : Value} {n : Nat} {lk : Bool} {kvs : List (W × W)} {Q : VK} (ax : Abs X.kw ρ H wx x) (ay : Abs X.kw ρ H wy y) (rx : L2.RelV x v) (ry : L2.RelV y u) (eq : dctQ wx G = some (n, lk, kvs)) (ft : keyFits lk kvs wy = true) (ef : dfind kvs wy = some w)
    (q : Aft X.kw (Abs X.kw) W0 [] ρ H Q (.ok w G)) : wpAny (model X.prog X.w) X.A (getItem v u) (EP X pins σ Q) X.xe s := by
  obtain ⟨rfl, g⟩ := dctQ_some eq
  obtain ⟨a, ea, rfl⟩ := ax
  cases rx
  exact dget_item c I r ea g ft ay ry ef fun z s' H' b I' r' g' ab rb => ⟨b, H', I', rb, q ρ H' b g' r' ab⟩
theorem ix_item (c : Ctx X Wx k) : IxR X (lf2 X.kw itemW) := by
  intro value slice pins s σ H x y v u Q I rx ry ⟨ρ, G, wx, wy, r, ax, ay, q⟩ hs
  unfold itemW at q
  cases eq : dctQ wx G with
  | none =>
    rw [eq] at q
    exact ix_W value slice pins s σ H x y v u Q I rx ry ⟨ρ, G, wx, wy, r, ax, ay, q⟩ hs
  | some t =>
    obtain ⟨n, lk, kvs⟩ := t
    rw [eq] at q
    dsimp only at q
    by_cases ft : keyFits lk kvs wy = true
    · rw [if_pos ft] at q
      cases ef : dfind kvs wy with
      | none => rw [ef] at q; exact q.elim
      | some w =>
        rw [ef] at q
        obtain ⟨rfl, g⟩ := dctQ_some eq
        obtain ⟨a, ea, rfl⟩ := id ax
        obtain ⟨o, ho, hx⟩ := dct_obj I r ea g
        have hv : v = .ref a := rx
        subst hv
        exact tail_any (T := "dict") ⟨o, ho, hx.1⟩ PySem.F.slot_dict_getitem.lookup (item_dct c I r ax ay rx ry eq ft ef q) hs
    · rw [if_neg ft] at q; exact q.elim
theorem le_item {a b : Expr} {da db : DE} {pos : Pos} (c : Ctx X Wx k) (ha : LE X Wx a da) (hb : LE X Wx b db) (hs : PlainIx b := by intro _ _; rfl) : LE X Wx (.Subscript a b pos) (d2 (fun x y => noX (itemW x y)) da db) :=
  PE.imp (pe_ix (ix_item c) ha hb hs) fun _ _ _ => lf2_tOp
/-! ### in, len, with dicts -/
def memW (neg : Bool) : D2 := fun x y G => match dctQ y G with
  | some (_, lk, kvs) => if keyFits lk kvs x = true then .ok (.bl (if neg = true then !(dfind kvs x).isSome else (dfind kvs x).isSome)) G else .stuck
  | none => if neg = true then notInW x y G else inW x y G
theorem op_mem (c : Ctx X Wx k) : OpR X (compareOp .In) (lf2 X.kw (memW false)) := by
  intro pins s σ H x y v u Q I rx ry ⟨ρ, G, wx, wy, r, ax, ay, q⟩
  unfold memW at q
  cases eq : dctQ wy G with
  | none =>
    rw [eq] at q
    exact op_inW c pins s σ H x y v u Q I rx ry ⟨ρ, G, wx, wy, r, ax, ay, q⟩
  | some t =>
    obtain ⟨n, lk, kvs⟩ := t
    rw [eq] at q
    dsimp only at q
    by_cases ft : keyFits lk kvs wx = true
    · rw [if_pos ft] at q
      obtain ⟨rfl, g⟩ := dctQ_some eq
      obtain ⟨a, ea, rfl⟩ := ay
      cases ry
      exact dget_in c I r ea g ft ax rx false fun s' H' I' r' g' => ⟨.bl _, H', I', rfl, q ρ H' _ g' r' (by simp [Abs])⟩
    · rw [if_neg ft] at q; exact q.elim
theorem op_notMem (c : Ctx X Wx k) : OpR X (compareOp .NotIn) (lf2 X.kw (memW true)) := by
  intro pins s σ H x y v u Q I rx ry ⟨ρ, G, wx, wy, r, ax, ay, q⟩
  unfold memW at q
  cases eq : dctQ wy G with
  | none =>
    rw [eq] at q
    exact op_notInW c pins s σ H x y v u Q I rx ry ⟨ρ, G, wx, wy, r, ax, ay, q⟩
  | some t =>
    obtain ⟨n, lk, kvs⟩ := t
    rw [eq] at q
    dsimp only at q
    by_cases ft : keyFits lk kvs wx = true
    · rw [if_pos ft] at q
      obtain ⟨rfl, g⟩ := dctQ_some eq
      obtain ⟨a, ea, rfl⟩ := ay
      cases ry
      exact dget_in c I r ea g ft ax rx true fun s' H' I' r' g' => ⟨.bl _, H', I', rfl, q ρ H' _ g' r' (by simp [Abs])⟩
    · rw [if_neg ft] at q; exact q.elim
def lenAW : DF := fun ws G => match ws with
  | [w] => match dctQ w G with
    | some (_, _, kvs) => .ok (.int kvs.length) G
    | none => lenW [w] G
  | _ => .stuck
theorem call_lenAW : CallR X (.builtin "len") (lfC X.kw lenAW) := by
  intro pins s σ H xs us Q I rx ⟨ρ, G, ws, r, al, q⟩
  unfold lenAW at q
  split at q
  · rename_i w
    cases eq : dctQ w G with
    | none =>
      rw [eq] at q
      exact call_lenW pins s σ H xs us Q I rx ⟨ρ, G, [w], r, al, q⟩
    | some t =>
      obtain ⟨n, lk, kvs⟩ := t
      rw [eq] at q
      obtain ⟨v, _, rfl, av, rfl⟩ := al
      obtain ⟨rfl, g⟩ := dctQ_some eq
      obtain ⟨a, ea, rfl⟩ := av
      rw [Vals.ref1 rx]
      exact dct_len I r ea g fun t s' I' => ⟨.int _, H, I', ⟨t, rfl⟩, q ρ H _ .refl r (by simp [Abs])⟩
  · exact q.bad
/-! ### x[i] = v -/
def setW (o i v : W) (G : Gh) : Option Gh := match o with
  | .ref n => match G[n]? with
    | some (.lst xs) => match i with
      | .int j => (ixOf xs.length j).map fun m => G.set n (.lst (xs.set m v))
      | _ => none
    | some (.dct false kvs) => if keyFits false kvs i = true ∧ kvs.length < 16777216 then some (G.set n (.dct false (dput kvs i v))) else none
    | _ => none
  | _ => none
def lfSet (K : Kw) : TSet := fun o i v H Q => ∃ ρ G wo wi wv, RG K ρ H G ∧ Abs K ρ H wo o ∧ Abs K ρ H wi i ∧ Abs K ρ H wv v ∧ match setW wo wi wv G with
  | some G' => ∀ ρ' H', Go ρ ρ' H H' → RG K ρ' H' G' → Q H'
  | none => False
theorem set_W (c : Ctx X Wx k) : PSet X (lfSet X.kw) := by
  intro pins s σ H o i v ov iv u Q I ro ri rv ⟨ρ, G, wo, wi, wv, r, ao, ai, av, q⟩
  unfold setW at q
  split at q
  · rename_i G' e
    split at e
    · rename_i n
      obtain ⟨a, ea, rfl⟩ := ao
      split at e
      · rename_i xs g
        split at e
        · rename_i j
          rcases Option.map_eq_some_iff.mp e with ⟨m, em, rfl⟩
          obtain ⟨vs, hv, l⟩ := r.lst ea g
          simp only [Abs] at ai
          rw [ixOf_eq, l.len] at em
          have gp : Go ρ ρ H (upd H a (.lst (vs.set m v))) := Go.put r ea (nofz hv)
          exact set_list pins s σ H _ _ v ov iv u Q I ro ri rv ⟨a, vs, j, m, rfl, ai, hv, em, q ρ _ gp (r.put ea ⟨_, upd_same, (l.go gp).set (av.go gp) m⟩)⟩
        · cases e
      · rename_i kvs g
        split at e
        · rename_i hf
          cases e
          cases ro
          exact dset_item c I r ea g hf.1 hf.2 ai ri av rv fun s' H' I' r' g' => ⟨H', I', q ρ H' g' r'⟩
        · cases e
      · cases e
    · cases e
  · exact q.elim
def sSet (o i e : DE) : DS := fun σ => sOf (e σ) σ fun v σ => sOf (o σ) σ fun x σ => sOf (i σ) σ fun y σ G => match setW x y v G with
  | some G' => .nx σ G'
  | none => .stuck
theorem AftS.of' {K : Kw} {ρ : List Addr} {H : Hp} {G : Gh} {σ : L2.St} {σd : Loc} {D : Ends} {m : M W} {kk : W → DS} (r : RG K ρ H G) (s : AbsS K ρ H σd σ) (h : AftS K Wx ρ H D (sOf m σd kk G)) :
    Aft K (Abs K) Wx σ ρ H (fun v H1 => ∃ ρ1 G1 w, Go ρ ρ1 H H1 ∧ RG K ρ1 H1 G1 ∧ AbsS K ρ1 H1 σd σ ∧ Abs K ρ1 H1 w v ∧ AftS K Wx ρ1 H1 D (kk w σd G1)) (m G) :=
  (AftS.of s h).mono fun v H1 ⟨ρ1, G1, w, g, r1, a, q⟩ => ⟨ρ1, G1, w, g, r1, s.go g, a, q⟩
theorem ls_set {o i e : Expr} {dO di de : DE} {pos pos' : Pos} (c : Ctx X Wx k) (ho : LE X Wx o dO) (hi : LE X Wx i di) (he : LE X Wx e de) (hs : swapsWith e (some (.Subscript o i pos')) pos.line X.env = pure false := by rfl) : LS X Wx (.Assign [.Subscript o i pos'] e pos) (sSet dO di de) := by
  constructor; intro pins s σ H D I h
  obtain ⟨ρ, σd, G, r, s0, a⟩ := h
  refine wpAny_Assign_Subscript (thn (he.run pins s σ H _ I ⟨ρ, σd, G, r, s0, AftS.of' r s0 a⟩) fun v s1 ⟨z, H1, I1, rz, ρ1, G1, wv, g1, r1, s1', av, q1⟩ => ?_) hs
  refine thn (ho.run pins s1 σ H1 _ I1 ⟨ρ1, σd, G1, r1, s1', AftS.of' r1 s1' q1⟩) fun ov s2 ⟨x, H2, I2, rx, ρ2, G2, wo, g2, r2, s2', ao, q2⟩ => ?_
  refine thn (hi.run pins s2 σ H2 _ I2 ⟨ρ2, σd, G2, r2, s2', AftS.of' r2 s2' q2⟩) fun iv s3 ⟨y, H3, I3, ry, ρ3, G3, wi, g3, r3, s3', ai, q3⟩ => ?_
  refine thn (set_W c pins s3 σ H3 x y z ov iv v (fun H4 => ∃ ρ4 G4, RG X.kw ρ4 H4 G4 ∧ D.nx σ H4) I3 rx ry rz ⟨ρ3, G3, wo, wi, wv, r3, ao.go g3, ai, (av.go g2).go g3, ?_⟩) fun _ s4 ⟨H4, I4, ρ4, G4, r4, q4⟩ => ⟨σ, H4, I4, q4⟩
  cases es : setW wo wi wv G3 with
  | none => rw [es] at q3; exact q3.elim
  | some G4 =>
    rw [es] at q3
    exact fun ρ4 H4 g4 r4 => ⟨ρ4, G4, r4, q3 ρ4 H4 σ g4 r4 (s3'.go g4)⟩
end
end Dn
end
section
set_option Elab.async false
set_option backward.match.sparseCases false
set_option linter.all false
set_option maxRecDepth 100000
set_option maxHeartbeats 2000000
namespace Dn
open PySem L2
/-! ### instances with slots -/
abbrev FI := Addr → Option Nat
def insQ (w : W) (G : Gh) : Option (Nat × Addr × List (Option W)) := match w with
  | .ref n => match G[n]? with
    | some (.ins C ws) => some (n, C, ws)
    | _ => none
  | _ => none
theorem insQ_some {w : W} {G : Gh} {n : Nat} {C : Addr} {ws : List (Option W)} (h : insQ w G = some (n, C, ws)) : w = .ref n ∧ G[n]? = some (.ins C ws) := by
  unfold insQ at h
  split at h
  · split at h
    · cases h; exact ⟨rfl, by assumption⟩
    · cases h
  · cases h
def slotQ (fI : FI) (w : W) (G : Gh) : Option W := match insQ w G with
  | some (_, C, ws) => match fI C with
    | some i => match ws[i]? with
      | some (some x) => some x
      | _ => none
    | none => none
  | none => none
def dFld (fI : FI) (d : DE) : DE := fun σ => bnd (d σ) fun w G => match slotQ fI w G with
  | some x => .ok x G
  | none => .stuck
def putSW (i : Nat) (v : W) (ws : List (Option W)) : List (Option W) := (ws ++ List.replicate (i + 1 - ws.length) none).set i (some v)
def setFld (fI : FI) (o v : W) (G : Gh) : Option Gh := match insQ o G with
  | some (n, C, ws) => (fI C).map fun i => G.set n (.ins C (putSW i v ws))
  | none => none
def FOk (K : PySem.W.Frag) (f : Str) (fI : FI) : Prop := ∀ C i, fI C = some i → ∃ p, SlX.Slot1 K C f p i
/-- the class at C has f at the place i -/
def fAt (C : Addr) (i : Nat) : FI := fun C' => if C' = C then some i else none
theorem fAt_ok {K : PySem.W.Frag} {C p : Addr} {f : Str} {i : Nat} (h : SlX.Slot1 K C f p i) : FOk K f (fAt C i) := fun C' i' e => by
  unfold fAt at e
  split at e
  · rename_i hc
    cases e
    exact ⟨p, hc ▸ h⟩
  · cases e
section
variable {X : Cx} {Wx : WX} {k : Nat} {pins : List (Addr × Obj)} {σ : L2.St} {H : Hp} {s : Shared} {ρ : List Addr} {G : Gh}
theorem ins_at (r : RG X.kw ρ H G) {w : W} {x : V} {n : Nat} {C : Addr} {ws : List (Option W)} (a : Abs X.kw ρ H w x) (e : insQ w G = some (n, C, ws)) :
    ∃ b, x = .ref b ∧ ρ[n]? = some b ∧ G[n]? = some (.ins C ws) ∧ AbsO X.kw ρ H b (.ins C ws) := by
  obtain ⟨rfl, g⟩ := insQ_some e
  obtain ⟨b, eb, rfl⟩ := a
  exact ⟨b, rfl, eb, g, r.ob n _ b g eb⟩
/-- a slot has been stored -/
theorem slot_put (I : L2.Inv X pins σ H s) (r : RG X.kw ρ H G) {n i : Nat} {a C dx : Addr} {ws : List (Option W)} {vs : List (Option V)} {w : W} {v : V} (e : ρ[n]? = some a) (cl : SlX.SCls X.K C ∧ SlX.SIsi X.K C) (hn : dx ∉ ρ) (ne : dx ≠ a) (sl : SlX.Slt H a C dx vs)
    (hl : ws.length = vs.length) (hv : ∀ (i : Nat) (w : W), ws[i]? = some (some w) → ∃ v, vs[i]? = some (some v) ∧ Abs X.kw ρ H w v) (av : Abs X.kw ρ H w v) :
    Go ρ ρ H (SlX.slH H a C dx (SlX.putS i v vs)) ∧ RG X.kw ρ (SlX.slH H a C dx (SlX.putS i v vs)) (G.set n (.ins C (putSW i w ws))) := by
  have ma : a ∈ ρ := List.mem_of_getElem? e
  have hd : (∃ y, H dx = some (.own y)) ∨ H dx = some (.xd []) := by
    rcases sl with ⟨h, _⟩ | ⟨_, h⟩
    · obtain ⟨_, _, _, _, _, ho⟩ := ins_get I.hok h
      exact .inl ⟨a, ho⟩
    · exact .inr h
  have nfa : ∀ o u, H a ≠ some (.frz o u) := by
    rcases sl with ⟨h, _⟩ | ⟨h, _⟩
    · exact nofz h
    · exact nofz h (by unfold SlX.SlO; trivial)
  have keep : ∀ b u, H b = some u → b ≠ a → (∀ x, u ≠ .own x) → SlX.slH H a C dx (SlX.putS i v vs) b = some u := fun b u hb n1 n2 => by
    by_cases q : b = dx
    · subst q
      rcases hd with ⟨y, hy⟩ | hy
      · rw [hb] at hy; cases hy; exact absurd rfl (n2 y)
      · rw [hb] at hy; cases hy
        unfold SlX.slH
        rw [upd_ne ne, upd_same]
    · rw [SlX.slH_ne n1 q]; exact hb
  have dxS : ∃ u, SlX.slH H a C dx (SlX.putS i v vs) dx = some u := ⟨_, by unfold SlX.slH; rw [upd_ne ne, upd_same]⟩
  have g0 : Go0 ρ ρ H (SlX.slH H a C dx (SlX.putS i v vs)) := ⟨List.prefix_refl _, fun b o hb n1 n2 => keep b o hb (by rintro rfl; exact n1 ma) n2, fun b o hb n1 => by
    by_cases q : b = dx
    · subst q; exact dxS
    · exact ⟨o, by rw [SlX.slH_ne (by rintro rfl; exact n1 ma) q]; exact hb⟩, fun _ m n => absurd m n⟩
  refine ⟨⟨g0, fun b o u hb => keep b _ hb (by rintro rfl; exact nfa o u hb) (fun x z => by cases z)⟩, by rw [List.length_set]; exact r.len, r.nd, fun m u b e1 e2 => ?_⟩
  by_cases q : n = m
  · subst q
    rw [e] at e2; cases e2
    have hn' : n < G.length := by rw [← r.len]; exact (List.getElem?_eq_some_iff.mp e).1
    rw [List.getElem?_set_self hn'] at e1
    cases e1
    refine ⟨dx, SlX.putS i v vs, cl, hn, dxS, ne, SlX.slH_slt ne, ?_, fun j w' ej => ?_⟩
    · unfold putSW SlX.putS
      simp only [List.length_set, List.length_append, List.length_replicate, hl]
    · have hlen : i < (ws ++ List.replicate (i + 1 - ws.length) (none : Option W)).length := by simp only [List.length_append, List.length_replicate]; omega
      by_cases z : j = i
      · subst z
        unfold putSW at ej
        rw [List.getElem?_set_self hlen] at ej
        cases ej
        exact ⟨v, SlX.putS_get j v vs, av.go0 g0⟩
      · unfold putSW at ej
        rw [List.getElem?_set_ne (Ne.symm z)] at ej
        have ej' : ws[j]? = some (some w') := by
          by_cases hj : j < ws.length
          · rw [List.getElem?_append_left hj] at ej; exact ej
          · rw [List.getElem?_append_right (by omega), List.getElem?_replicate] at ej
            split at ej
            · cases ej
            · cases ej
        obtain ⟨v', hv', av'⟩ := hv j w' ej'
        exact ⟨v', (SlX.putS_ne z).mpr hv', av'.go0 g0⟩
  · rw [List.getElem?_set_ne q] at e1
    refine AbsO.go g0 (h := r.ob m u b e1 e2) (k := fun c y hc z ny => keep c y hc ?_ ny)
    rintro rfl
    rcases z with rfl | z
    · obtain ⟨h1, x1⟩ := List.getElem?_eq_some_iff.mp e
      obtain ⟨h2, x2⟩ := List.getElem?_eq_some_iff.mp e2
      exact q ((List.getElem_inj r.nd).mp (x1.trans x2.symm))
    · exact z ma
theorem fld_ok {f : Str} {fI : FI} {b : Bool} {w x : W} {v : V} {u : Value} {Q : Value → Shared → Prop} {E : Value → Shared → Prop} (fo : FOk X.K f fI) (I : L2.Inv X pins σ H s) (r : RG X.kw ρ H G) (a : Abs X.kw ρ H w v) (rv : L2.RelV v u) (e : slotQ fI w G = some x)
    (q : ∀ z u' s', L2.Inv X pins σ H s' → Abs X.kw ρ H x z → L2.RelV z u' → Q u' s') : wpAny (model X.prog X.w) X.A (getAttr u f b) Q E s := by
  unfold slotQ at e
  split at e
  · rename_i n C ws eq
    split at e
    · rename_i i ei
      split at e
      · rename_i y ey
        cases e
        obtain ⟨bb, rfl, eb, g, dx, vs, cl, hn, _, ne, sl, hl, hv⟩ := ins_at r a eq
        cases rv
        obtain ⟨p, t⟩ := fo C i ei
        obtain ⟨z, hz, az⟩ := hv i x ey
        exact SlX.getslot_ok I sl cl.1 t hz fun u' s' I' ru => q z u' s' I' az ru
      · cases e
    · cases e
  · cases e
theorem le_fld {e : Expr} {f : Str} {fI : FI} {d : DE} {pos : Pos} (fo : FOk X.K f fI) (he : LE X Wx e d) (hb : attributeBase e f X.env (eval e X.env) = eval e X.env := by rfl) : LE X Wx (.Attribute e f pos) (dFld fI d) := by
  constructor; intro pins s σ H Q I h
  refine attr_of hb (thn (he.run pins s σ H _ I (Lf.bnd (R1 := Abs X.kw) h)) fun u s1 ⟨x, H1, I1, rx, ρ1, σd, G1, w, r1, s2, ax, q1⟩ => ?_)
  cases eq : slotQ fI w G1 with
  | none => rw [eq] at q1; exact q1.elim
  | some y =>
    rw [eq] at q1
    exact fld_ok fo I1 r1 ax rx eq fun z u' s' I' az ru => ⟨z, H1, I', ru, q1 ρ1 H1 z .refl r1 az⟩
theorem setfld_ok {f : Str} {fI : FI} {wo wv : W} {vo v : V} {uo u : Value} {G' : Gh} {Q : Unit → Shared → Prop} {E : Value → Shared → Prop} (fo : FOk X.K f fI) (I : L2.Inv X pins σ H s) (r : RG X.kw ρ H G) (ao : Abs X.kw ρ H wo vo) (ro : L2.RelV vo uo) (av : Abs X.kw ρ H wv v) (rv : L2.RelV v u) (e : setFld fI wo wv G = some G')
    (q : ∀ s' H', L2.Inv X pins σ H' s' → RG X.kw ρ H' G' → Go ρ ρ H H' → Q () s') : wpAny (model X.prog X.w) X.A (setAttr uo f u) Q E s := by
  unfold setFld at e
  split at e
  · rename_i n C ws eq
    rcases Option.map_eq_some_iff.mp e with ⟨i, ei, rfl⟩
    obtain ⟨bb, rfl, eb, g, dx, vs, cl, hn, _, ne, sl, hl, hv⟩ := ins_at r ao eq
    cases ro
    obtain ⟨p, t⟩ := fo C i ei
    obtain ⟨gg, rr⟩ := slot_put (i := i) I r eb cl hn ne sl hl hv av
    exact SlX.setslot_ok I sl cl.1 t rv fun s' I' => q s' _ I' rr gg
  · cases e
def sFldS (fI : FI) (o e : DE) : DS := fun σ => sOf (e σ) σ fun v σ => sOf (o σ) σ fun x σ G => match setFld fI x v G with
  | some G' => .nx σ G'
  | none => .stuck
theorem ls_fld {o e : Expr} {f : Str} {fI : FI} {dO de : DE} {pos pos' : Pos} (fo : FOk X.K f fI) (ho : LE X Wx o dO) (he : LE X Wx e de) (hs : swapsWith e (some (.Attribute o f pos')) pos.line X.env = pure false := by rfl) : LS X Wx (.Assign [.Attribute o f pos'] e pos) (sFldS fI dO de) := by
  constructor; intro pins s σ H D I h
  obtain ⟨ρ, σd, G, r, s0, a⟩ := h
  refine plainObj_wpAny_Assign_Attribute (thn (he.run pins s σ H _ I ⟨ρ, σd, G, r, s0, AftS.of' r s0 a⟩) fun v s1 ⟨z, H1, I1, rz, ρ1, G1, wv, g1, r1, s1', av, q1⟩ => ?_) hs
  refine thn (ho.run pins s1 σ H1 _ I1 ⟨ρ1, σd, G1, r1, s1', AftS.of' r1 s1' q1⟩) fun ov s2 ⟨x, H2, I2, rx, ρ2, G2, wo, g2, r2, s2', ao, q2⟩ => ?_
  cases es : setFld fI wo wv G2 with
  | none => rw [es] at q2; exact q2.elim
  | some G3 =>
    rw [es] at q2
    exact setfld_ok fo I2 r2 ao rx (av.go g2) rz es fun s' H' I' r' g' => ⟨σ, H', I', q2 ρ2 H' σ g' r' (s2'.go g')⟩
/-- o.f as a target -/
def gFld (fI : FI) (o : DE) : DG := fun v σ G => match o σ G with
  | .ok x G1 => match setFld fI x v G1 with
    | some G' => .nx σ G'
    | none => .stuck
  | _ => .stuck
theorem lg_fld {o : Expr} {f : Str} {fI : FI} {dO : DE} {pos : Pos} (fo : FOk X.K f fI) (ho : LE X Wx o dO) : LG X (.Attribute o f pos) (gFld fI dO) := by
  refine ⟨fun pins s σ H v u Q I rv h => ?_⟩
  obtain ⟨ρ, σd, G, w, r, s0, aw, q⟩ := h
  unfold gFld at q
  cases eo : dO σd G with
  | exc _ _ => rw [eo] at q; exact q.elim
  | stuck => rw [eo] at q; exact q.elim
  | ok x G1 =>
    rw [eo] at q
    dsimp only at q
    refine PySem.W.kas_attr (thn (ho.run pins s σ H (fun y H1 => ∃ ρ1, Go ρ ρ1 H H1 ∧ RG X.kw ρ1 H1 G1 ∧ Abs X.kw ρ1 H1 x y) I ⟨ρ, σd, G, r, s0, by rw [eo]; exact fun ρ1 H1 v g r1 av => ⟨ρ1, g, r1, av⟩⟩) fun ov s1 ⟨y, H1, I1, ry, ρ1, g1, r1, ay⟩ => ?_)
    cases es : setFld fI x w G1 with
    | none => rw [es] at q; exact q.elim
    | some G2 =>
      rw [es] at q
      exact setfld_ok fo I1 r1 ay ry (aw.go g1) rv es fun s' H' I' r' g' => ⟨σ, H', I', q ρ1 H' σ (g1.trans g') r' (s0.go (g1.trans g'))⟩
/-- targets side by side -/
def gAll : List DG → List W → DS
  | [], [], σ, G => .nx σ G
  | d :: ds, w :: ws, σ, G => match d w σ G with
    | .nx σ' G' => gAll ds ws σ' G'
    | _ => .stuck
  | _, _, _, _ => .stuck
def gTupD (ds : List DG) : DG := fun w σ G => match w with
  | .tup ws => gAll ds ws σ G
  | _ => .stuck
def LGs (X : Cx) (ts : List Expr) (ds : List DG) : Prop := PGs X ts fun vs σ H Q => ∃ ρ σd G ws, RG X.kw ρ H G ∧ AbsS X.kw ρ H σd σ ∧ AbsL X.kw ρ H ws vs ∧ match gAll ds ws σd G with
  | .nx σd' G' => ∀ ρ' H' σ', Go ρ ρ' H H' → RG X.kw ρ' H' G' → AbsS X.kw ρ' H' σd' σ' → Q σ' H'
  | _ => False
theorem lgs_nil : LGs X [] [] := by
  refine ⟨fun pins s σ H vs us Q I rv h => ?_⟩
  obtain ⟨ρ, σd, G, ws, r, s0, al, q⟩ := h
  cases ws with
  | nil =>
    simp only [AbsL] at al
    subst al
    cases rv
    exact PyProof.Rows.assignInOrder_nil ⟨σ, H, I, q ρ H σ .refl r s0⟩
  | cons w ws => exact q.elim
theorem lgs_cons {t : Expr} {ts : List Expr} {d : DG} {ds : List DG} (h1 : LG X t d) (h2 : LGs X ts ds) (hs : (assignEach (t :: ts) X.env).map (·.2) = assign t X.env :: (assignEach ts X.env).map (·.2) := by rfl) : LGs X (t :: ts) (d :: ds) := by
  refine ⟨fun pins s σ H vs us Q I rv h => (pgs_cons h1 h2 hs).run pins s σ H vs us Q I rv ?_⟩
  obtain ⟨ρ, σd, G, ws, r, s0, al, q⟩ := h
  cases ws with
  | nil => exact q.elim
  | cons w ws =>
    obtain ⟨v, vr, rfl, av, al⟩ := al
    refine ⟨v, vr, rfl, ρ, σd, G, w, r, s0, av, ?_⟩
    unfold gAll at q
    cases e : d w σd G with
    | nx σ1 G1 =>
      rw [e] at q
      dsimp only at q
      intro ρ1 H1 τ1 g1 r1 s1
      refine ⟨ρ1, σ1, G1, ws, r1, s1, al.go g1, ?_⟩
      cases e2 : gAll ds ws σ1 G1 with
      | nx σ2 G2 =>
        rw [e2] at q
        exact fun ρ2 H2 τ2 g2 r2 s2 => q ρ2 H2 τ2 (g1.trans g2) r2 s2
      | _ => rw [e2] at q; exact q.elim
    | _ => rw [e] at q; exact q.elim
theorem gAll_len : ∀ {ds : List DG} {ws : List W} {σ σ' : Loc} {G G' : Gh}, gAll ds ws σ G = .nx σ' G' → ws.length = ds.length
  | .nil, .nil, _, _, _, _, _ => rfl
  | [], _ :: _, _, _, _, _, e => by simp [gAll] at e
  | _ :: _, [], _, _, _, _, e => by simp [gAll] at e
  | d :: ds, w :: ws, σ, σ', G, G', e => by
    unfold gAll at e
    split at e
    · rw [List.length_cons, List.length_cons, gAll_len e]
    · cases e
theorem lg_tup {ts : List Expr} {ds : List DG} {kk : Nat} {pos : Pos} (hc : X.calm = true) (h : LGs X ts ds) (hn : (assignEach ts X.env).length = ds.length := by rfl) (hst : (assignEach ts X.env).findIdx? (·.1) = none := by rfl) : LG X (.Tuple ts kk pos) (gTupD ds) := by
  refine PG.imp (pg_tup hc h hn hst) fun v σ H Q ⟨ρ, σd, G, w, r, s0, aw, q⟩ => ?_
  unfold gTupD at q
  cases w with
  | tup ws =>
    dsimp only at q
    obtain ⟨b, vs, rfl, st, al⟩ := aw
    refine ⟨b, vs, rfl, st.sq, ?_, ρ, σd, G, ws, r, s0, al, ?_⟩
    · cases e : gAll ds ws σd G with
      | nx σ' G' => rw [← al.len]; exact gAll_len e
      | _ => rw [e] at q; exact q.elim
    · cases e : gAll ds ws σd G with
      | nx σ' G' => rw [e] at q; exact q
      | _ => rw [e] at q; exact q.elim
  | _ => exact q.elim
end
end Dn
end
section
set_option Elab.async false
set_option backward.match.sparseCases false
set_option linter.all false
set_option maxRecDepth 100000
set_option maxHeartbeats 2000000
namespace Dn
open PySem L2
/-! ### instances made, their methods -/
def dMake (C : Addr) (F : DF) (ds : DA) : DE := fun σ => bnd (ds σ) fun ws G => match F (.ref G.length :: ws) (G ++ [.ins C []]) with
  | .ok .non G' => .ok (.ref G.length) G'
  | .ok _ _ => .stuck
  | .exc x G' => .exc x G'
  | .stuck => .stuck
section
variable {X : Cx} {Wx : WX} {k : Nat} {pins : List (Addr × Obj)} {σ : L2.St} {H : Hp} {s : Shared} {ρ : List Addr} {G : Gh}
theorem le_make {C f : Addr} {fd : FuncData} {ps : List Str} {F : DF} {x : Str} {p pos : Pos} {e : Expr} {es : List Expr} {ds : DA} (c : Ctx X Wx (k + 1)) (M : Mk X.K C f) (cl : SlX.SCls X.K C ∧ SlX.SIsi X.K C) (L : LF X.prog X.w X.K X.mg X.base k f fd ps F) (hg : Gl X x) (hm : X.mg x = some (.ref C)) (hb : Binds X.K fd ps [])
    (ha : LA X Wx (e :: es) ds) (hdb : (x == ("__debug__" : Str)) = false := by decide) (he : starEach (e :: es) X.env = (false, eval e X.env) :: starEach es X.env := by rfl) (hpl : (backTo pos (starEach es X.env)).any (·.1) = false := by rfl) :
    LE X Wx (.Call (.Name x p) (e :: es) [] pos) (dMake C F ds) := by
  refine ⟨fun pins s σ H Q I h => wpAny_Call_Name_kw (ld_glob I hg hm ?_ hdb)⟩
  have args := ha.run pos pins s σ H _ I (Lf.bnd (R1 := AbsL X.kw) h)
  refine PySem.W.callWith_K (h₀ := X.base) I.ok.mod.kin M.kp (thn args ?_) he hpl
  rintro us s1 ⟨vs, H1, I1, rv, ρ1, σd, G1, ws, r1, s2, al, q1⟩
  refine ⟨I1.kIn, ?_⟩
  have n1 : H1 (s1.heap.objs.size + 1) = none := I1.hok.fresh (Nat.le_succ _)
  have n2 : H1 s1.heap.objs.size = none := I1.hok.fresh (Nat.le_refl _)
  have I2 := Inv.made (C := C) I1
  generalize hx : s1.heap.objs.size + 1 = ax at n1 I2
  generalize hdx : s1.heap.objs.size = dx at n2 I2
  have ne : dx ≠ ax := by rw [← hx, ← hdx]; exact Nat.ne_of_lt (Nat.lt_succ_self _)
  -- the new instance is tracked
  have g1 : Go ρ1 ρ1 H1 (upd H1 dx (.own ax)) := Go.new n2
  have r1' : RG X.kw ρ1 (upd H1 dx (.own ax)) G1 := r1.new n2
  have n1' : upd H1 dx (.own ax) ax = none := by rw [upd_ne (Ne.symm ne)]; exact n1
  have g2 : Go ρ1 (ρ1 ++ [ax]) (upd H1 dx (.own ax)) (upd (upd H1 dx (.own ax)) ax (.ins C dx [])) := Go.add r1' n1'
  have nd : dx ∉ ρ1 := r1.fresh n2
  have r2 : RG X.kw (ρ1 ++ [ax]) (upd (upd H1 dx (.own ax)) ax (.ins C dx [])) (G1 ++ [.ins C []]) := r1'.add n1' ⟨dx, [], cl, by simp [nd, ne], ⟨_, by rw [upd_ne ne, upd_same]⟩, ne, .inl ⟨upd_same, rfl⟩, rfl, fun i w z => by simp at z⟩
  have ax' : (ρ1 ++ [ax])[G1.length]? = some ax := by rw [← r1.len, List.getElem?_append_right (Nat.le_refl _), Nat.sub_self] <;> rfl
  have gg := g1.trans g2
  have want : LfF X.kw F (.ref ax :: vs) (upd (upd H1 dx (.own ax)) ax (.ins C dx [])) (fun v H2 => v = .non ∧ Q (.ref ax) H2) (WE Wx σ) := by
    refine ⟨ρ1 ++ [ax], G1 ++ [.ins C []], .ref G1.length :: ws, r2, ⟨_, _, rfl, ⟨ax, ax', rfl⟩, al.go gg⟩, ?_⟩
    cases ef : F (.ref G1.length :: ws) (G1 ++ [.ins C []]) with
    | ok w G' =>
      rw [ef] at q1
      cases w with
      | non =>
        intro ρ' H' v g r' av
        simp only [Abs] at av
        exact ⟨av, q1 ρ' H' (.ref ax) (gg.trans g) r' ⟨ax, g.ix ax', rfl⟩⟩
      | _ => exact q1.elim
    | exc y G' =>
      rw [ef] at q1
      exact fun ρ' H' cc d g r' a => q1 ρ' H' cc d (gg.trans g) r' a
    | stuck => rw [ef] at q1; exact q1.elim
  have ln : (Value.ref ax :: us).length = ps.length := by
    have := L.len _ _ _ _ want
    rw [← this, List.length_cons, List.length_cons, rv.length]
  have gds : (X.A.under (.builtin "type.__call__" ⟨.ref C :: us, []⟩)).guards = some [] := by
    first | exact c.gd | (simp [Around.under, Code.isGuard, guardIds, c.gd])
  have bound : ∀ s', X.K.In s'.heap → BindsTo s' fd ⟨Value.ref ax :: us, []⟩ (ps.zip (Value.ref ax :: us)) := fun s' kin => by
    have z := hb s' (Value.ref ax :: us) kin (by simpa using ln)
    simpa using z
  subst hx
  subst hdx
  refine wpAny_call (make_map (f := f) I1.kIn M.makes M.init (beq_iff_eq.mp M.fn) (codeAny_mono (L.run _ X.stack _ _ ⟨Value.ref (s1.heap.objs.size + 1) :: us, []⟩ (Value.ref (s1.heap.objs.size + 1) :: us) _ _ (WE Wx σ) (c.rm.make C us []) gds (I2.env0.make C us []) (bound _ I2.kIn) (.cons (show L2.RelV (.ref (s1.heap.objs.size + 1)) (.ref (s1.heap.objs.size + 1)) from rfl) rv) want) ?_))
  intro res s' q
  match res, q with
  | .error e, q => exact passAt c.tk σ pins _ _ e s' I2 q
  | .ok (.ret u), q =>
    obtain ⟨v, H', I3, rv3, ev, q3⟩ := I2.after q
    subst ev
    exact ⟨rv3, ⟨V.ref (s1.heap.objs.size + 1), H', I3, rfl, q3⟩⟩
/-! methods -/
/-- what a call of a method does, in order -/
def mcallDo (o : Expr) (m : Str) (es : List Expr) (apos pos : Pos) (pl : Sem Bool) (env : Env) : Sem Value :=
  eval o env >>= fun ov => standAt apos.atName >>= fun _ => holding [ov] (getMethod ov m pl) >>= fun r => callWith pos r.1 r.2 (backTo pos (starEach es env)) (backToKw pos (keywordEach [] env))
def dMCall (C : Addr) (F : DF) (o : DE) (ds : DA) : DE := fun σ => bnd (o σ) fun x G => match insQ x G with
  | some (_, C', _) => if C' = C then bnd (ds σ) (fun ws => F (x :: ws)) G else .stuck
  | none => .stuck
theorem le_mcall {C g : Addr} {fd : FuncData} {ps : List Str} {F : DF} {m : Str} {o e : Expr} {es : List Expr} {dO : DE} {ds : DA} {apos pos : Pos} {pl : Sem Bool} (c : Ctx X Wx k) (hm : Meth X.K C m g) (L : LF X.prog X.w X.K X.mg X.base k g fd ps F) (hb : Binds X.K fd ps []) (ho : LE X Wx o dO) (ha : LA X Wx (e :: es) ds)
    (free : NoStars (e :: es) X.env := by rfl) (told : eval (.Call (.Attribute o m apos) (e :: es) [] pos) X.env = mcallDo o m (e :: es) apos pos pl X.env := by rfl) :
    LE X Wx (.Call (.Attribute o m apos) (e :: es) [] pos) (dMCall C F dO ds) := by
  constructor; intro pins s σ H Q I h
  refine PySem.W.methodCall_KW (pl := pl) (thn (ho.run pins s σ H _ I (Lf.bnd (R1 := Abs X.kw) h)) fun u s1 ⟨x, H1, I1, rx, ρ1, σd, G1, w, r1, s2, ax, q1⟩ => ?_) told
  cases eq : insQ w G1 with
  | none => rw [eq] at q1; exact q1.elim
  | some t =>
    obtain ⟨n, C', ws⟩ := t
    rw [eq] at q1
    dsimp only at q1
    by_cases hC : C' = C
    · rw [if_pos hC] at q1
      subst hC
      obtain ⟨b, rfl, eb, gq, dx, vs, cl, hn, _, ne, sl, hl, hv⟩ := ins_at r1 ax eq
      cases rx
      refine SlX.getmethsl_ok I1 sl cl.1 hm ?_
      refine PySem.W.callWith_K (first := [.ref b]) (h₀ := X.base) I.ok.mod.kin hm.kp (thn (ha.run pos pins s1 σ H1 _ I1 ⟨ρ1, σd, G1, r1, s2, Aft.bnd (R1 := AbsL X.kw) q1⟩) fun us s3 ⟨xs, H2, I2, rv, ρ2, G2, ws2, g2, r2, al, q2⟩ => ⟨I2.kIn, ?_⟩) free.cons (by rw [show starEach es X.env = _ from free.tail]; simp [backTo])
      refine run_lf (us := .ref b :: us) (vs := .ref b :: xs) c L hb I2 (.cons rfl rv) ⟨ρ2, G2, w :: ws2, r2, ⟨_, _, rfl, ax.go g2, al⟩, ?_⟩
      cases e3 : F (w :: ws2) G2 with
      | ok _ _ => rw [e3] at q2; exact q2
      | exc _ _ => rw [e3] at q2; exact q2
      | stuck => rw [e3] at q2; exact q2
    · rw [if_neg hC] at q1
      exact q1.elim
theorem le_mcall0 {C g : Addr} {fd : FuncData} {ps : List Str} {F : DF} {m : Str} {o : Expr} {dO : DE} {apos pos : Pos} {pl : Sem Bool} (c : Ctx X Wx k) (hm : Meth X.K C m g) (L : LF X.prog X.w X.K X.mg X.base k g fd ps F) (hb : Binds X.K fd ps []) (ho : LE X Wx o dO)
    (told : eval (.Call (.Attribute o m apos) [] [] pos) X.env = mcallDo o m [] apos pos pl X.env := by rfl) :
    LE X Wx (.Call (.Attribute o m apos) [] [] pos) (dMCall C F dO dNil) := by
  constructor; intro pins s σ H Q I h
  refine PySem.W.methodCall_KW (pl := pl) (thn (ho.run pins s σ H _ I (Lf.bnd (R1 := Abs X.kw) h)) fun u s1 ⟨x, H1, I1, rx, ρ1, σd, G1, w, r1, s2, ax, q1⟩ => ?_) told
  cases eq : insQ w G1 with
  | none => rw [eq] at q1; exact q1.elim
  | some t =>
    obtain ⟨n, C', ws⟩ := t
    rw [eq] at q1
    dsimp only at q1
    by_cases hC : C' = C
    · rw [if_pos hC] at q1
      subst hC
      obtain ⟨b, rfl, eb, gq, dx, vs, cl, hn, _, ne, sl, hl, hv⟩ := ins_at r1 ax eq
      cases rx
      refine SlX.getmethsl_ok I1 sl cl.1 hm ?_
      refine PySem.W.callWith_K0 (first := [.ref b]) I1.kIn hm.kp (run_lf (us := [.ref b]) (vs := [.ref b]) c L hb I1 (.cons rfl .nil) ⟨ρ1, G1, [w], r1, ⟨_, _, rfl, ax, rfl⟩, ?_⟩)
      have q2 : Aft X.kw (Abs X.kw) Wx σ ρ1 H1 Q (F [w] G1) := q1
      cases e3 : F [w] G1 with
      | ok _ _ => rw [e3] at q2; exact q2
      | exc _ _ => rw [e3] at q2; exact q2
      | stuck => rw [e3] at q2; exact q2
    · rw [if_neg hC] at q1
      exact q1.elim
/-! ### a, b = x, y by names -/
def sPar (is : List Nat) (ds : DA) : DS := fun σ G => match ds σ G with
  | .ok ws G1 => match setAll is ws σ with
    | some σ' => .nx σ' G1
    | none => .stuck
  | .exc x G1 => .ex x σ G1
  | .stuck => .stuck
theorem par_ok {ds : DA} {is : List Nat} {H : Hp} {D : Ends} {σ : L2.St} (h : LfS X.kw Wx (sPar is ds) D σ H) : Lf X.kw (AbsL X.kw) Wx ds σ H fun vs H1 => ∃ ρ1 σd ws G1 σd', RG X.kw ρ1 H1 G1 ∧ AbsS X.kw ρ1 H1 σd σ ∧ AbsL X.kw ρ1 H1 ws vs ∧ setAll is ws σd = some σd' ∧ ∀ σ', AbsS X.kw ρ1 H1 σd' σ' → D.nx σ' H1 := by
  obtain ⟨ρ, σd, G, r, s0, a⟩ := h
  refine ⟨ρ, σd, G, r, s0, ?_⟩
  unfold sPar at a
  cases e : ds σd G with
  | stuck => rw [e] at a; exact a.elim
  | exc x G1 => rw [e] at a; exact fun ρ1 H1 c d g r q => a ρ1 H1 σ c d g r (s0.go g) q
  | ok ws G1 =>
    rw [e] at a
    dsimp only at a
    cases e2 : setAll is ws σd with
    | none => rw [e2] at a; exact a.elim
    | some σd' =>
      rw [e2] at a
      exact fun ρ1 H1 vs g r1 al => ⟨ρ1, σd, ws, G1, σd', r1, s0.go g, al, e2, fun σ' s' => a ρ1 H1 σ' g r1 s'⟩
theorem ls_par2 {i j : Nat} {x y : Str} {a b : Expr} {ds : DA} {px py pt pos : Pos} {kt k2 pt2} (c : Ctx X Wx k) (hi : X.N[i]? = some x) (hj : X.N[j]? = some y) (hij : i ≠ j) (hx : X.env.scope.names.lookup x = some .local) (hy : X.env.scope.names.lookup y = some .local) (ha : LA X Wx [a, b] ds)
    (both : swappedStores [.Tuple [.Name x px, .Name y py] kt pt] (.Tuple [a, b] k2 pt2) X.env = pure (some [x, y])) (hs : swapsWithSole [.Tuple [.Name x px, .Name y py] kt pt] (.Tuple [a, b] k2 pt2) pos.line X.env = pure false := by rfl) : LS X Wx (.Assign [.Tuple [.Name x px, .Name y py] kt pt] (.Tuple [a, b] k2 pt2) pos) (sPar [i, j] ds) :=
  PS.imp (ps_par c.calm c.nd hi hj hij hx hy ha both hs) fun D σ H h => (par_ok h).mono fun vs H1 ⟨ρ1, σd, ws, G1, σd', r1, s1, al, e, q⟩ => by
    cases ws with
    | nil => simp [setAll] at e
    | cons w ws => cases ws with
      | nil => simp [setAll] at e
      | cons w2 ws => cases ws with
        | cons _ _ => simp [setAll] at e
        | nil =>
          simp only [setAll, Option.some.injEq] at e
          subst e
          obtain ⟨v, _, rfl, a1, v2, _, rfl, a2, rfl⟩ := al
          exact ⟨v, v2, rfl, q _ ((s1.set a1 i).set a2 j)⟩
theorem ls_par3 {i j l : Nat} {x y z : Str} {a b d : Expr} {ds : DA} {px py pz pt pos : Pos} {kt k2 pt2} (c : Ctx X Wx k) (hi : X.N[i]? = some x) (hj : X.N[j]? = some y) (hl : X.N[l]? = some z) (hij : i ≠ j) (hil : i ≠ l) (hjl : j ≠ l) (hx : X.env.scope.names.lookup x = some .local) (hy : X.env.scope.names.lookup y = some .local) (hz : X.env.scope.names.lookup z = some .local) (ha : LA X Wx [a, b, d] ds)
    (hw : swappedStores [.Tuple [.Name x px, .Name y py, .Name z pz] kt pt] (.Tuple [a, b, d] k2 pt2) X.env = pure (some [x, y, z]))
    (hs : swapsWithSole [.Tuple [.Name x px, .Name y py, .Name z pz] kt pt] (.Tuple [a, b, d] k2 pt2) pos.line X.env = pure false := by rfl) : LS X Wx (.Assign [.Tuple [.Name x px, .Name y py, .Name z pz] kt pt] (.Tuple [a, b, d] k2 pt2) pos) (sPar [i, j, l] ds) :=
  PS.imp (ps_par3 c.calm c.nd hi hj hl hij hil hjl hx hy hz ha hw hs) fun D σ H h => (par_ok h).mono fun vs H1 ⟨ρ1, σd, ws, G1, σd', r1, s1, al, e, q⟩ => by
    cases ws with
    | nil => simp [setAll] at e
    | cons w ws => cases ws with
      | nil => simp [setAll] at e
      | cons w2 ws => cases ws with
        | nil => simp [setAll] at e
        | cons w3 ws => cases ws with
          | cons _ _ => simp [setAll] at e
          | nil =>
            simp only [setAll, Option.some.injEq] at e
            subst e
            obtain ⟨v, _, rfl, a1, v2, _, rfl, a2, v3, _, rfl, a3, rfl⟩ := al
            exact ⟨v, v2, v3, rfl, q _ (((s1.set a1 i).set a2 j).set a3 l)⟩
end
end Dn
end
section
set_option Elab.async false
set_option backward.match.sparseCases false
set_option linter.all false
set_option maxRecDepth 100000
set_option maxHeartbeats 2000000
namespace Dn
open PySem L2
/-! ### a < b < c -/
def dChain (f f' : D2) (da db dc : DE) : DE := fun σ => bnd (da σ) fun x => bnd (db σ) fun y => bnd (noX (f x y)) fun z => match z with
  | .bl true => bnd (dc σ) fun w => noX (f' y w)
  | .bl false => ret (.bl false)
  | _ => fail
/-- an item of what may be written -/
def itemM : D2 := fun x y G => match dctQ x G with
  | some (_, lk, kvs) => if keyFits lk kvs y = true then match dfind kvs y with
    | some w => .ok w G
    | none => .stuck
    else .stuck
  | none => match x, y with
    | .ref n, .int i => match G[n]? with
      | some (.lst ws) => match (ixOf ws.length i).bind (ws[·]?) with
        | some w => .ok w G
        | none => .stuck
      | _ => .stuck
    | _, _ => .stuck
section
variable {X : Cx} {Wx : WX} {k : Nat} {a b e : Expr} {c : Expr} {da db dc d : DE} {pos : Pos}
theorem chain_ok {f f' : D2} {σ : L2.St} {H : Hp} {Q : VK} (h : Lf X.kw (Abs X.kw) Wx (dChain f f' da db dc) σ H Q) : tChain (lf2 X.kw f) (lf2 X.kw f') (Lf X.kw (Abs X.kw) Wx da) (Lf X.kw (Abs X.kw) Wx db) (Lf X.kw (Abs X.kw) Wx dc) σ H Q := by
  refine (Lf.bnd (R1 := Abs X.kw) h).mono fun x H1 ⟨ρ1, σd, G1, wx, r1, s1, ax, q1⟩ => ?_
  refine ⟨ρ1, σd, G1, r1, s1, (Aft.bnd (R1 := Abs X.kw) q1).mono fun y H2 ⟨ρ2, G2, wy, g2, r2, ay, q2⟩ => ?_⟩
  refine ⟨ρ2, G2, wx, wy, r2, ax.go g2, ay, ?_⟩
  have q3 := Aft.bnd (R1 := Abs X.kw) q2
  refine (Aft.noX (Wx' := W0) (σ' := []) q3).mono fun z H3 ⟨ρ3, G3, wz, g3, r3, az, q4⟩ => ?_
  cases wz with
  | bl bb =>
    simp only [Abs] at az
    subst az
    refine ⟨bb, rfl, ?_⟩
    cases bb with
    | true =>
      refine ⟨ρ3, σd, G3, r3, (s1.go g2).go g3, (Aft.bnd (R1 := Abs X.kw) q4).mono fun w H4 ⟨ρ4, G4, ww, g4, r4, aw, q5⟩ => ?_⟩
      exact ⟨ρ4, G4, wy, ww, r4, (ay.go g3).go g4, aw, q5.noX⟩
    | false => exact q4 ρ3 H3 _ .refl r3 (by simp [Abs])
  | _ => exact q4.elim
theorem le_chain {op op' : CmpOp} {f f' : D2} (ho : OpR X (compareOp op) (lf2 X.kw f)) (ho' : OpR X (compareOp op') (lf2 X.kw f')) (ha : LE X Wx a da) (hb : LE X Wx b db) (hc : LE X Wx c dc)
    (hm : lastMarks [op, op'] [b, c] = false := by with_unfolding_all rfl) : LE X Wx (.Compare a [op, op'] [b, c] pos) (dChain f f' da db dc) := PE.imp (pe_chain ho ho' ha hb hc hm) fun _ _ _ => chain_ok
theorem lt_chain {op op' : CmpOp} {f f' : D2} (ho : OpR X (compareOp op) (lf2 X.kw f)) (ho' : OpR X (compareOp op') (lf2 X.kw f')) (ha : LE X Wx a da) (hb : LE X Wx b db) (hc : LE X Wx c dc)
    (hm : lastMarks [op, op'] [b, c] = false := by with_unfolding_all rfl) : LT X Wx (.Compare a [op, op'] [b, c] pos) (dB (dChain f f' da db dc)) := PT.imp (pt_chain ho ho' ha hb hc hm) fun _ _ _ h => chain_ok (dB_ok h)
/-! ### x[i] op= e -/
theorem get_W (cx : Ctx X Wx k) : PGet X (lf2 X.kw itemM) := by
  intro pins s σ H x y v u Q I rx ry ⟨ρ, G, wx, wy, r, ax, ay, q⟩
  unfold itemM at q
  cases eq : dctQ wx G with
  | some t =>
    obtain ⟨n, lk, kvs⟩ := t
    rw [eq] at q
    dsimp only at q
    by_cases ft : keyFits lk kvs wy = true
    · rw [if_pos ft] at q
      cases ef : dfind kvs wy with
      | none => rw [ef] at q; exact q.elim
      | some w =>
        rw [ef] at q
        exact item_dct cx I r ax ay rx ry eq ft ef q
    · rw [if_neg ft] at q; exact q.elim
  | none =>
    rw [eq] at q
    dsimp only at q
    split at q
    · rename_i n i
      simp only [Abs] at ay
      obtain ⟨p, ep, rfl⟩ := ax
      split at q
      · rename_i ws g
        obtain ⟨vs, hv, l⟩ := r.lst ep g
        cases ej : ixOf ws.length i with
        | none => rw [ej] at q; exact q.bad
        | some j =>
          rw [ej] at q
          cases ew : ws[j]? with
          | none => simp only [Option.bind, ew] at q; exact q.bad
          | some w =>
            simp only [Option.bind, ew] at q
            obtain ⟨z, ez, az⟩ := l.get ew
            rw [l.len] at ej
            subst ay
            cases rx
            obtain ⟨t, rfl⟩ := ry
            obtain ⟨its, rv, pl, hz⟩ := I.list (SqL.of hv)
            obtain ⟨j', h1, h2, h3, h4, h5⟩ := atI_get (atI_of ej ez)
            obtain ⟨w', ew', rw'⟩ := L2.Vals.get rv h2
            have hlen := L2.Vals.length rv
            have hn := line63
            have fin : EP X pins σ Q w' s := ⟨z, H, I, rw', q ρ H _ .refl r az⟩
            by_cases h0 : 0 ≤ i
            · have hj : i.toNat = j' := by
                rw [seqIndex_of h0 h5] at h1
                exact Option.some.inj h1
              exact PySem.wpAny_getItem_list pl.isList h0 (by omega) (by rw [hj]; simpa using ew') fin
            · have hj : (i + (its.toArray.size : Int)).toNat = j' := by
                simp only [seqIndex_neg (by omega) h4] at h1
                rw [List.size_toArray, ← hlen]
                exact Option.some.inj h1
              exact PySem.wpAny_getItem_list_neg pl.isList (by omega) (by rw [List.size_toArray] <;> omega) (by omega) (by rw [hj]; simpa using ew') fin
      · exact q.bad
    · exact q.bad
/-- x[i] op= e -/
def sAugS (o i e : DE) (f : D2) : DS := fun σ => sOf (o σ) σ fun x σ => sOf (i σ) σ fun y σ => sOf (noX (itemM x y)) σ fun z σ => sOf (bnd (e σ) fun w => noX (f z w)) σ fun v σ G => match setW x y v G with
  | some G' => .nx σ G'
  | none => .stuck
theorem ls_augS {o i e : Expr} {dO di de : DE} {f : D2} {op : Operator} {pos tpos : Pos} (cx : Ctx X Wx k) (ho : LE X Wx o dO) (hi : LE X Wx i di) (he : LE X Wx e de) (hp : PIp X op (lf2 X.kw f))
    (ha : ∀ ov iv new, augStore i ov iv new = (do holding [new, ov, iv] (setItem ov iv new); release [new, ov, iv] []; pure .next) := by intros; rfl) : LS X Wx (.AugAssign (.Subscript o i tpos) op e pos) (sAugS dO di de f) := by
  constructor; intro pins s σ H D I h
  obtain ⟨ρ, σd, G, r, s0, a⟩ := h
  refine wpAny_AugAssign_SubscriptAny (thn (ho.run pins s σ H _ I ⟨ρ, σd, G, r, s0, AftS.of' r s0 a⟩) fun ov s1 ⟨x, H1, I1, rx, ρ1, G1, wo, g1, r1, s1', ao, q1⟩ => ?_) ha
  refine thn (hi.run pins s1 σ H1 _ I1 ⟨ρ1, σd, G1, r1, s1', AftS.of' r1 s1' q1⟩) fun iv s2 ⟨y, H2, I2, ry, ρ2, G2, wi, g2, r2, s2', ai, q2⟩ => ?_
  have q2' := AftS.of' r2 s2' q2
  refine thn (get_W cx pins s2 σ H2 x y ov iv _ I2 rx ry ⟨ρ2, G2, wo, wi, r2, ao.go g2, ai, Aft.noX q2'⟩) fun old s3 ⟨z, H3, I3, rz, ρ3, G3, wz, g3, r3, s3', az, q3⟩ => ?_
  refine thn (he.run pins s3 σ H3 _ I3 ⟨ρ3, σd, G3, r3, s3', LfS.ofE r3 s3' q3⟩) fun v s4 ⟨w, H4, I4, rw', ρ4, G4, ww, g4, r4, aw, q4⟩ => ?_
  have s4' := s3'.go g4
  have q4' := AftS.of' r4 s4' q4
  refine thn (hp pins s4 σ H4 z w old v _ I4 rz rw' ⟨ρ4, G4, wz, ww, r4, az.go g4, aw, Aft.noX q4'⟩) fun new s5 ⟨n, H5, I5, rn, ρ5, G5, wn, g5, r5, s5', an, q5⟩ => ?_
  refine thn (set_W cx pins s5 σ H5 x y n ov iv new (fun H6 => ∃ ρ6 G6, RG X.kw ρ6 H6 G6 ∧ D.nx σ H6) I5 rx ry rn ⟨ρ5, G5, wo, wi, wn, r5, (((ao.go g2).go g3).go g4).go g5, ((ai.go g3).go g4).go g5, an, ?_⟩) fun _ s6 ⟨H6, I6, ρ6, G6, r6, q6⟩ => ⟨σ, H6, I6, q6⟩
  cases es : setW wo wi wn G5 with
  | none => rw [es] at q5; exact q5.elim
  | some G6 =>
    rw [es] at q5
    exact fun ρ6 H6 g6 r6 => ⟨ρ6, G6, r6, q5 ρ6 H6 σ g6 r6 (s5'.go g6)⟩
end
end Dn
end
section
set_option Elab.async false
set_option backward.match.sparseCases false
set_option linter.all false
set_option maxRecDepth 100000
set_option maxHeartbeats 4000100
namespace Dn
open L2 PySem PyProof.Rows PySem.Spec
/-! ## what a set asks of members that are tuples -/
abbrev NKey := NestedKey
abbrev kh (w : World) (q : NKey) : Int := q.hash w
/-- at c stands a tuple that is the key q, of a depth that == is asked of unseen -/
abbrev KAt (h : Heap) (q : NKey) (c : Addr) : Prop := NestedIs h q (.ref c) ∧ q.depth ≤ 8
theorem KAt.keep {h h' : Heap} {q : NKey} {c : Addr} (r : KAt h q c) (old : ∀ b o, h.get? b = some o → h'.get? b = some o) : KAt h' q c :=
  ⟨NestedIs.at (fun b o _ _ e _ => old b o e) _ _ r.1, r.2⟩
/-- keys and values go in pairs: each value has its key -/
theorem key_of_item {h : Heap} : ∀ {ks : List NKey} {vs : List Value}, NestedAll h ks vs → ∀ v ∈ vs, ∃ q ∈ ks, NestedIs h q v
  | _, _, .nil, v, m => (List.not_mem_nil m).elim
  | _, _, .cons first others, v, m => by
    cases m with
    | head => exact ⟨_, .head _, first⟩
    | tail _ m => exact (key_of_item others v m).imp fun q t => ⟨.tail _ t.1, t.2⟩
theorem depth_of_item {q : NKey} : ∀ {ks : List NKey}, q ∈ ks → q.depth ≤ NestedKey.depthAll ks
  | k :: ks, m => by
    unfold NestedKey.depthAll
    cases m with
    | head => exact Nat.le_max_left ..
    | tail _ m => exact Nat.le_trans (depth_of_item m) (Nat.le_max_right ..)
section
variable {A : Around} {E : Value → Shared → Prop} {P : Program} {s : Shared} {w : World}
/-- a walk whose question is answered no each time -/
theorem walk_no {f : Value → Sem Bool} {vs : Array Value} {Q : Bool → Shared → Prop} (no : ∀ v ∈ vs.toList, ∀ R : Bool → Shared → Prop, R false s → wpAny (model P w) A (f v) R E s) (done : Q false s) :
    wpAny (model P w) A (do
      for v in vs do
        if ← f v then return true
      return false) Q E s := by
  apply wpAny_bind
  change wpAny _ A (forIn vs _ _) _ E s
  rw [← Array.forIn_toList]
  refine wpAny_forIn_list _ (fun ahead r now => now = s ∧ r.1 = none ∧ ∀ v ∈ ahead, v ∈ vs.toList) _ ?_ ?_ _ _ ⟨rfl, rfl, fun _ m => m⟩
  · intro v ahead r now ⟨at_, _, sub⟩
    subst at_
    exact wpAny_bind (no v (sub v (.head _)) _ (wpAny_pure ⟨rfl, rfl, fun u m => sub u (.tail _ m)⟩))
  · intro r now ⟨at_, empty, _⟩
    obtain ⟨first, other⟩ := r
    cases (show first = none from empty)
    subst at_
    exact wpAny_pure done
/-- a walk whose question is answered, by whatever truth -/
theorem walk_all {f : Value → Sem Bool} {vs : Array Value} {Q : Bool → Shared → Prop} (each : ∀ v ∈ vs.toList, ∀ R : Bool → Shared → Prop, (∀ b, R b s) → wpAny (model P w) A (f v) R E s) (done : ∀ b, Q b s) :
    wpAny (model P w) A (do
      for v in vs do
        if !(← f v) then return false
      return true) Q E s := by
  apply wpAny_bind
  change wpAny _ A (forIn vs _ _) _ E s
  rw [← Array.forIn_toList]
  refine wpAny_forIn_list _ (fun ahead r now => now = s ∧ ∀ v ∈ ahead, v ∈ vs.toList) _ ?_ ?_ _ _ ⟨rfl, fun _ m => m⟩
  · intro v ahead r now ⟨at_, sub⟩
    subst at_
    refine wpAny_bind (each v (sub v (.head _)) _ fun b => ?_)
    cases b with
    | true => exact wpAny_pure ⟨rfl, fun u m => sub u (.tail _ m)⟩
    | false =>
      first
        | exact wpAny_pure (wpAny_pure (done _))
        | exact wpAny_pure (done _)
  · intro r now ⟨at_, _⟩
    obtain ⟨first, other⟩ := r
    subst at_
    cases first <;> exact wpAny_pure (done _)
/-- no key is of a class of the program's -/
theorem own_no : ∀ (n : Nat) (q : NKey) (v : Value), NestedIs s.heap q v → q.depth ≤ n → ∀ (Q : Bool → Shared → Prop), Q false s → wpAny (model P w) A (ofAClassStatement n v) Q E s := by
  intro n
  induction n with
  | zero =>
    intro q v is deep Q done
    cases is with
    | tup => exact absurd deep (by unfold NestedKey.depth; omega)
    | _ => exact wpAny_pure done
  | succ n below =>
    intro q v is deep Q done
    cases is with
    | @tup c o vs m ks here cls data items =>
      have deep' : NestedKey.depthAll ks ≤ n := by unfold NestedKey.depth at deep; omega
      have tuple : s.TypeIs (.ref c) "tuple" := ⟨o, here, cls⟩
      have same : (("tuple" : String) == "tuple") = true := by decide
      unfold ofAClassStatement
      apply wpAny_bind
      apply wpAny_typeOf tuple
      simp only [same, if_true]
      refine wpAny_bind (wpAny_pure (wpAny_bind (wpAny_seqItems here data ?_)))
      refine walk_no (fun v m R no => ?_) done
      obtain ⟨q', mem, is'⟩ := key_of_item items v m
      exact below q' v is' (Nat.le_trans (depth_of_item mem) deep') R no
    | _ => exact wpAny_pure done
/-- whether a key's hash goes by value is told -/
theorem byvalue_told : ∀ (n : Nat) (q : NKey) (v : Value), NestedIs s.heap q v → ∀ (Q : Bool → Shared → Prop), (∀ b, Q b s) → wpAny (model P w) A (hashByValue n v) Q E s := by
  intro n
  induction n with
  | zero =>
    intro q v is Q done
    cases is <;> exact wpAny_pure (done _)
  | succ n below =>
    intro q v is Q done
    cases is with
    | @tup c o vs m ks here cls data items =>
      have tuple : s.TypeIs (.ref c) "tuple" := ⟨o, here, cls⟩
      unfold hashByValue
      apply wpAny_bind
      apply wpAny_specialOf tuple F.slot_tuple_hash.lookup
      refine wpAny_bind (wpAny_seqItems here data ?_)
      refine walk_all (fun v m R each => ?_) done
      obtain ⟨q', _, is'⟩ := key_of_item items v m
      exact below q' v is' R each
    | _ => exact wpAny_pure (done _)
/-- a search among such keys would show nothing of the table -/
theorem unseen {q : NKey} {b : Addr} (is : KAt s.heap q b) {ys : List Value} (keys : ∀ y ∈ ys, ∃ q' c, y = Value.ref c ∧ KAt s.heap q' c) {Q : Bool → Shared → Prop} (done : Q false s) :
    wpAny (model P w) A (searchCouldBeSeen (Value.ref b) ys) Q E s := by
  unfold searchCouldBeSeen
  apply wpAny_bind
  refine wpAny_forIn_list _ (fun ahead r now => now = s ∧ r.1 = none ∧ ∀ y ∈ ahead, y ∈ ys) _ ?_ ?_ _ _ ⟨rfl, rfl, fun _ m => m⟩
  · intro y ahead r now ⟨at_, _, sub⟩
    subst at_
    obtain ⟨q', c, ey, is'⟩ := keys y (sub y (.head _))
    subst ey
    have next : now = now ∧ (none : Option Bool) = none ∧ ∀ y ∈ ahead, y ∈ ys := ⟨rfl, rfl, fun u m => sub u (.tail _ m)⟩
    dsimp only
    split
    · exact wpAny_pure next
    · refine wpAny_bind ((nestedKind P w).quiet is ?_)
      refine wpAny_bind ((nestedKind P w).quiet is' ?_)
      refine wpAny_bind (own_no 8 q _ is.1 is.2 _ ?_)
      exact wpAny_bind (own_no 8 q' _ is'.1 is'.2 _ (wpAny_pure next))
  · intro r now ⟨at_, empty, _⟩
    obtain ⟨first, other⟩ := r
    cases (show first = none from empty)
    subst at_
    exact wpAny_pure done
end
end Dn
end
section
set_option Elab.async false
set_option backward.match.sparseCases false
set_option linter.all false
set_option maxRecDepth 100000
set_option maxHeartbeats 4000100
namespace Dn
open L2 PySem PyProof.Rows PySem.Spec
/-! ## a set of tuples: how a key is looked for -/
/-- members: where each stands, and which key it is -/
abbrev Ents := List (Addr × NKey)
def entV (w : World) (p : Addr × NKey) : Int × Value := (kh w p.2, .ref p.1)
def entH (w : World) (p : Addr × NKey) : Int := kh w p.2
/-- at a stands a set with these rows, this epoch and this table -/
def Laid (h : Heap) (a : Addr) (es : Array (Int × Value)) (ep : Nat) (t : SetTable) : Prop :=
  ∃ o : Obj, h.get? a = some o ∧ o.data = .set es ep t ∧ o.ExactSet
/-- .. and the rows are those of the members L -/
structure NS (w : World) (h : Heap) (a : Addr) (L : Ents) (es : Array (Int × Value)) (ep : Nat) (t : SetTable) : Prop where
  laid : Laid h a es ep t
  rows : es.toList = L.map (entV w)
  tab : TabOk t (L.map (entH w))
  nd : (L.map Prod.snd).Nodup
  ats : ∀ p ∈ L, KAt h p.2 p.1
  led : t.led = true ∨ w.params.followText "set-order" = true
  room : 5 * L.length < 3 * t.mask
  few : L.length < 64
section
variable {P : Program} {w : World} {A : Around} {E : Value → Shared → Prop} {s : Shared} {a : Addr} {L : Ents} {es : Array (Int × Value)} {ep : Nat} {t : SetTable}
theorem Laid.ask {Q : Array (Int × Value) × Nat × SetTable → Shared → Prop} (here : Laid s.heap a es ep t) (fit : t.fits es.size = true) (done : Q (es, ep, t) s) : wpAny (model P w) A (setState a) Q E s :=
  here.elim fun _ r => wpAny_setState_of r.1 r.2.1 fit done
theorem Laid.put {Q : Unit → Shared → Prop} (here : Laid s.heap a es ep t) {es' : Array (Int × Value)} {t' : SetTable} (size : es'.size ≤ sizeLine) (done : ∀ after, Heap.SameBut a s.heap after → Laid after a es' (ep + 1) t' → Q () { s with heap := after }) :
    wpAny (model P w) A (storeSet a es' t') Q E s := by
  obtain ⟨o, got, data, kind⟩ := here
  exact wpAny_storeSet_of got data (done _ (Heap.SameBut.update ..) ⟨_, store_at got data, rfl, kind⟩) size
theorem size_of_rows {L : Ents} (rows : es.toList = L.map (entV w)) : es.size = L.length := by
  have both := congrArg List.length rows
  rwa [List.length_map, Array.length_toList] at both
theorem row_of {L : Ents} (rows : es.toList = L.map (entV w)) {i : Nat} {p : Addr × NKey} (at_ : L[i]? = some p) : es[i]? = some (entV w p) := by
  have both := congrArg (fun l : List (Int × Value) => l[i]?) rows
  simpa [at_] using both
theorem fits_plain (size : t.place.size = es.size) (clean : t.dummies = #[]) (le : es.size ≤ t.mask) : t.fits es.size = true := by
  simp [SetTable.fits, SetTable.fill, clean, size, le]
theorem NS.size {h : Heap} (R : NS w h a L es ep t) : es.size = L.length := size_of_rows R.rows
theorem NS.places {h : Heap} (R : NS w h a L es ep t) : t.place.toList.length = L.length := by
  have told := R.tab.sz
  rwa [List.length_map, ← Array.length_toList] at told
theorem NS.fits {h : Heap} (R : NS w h a L es ep t) : t.fits es.size = true := by
  have n1 := R.places
  have n2 := R.size
  have n3 := R.room
  rw [Array.length_toList] at n1
  exact fits_plain (by omega) R.tab.dm (by omega)
/-- the c-th step of the search for a hash -/
abbrev stp (m : Nat) (h : Int) (c : Nat) : SetTable.Probe := nth m (runAt m (SetTable.bits h % (m + 1)) (SetTable.bits h)) c
theorem stp_clean (m : Nat) (h : Int) : ∀ c, (stp m h c).dummy = none
  | 0 => rfl
  | c + 1 => by
    have before := stp_clean m h c
    rw [show stp m h (c + 1) = adv m (stp m h c) from nth_succ ..]
    generalize stp m h c = p at before
    unfold adv
    split <;> exact before
theorem stp_stp (m : Nat) (h : Int) (c d : Nat) : nth m (stp m h c) d = stp m h (c + d) := (nth_add m c _ d).symm
/-- what the search meets from step c on, where K is the first free step: a row of this hash, or the free place -/
theorem meets {hs : List Int} (T : TabOk t hs) (hashAt : Nat → Int) (h : Int) {c K : Nat} (le : c ≤ K) (fuel : K < 10 * SetTable.turns t.mask) (free : way t.mask h K ∉ t.place.toList) (held : ∀ d, d < K → way t.mask h d ∈ t.place.toList) :
    (∃ d i, c ≤ d ∧ d < K ∧ t.place.toList[i]? = some (way t.mask h d) ∧ (∀ d' i', c ≤ d' → d' < d → t.place.toList[i']? = some (way t.mask h d') → hashAt i' ≠ h) ∧
      t.probe hashAt h (stp t.mask h c) = some (.candidate (way t.mask h d) i (stp t.mask h (d + 1)))) ∨
    ((∀ d' i', c ≤ d' → d' < K → t.place.toList[i']? = some (way t.mask h d') → hashAt i' ≠ h) ∧ t.probe hashAt h (stp t.mask h c) = some (.empty (way t.mask h K) none)) := by
  have walk := go_spec t T.ris T.dm hashAt h (10 * SetTable.turns t.mask) (K - c) (stp t.mask h c) (stp_clean ..) (by omega)
  simp only [stp_stp] at walk
  have to : ∀ {e}, c ≤ e → c + (e - c) = e := fun l => by omega
  rw [to le] at walk
  rcases walk (fun k l => held _ (by omega)) free with ⟨k, i, l, at_, _, before, told⟩ | ⟨before, told⟩
  · refine .inl ⟨c + k, i, by omega, by omega, at_, fun d' i' l1 l2 at' => before (d' - c) i' (by omega) (by rw [to l1]; exact at'), ?_⟩
    exact told
  · exact .inr ⟨fun d' i' l1 l2 at' => before (d' - c) i' (by omega) (by rw [to l1]; exact at'), told⟩
/-- a row of the same hash is weighed: the key itself, or on with the search -/
theorem weigh (R : NS w s.heap a L es ep t) {x : Addr} {q : NKey} (is : KAt s.heap q x) (deep : A.units + 8 < cLine) {i j fuel : Nat} {p : Addr × NKey} {next : SetTable.Probe} (at_ : L[i]? = some p) (place : t.place.toList[i]? = some j)
    {Q : SetFound → Shared → Prop} (yes : p.2 = q → Q (.there none) s) (no : p.2 ≠ q → wpAny (model P w) A (setSearchFrom a (.ref x) (kh w q) true fuel (some next)) Q E s) :
    wpAny (model P w) A (searchRest a (.ref x) (kh w q) true fuel es t j i next) Q E s := by
  have row := row_of R.rows at_
  unfold searchRest
  rw [row]
  show wpAny _ _ (holding [Value.ref p.1] (eqBool (.ref p.1) (.ref x)) >>= _) _ _ s
  refine wpAny_bind (wpAny_holding ((nestedKind P w).eqBool deep (R.ats p (List.mem_of_getElem? at_)) is (wpAny_bind (R.laid.ask R.fits ?_))))
  dsimp only
  by_cases e : p.2 = q
  · simp only [e, decide_true, Bool.and_self, if_true]
    exact wpAny_pure (yes e)
  · simp only [e, decide_false, Bool.and_false, Bool.false_eq_true, if_false, sameMem, if_true, slot_live R.tab.ris place, row]
    exact wpAny_bind (wpAny_isSame_ref_self (wpAny_bind (wpAny_pure (no e))))
/-- the steps ahead of c meet no member that is q -/
def Past (t : SetTable) (L : Ents) (h : Int) (q : NKey) (c : Nat) : Prop := ∀ (d i : Nat) (p : Addr × NKey), d < c → t.place.toList[i]? = some (way t.mask h d) → L[i]? = some p → p.2 ≠ q
theorem Past.on {h : Int} {q : NKey} {c c' : Nat} (past : Past t L h q c) (now : ∀ (d i : Nat) (p : Addr × NKey), c ≤ d → d < c' → t.place.toList[i]? = some (way t.mask h d) → L[i]? = some p → p.2 ≠ q) : Past t L h q c' := fun d i p l at1 at2 => by
  by_cases lt : d < c
  · exact past d i p lt at1 at2
  · exact now d i p (by omega) l at1 at2
/-- behind the first free step: no member at all is q -/
theorem Past.all (R : NS w s.heap a L es ep t) {q : NKey} {K : Nat} (past : Past t L (kh w q) q K) (free : way t.mask (kh w q) K ∉ t.place.toList) : q ∉ L.map Prod.snd := fun mem => by
  obtain ⟨p, mp, e⟩ := List.mem_map.mp mem
  obtain ⟨i, at_⟩ := List.getElem?_of_mem mp
  have lt : i < t.place.toList.length := by
    rw [R.places]
    exact (List.getElem?_eq_some_iff.mp at_).1
  obtain ⟨d, l, ed⟩ := R.tab.before free (by rw [List.getElem?_map, at_]; exact congrArg (fun q => some (kh w q)) e) (List.getElem?_eq_getElem lt)
  exact past d i p l (by rw [ed]; exact List.getElem?_eq_getElem lt) at_ e
theorem look_from (R : NS w s.heap a L es ep t) {x : Addr} {q : NKey} (is : KAt s.heap q x) (deep : A.units + 8 < cLine) {K : Nat} (fuel : K < 10 * SetTable.turns t.mask) (free : way t.mask (kh w q) K ∉ t.place.toList)
    (held : ∀ d, d < K → way t.mask (kh w q) d ∈ t.place.toList) {Q : SetFound → Shared → Prop} (yes : q ∈ L.map Prod.snd → Q (.there none) s) (no : q ∉ L.map Prod.snd → Q (.free (way t.mask (kh w q) K) false) s) :
    ∀ (n c f : Nat) (stand : Option SetTable.Probe), K = c + n → n < f → stand.getD (t.probeStart (kh w q)) = stp t.mask (kh w q) c → Past t L (kh w q) q c →
      wpAny (model P w) A (setSearchFrom a (.ref x) (kh w q) true f stand) Q E s := by
  intro n
  induction n using Nat.strongRecOn
  case ind n less =>
    intro c f stand ek lf stands past
    obtain ⟨f, rfl⟩ : ∃ g, f = g + 1 := ⟨f - 1, by omega⟩
    have odd : ¬ t.gaveWay = true := by simp [SetTable.gaveWay, mask_odd R.tab.mok]
    have hashes : ∀ {i : Nat} {p : Addr × NKey}, L[i]? = some p → (es[i]?.map (·.1)).getD 0 = kh w p.2 := fun at_ => by rw [row_of R.rows at_] <;> rfl
    rw [setSearchFrom_succ]
    refine wpAny_bind (R.laid.ask R.fits ?_)
    simp only [odd, if_false]
    rw [stands]
    rcases meets R.tab (fun i => (es[i]?.map (·.1)).getD 0) (kh w q) (show c ≤ K by omega) fuel free held with ⟨d, i, l1, l2, place, before, told⟩ | ⟨before, told⟩
    · rw [told]
      have lt : i < L.length := by
        rw [← R.places]
        exact (List.getElem?_eq_some_iff.mp place).1
      have row : L[i]? = some L[i] := List.getElem?_eq_getElem lt
      generalize L[i] = p at row
      have weighed : wpAny (model P w) A (searchRest a (.ref x) (kh w q) true f es t (way t.mask (kh w q) d) i (stp t.mask (kh w q) (d + 1))) Q E s := by
        refine weigh R is deep row place (fun e => yes (List.mem_map.mpr ⟨p, List.mem_of_getElem? row, e⟩)) fun ne => ?_
        refine less (K - (d + 1)) (by omega) (d + 1) f _ (by omega) (by omega) rfl (past.on fun d' i' p' m1 m2 at1 at2 e => ?_)
        by_cases here : d' = d
        · subst here
          have same := slot_live R.tab.ris at1
          rw [slot_live R.tab.ris place] at same
          cases same
          rw [row] at at2
          cases at2
          exact ne e
        · exact before d' i' m1 (by omega) at1 (by rw [hashes at2, e])
      by_cases led : t.led = true
      · simp only [led, Bool.not_true, Bool.false_eq_true, if_false]
        exact weighed
      · simp only [led, Bool.not_false, if_true]
        refine wpAny_bind (unseen is (fun y my => ?_) ?_)
        · obtain ⟨e, me, ey⟩ := List.mem_map.mp my
          have me : e ∈ es.toList := by
            rw [Array.toList_filter] at me
            exact (List.mem_filter.mp me).1
          rw [R.rows] at me
          obtain ⟨p', mp', ep'⟩ := List.mem_map.mp me
          exact ⟨p'.2, p'.1, by rw [← ey, ← ep'] <;> rfl, R.ats p' mp'⟩
        · exact weighed
    · rw [told]
      refine wpAny_pure (no (Past.all R (past.on fun d' i' p' m1 m2 at1 at2 e => ?_) free))
      exact before d' i' m1 m2 at1 (by rw [hashes at2, e])
/-- the whole search -/
theorem look (R : NS w s.heap a L es ep t) {x : Addr} {q : NKey} (is : KAt s.heap q x) (deep : A.units + 8 < cLine) {Q : SetFound → Shared → Prop} (yes : q ∈ L.map Prod.snd → Q (.there none) s)
    (no : ∀ K, q ∉ L.map Prod.snd → way t.mask (kh w q) K ∉ t.place.toList → (∀ d, d < K → way t.mask (kh w q) d ∈ t.place.toList) → Q (.free (way t.mask (kh w q) K) false) s) :
    wpAny (model P w) A (setSearch a (.ref x) (kh w q) true) Q E s := by
  have n := R.room
  obtain ⟨K, fuel, free, held⟩ := R.tab.first (by rw [List.length_map]; omega) (kh w q)
  have short : K < 100000 := Nat.lt_trans fuel (by rcases R.tab.mok with m | m | m <;> rw [m] <;> decide)
  exact look_from R is deep fuel free held yes (fun out => no K out free held) K 0 100000 none (Nat.zero_add K).symm short rfl fun d i p l => absurd l (Nat.not_lt_zero d)
end
end Dn
end
section
set_option Elab.async false
set_option backward.match.sparseCases false
set_option linter.all false
set_option maxRecDepth 100000
set_option maxHeartbeats 4000100
namespace Dn
open L2 PySem PyProof.Rows PySem.Spec
/-! ## a set of tuples: how a key is put in -/
/-- a member by its place -/
def memAt (L : Ents) (i : Nat) : Addr × NKey := L.getD i (0, .none)
theorem memAt_lt {L : Ents} {i : Nat} (lt : i < L.length) : L[i]? = some (memAt L i) := by
  unfold memAt
  rw [List.getD_eq_getElem?_getD, List.getElem?_eq_getElem lt] <;> rfl
theorem memAt_all (L : Ents) : (List.range L.length).map (memAt L) = L := by
  refine List.ext_getElem? fun i => ?_
  by_cases lt : i < L.length
  · rw [List.getElem?_map, List.getElem?_range lt, memAt_lt lt] <;> rfl
  · rw [List.getElem?_eq_none (by simpa using lt), List.getElem?_eq_none (Nat.not_lt.mp lt)]
theorem filterMap_some {α β : Type} (f : α → Option β) (g : α → β) : ∀ l : List α, (∀ x ∈ l, f x = some (g x)) → l.filterMap f = l.map g
  | [], _ => rfl
  | x :: l, h => by
    rw [List.filterMap_cons_some (h x (.head _)), List.map_cons, filterMap_some f g l fun y m => h y (.tail _ m)]
section
variable {P : Program} {w : World} {A : Around} {E : Value → Shared → Prop} {s : Shared} {a : Addr} {L : Ents} {es : Array (Int × Value)} {ep : Nat} {t : SetTable}
/-- a table laid anew, in plain words: the same members in another order -/
theorem anew (rows : es.toList = L.map (entV w)) {wanted M : Nat} (size : SetTable.sizeAbove wanted - 1 = M) (mask : MaskOk M) (le : L.length ≤ M) :
    ∃ (t' : SetTable) (order : Array Nat) (L' : Ents), t.relaid (es.map (·.1)) wanted = some (t', order) ∧ (order.filterMap (es[·]?)).toList = L'.map (entV w) ∧ L'.Perm L ∧ TabOk t' (L'.map (entH w)) ∧ t'.mask = M ∧ t'.led = t.led := by
  have n : (es.map (·.1)).size = L.length := by rw [Array.size_map, size_of_rows rows]
  obtain ⟨t', order, told, perm, tab, m, led, _, _⟩ := relaid_ok t (hs := es.map (·.1)) size mask (by rw [n]; exact le)
  rw [n] at perm
  have lt : ∀ {i}, i ∈ order.toList → i < L.length := fun mem => List.mem_range.mp (perm.mem_iff.mp mem)
  refine ⟨t', order, order.toList.map (memAt L), told, ?_, ?_, ?_, m, led⟩
  · rw [Array.toList_filterMap, List.map_map]
    exact filterMap_some _ _ _ fun i mem => row_of rows (memAt_lt (lt mem))
  · have p := perm.map (memAt L)
    rwa [memAt_all] at p
  · have e : (order.toList.map fun i => (es.map (·.1)).getD i 0) = (order.toList.map (memAt L)).map (entH w) := by
      rw [List.map_map]
      refine List.map_congr_left fun i mem => ?_
      simp [row_of rows (memAt_lt (lt mem)), Array.getD_eq_getD_getElem?, entH, entV]
    rwa [e] at tab
/-- a tuple is no set, so it stays where one set is changed -/
theorem KAt.past {h after : Heap} {q : NKey} {c : Addr} (r : KAt h q c) (here : Laid h a es ep t) (same : Heap.SameBut a h after) : KAt after q c := by
  obtain ⟨o, got, data, _⟩ := here
  refine ⟨NestedIs.at (fun b o' vs n got' data' => ?_) _ _ r.1, r.2⟩
  have ne : b ≠ a := fun e => by
    rw [e, got] at got'
    cases got'
    rw [data] at data'
    cases data'
  exact (same.2 b ne).trans got'
/-- the table is laid anew -/
theorem relays (here : Laid s.heap a es ep t) (rows : es.toList = L.map (entV w)) (size : t.place.size = es.size) (clean : t.dummies = #[]) (le : es.size ≤ t.mask) (nd : (L.map Prod.snd).Nodup) (ats : ∀ p ∈ L, KAt s.heap p.2 p.1)
    (led : t.led = true ∨ w.params.followText "set-order" = true) (few : L.length < 64) {wanted M : Nat} (above : SetTable.sizeAbove wanted - 1 = M) (mask : MaskOk M) (short : SetTable.sizeAbove wanted ≤ 128) (room : 5 * L.length < 3 * M) {Q : Unit → Shared → Prop}
    (done : ∀ (after : Heap) (L' : Ents) (es' : Array (Int × Value)) (ep' : Nat) (t' : SetTable), Heap.SameBut a s.heap after → NS w after a L' es' ep' t' → L'.Perm L → Q () { s with heap := after }) : wpAny (model P w) A (setRelay a wanted) Q E s := by
  obtain ⟨t', order, L', told, rows', perm, tab, m, led'⟩ := anew (t := t) rows above mask (by omega)
  have n := size_of_rows rows
  have n' : (order.filterMap (es[·]?)).size = es.size := by rw [size_of_rows rows', perm.length_eq, n]
  have fine : ¬ SetTable.sizeAbove wanted > sizeLine := by rw [sizeLine_eq]; omega
  rw [setRelay_eq]
  refine wpAny_bind (here.ask (fits_plain size clean le) ?_)
  simp only [fine, if_false]
  rw [told]
  simp only [n', bne_self_eq_false, Bool.false_eq_true, if_false]
  refine wpAny_bind (wpAny_pure (here.put (by rw [n', n, sizeLine_eq]; omega) fun after same now => ?_))
  refine done after L' _ _ t' same ⟨now, rows', tab, (perm.map Prod.snd).nodup_iff.mpr nd, fun p mem => (ats p (perm.mem_iff.mp mem)).past here same, ?_, ?_, ?_⟩ perm
  · rwa [led']
  · rwa [m, perm.length_eq]
  · rwa [perm.length_eq]
/-- rows and table are stored, and the table is laid anew where it has become too full -/
theorem stores {q : NKey} {x : Addr} (R : NS w s.heap a L es ep t) (is : KAt s.heap q x) (out : q ∉ L.map Prod.snd) (few : L.length + 1 < 64) {es1 : Array (Int × Value)} {L1 : Ents} {t2 : SetTable} (perm : L1.Perm ((x, q) :: L)) (rows : es1.toList = L1.map (entV w))
    (tab : TabOk t2 (L1.map (entH w))) (mask : t2.mask = t.mask) (led : t2.led = t.led) (fill : t2.fill = L.length + 1) {Q : Bool → Shared → Prop}
    (done : ∀ (after : Heap) (L' : Ents) (es' : Array (Int × Value)) (ep' : Nat) (t' : SetTable), Heap.SameBut a s.heap after → NS w after a L' es' ep' t' → L'.Perm ((x, q) :: L) → Q true { s with heap := after }) :
    wpAny (model P w) A (do
      storeSet a es1 t2
      if !false && t2.tooFull then setRelay a (SetTable.grown (es.size + 1))
      return true) Q E s := by
  have n1 : L1.length = L.length + 1 := perm.length_eq
  have e1 := size_of_rows rows
  have room := R.room
  refine wpAny_bind (R.laid.put (by rw [e1, n1, sizeLine_eq]; omega) fun mid same now => ?_)
  have ats : ∀ p ∈ L1, KAt mid p.2 p.1 := fun p mem => by
    cases perm.mem_iff.mp mem with
    | head => exact is.past R.laid same
    | tail _ mem => exact (R.ats p mem).past R.laid same
  have nd : (L1.map Prod.snd).Nodup := (perm.map Prod.snd).nodup_iff.mpr (List.nodup_cons.mpr ⟨out, R.nd⟩)
  have led2 : t2.led = true ∨ w.params.followText "set-order" = true := by rw [led]; exact R.led
  cases full : t2.tooFull with
  | false =>
    have space : 5 * L1.length < 3 * t2.mask := by
      unfold SetTable.tooFull at full
      rw [decide_eq_false_iff_not, fill] at full
      rw [n1]
      omega
    exact wpAny_bind (wpAny_pure (wpAny_pure (done mid L1 es1 _ t2 same ⟨now, rows, tab, nd, ats, led2, space, by rw [n1]; exact few⟩ perm)))
  | true =>
    have tight : 3 * t.mask ≤ 5 * (L.length + 1) := by
      unfold SetTable.tooFull at full
      rw [decide_eq_true_eq, fill, mask] at full
      omega
    have places : t2.place.size = es1.size := by rw [tab.sz, List.length_map, e1]
    have grow : ∀ M, SetTable.sizeAbove (SetTable.grown (es.size + 1)) = M + 1 → MaskOk M → M ≤ 127 → L.length + 1 ≤ t.mask → 5 * (L.length + 1) < 3 * M → wpAny (model P w) A (setRelay a (SetTable.grown (es.size + 1))) (fun _ now => wpAny (model P w) A (pure true) Q E now) E { s with heap := mid } := fun M above ok short le space => by
      refine relays (s := { s with heap := mid }) now rows places tab.dm (by rw [e1, n1, mask]; exact le) nd ats led2 (by rw [n1]; exact few) (by rw [above]; rfl) ok (by rw [above]; omega) (by rw [n1]; exact space) ?_
      intro after L' es' ep' t' same' R' perm'
      exact wpAny_pure (done after L' es' ep' t' (same.trans same') R' (perm'.trans perm))
    refine wpAny_bind ?_
    show wpAny _ _ (setRelay a (SetTable.grown (es.size + 1))) _ _ _
    have n0 := R.size
    rcases R.tab.mok with m | m | m <;> rw [m] at room tight
    · exact grow 31 (by rw [n0, show L.length + 1 = 5 by omega, size_20]) (.inr (.inl rfl)) (by omega) (by omega) (by omega)
    · exact grow 127 (by rw [n0, show L.length + 1 = 19 by omega, size_76]) (.inr (.inr rfl)) (by omega) (by omega) (by omega)
    · omega
/-- a key is put in -/
theorem put_key (R : NS w s.heap a L es ep t) {x : Addr} {q : NKey} (is : KAt s.heap q x) (deep : A.units + 8 < cLine) (few : L.length + 1 < 64) {Q : Bool → Shared → Prop}
    (done : ∀ (b : Bool) (after : Heap) (L' : Ents) (es' : Array (Int × Value)) (ep' : Nat) (t' : SetTable), Heap.SameBut a s.heap after → NS w after a L' es' ep' t' → (q ∈ L.map Prod.snd → L' = L) → (q ∉ L.map Prod.snd → L'.Perm ((x, q) :: L)) → Q b { s with heap := after }) :
    wpAny (model P w) A (setAddHashed a (.ref x) (kh w q)) Q E s := by
  unfold setAddHashed
  apply wpAny_holding
  rw [setAddHashedIn_succ]
  refine wpAny_bind (R.laid.ask R.fits ?_)
  have tuple : ¬ byScan (.ref x) es = true := by simp [byScan, Value.scannable]
  simp only [tuple, if_false]
  refine wpAny_bind (look R is deep (fun mem => ?_) fun K out free held => ?_)
  · exact wpAny_pure (done false _ L es ep t (.refl ..) R (fun _ => rfl) fun out => absurd mem out)
  · refine wpAny_bind (R.laid.ask R.fits ?_)
    obtain ⟨at_, le, tab, mask, led, plain, _, _, fill⟩ := R.tab.put free held
    have rows : (SetTable.insertAt es (t.put (way t.mask (kh w q) K)).2 (kh w q, Value.ref x)).toList = (L.take (t.put (way t.mask (kh w q) K)).2 ++ (x, q) :: L.drop (t.put (way t.mask (kh w q) K)).2).map (entV w) := by
      rw [SetTable.toList_insertAt, R.rows, List.map_append, List.map_take, List.map_cons, List.map_drop] <;> rfl
    rw [← at_] at tab
    generalize t.put (way t.mask (kh w q) K) = both at rows tab mask led plain fill ⊢
    obtain ⟨t1, i⟩ := both
    dsimp only at rows tab mask led plain fill ⊢
    rw [List.length_map] at fill
    have hashes : (L.map (entH w)).take i ++ kh w q :: (L.map (entH w)).drop i = (L.take i ++ (x, q) :: L.drop i).map (entH w) := by
      rw [List.map_append, List.map_take, List.map_cons, List.map_drop] <;> rfl
    rw [hashes] at tab
    have perm : (L.take i ++ (x, q) :: L.drop i).Perm ((x, q) :: L) := by
      have p := List.perm_middle (a := (x, q)) (l₁ := L.take i) (l₂ := L.drop i)
      rwa [List.take_append_drop] at p
    have off : TabOk { t1 with plain := false } ((L.take i ++ (x, q) :: L.drop i).map (entH w)) := ⟨tab.ris, tab.dm, tab.sz, tab.mok, tab.bd, tab.reach⟩
    have stored := fun (t2 : SetTable) (tab2 : TabOk t2 _) m l f => stores (P := P) (A := A) (E := E) R is out few perm rows tab2 m l f fun after L' es' ep' t' same R' p => done true after L' es' ep' t' same R' (fun mem => absurd mem out) fun _ => p
    have last : ∀ b : Bool, wpAny (model P w) A (do
        storeSet a (SetTable.insertAt es i (kh w q, Value.ref x)) (if b then t1 else { t1 with plain := false })
        if !false && (if b then t1 else { t1 with plain := false } : SetTable).tooFull then setRelay a (SetTable.grown (es.size + 1))
        return true) Q E s := fun b => by
      cases b with
      | true => exact stored t1 tab mask led fill
      | false => exact stored { t1 with plain := false } off mask led fill
    cases t1.plain with
    | true => exact wpAny_bind (byvalue_told 8 q _ is.1 _ last)
    | false => exact wpAny_bind (wpAny_pure (last true))
end
end Dn
end
section
set_option Elab.async false
set_option linter.all false
set_option maxRecDepth 100000
set_option maxHeartbeats 8000100
namespace Dn
open PySem.Spec PyProof.Rows L2 PySem
/-! ## set(xs), by what one add does -/
/-- a set with nothing in it -/
def newSetO (w : World) : Obj := { cls := .type "set", dict := none, data := .set #[] 0 (.fresh 0 0 (!w.params.followText "set-order")) }
section
variable {P : Program} {w : World} {A : Around} {E : Value → Shared → Prop}
/-- the older objects stand -/
def Stands (before after : Heap) : Prop := ∀ b o, before.get? b = some o → after.get? b = some o
/-- behind i adds to S of the items us the heap is as J i says; the iterator I is nothing to it -/
structure AddsS (P : Program) (w : World) (lim : Nat) (S I : Addr) (us : List Value) (J : Nat → Heap → Prop) : Prop where
  apart : ∀ i h after, J i h → (∀ b o, b ≠ I → h.get? b = some o → after.get? b = some o) → J i after
  add : ∀ (A : Around) (E : Value → Shared → Prop) i v (s : Shared) (Q : Bool → Shared → Prop), A.units ≤ lim → us[i]? = some v → J i s.heap →
    (∀ fresh after tk, Heap.SameBut S s.heap after → s.toks ≤ tk → J (i + 1) after → Q fresh { s with heap := after, toks := tk }) → wpAny (model P w) A (setAdd S v) Q E s
/-- the loop that adds what is left of the walk -/
theorem fills {I S : Addr} {feet writes : List Addr} {gens : Array GenState → Array GenState → Prop} {us : List Value} {Pv : Nat → Value → Prop} {St : Nat → Shared → Prop} {J : Nat → Heap → Prop} {lim : Nat}
    (walk : WalksS P w A.in1 I feet writes gens us.length Pv St) (other : S ∉ feet) (own : ∀ b ∈ writes, b = I) (told : ∀ i v, Pv i v → us[i]? = some v) (few : A.in1.units ≤ lim) (adds : AddsS P w lim S I us J) {R : Result → Shared → Prop} {i : Nat} {s : Shared}
    (le : i ≤ us.length) (at1 : St i s) (now : J i s.heap) (last : ∀ after, Moved (S :: writes) gens s after → J us.length after.heap → R (.ok (.ret .none)) after) : codeAny (model P w) A (.builtin "set.update.loop" ⟨[.ref S, .ref I], []⟩) R s := by
  have stays : ∀ {j : Nat} {x y : Shared}, Moved writes gens x y → J j x.heap → J j y.heap := fun mv t => adds.apart _ _ _ t fun b o ne old => mv.heap b o (fun m => ne (own b m)) old
  have wide : ∀ b ∈ writes, b ∈ S :: writes := fun b m => .tail _ m
  have ne : ∀ b ∈ feet, b ≠ S := fun b m e => other (e ▸ m)
  generalize left : us.length - i = n
  induction n generalizing i s with
  | zero =>
    cases (show i = us.length by omega)
    apply codeAny_builtin F.entry_set_update_loop
    rw [A.under_plainId F.plain_set_update_loop]
    exact wpAny_bind (walk.done s _ _ at1 fun after mv => wpAny_pure (last after (mv.mono wide) (stays mv now)))
  | succ n more =>
    apply codeAny_builtin F.entry_set_update_loop
    rw [A.under_plainId F.plain_set_update_loop]
    refine wpAny_bind (walk.item i s _ _ (by omega) at1 fun v mid pv at2 mv => wpAny_bind (wpAny_holding (adds.add A.in1 _ i v mid _ few (told i v pv) (stays mv now) fun fresh after tk same later next => ?_)))
    refine wpAny_pure ⟨plainId_quiet F.plain_set_update_loop _, more (by omega) (walk.frame _ mid _ _ at2 later fun b m o old => (same.2 b (ne b m)).trans old) next (fun fin mv2 t => last fin (.trans walk.gtrans ((mv.mono wide).then_heap later fun b o out old => (same.2 b (fun e => out (e ▸ .head _))).trans old) mv2) t) (by omega)⟩
/-- what a set's __init__ does of a list -/
theorem init_ok {s : Shared} {S l : Addr} {items : Array Value} {J : Nat → Heap → Prop} {lim : Nat} {Q : Fin → Shared → Prop} (quiet : A.handled = none) (listed : s.heap.IsList l items) (made : s.heap.get? S = some (newSetO w)) (ne : S ≠ l) (few : A.units + 3 ≤ lim)
    (adds : AddsS P w lim S s.heap.objs.size items.toList J) (start : ∀ after, Stands s.heap after → J 0 after) (last : ∀ after tk, J items.toList.length after → (∀ b o, b ≠ S → s.heap.get? b = some o → after.get? b = some o) → Q (.done (.ret .none)) { s with heap := after, toks := tk }) :
    wpAny (model P w) A (Builtin.«set.__init__» ⟨[.ref S, .ref l], []⟩) Q E s := by
  have isSet : s.TypeIs (.ref S) "set" := ⟨_, made, rfl⟩
  have older : l < s.heap.objs.size := listed.elim fun _ t => Heap.lt_size t.1
  have again := listed
  rcases listed with ⟨⟨cls, dict, data, slots⟩, stored, isList, epoch, holds⟩
  cases (show cls = .type "list" from isList)
  cases (show data = .seq items epoch from holds)
  have notSet := F.sub_list_set
  have notFrozen := F.sub_list_frozenset
  have notDict : (Value.type "list" == .type "dict") = false := by decide
  unfold Builtin.«set.__init__»
  unfold noKeywords Builtin.Frozenset.updateFrom
  generalize walked : pyIter = iter
  wp_walk
  subst walked
  apply wpAny_pyIter_list again
  apply wpAny_bind
  apply wpAny_runValue
  have unhandled : A.in1.handled = none := by simpa using quiet
  have walk := (Walks.list (prog := P) (w := w) unhandled s.heap.objs.size l (Nat.ne_of_lt older) items).toS
  have fresh : S < s.heap.objs.size := Heap.lt_size made
  have outside : S ∉ [s.heap.objs.size, l] := by simp [ne, Nat.ne_of_lt fresh]
  refine fills (i := 0) (us := items.toList) (by rw [Array.length_toList]; exact walk) outside (fun b m => List.mem_singleton.mp m) (fun i v pv => by rw [Array.getElem?_toList]; exact pv) (by simp [Around.in1]; omega) adds (Nat.zero_le _) (by exact ⟨⟨_, Heap.get?_push_size _ rfl, rfl, rfl⟩, again.push _⟩) (start _ fun b o old => Heap.get?_push_of_some _ old) fun after mv now => ?_
  obtain ⟨heap, gens, drawn, toks, os⟩ := after
  cases (show gens = s.gens from mv.gens)
  cases (show drawn = s.drawn from mv.drawn)
  cases (show os = s.os from mv.os)
  exact wpAny_pure (wpAny_pure (last heap toks now fun b o other old => mv.heap b o (by simp [other, Nat.ne_of_lt (Heap.lt_size old)]) (Heap.get?_push_of_some _ old)))
end
end Dn
end
section
set_option Elab.async false
set_option linter.all false
set_option maxRecDepth 100000
set_option maxHeartbeats 8000100
namespace Dn
open PySem.Spec PyProof.Rows L2 PySem
section
variable {P : Program} {w : World} {A : Around} {E : Value → Shared → Prop}
/-- the class set is called with one thing: a new set, then its __init__ -/
theorem set_called {s : Shared} {l : Addr} {Q : Value → Shared → Prop} {good : Heap → Prop}
    (inits : ∀ (B : Around) (R : PySem.Fin → Shared → Prop), B.handled = A.handled → B.units ≤ A.units + 3 → (∀ after tk, good after → R (.done (.ret .none)) { s with heap := after, toks := tk }) →
      wpAny (model P w) B (Builtin.«set.__init__» ⟨[.ref s.heap.objs.size, .ref l], []⟩) R E { s with heap := s.heap.push (newSetO w) })
    (last : ∀ after tk, good after → Q (.ref s.heap.objs.size) { s with heap := after, toks := tk }) : wpAny (model P w) A (call (.type "set") [.ref l]) Q E s := by
  have mros := F.called_set.mro
  rcases mros with ⟨c, tl, mro⟩
  have m1 := F.called_set.made
  have m2 := F.called_set.sub
  have m3 := F.called_set.notType
  have m4 := F.called_set.canCreate
  have m5 := F.typeCall_set_1 (.ref l)
  apply wpAny_call
  apply codeAny_of_tree
  apply wpAny_pure
  refine ⟨Code.quiet_builtin _ (by decide +kernel), ?_⟩
  apply codeAny_builtin F.entry_type_call
  rw [A.under_plain (weight_type_call_type "set" [.ref l] []) rfl]
  repeat any_goals first | assumption | wp_step
  have born := code_set_led1 (P := P) (w := w) (A := A.in1) (s := s) (.ref l) (E := E) (Q₁ := fun v t => v = .ref s.heap.objs.size ∧ t = { s with heap := s.heap.push (newSetO w) }) ⟨rfl, rfl⟩
  refine codeAny_mono born fun r now told => ?_
  match r, told with
  | .error e, told => exact told
  | .ok .next, told => exact told.elim
  | .ok .brk, told => exact told.elim
  | .ok .cont, told => exact told.elim
  | .ok (.ret v), ⟨ev, en⟩ =>
    subst ev
    subst en
    have stored : (s.heap.push (newSetO w)).get? s.heap.objs.size = some (newSetO w) := Heap.get?_push_size _ rfl
    have isSet : Shared.TypeIs { s with heap := s.heap.push (newSetO w) } (.ref s.heap.objs.size) "set" := ⟨_, stored, rfl⟩
    have i1 := F.called_set.init.lookup
    have i2 := F.called_set.init.bind (.ref s.heap.objs.size)
    repeat any_goals first | assumption | wp_step
    have run := codeAny_call_builtin (prog := P) (w := w) (A := A.in1) (s := { s with heap := s.heap.push (newSetO w) }) (args := ⟨[.ref s.heap.objs.size, .ref l], []⟩) (R := wants (fun v t => v = .none ∧ ∃ after tk, t = { s with heap := after, toks := tk } ∧ good after) E) F.called_set.init.plain F.entry_set_init (check_set_init_1 isSet (inits A.in1.in1 _ (by simp) (by simp [Around.in1]) fun after tk g => ⟨rfl, after, tk, rfl, g⟩))
    refine codeAny_mono run fun r now told => ?_
    match r, told with
    | .error e, told => exact told
    | .ok .next, told => exact told.elim
    | .ok .brk, told => exact told.elim
    | .ok .cont, told => exact told.elim
    | .ok (.ret v), ⟨ev, after, tk, en, g⟩ =>
      subst ev
      subst en
      repeat any_goals first | assumption | wp_step
      exact last after tk g
end
end Dn
end
section
set_option Elab.async false
set_option linter.all false
set_option maxRecDepth 100000
set_option maxHeartbeats 8000100
namespace Dn
open PySem.Spec PyProof.Rows L2 PySem
section
variable {P : Program} {w : World} {A : Around} {E : Value → Shared → Prop}
/-- what a set's __init__ does of a tuple -/
theorem init_tup {s : Shared} {S l : Addr} {items : Array Value} {J : Nat → Heap → Prop} {lim : Nat} {Q : Fin → Shared → Prop} (quiet : A.handled = none) (listed : s.heap.IsTuple l items) (made : s.heap.get? S = some (newSetO w)) (ne : S ≠ l) (few : A.units + 3 ≤ lim)
    (adds : AddsS P w lim S s.heap.objs.size items.toList J) (start : ∀ after, Stands s.heap after → J 0 after) (last : ∀ after tk, J items.toList.length after → (∀ b o, b ≠ S → s.heap.get? b = some o → after.get? b = some o) → Q (.done (.ret .none)) { s with heap := after, toks := tk }) :
    wpAny (model P w) A (Builtin.«set.__init__» ⟨[.ref S, .ref l], []⟩) Q E s := by
  have isSet : s.TypeIs (.ref S) "set" := ⟨_, made, rfl⟩
  have older : l < s.heap.objs.size := listed.elim fun _ t => Heap.lt_size t.1
  have again := listed
  rcases listed with ⟨⟨cls, dict, data, slots⟩, stored, isList, epoch, holds⟩
  cases (show cls = .type "tuple" from isList)
  cases (show data = .seq items epoch from holds)
  have notSet := F.sub_tuple_set
  have notFrozen := F.sub_tuple_frozenset
  have notDict : (Value.type "tuple" == .type "dict") = false := by decide
  unfold Builtin.«set.__init__»
  unfold noKeywords Builtin.Frozenset.updateFrom
  generalize walked : pyIter = iter
  wp_walk
  subst walked
  apply wpAny_pyIter_tuple again
  apply wpAny_bind
  apply wpAny_runValue
  have unhandled : A.in1.handled = none := by simpa using quiet
  have walk := (Walks.tuple (prog := P) (w := w) unhandled s.heap.objs.size l (Nat.ne_of_lt older) items).toS
  have fresh : S < s.heap.objs.size := Heap.lt_size made
  have outside : S ∉ [s.heap.objs.size, l] := by simp [ne, Nat.ne_of_lt fresh]
  refine fills (i := 0) (us := items.toList) (by rw [Array.length_toList]; exact walk) outside (fun b m => List.mem_singleton.mp m) (fun i v pv => by rw [Array.getElem?_toList]; exact pv) (by simp [Around.in1]; omega) adds (Nat.zero_le _) (by exact ⟨⟨_, Heap.get?_push_size _ rfl, rfl, rfl⟩, again.push _⟩) (start _ fun b o old => Heap.get?_push_of_some _ old) fun after mv now => ?_
  obtain ⟨heap, gens, drawn, toks, os⟩ := after
  cases (show gens = s.gens from mv.gens)
  cases (show drawn = s.drawn from mv.drawn)
  cases (show os = s.os from mv.os)
  exact wpAny_pure (wpAny_pure (last heap toks now fun b o other old => mv.heap b o (by simp [other, Nat.ne_of_lt (Heap.lt_size old)]) (Heap.get?_push_of_some _ old)))
section
variable {l : Addr} {items : Array Value} {J : Nat → Heap → Prop} {s : Shared} {Q : Value → Shared → Prop}
theorem born (w : World) (b : Addr) (o : Obj) (old : s.heap.get? b = some o) : (s.heap.push (newSetO w)).get? b = some o := Heap.get?_push_of_some _ old
theorem mkset_list (quiet : A.handled = none) (listed : s.heap.IsList l items) (adds : AddsS P w (A.units + 6) s.heap.objs.size (s.heap.objs.size + 1) items.toList J)
    (start : ∀ after, Stands s.heap after → after.get? s.heap.objs.size = some (newSetO w) → J 0 after) (last : ∀ after tk, J items.toList.length after → Stands s.heap after → Q (.ref s.heap.objs.size) { s with heap := after, toks := tk }) :
    wpAny (model P w) A (call (Value.type "set") [Value.ref l]) Q E s := by
  have older : l < s.heap.objs.size := listed.elim fun _ t => Heap.lt_size t.1
  have stored : (s.heap.push (newSetO w)).get? s.heap.objs.size = some (newSetO w) := Heap.get?_push_size _ rfl
  have size1 : (s.heap.push (newSetO w)).objs.size = s.heap.objs.size + 1 := Heap.size_push ..
  refine set_called (good := fun after => J items.toList.length after ∧ Stands s.heap after) (fun B R same few goOn => ?_) fun after tk g => last after tk g.1 g.2
  refine init_ok (lim := A.units + 6) (J := J) (same.trans quiet) (listed.push _) stored (Nat.ne_of_gt older) (by omega) (by rw [size1]; exact adds) (fun after st => start after (fun b o old => st b o (born w b o old)) (st _ _ stored)) fun after tk now others => goOn after tk ⟨now, fun b o old => others b o (Nat.ne_of_lt (Heap.lt_size old)) (born w b o old)⟩
theorem mkset_tuple (quiet : A.handled = none) (listed : s.heap.IsTuple l items) (adds : AddsS P w (A.units + 6) s.heap.objs.size (s.heap.objs.size + 1) items.toList J)
    (start : ∀ after, Stands s.heap after → after.get? s.heap.objs.size = some (newSetO w) → J 0 after) (last : ∀ after tk, J items.toList.length after → Stands s.heap after → Q (.ref s.heap.objs.size) { s with heap := after, toks := tk }) :
    wpAny (model P w) A (call (Value.type "set") [Value.ref l]) Q E s := by
  have older : l < s.heap.objs.size := listed.elim fun _ t => Heap.lt_size t.1
  have stored : (s.heap.push (newSetO w)).get? s.heap.objs.size = some (newSetO w) := Heap.get?_push_size _ rfl
  have size1 : (s.heap.push (newSetO w)).objs.size = s.heap.objs.size + 1 := Heap.size_push ..
  refine set_called (good := fun after => J items.toList.length after ∧ Stands s.heap after) (fun B R same few goOn => ?_) fun after tk g => last after tk g.1 g.2
  refine init_tup (lim := A.units + 6) (J := J) (same.trans quiet) (listed.push _) stored (Nat.ne_of_gt older) (by omega) (by rw [size1]; exact adds) (fun after st => start after (fun b o old => st b o (born w b o old)) (st _ _ stored)) fun after tk now others => goOn after tk ⟨now, fun b o old => others b o (Nat.ne_of_lt (Heap.lt_size old)) (born w b o old)⟩
end
end
end Dn
end
section
set_option Elab.async false
set_option backward.match.sparseCases false
set_option linter.all false
set_option maxRecDepth 100000
set_option maxHeartbeats 4000100
namespace Dn
open L2 PySem PySem.Spec PyProof.Rows
/-! ## the first ones of each key, the last met ahead -/
section
variable {κ β γ : Type} [DecidableEq κ]
def stepF (f : β → κ) (acc : List β) (b : β) : List β := if f b ∈ acc.map f then acc else b :: acc
def firsts (f : β → κ) (l : List β) : List β := l.foldl (stepF f) []
theorem firsts_snoc (f : β → κ) (l : List β) (b : β) : firsts f (l ++ [b]) = stepF f (firsts f l) b := by
  unfold firsts
  simp only [List.foldl_append, List.foldl_cons, List.foldl_nil]
theorem stepF_map (f : β → κ) (f' : γ → κ) (g : β → γ) (e : ∀ b, f' (g b) = f b) (acc : List β) (b : β) : (stepF f acc b).map g = stepF f' (acc.map g) (g b) := by
  have e2 : (acc.map g).map f' = acc.map f := by rw [List.map_map]; exact List.map_congr_left fun b _ => e b
  unfold stepF
  rw [e2, e]
  split
  · rfl
  · rfl
theorem foldF_map (f : β → κ) (f' : γ → κ) (g : β → γ) (e : ∀ b, f' (g b) = f b) : ∀ (l acc : List β), (l.foldl (stepF f) acc).map g = (l.map g).foldl (stepF f') (acc.map g)
  | [], _ => rfl
  | b :: l, acc => by
    rw [List.foldl_cons, foldF_map f f' g e l, stepF_map f f' g e, List.map_cons, List.foldl_cons]
theorem firsts_map (f : β → κ) (f' : γ → κ) (g : β → γ) (e : ∀ b, f' (g b) = f b) (l : List β) : (firsts f l).map g = firsts f' (l.map g) := foldF_map f f' g e l []
theorem stepF_sub (f : β → κ) (acc : List β) (b x : β) (h : x ∈ stepF f acc b) : x = b ∨ x ∈ acc := by
  unfold stepF at h
  split at h
  · exact .inr h
  · exact List.mem_cons.mp h
theorem foldF_sub (f : β → κ) : ∀ (l acc : List β) (x : β), x ∈ l.foldl (stepF f) acc → x ∈ acc ∨ x ∈ l
  | [], acc, x, h => .inl h
  | b :: l, acc, x, h => by
    rcases foldF_sub f l _ x h with z | z
    · rcases stepF_sub f acc b x z with y | y
      · exact .inr (by rw [y]; exact List.mem_cons_self)
      · exact .inl y
    · exact .inr (List.mem_cons_of_mem _ z)
theorem firsts_sub (f : β → κ) {l : List β} {x : β} (h : x ∈ firsts f l) : x ∈ l := (foldF_sub f l [] x h).elim (fun z => by cases z) id
theorem foldF_nd (f : β → κ) : ∀ (l acc : List β), (acc.map f).Nodup → ((l.foldl (stepF f) acc).map f).Nodup
  | [], _, h => h
  | b :: l, acc, h => by
    rw [List.foldl_cons]
    refine foldF_nd f l _ ?_
    unfold stepF
    split
    · exact h
    · rename_i z
      rw [List.map_cons]
      exact List.nodup_cons.mpr ⟨z, h⟩
theorem firsts_nd (f : β → κ) (l : List β) : ((firsts f l).map f).Nodup := foldF_nd f l [] List.nodup_nil
theorem foldF_mem (f : β → κ) : ∀ (l acc : List β) (k : κ), k ∈ (l.foldl (stepF f) acc).map f ↔ k ∈ acc.map f ∨ k ∈ l.map f
  | [], acc, k => by simp
  | b :: l, acc, k => by
    rw [List.foldl_cons, foldF_mem f l]
    unfold stepF
    split
    · rename_i z
      constructor
      · rintro (h | h)
        · exact .inl h
        · exact .inr (by rw [List.map_cons]; exact List.mem_cons_of_mem _ h)
      · rintro (h | h)
        · exact .inl h
        · rw [List.map_cons] at h
          obtain e | h := List.mem_cons.mp h
          · rw [e]; exact .inl z
          · exact .inr h
    · simp only [List.map_cons, List.mem_cons]
      constructor
      · rintro ((h | h) | h)
        · exact .inr (.inl h)
        · exact .inl h
        · exact .inr (.inr h)
      · rintro (h | h | h)
        · exact .inl (.inr h)
        · exact .inl (.inl h)
        · exact .inr h
theorem firsts_mem (f : β → κ) (l : List β) (k : κ) : k ∈ (firsts f l).map f ↔ k ∈ l.map f := by
  unfold firsts
  rw [foldF_mem]
  simp
theorem foldF_len (f : β → κ) : ∀ (l acc : List β), (l.foldl (stepF f) acc).length ≤ acc.length + l.length
  | [], _ => by simp
  | b :: l, acc => by
    have := foldF_len f l (stepF f acc b)
    show (l.foldl (stepF f) (stepF f acc b)).length ≤ acc.length + (l.length + 1)
    have h2 : (stepF f acc b).length ≤ acc.length + 1 := by
      unfold stepF
      split <;> simp
    omega
theorem firsts_len (f : β → κ) (l : List β) : (firsts f l).length ≤ l.length := by
  have := foldF_len f l []
  simpa [firsts] using this
end
/-- what is asked of a set: its values, in some order -/
def SetV (w : World) (h : Heap) (a : Addr) (vs : List Value) : Prop :=
  ∃ o es ep t, h.get? a = some o ∧ o.ExactSet ∧ o.data = .set es ep t ∧ t.fits es.size = true ∧ es.size < scanBound ∧ Ris t.place.toList ∧ (w.params.followText "set-order" = true ∨ t.led = true) ∧ (es.toList.map (·.2)).Perm vs
theorem SetV.perm {w : World} {h : Heap} {a : Addr} {vs vs' : List Value} (R : SetV w h a vs) (p : vs.Perm vs') : SetV w h a vs' := by
  obtain ⟨o, es, ep, t, r1, r2, r3, r4, r5, r6, r7, r8⟩ := R
  exact ⟨o, es, ep, t, r1, r2, r3, r4, r5, r6, r7, r8.trans p⟩

section
variable {A : Around} {E : Value → Shared → Prop} {P : Program} {s : Shared} {w : World}
theorem NS.setV {h : Heap} {a : Addr} {L : Ents} {es : Array (Int × Value)} {ep : Nat} {t : SetTable} (R : NS w h a L es ep t) : SetV w h a (L.map fun p => Value.ref p.1) := by
  obtain ⟨o, r1, r3, r2⟩ := R.laid
  have f := R.fits
  have z := R.size
  have few := R.few
  refine ⟨o, es, ep, t, r1, r2, r3, f, by rw [z]; unfold scanBound; omega, R.tab.ris, R.led.symm, ?_⟩
  rw [R.rows, List.map_map]
  exact List.Perm.refl _
end
end Dn
end
section
set_option Elab.async false
set_option backward.match.sparseCases false
set_option linter.all false
set_option maxRecDepth 100000
set_option maxHeartbeats 4000100
namespace Dn
open L2 PySem PySem.Spec PyProof.Rows
section
variable {κ κ' β : Type} [DecidableEq κ] [DecidableEq κ']
theorem stepF_congr {f : β → κ} {f' : β → κ'} {acc : List β} {b : β} (h : ∀ x ∈ acc, f x = f b ↔ f' x = f' b) : stepF f acc b = stepF f' acc b := by
  unfold stepF
  have e : f b ∈ acc.map f ↔ f' b ∈ acc.map f' := by
    rw [List.mem_map, List.mem_map]
    exact ⟨fun ⟨x, hx, e⟩ => ⟨x, hx, (h x hx).1 e⟩, fun ⟨x, hx, e⟩ => ⟨x, hx, (h x hx).2 e⟩⟩
  by_cases z : f b ∈ acc.map f
  · rw [if_pos z, if_pos (e.1 z)]
  · rw [if_neg z, if_neg fun y => z (e.2 y)]
theorem foldF_congr {f : β → κ} {f' : β → κ'} : ∀ (l acc : List β), (∀ x, x ∈ acc ∨ x ∈ l → ∀ y, y ∈ acc ∨ y ∈ l → (f x = f y ↔ f' x = f' y)) → l.foldl (stepF f) acc = l.foldl (stepF f') acc
  | [], _, _ => rfl
  | b :: l, acc, h => by
    have e : stepF f acc b = stepF f' acc b := stepF_congr fun x hx => h x (.inl hx) b (.inr List.mem_cons_self)
    have back : ∀ x, x ∈ stepF f' acc b ∨ x ∈ l → x ∈ acc ∨ x ∈ b :: l := fun x hx => by
      rcases hx with hx | hx
      · rcases stepF_sub f' acc b x hx with z | z
        · exact .inr (by rw [z]; exact List.mem_cons_self)
        · exact .inl z
      · exact .inr (List.mem_cons_of_mem _ hx)
    simp only [List.foldl_cons, e]
    exact foldF_congr l _ fun x hx y hy => h x (back x hx) y (back y hy)
theorem firsts_congr {f : β → κ} {f' : β → κ'} {l : List β} (h : ∀ x ∈ l, ∀ y ∈ l, (f x = f y ↔ f' x = f' y)) : firsts f l = firsts f' l :=
  foldF_congr l [] fun x hx y hy => h x (hx.elim (fun z => by cases z) id) y (hy.elim (fun z => by cases z) id)
theorem take_snoc {l : List β} {i : Nat} {x : β} (h : l[i]? = some x) : l.take (i + 1) = l.take i ++ [x] := by
  simp [List.take_succ, h]
end
section
variable {P : Program} {w : World}
/-- set(xs), by adds of texts and numbers: which keys it has, and how many -/
theorem adds_flat {K : Type} [DecidableEq K] (knd : KeyKind P w K) (ks : List (Value × K)) (are : ∀ p ∈ ks, knd.is p.2 p.1 = true ∧ p.1.scannable = true) (few : ks.length < 4000) {S I : Addr} (ne : S ≠ I) (lim : Nat) :
    AddsS P w lim S I (ks.map Prod.fst) fun i h => h.SetOf knd S (fun k => decide (k ∈ (firsts Prod.snd (ks.take i)).map Prod.snd)) (firsts Prod.snd (ks.take i)).length where
  apart i h after := fun ⟨o, es, ep, t, got, more⟩ kept => ⟨o, es, ep, t, kept S o ne got, more⟩
  add A E i v s Q _ at_ now done := by
    rw [List.getElem?_map, Option.map_eq_some_iff] at at_
    obtain ⟨p, at_, rfl⟩ := at_
    obtain ⟨is, seen⟩ := are p (List.mem_of_getElem? at_)
    have short : (firsts Prod.snd (ks.take i)).length ≤ ks.length := Nat.le_trans (firsts_len ..) (by rw [List.length_take]; exact Nat.min_le_right ..)
    unfold setAdd
    refine wpAny_holding (wpAny_bind (knd.pyHash is (wpAny_setAddHashed_of (s := { s with toks := s.toks + 1 }) is seen now (by unfold scanBound; omega) fun after same now' => done _ after (s.toks + 1) same (Nat.le_succ _) ?_)))
    show after.SetOf knd S (fun k => decide (k ∈ (firsts Prod.snd (ks.take (i + 1))).map Prod.snd)) (firsts Prod.snd (ks.take (i + 1))).length
    rw [take_snoc at_, firsts_snoc]
    unfold stepF
    by_cases mem : p.2 ∈ (firsts Prod.snd (ks.take i)).map Prod.snd
    · simp only [mem, decide_true, if_true] at now' ⊢
      refine cast (congrArg (fun f => after.SetOf knd S f _) (funext fun k => ?_)) now'
      by_cases e : k = p.2
      · subst e; simp [mem]
      · simp [e]
    · simp only [mem, decide_false, if_false, Bool.false_eq_true] at now' ⊢
      refine cast (congrArg (fun f => after.SetOf knd S f _) (funext fun k => ?_)) now'
      simp only [List.map_cons, List.mem_cons]
      by_cases e : k = p.2 <;> simp [e]
/-- by adds of tuples -/
theorem adds_tups (h0 : Heap) (ks : Ents) (ats : ∀ p ∈ ks, KAt h0 p.2 p.1) (few : ks.length < 64) {S I : Addr} (S0 : h0.get? S = none) (I0 : h0.get? I = none) (ne : S ≠ I) (lim : Nat) (hl : lim + 8 < cLine) :
    AddsS P w lim S I (ks.map fun p => Value.ref p.1) fun i h => Stands h0 h ∧ ∃ L es ep t, NS w h S L es ep t ∧ L.Perm (firsts Prod.snd (ks.take i)) where
  apart i h after := fun ⟨old, L, es, ep, t, R, perm⟩ kept => by
    have old' : Stands h0 after := fun b o got => kept b o (fun e => by rw [e, I0] at got; exact nomatch got) (old b o got)
    obtain ⟨o, got, more⟩ := R.laid
    exact ⟨old', L, es, ep, t, ⟨⟨o, kept S o ne got, more⟩, R.rows, R.tab, R.nd, fun p mem => (ats p (List.mem_of_mem_take (firsts_sub _ (perm.mem_iff.mp mem)))).keep old', R.led, R.room, R.few⟩, perm⟩
  add A E i v s Q le at_ now done := by
    obtain ⟨old, L, es, ep, t, R, perm⟩ := now
    rw [List.getElem?_map, Option.map_eq_some_iff] at at_
    obtain ⟨p, at_, rfl⟩ := at_
    have is : KAt s.heap p.2 p.1 := (ats p (List.mem_of_getElem? at_)).keep old
    have lt := (List.getElem?_eq_some_iff.mp at_).1
    have deep : A.units + 8 < cLine := by omega
    have short : L.length ≤ i := by
      rw [perm.length_eq]
      exact Nat.le_trans (firsts_len ..) (by rw [List.length_take]; exact Nat.min_le_left ..)
    unfold setAdd
    refine wpAny_holding (wpAny_bind ((nestedKind P w).pyHash deep is (put_key (s := { s with toks := s.toks + (nestedKind P w).draws p.2 }) R is deep (by omega) fun b after L' es' ep' t' same R' c1 c2 => done b after _ same (Nat.le_add_right ..) ⟨fun b o got => (same.2 b fun e => by rw [e, S0] at got; exact nomatch got).trans (old b o got), L', es', ep', t', R', ?_⟩)))
    rw [take_snoc at_, firsts_snoc]
    have both := (perm.map Prod.snd).mem_iff (a := p.2)
    unfold stepF
    by_cases mem : p.2 ∈ L.map Prod.snd
    · rw [if_pos (both.1 mem), c1 mem]
      exact perm
    · rw [if_neg fun m => mem (both.2 m)]
      exact (c2 mem).trans (perm.cons _)
end
/-! ### of deep values -/
/-- of each key the first one -/
def dedW (ws : List W) : List W := firsts keyW ws
def allFlat (ws : List W) : Bool := ws.all fun w => (flatKey w).isSome
def allTups (ws : List W) : Bool := ws.all fun w => (tupKey w).isSome
def flatFit (ws : List W) : Bool := decide (ws.length < 4000) && allFlat ws
def tupFit (ws : List W) : Bool := decide (ws.length < 64) && allTups ws
def setFit (ws : List W) : Bool := flatFit ws || tupFit ws
section
variable {X : Cx} {Wx : WX} {k : Nat} {pins : List (Addr × Obj)} {σ : L2.St} {H : Hp} {s : Shared} {ρ : List Addr} {G : Gh}
abbrev Tri := W × V × Value
theorem tri_of {K : Kw} : ∀ {ws : List W} {vs : List V} {us : List Value}, AbsL K ρ H ws vs → Vals vs us → ∃ bs : List Tri, bs.map (·.1) = ws ∧ bs.map (·.2.1) = vs ∧ bs.map (·.2.2) = us ∧ ∀ b ∈ bs, Abs K ρ H b.1 b.2.1 ∧ RelV b.2.1 b.2.2
  | [], _, _, a, rv => by
    simp only [AbsL] at a
    subst a
    cases rv
    exact ⟨[], rfl, rfl, rfl, fun b hb => by cases hb⟩
  | w :: ws, _, _, a, rv => by
    obtain ⟨v, vs', rfl, a1, a2⟩ := a
    cases rv with
    | cons r1 r2 =>
      obtain ⟨bs, e1, e2, e3, h⟩ := tri_of a2 r2
      refine ⟨(w, v, _) :: bs, by rw [List.map_cons, e1], by rw [List.map_cons, e2], by rw [List.map_cons, e3], fun b hb => ?_⟩
      obtain z | z := List.mem_cons.mp hb
      · rw [z]; exact ⟨a1, r1⟩
      · exact h b z
theorem tri_to {K : Kw} : ∀ {bs : List Tri}, (∀ b ∈ bs, Abs K ρ H b.1 b.2.1 ∧ RelV b.2.1 b.2.2) → AbsL K ρ H (bs.map (·.1)) (bs.map (·.2.1)) ∧ Vals (bs.map (·.2.1)) (bs.map (·.2.2))
  | [], _ => ⟨by simp [AbsL], .nil⟩
  | b :: bs, h => by
    obtain ⟨t1, t2⟩ := tri_to (bs := bs) fun x hx => h x (List.mem_cons_of_mem _ hx)
    obtain ⟨a, r⟩ := h b List.mem_cons_self
    exact ⟨⟨_, _, rfl, a, t1⟩, .cons r t2⟩
theorem scan_key : ∀ {k : Key} {u : Value}, RelV (kV k) u → u.scannable = true
  | .inl i, u, r => by obtain ⟨t, rfl⟩ := r; rfl
  | .inr x, u, r => by obtain ⟨t, rfl⟩ := r; rfl
/-- the class set is called with a list or a tuple -/
theorem mk_any {P : Program} {w : World} {A : Around} {E : Value → Shared → Prop} (quiet : A.handled = none) {a : Addr} {us : List Value} {J : Nat → Heap → Prop} {Q : Value → Shared → Prop} (seq : s.heap.IsList a us.toArray ∨ s.heap.IsTuple a us.toArray)
    (adds : AddsS P w (A.units + 6) s.heap.objs.size (s.heap.objs.size + 1) us J) (start : ∀ after, Stands s.heap after → after.get? s.heap.objs.size = some (newSetO w) → J 0 after)
    (last : ∀ after tk, J us.length after → Stands s.heap after → Q (.ref s.heap.objs.size) { s with heap := after, toks := tk }) : wpAny (model P w) A (call (.type "set") [.ref a]) Q E s :=
  seq.elim (fun l => mkset_list quiet l adds start last) fun l => mkset_tuple quiet l adds start last
/-- how many a set has -/
def Sized (h : Heap) (a : Addr) (n : Nat) : Prop := ∃ o es ep t, h.get? a = some o ∧ o.ExactSet ∧ o.data = .set es ep t ∧ t.fits es.size = true ∧ es.size < scanBound ∧ es.size = n
theorem SetV.sized {w : World} {h : Heap} {a : Addr} {vs : List Value} (R : SetV w h a vs) : Sized h a vs.length := by
  obtain ⟨o, es, ep, t, r1, r2, r3, r4, r5, _, _, perm⟩ := R
  exact ⟨o, es, ep, t, r1, r2, r3, r4, r5, by rw [← perm.length_eq, List.length_map, Array.length_toList]⟩
theorem fresh_at (h : Heap) {b : Nat} (le : h.objs.size ≤ b) : h.get? b = none :=
  Option.eq_none_iff_forall_not_mem.mpr fun o got => absurd (Heap.lt_size got) (Nat.not_lt.mpr le)
variable {a : Addr} {ws : List W} {vs : List V} {its : List Value} {Q : Value → Shared → Prop} {E : Value → Shared → Prop}
/-- set(xs) of texts and numbers: how many it has -/
theorem mk_flat (c : Ctx X Wx k) (I : Inv X pins σ H s) (hl : s.heap.IsList a its.toArray ∨ s.heap.IsTuple a its.toArray) (l : AbsL X.kw ρ H ws vs) (rv : Vals vs its) (fit : flatFit ws = true)
    (q : ∀ after tk, Sized after s.heap.objs.size (dedW ws).length → Stands s.heap after → Q (.ref s.heap.objs.size) { s with heap := after, toks := tk }) :
    wpAny (model X.prog X.w) X.A (call (.type "set") [.ref a]) Q E s := by
  obtain ⟨bs, rfl, rfl, rfl, hb⟩ := tri_of l rv
  unfold flatFit at fit
  rw [Bool.and_eq_true, decide_eq_true_eq, List.length_map] at fit
  obtain ⟨few, flat⟩ := fit
  let kf : Tri → Key := fun b => (flatKey b.1).getD (.inl 0)
  have isk : ∀ b ∈ bs, b.1 = kW (kf b) := fun b mem => by
    obtain ⟨key, e⟩ := Option.isSome_iff_exists.mp (List.all_eq_true.mp flat b.1 (List.mem_map_of_mem mem))
    rw [show kf b = key from by simp [kf, e]]
    exact flatKey_kW e
  have are : ∀ p ∈ bs.map fun b => (b.2.2, kf b), (mixKind X.prog X.w).is p.2 p.1 = true ∧ p.1.scannable = true := fun p mem => by
    obtain ⟨b, inb, rfl⟩ := List.mem_map.mp mem
    obtain ⟨ab, rb⟩ := hb b inb
    rw [isk b inb] at ab
    have rk : RelV (kV (kf b)) b.2.2 := by
      generalize kf b = key at ab
      cases key <;> (simp only [kW, Abs] at ab; rw [ab] at rb; exact rb)
    exact ⟨kV_is rk, scan_key rk⟩
  have n : (firsts Prod.snd ((bs.map fun b => (b.2.2, kf b)).take bs.length)).length = (dedW (bs.map (·.1))).length := by
    rw [List.take_of_length_le (by simp), ← firsts_map kf Prod.snd (fun b => (b.2.2, kf b)) (fun _ => rfl) bs, List.length_map]
    show _ = (firsts keyW (bs.map (·.1))).length
    rw [← firsts_map (fun b : Tri => keyW b.1) keyW (·.1) (fun _ => rfl) bs, List.length_map]
    refine congrArg List.length (firsts_congr fun x mx y my => ?_)
    rw [isk x mx, isk y my]
    cases kf x <;> cases kf y <;> simp [kW, keyW]
  have adds := adds_flat (P := X.prog) (w := X.w) (mixKind X.prog X.w) (bs.map fun b => (b.2.2, kf b)) are (by rw [List.length_map]; exact few) (Nat.ne_of_lt (Nat.lt_succ_self s.heap.objs.size)) (X.A.units + 6)
  rw [List.map_map] at adds
  refine mk_any c.rm.hd hl adds (fun after _ got => ?_) fun after tk now old => q after tk ?_ old
  · exact ⟨_, #[], 0, _, got, ⟨rfl, rfl, rfl⟩, rfl, fun e mem => (by simp at mem), fun key => by simp [firsts], by decide, rfl, rfl⟩
  · obtain ⟨o, es, ep, t, r1, r2, r3, _, _, r6, r7, r8⟩ := now
    refine ⟨o, es, ep, t, r1, r2, r3, r7, r6, r8.trans ?_⟩
    rw [← n, List.length_map]
/-- set(xs) of tuples: which ones it has -/
theorem mk_tups (c : Ctx X Wx k) (I : Inv X pins σ H s) (hl : s.heap.IsList a its.toArray ∨ s.heap.IsTuple a its.toArray) (l : AbsL X.kw ρ H ws vs) (rv : Vals vs its) (fit : tupFit ws = true)
    (q : ∀ after tk (cs : List Tri), SetV X.w after s.heap.objs.size (cs.map (·.2.2)) → cs.map (·.1) = dedW ws → (∀ b ∈ cs, Abs X.kw ρ H b.1 b.2.1 ∧ RelV b.2.1 b.2.2) → Stands s.heap after → Q (.ref s.heap.objs.size) { s with heap := after, toks := tk }) :
    wpAny (model X.prog X.w) X.A (call (.type "set") [.ref a]) Q E s := by
  obtain ⟨bs, rfl, rfl, rfl, hb⟩ := tri_of l rv
  unfold tupFit at fit
  rw [Bool.and_eq_true, decide_eq_true_eq, List.length_map] at fit
  obtain ⟨few, tups⟩ := fit
  let kf : Tri → NKey := fun b => (tupKey b.1).getD .none
  let af : Tri → Addr := fun b => match b.2.2 with
    | .ref x => x
    | _ => 0
  have isk : ∀ b ∈ bs, keyW b.1 = some (kf b) ∧ b.2.2 = .ref (af b) ∧ KAt s.heap (kf b) (af b) := fun b mem => by
    obtain ⟨key, e⟩ := Option.isSome_iff_exists.mp (List.all_eq_true.mp tups b.1 (List.mem_map_of_mem mem))
    obtain ⟨k1, ⟨us, eu⟩, k3⟩ := tupKey_is e
    obtain ⟨ab, rb⟩ := hb b mem
    have is := keyV_is I b.1 key b.2.1 b.2.2 k1 ab rb
    have refd : ∃ x, b.2.2 = .ref x := by
      rw [eu] at k1
      cases hk : keyWs us with
      | none => simp [keyW, hk] at k1
      | some ks =>
        simp only [keyW, hk, Option.map_some, Option.some.injEq] at k1
        subst k1
        generalize b.2.2 = u at is
        cases is
        exact ⟨_, rfl⟩
    obtain ⟨x, ex⟩ := refd
    rw [show kf b = key from by simp [kf, e], show af b = x from by simp only [af, ex]]
    exact ⟨k1, ex, by rw [← ex]; exact is, k3⟩
  have adds := adds_tups (P := X.prog) (w := X.w) s.heap (bs.map fun b => (af b, kf b)) (fun p mem => ?_) (by rw [List.length_map]; exact few) (fresh_at _ (Nat.le_refl _)) (fresh_at _ (Nat.le_succ _)) (Nat.ne_of_lt (Nat.lt_succ_self s.heap.objs.size)) (X.A.units + 6) (by have := c.rm.un; omega)
  · have refs : ((bs.map fun b => (af b, kf b)).map fun p => Value.ref p.1) = bs.map (·.2.2) := by
      rw [List.map_map]
      exact List.map_congr_left fun b mem => (isk b mem).2.1.symm
    rw [refs] at adds
    have same : firsts kf bs = firsts (fun b : Tri => keyW b.1) bs := firsts_congr fun x mx y my => by
      rw [(isk x mx).1, (isk y my).1]
      exact ⟨congrArg some, Option.some.inj⟩
    refine mk_any c.rm.hd hl adds (fun after old got => ⟨old, [], #[], 0, _, ⟨⟨_, got, rfl, rfl, rfl, rfl⟩, rfl, ⟨.nil, rfl, rfl, .inl rfl, fun x m => (by simp [SetTable.fresh] at m), fun i h j m => (by simp at m)⟩, .nil, fun p m => (nomatch m), ?_, by show 5 * 0 < 3 * 7; decide, by decide⟩, .refl _⟩) fun after tk now old => ?_
    · show (!X.w.params.followText "set-order") = true ∨ _
      cases X.w.params.followText "set-order" <;> simp
    · obtain ⟨_, L, es, ep, t, R, perm⟩ := now
      rw [List.take_of_length_le (by simp), ← firsts_map kf Prod.snd (fun b => (af b, kf b)) (fun _ => rfl) bs] at perm
      refine q after tk (firsts kf bs) ?_ ?_ (fun b mem => hb b (firsts_sub _ mem)) old
      · have v := R.setV.perm (perm.map fun p => Value.ref p.1)
        rw [List.map_map] at v
        rwa [show (firsts kf bs).map (·.2.2) = (firsts kf bs).map ((fun p : Addr × NKey => Value.ref p.1) ∘ fun b => (af b, kf b)) from List.map_congr_left fun b mem => (isk b (firsts_sub _ mem)).2.1]
      · rw [same]
        exact firsts_map (fun b : Tri => keyW b.1) keyW (·.1) (fun _ => rfl) bs
  · obtain ⟨b, inb, rfl⟩ := List.mem_map.mp mem
    exact (isk b inb).2.2
end
end Dn
end
section
set_option Elab.async false
set_option backward.match.sparseCases false
set_option linter.all false
set_option maxRecDepth 100000
set_option maxHeartbeats 4000100
namespace Dn
open L2 PySem PySem.Spec PyProof.Rows
theorem perm_lift {α β : Type} (f : α → β) : ∀ {l k : List β}, l.Perm k → ∀ m : List α, k = m.map f → ∃ m' : List α, m'.Perm m ∧ l = m'.map f := by
  intro l k p
  induction p with
  | nil => intro m e; exact ⟨[], by cases m <;> simp_all, rfl⟩
  | @cons x l1 l2 p ih =>
    intro m e
    cases m with
    | nil => cases e
    | cons y m =>
      rw [List.map_cons] at e
      injection e with e1 e2
      obtain ⟨m', p', e'⟩ := ih m e2
      exact ⟨y :: m', p'.cons _, by rw [List.map_cons, e1, e']⟩
  | swap x y l =>
    intro m e
    cases m with
    | nil => cases e
    | cons a m =>
      cases m with
      | nil => cases e
      | cons b m =>
        simp only [List.map_cons] at e
        injection e with e1 e
        injection e with e2 e3
        exact ⟨b :: a :: m, List.Perm.swap .., by rw [List.map_cons, List.map_cons, e1, e2, e3]⟩
  | trans p1 p2 ih1 ih2 =>
    intro m e
    obtain ⟨m2, q2, e2⟩ := ih2 m e
    obtain ⟨m1, q1, e1⟩ := ih1 m2 e2
    exact ⟨m1, q1.trans q2, e1⟩
theorem pair_all {α : Type} {R : α → α → Prop} (sy : ∀ a b, R a b → R b a) : ∀ {l : List α}, l.Pairwise R → ∀ a ∈ l, ∀ b ∈ l, a ≠ b → R a b
  | [], _, a, ha, _, _, _ => by cases ha
  | x :: l, h, a, ha, b, hb, ne => by
    rw [List.pairwise_cons] at h
    obtain z | z := List.mem_cons.mp ha
    · obtain y | y := List.mem_cons.mp hb
      · exact absurd (z.trans y.symm) ne
      · rw [z]; exact h.1 b y
    · obtain y | y := List.mem_cons.mp hb
      · rw [y]; exact sy _ _ (h.1 a z)
      · exact pair_all sy h.2 a z b y ne
/-- no two have the same rank -/
def apartD : List PyData → Bool
  | [] => true
  | d :: ds => ds.all (fun e => PySem.W.dataLt d e || PySem.W.dataLt e d) && apartD ds
theorem apart_pair {β : Type} (enc : β → PyData) : ∀ {l : List β}, apartD (l.map enc) = true → l.Pairwise fun a b => (PySem.W.dataLt (enc a) (enc b) || PySem.W.dataLt (enc b) (enc a)) = true
  | [], _ => .nil
  | x :: l, h => by
    rw [List.map_cons] at h
    unfold apartD at h
    rw [Bool.and_eq_true] at h
    refine List.pairwise_cons.mpr ⟨fun b hb => ?_, apart_pair enc h.2⟩
    exact List.all_eq_true.mp h.1 (enc b) (List.mem_map.mpr ⟨b, hb, rfl⟩)
theorem sort_any {β : Type} (enc : β → PyData) {l m : List β} (p : m.Perm l) (h : apartD (l.map enc) = true) : m.mergeSort (PySem.W.dataLe false enc) = l.mergeSort (PySem.W.dataLe false enc) := by
  have tot : PySem.W.TotalLe (PySem.W.dataLe false enc) := PySem.W.sortLe_total ..
  refine List.Perm.eq_of_pairwise (le := fun a b => PySem.W.dataLe false enc a b = true) (fun a b ha hb h1 h2 => ?_) (PySem.W.sort_pairwise tot m) (PySem.W.sort_pairwise tot l) (((List.mergeSort_perm m _).trans p).trans (List.mergeSort_perm l _).symm)
  have ha' : a ∈ l := p.mem_iff.mp ((List.mergeSort_perm m _).mem_iff.mp ha)
  have hb' : b ∈ l := (List.mergeSort_perm l _).mem_iff.mp hb
  by_cases ne : a = b
  · exact ne
  · have z := pair_all (R := fun a b => (PySem.W.dataLt (enc a) (enc b) || PySem.W.dataLt (enc b) (enc a)) = true) (fun a b q => by rw [Bool.or_comm]; exact q) (apart_pair enc h) a ha' b hb' ne
    have e1 : (!PySem.W.dataLt (enc b) (enc a)) = true := by rw [PySem.W.dataLe_eq] at h1; exact h1
    have e2 : (!PySem.W.dataLt (enc a) (enc b)) = true := by rw [PySem.W.dataLe_eq] at h2; exact h2
    rw [Bool.not_eq_true'] at e1 e2
    rw [e1, e2] at z
    cases z

section
variable {X : Cx} {Wx : WX} {k : Nat} {pins : List (Addr × Obj)} {σ : L2.St} {H : Hp} {s : Shared} {ρ : List Addr} {G : Gh}
/-- a sequence, as it stands -/
theorem seqW_at (I : Inv X pins σ H s) (r : RG X.kw ρ H G) {w : W} {v : V} {u : Value} {ws : List W} (e : seqW w G = some ws) (a : Abs X.kw ρ H w v) (rv : RelV v u) :
    ∃ (b : Addr) (vs : List V) (its : List Value), u = .ref b ∧ (s.heap.IsList b its.toArray ∨ s.heap.IsTuple b its.toArray) ∧ AbsL X.kw ρ H ws vs ∧ Vals vs its := by
  unfold seqW at e
  split at e
  · cases e
    obtain ⟨b, vs, rfl, st, l⟩ := a
    obtain ⟨its, r1, pl, _⟩ := I.tuple st.sq
    cases rv
    exact ⟨b, vs, its, rfl, .inr pl, l, r1⟩
  · cases e
    obtain ⟨b, vs, rfl, st, l⟩ := a
    obtain ⟨its, r1, pl, _⟩ := I.list st.sq
    cases rv
    exact ⟨b, vs, its, rfl, .inl pl.isList, l, r1⟩
  · rename_i n
    split at e
    · rename_i xs g
      cases e
      obtain ⟨b, eb, rfl⟩ := a
      obtain ⟨vs, hv, l⟩ := r.lst eb g
      obtain ⟨its, r1, pl, _⟩ := I.list (SqL.of hv)
      cases rv
      exact ⟨b, vs, its, rfl, .inl pl.isList, l, r1⟩
    · cases e
  · cases e
theorem len_sized {P : Program} {w : World} {A : Around} {E : Value → Shared → Prop} {a : Addr} {n : Nat} (R : Sized s.heap a n) {Q : Value → Shared → Prop} (done : Q (.int n (s.toks + 1)) { s with toks := s.toks + 1 + 1 }) :
    wpAny (model P w) A (call (.builtin "len") [.ref a]) Q E s := by
  obtain ⟨o, es, ep, t, at_, kind, data, fits, few, rfl⟩ := R
  exact call_len_set at_ kind data fits (by unfold scanBound at few; omega) done
def lenSetW (w : W) : M W := fun G => match seqW w G with
  | some ws => if setFit ws = true then .ok (.int (dedW ws).length) G else .stuck
  | none => .stuck
def dLenSet (d : DE) : DE := fun σ => bnd (d σ) lenSetW
/-- len(set(xs)) -/
theorem le_lenSet (c : Ctx X Wx k) {a : Expr} {d : DE} {p p2 q pos : Pos} (hg : Gl X "len") (hm : X.mg "len" = none) (hg2 : Gl X "set") (hm2 : X.mg "set" = none) (ha : LE X Wx a d)
    (na : starEach [a] X.env = (false, eval a X.env) :: starEach [] X.env := by rfl) : LE X Wx (.Call (.Name "len" p) [.Call (.Name "set" p2) [a] [] q] [] pos) (dLenSet d) := by
  constructor; intro pins s σ H Q I h
  refine Call_ (ld_blt I hg hm PySem.boot_len (PyProof.Rows.callWith_builtin1 (PyProof.Rows.args_cons (Call_ (ld_blt I hg2 hm2 PyProof.Rows.boot_set ?_)) rfl) rfl rfl))
  refine PyProof.Rows.callWith_type1 (PyProof.Rows.args_cons (thn (ha.run pins s σ H _ I (Lf.bnd (R1 := Abs X.kw) h)) fun v s1 ⟨x, H1, I1, r1, ρ1, σ1, G1, w1, g1, _, a1, q1⟩ => PyProof.Rows.args_nil ?_) na) na rfl
  unfold lenSetW at q1
  split at q1
  · rename_i ws ew
    split at q1
    · rename_i fit
      obtain ⟨b, vs, its, rfl, hl, l, rv⟩ := seqW_at I1 g1 ew a1 r1
      unfold setFit at fit
      rw [Bool.or_eq_true] at fit
      rcases fit with fit | fit
      · exact mk_flat c I1 hl l rv fit fun after tk n old => PyProof.Rows.args_nil (len_sized n ⟨.int (dedW ws).length, H1, (I1.kept old).tok _, ⟨_, rfl⟩, q1 ρ1 H1 _ .refl g1 (by simp [Abs])⟩)
      · refine mk_tups c I1 hl l rv fit fun after tk cs R ec _ old => PyProof.Rows.args_nil (len_sized (n := (dedW ws).length) ?_ ⟨.int (dedW ws).length, H1, (I1.kept old).tok _, ⟨_, rfl⟩, q1 ρ1 H1 _ .refl g1 (by simp [Abs])⟩)
        have n := R.sized
        rw [List.length_map] at n
        rwa [← ec, List.length_map]
    · exact q1.elim
  · exact q1.elim
/-! ### sorted(set(xs)) -/
def sortSetW (w : W) : M W := fun G => match seqW w G with
  | some ws => match datEach G (dedW ws) with
    | some ps => if tupFit ws = true ∧ sortable (ps.map (·.2)) = true ∧ apartD (ps.map (·.2)) = true then .ok (.ref G.length) (G ++ [.lst (sortD ps)]) else .stuck
    | none => .stuck
  | none => .stuck
def dSortSet (d : DE) : DE := fun σ => bnd (d σ) sortSetW
theorem dat_tri : ∀ {cs : List Tri} {ps : List (W × PyData)}, datEach G (cs.map (·.1)) = some ps → ∃ ds : List (Tri × PyData), ds.map (·.1) = cs ∧ ds.map (fun x => (x.1.1, x.2)) = ps ∧ ∀ x ∈ ds, datW G x.1.1 = some x.2
  | [], _, e => by
    simp only [List.map_nil, datEach, Option.some.injEq] at e
    subst e
    exact ⟨[], rfl, rfl, fun x hx => by cases hx⟩
  | c :: cs, _, e => by
    rw [List.map_cons] at e
    unfold datEach at e
    split at e
    · rename_i d ps' e1 e2
      cases e
      obtain ⟨ds, h1, h2, h3⟩ := dat_tri e2
      refine ⟨(c, d) :: ds, by rw [List.map_cons, h1], by rw [List.map_cons, h2], fun x hx => ?_⟩
      obtain z | z := List.mem_cons.mp hx
      · rw [z]; exact e1
      · exact h3 x z
    · cases e
theorem each_list {α β : Type} {R : α → β → Prop} (f : β → α) : ∀ {bs : List β}, (∀ b ∈ bs, R (f b) b) → PySem.W.EachIs R (bs.map f) bs
  | [], _ => .nil
  | b :: bs, h => .cons (h b List.mem_cons_self) (each_list f fun x hx => h x (List.mem_cons_of_mem _ hx))
theorem each_map2 {α β γ : Type} {R : α → β → Prop} {R2 : α → γ → Prop} (f : β → γ) (h : ∀ a b, R a b → R2 a (f b)) : ∀ {as : List α} {bs : List β}, PySem.W.EachIs R as bs → PySem.W.EachIs R2 as (bs.map f)
  | _, _, .nil => .nil
  | _, _, .cons x t => .cons (h _ _ x) (each_map2 f h t)
theorem le_sortSet (c : Ctx X Wx k) {a : Expr} {d : DE} {p p2 q pos : Pos} (hg : Gl X "sorted") (hm : X.mg "sorted" = none) (hg2 : Gl X "set") (hm2 : X.mg "set" = none) (ha : LE X Wx a d)
    (na : starEach [a] X.env = (false, eval a X.env) :: starEach [] X.env := by rfl) : LE X Wx (.Call (.Name "sorted" p) [.Call (.Name "set" p2) [a] [] q] [] pos) (dSortSet d) := by
  constructor; intro pins s σ H Q I h
  refine Call_ (ld_blt I hg hm (by rfl) (PyProof.Rows.callWith_builtin1 (PyProof.Rows.args_cons (Call_ (ld_blt I hg2 hm2 PyProof.Rows.boot_set ?_)) rfl) rfl rfl))
  refine PyProof.Rows.callWith_type1 (PyProof.Rows.args_cons (thn (ha.run pins s σ H _ I (Lf.bnd (R1 := Abs X.kw) h)) fun v s1 ⟨x, H1, I1, r1, ρ1, σ1, G1, w1, g1, _, a1, q1⟩ => PyProof.Rows.args_nil ?_) na) na rfl
  unfold sortSetW at q1
  split at q1
  · rename_i ws ew
    split at q1
    · rename_i ps ep
      split at q1
      · rename_i fit
        obtain ⟨fit, srt, apt⟩ := fit
        obtain ⟨b, vs, its, rfl, hl, l, rv⟩ := seqW_at I1 g1 ew a1 r1
        refine mk_tups c I1 hl l rv fit fun h' tk cs ⟨o, es, epc, t, e1, e2, e3, e4, e5, e6, e7, e8⟩ ec hc kp => PyProof.Rows.args_nil ?_
        have I2 : Inv X pins σ H1 { s1 with toks := tk, heap := h' } := I1.kept kp
        rw [← ec] at ep
        obtain ⟨ds, d1, d2, d3⟩ := dat_tri ep
        generalize hs2 : ({ s1 with heap := h', toks := tk } : Shared) = s2 at I2 ⊢
        have e1 : s2.heap.get? s1.heap.objs.size = some o := by rw [← hs2]; exact e1
        apply Calls.call_function_entry PyProof.Rows.kind_sorted PyProof.Rows.plain_sorted PyProof.Rows.entry_sorted (PyProof.Rows.args_sorted1 _)
        unfold Builtin.«sorted»
        refine wpAny_bind (m := checkCount "sorted" 1 1 _) (wpAny_pure (wpAny_bind ?_))
        refine (collect_set (A := X.A.in1) c.rm.hd ⟨o, e1, e2.1, e3⟩ e4 e5 e6 e7 fun s3 us k3 z3 gg oo pm => ?_)
        have un := c.rm.un
        have lines : ∀ m : Nat, m ≤ 4096 → m ≤ sizeLine := fun m hm => by rw [sizeLine_eq]; omega
        have pm2 : us.Perm (ds.map fun x => x.1.2.2) := by
          have z := pm.trans e8
          rw [← d1, List.map_map] at z
          exact z
        obtain ⟨dp, pd, rfl⟩ := perm_lift (fun x : Tri × PyData => x.1.2.2) pm2 ds rfl
        have memd : ∀ x ∈ dp, x ∈ ds := fun x hx => pd.mem_iff.mp hx
        have ofd : ∀ x ∈ ds, Abs X.kw ρ1 H1 x.1.1 x.1.2.1 ∧ RelV x.1.2.1 x.1.2.2 := fun x hx => hc x.1 (by rw [← d1]; exact List.mem_map.mpr ⟨x, hx, rfl⟩)
        have few : dp.length ≤ 4096 := by
          have z := pm.length_eq
          rw [List.length_map, List.length_map] at z
          have z2 : es.toList.length = es.size := Array.length_toList
          unfold scanBound at e5
          omega
        have hz : (dp.map fun x => x.1.2.2).length ≤ sizeLine := by rw [List.length_map]; exact lines _ few
        apply wpAny_bind
        refine wpAny_newList ?_ hz
        have atL : (s3.heap.push (seqObj "list" (dp.map fun x => x.1.2.2).toArray 0)).get? s3.heap.objs.size = some (seqObj "list" (dp.map fun x => x.1.2.2).toArray 0) := Heap.get?_push_size _ rfl
        have kp4 : ∀ b o, s2.heap.get? b = some o → (s3.heap.push (seqObj "list" (dp.map fun x => x.1.2.2).toArray 0)).get? b = some o := fun b o e => Heap.get?_push_of_some _ (k3 b o e)
        have em : dp.map (fun x => x.2) = (dp.map fun x : Tri × PyData => (x.1.1, x.2)).map (·.2) := by rw [List.map_map] <;> rfl
        obtain ⟨al, so, dpt⟩ := sortable_ok srt
        have psd : ps.map (·.2) = ds.map (·.2) := by rw [← d2, List.map_map] <;> rfl
        rw [psd] at al so dpt apt
        have pmd : (dp.map (·.2)).Perm (ds.map (·.2)) := pd.map _
        refine wpAny_bind (wpAny_holding (PySem.W.list_sort_data (s := { s3 with heap := s3.heap.push (seqObj "list" (dp.map fun x => x.1.2.2).toArray 0) }) (enc := fun x : Tri × PyData => x.2) (bs := dp)
          (R := fun u x => RelV x.1.2.1 u ∧ Abs X.kw ρ1 H1 x.1.1 x.1.2.1) atL (each_list _ fun x hx => ⟨(ofd x (memd x hx)).2, (ofd x (memd x hx)).1⟩) (each_list _ fun x hx => ?_)
          (fun a ha b hb => al a (pmd.mem_iff.mp ha) b (pmd.mem_iff.mp hb)) ?_ (lines _ few) (fun x hx => ?_) fun out ho hr => ?_))
        · obtain ⟨as, rd, tr⟩ := reads_W I2 g1 (d3 x (memd x hx)) (ofd x (memd x hx)).1 (ofd x (memd x hx)).2
          refine ⟨as, PyProof.Rows.Reads.keeps (fun b o => kp4 b o) rd, fun m => ?_⟩
          obtain ⟨o', e'⟩ := tr _ m
          rw [I2.hok.fresh z3] at e'
          cases e'
        · rcases so with so | so
          · exact .inl fun d hd => so d (pmd.mem_iff.mp hd)
          · exact .inr fun d hd => so d (pmd.mem_iff.mp hd)
        · have := dpt x.2 (pmd.mem_iff.mp (List.mem_map.mpr ⟨x, hx, rfl⟩))
          show X.A.units + 1 + 1 + _ < _
          omega
        · rw [sort_any (fun x : Tri × PyData => x.2) pd apt] at hr
          obtain ⟨ep4, at4⟩ := sortedHeap_at (vs := dp.map fun x => x.1.2.2) (out := out.toArray) atL
          have hr2 : PySem.W.EachIs (fun u (b : (W × PyData) × V) => RelV b.2 u ∧ Abs X.kw ρ1 H1 b.1.1 b.2) out ((ds.mergeSort (PySem.W.dataLe false fun x => x.2)).map fun x => ((x.1.1, x.2), x.1.2.1)) := each_map2 (fun x : Tri × PyData => ((x.1.1, x.2), x.1.2.1)) (fun _ _ z => z) hr
          obtain ⟨o1, o2⟩ := each_out hr2
          have key : ((ds.mergeSort (PySem.W.dataLe false fun x : Tri × PyData => x.2)).map fun x => ((x.1.1, x.2), x.1.2.1)).map (·.1.1) = sortD ps := by
            unfold sortD
            rw [← d2, ← List.map_mergeSort (r := PySem.W.dataLe false fun x : Tri × PyData => x.2) (s := PySem.W.dataLe false (·.2)) (f := fun x : Tri × PyData => (x.1.1, x.2)) (fun a _ b _ => rfl), List.map_map, List.map_map] <;> rfl
          rw [key] at o2
          generalize (((ds.mergeSort (PySem.W.dataLe false fun x : Tri × PyData => x.2)).map fun x => ((x.1.1, x.2), x.1.2.1)).map (·.2)) = vo at o1 o2
          have hn : H1 s3.heap.objs.size = none := I2.hok.fresh z3
          have old : ∀ b u, s2.heap.get? b = some u → (sortedHeap (s3.heap.push (seqObj "list" (dp.map fun x => x.1.2.2).toArray 0)) s3.heap.objs.size (dp.map fun x => x.1.2.2) out.toArray).get? b = some u := fun b u e => by
            have lt := Heap.lt_size (k3 b u e)
            rw [sortedHeap_old (Nat.ne_of_lt lt) (by rw [size_push']; exact Nat.lt_succ_of_lt lt)]
            exact kp4 b u e
          have zo : vo.length ≤ sizeLine := by rw [o1.length, ho]; exact lines _ few
          refine wpAny_pure ⟨_, rfl, .ref s3.heap.objs.size, upd H1 s3.heap.objs.size (.lst vo), I2.call' (ch := []) oo (Un.laid old z3 hn) (I2.hok.laid old z3 ⟨zo, out, ep4, o1, at4⟩) (by rw [gg]; exact I2.bare) (fun _ z => nomatch z), rfl, ?_⟩
          exact new_lst g1 o2 q1 _ hn
      · exact q1.elim
    · exact q1.elim
  · exact q1.elim
end
end Dn
end
section
set_option Elab.async false
set_option backward.match.sparseCases false
set_option linter.all false
set_option maxRecDepth 100000
set_option maxHeartbeats 4000100
namespace Dn
open PySem L2 PpSet PySem.Spec PyProof.Rows
/-! ## a dict's comprehension that meets nothing: the library's rule, and a meaning that knows no element -/
def dDc0 (src : DI) : DE := fun σ G => match src σ G with
  | .ok s G1 => if s.lk = none then match s.get 0 (G1 ++ [.dct false []]) with
    | some none => .ok (.ref G1.length) (G1 ++ [.dct false []])
    | _ => .stuck
    else .stuck
  | .exc x G1 => .exc x G1
  | .stuck => .stuck
section
variable {X : Cx} {Wx : WX} {kk : Nat}
theorem nothing_met {src : DI} {g : TG} {tt : TT} {tk tv : TE} {vs : List Nat} {σ : L2.St} {H : Hp} {Q : VK} (h : Lf X.kw (Abs X.kw) Wx (dDc0 src) σ H Q) : tDc (LfI X.kw Wx src) g tt tk tv vs σ H Q := by
  obtain ⟨ρ, σd, G, rel, loc, fin⟩ := h
  refine ⟨ρ, σd, G, rel, loc, ?_⟩
  unfold dDc0 at fin
  cases es : src σd G with
  | stuck => rw [es] at fin; exact fin.elim
  | exc x G1 => rw [es] at fin; exact fin
  | ok sr G1 =>
    rw [es] at fin
    dsimp only at fin
    by_cases free : sr.lk = none
    case neg => rw [if_neg free] at fin; exact fin.elim
    rw [if_pos free] at fin
    intro ρ1 H1 J go1 rel1 sok D isNew
    have goD : Go ρ1 (ρ1 ++ [D]) H1 (upd H1 D (.dK [])) := Go.add rel1 isNew
    have relD : RG X.kw (ρ1 ++ [D]) (upd H1 D (.dK [])) (G1 ++ [.dct false []]) := rel1.add isNew ⟨_, .inl ⟨[], rfl, .nil⟩, upd_same⟩
    have place : (ρ1 ++ [D])[G1.length]? = some D := by rw [← rel1.len]; simp
    refine ⟨fun i _ H' => i = 0 ∧ H' = upd H1 D (.dK []), ⟨0, rfl, rfl⟩, fun i m H' ⟨ei, eH⟩ => ?_⟩
    subst ei
    subst eH
    have told := sok (ρ1 ++ [D]) (upd H1 D (.dK [])) (G1 ++ [.dct false []]) 0 goD relD
    cases eg : sr.get 0 (G1 ++ [.dct false []]) with
    | none => rw [eg] at fin; exact fin.elim
    | some o =>
      rw [eg] at fin told
      cases o with
      | some w => exact fin.elim
      | none => exact .inl ⟨told, fin _ _ _ (go1.trans goD) relD ⟨D, place, rfl⟩⟩
theorem le_dc0 {kx vx tg iter : Expr} {ifs : List Expr} {scope : Scope} {own : List (Str × Nat)} {src : DI} {g : Tgt} {t : DT} {dk dv : DE} {pos : Pos} (c : Ctx X Wx kk) (hi : LI X Wx tg iter src) (ok : blkC X.N X.env.scope scope own = true)
    (goal : ∀ s H C cl fp, PG (X.blk s H scope (compEnvC scope cl C X.env) fp) tg (hgT X.kw g)) (tests : ∀ s H C cl fp, Ctx (X.blk s H scope (compEnvC scope cl C X.env) fp) W0 kk → LTs (X.blk s H scope (compEnvC scope cl C X.env) fp) ifs t)
    (keys : ∀ s H C cl fp, Ctx (X.blk s H scope (compEnvC scope cl C X.env) fp) W0 kk → LE (X.blk s H scope (compEnvC scope cl C X.env) fp) W0 kx dk) (vals : ∀ s H C cl fp, Ctx (X.blk s H scope (compEnvC scope cl C X.env) fp) W0 kk → LE (X.blk s H scope (compEnvC scope cl C X.env) fp) W0 vx dv)
    (plain : ∀ x, foldedSetIterable iter X.env x = pure x := by intro _; rfl) : LE X Wx (.DictComp kx vx [⟨tg, iter, ifs, 0⟩] scope pos) (dDc0 src) :=
  PE.imp (pe_dc (tt := Lf X.kw RB W0 t) (tk := Lf X.kw (Abs X.kw) W0 dk) (tv := Lf X.kw (Abs X.kw) W0 dv) c.calm c.nd hi (blkOk_by ok) goal (fun s H C cl fp => tests s H C cl fp c.blk) (fun s H C cl fp => keys s H C cl fp c.blk) (fun s H C cl fp => vals s H C cl fp c.blk) plain) fun _ _ _ h => nothing_met h
/-! ## len of a set's comprehension that meets nothing -/
def dLen0 (src : DI) : DE := fun σ G => match src σ G with
  | .ok s G1 => if s.lk = none then match s.get 0 G1 with
    | some none => .ok (.int 0) G1
    | _ => .stuck
    else .stuck
  | .exc x G1 => .exc x G1
  | .stuck => .stuck
/-- what len is asked of -/
def Empty0 (X : Cx) (H : Hp) (v : V) : Prop := ∃ D, v = .ref D ∧ H D = some (PpSet.SetBO X.w D (fun _ => false) 0)
theorem no_one_met {src : DI} {g : TG} {tt : TT} {te : TE} {vs : List Nat} {σ : L2.St} {H : Hp} {Q : VK} (h : Lf X.kw (Abs X.kw) Wx (dLen0 src) σ H Q) : PpSet.tSc X.w (LfI X.kw Wx src) g tt te vs σ H fun v H' => Empty0 X H' v ∧ Q (.int 0) H' := by
  obtain ⟨ρ, σd, G, rel, loc, fin⟩ := h
  refine ⟨ρ, σd, G, rel, loc, ?_⟩
  unfold dLen0 at fin
  cases es : src σd G with
  | stuck => rw [es] at fin; exact fin.elim
  | exc x G1 => rw [es] at fin; exact fin
  | ok sr G1 =>
    rw [es] at fin
    dsimp only at fin
    by_cases free : sr.lk = none
    case neg => rw [if_neg free] at fin; exact fin.elim
    rw [if_pos free] at fin
    intro ρ1 H1 J go1 rel1 sok D isNew
    have goD : Go ρ1 ρ1 H1 (upd H1 D (PpSet.SetBO X.w D (fun _ => false) 0)) := Go.new isNew
    have relD : RG X.kw ρ1 (upd H1 D (PpSet.SetBO X.w D (fun _ => false) 0)) G1 := rel1.new isNew
    refine ⟨fun i _ H' => i = 0 ∧ H' = upd H1 D (PpSet.SetBO X.w D (fun _ => false) 0), ⟨0, rfl, rfl⟩, fun i m H' ⟨ei, eH⟩ => ?_⟩
    subst ei
    subst eH
    have told := sok ρ1 (upd H1 D (PpSet.SetBO X.w D (fun _ => false) 0)) G1 0 goD relD
    cases eg : sr.get 0 G1 with
    | none => rw [eg] at fin; exact fin.elim
    | some o =>
      rw [eg] at fin told
      cases o with
      | some w => exact fin.elim
      | none => exact .inl ⟨told, ⟨D, rfl, upd_same⟩, fin _ _ _ (go1.trans goD) relD (by simp [Abs])⟩
theorem le_len0 {elt tg iter : Expr} {ifs : List Expr} {scope : Scope} {own : List (Str × Nat)} {src : DI} {g : Tgt} {t : DT} {el : DE} {p pos pos' : Pos} (c : Ctx X Wx kk) (name : Gl X "len") (built : X.mg "len" = none) (hi : LI X Wx tg iter src) (ok : blkC X.N X.env.scope scope own = true)
    (goal : ∀ s H C cl fp, PG (X.blk s H scope (compEnvC scope cl C X.env) fp) tg (hgT X.kw g)) (tests : ∀ s H C cl fp, Ctx (X.blk s H scope (compEnvC scope cl C X.env) fp) W0 kk → LTs (X.blk s H scope (compEnvC scope cl C X.env) fp) ifs t)
    (elts : ∀ s H C cl fp, Ctx (X.blk s H scope (compEnvC scope cl C X.env) fp) W0 kk → LE (X.blk s H scope (compEnvC scope cl C X.env) fp) W0 elt el)
    (plain : ∀ x, foldedSetIterable iter X.env x = pure x := by intro _; rfl) (one : starEach [.SetComp elt [⟨tg, iter, ifs, 0⟩] scope pos'] X.env = (false, eval (.SetComp elt [⟨tg, iter, ifs, 0⟩] scope pos') X.env) :: starEach [] X.env := by rfl) :
    LE X Wx (.Call (.Name "len" p) [.SetComp elt [⟨tg, iter, ifs, 0⟩] scope pos'] [] pos) (dLen0 src) := by
  have made := PpSet.pe_sc (pos := pos') (tt := Lf X.kw RB W0 t) (te := Lf X.kw (Abs X.kw) W0 el) c.calm c.nd hi (blkOk_by ok) goal (fun s H C cl fp => tests s H C cl fp c.blk) (fun s H C cl fp => elts s H C cl fp c.blk) plain
  constructor
  intro inP sh lo hp Qe I h
  refine Call_ (ld_blt I name built PySem.boot_len (callWith_builtin1 (args_cons (thn (made.run inP sh lo hp _ I (no_one_met h)) ?_) one) one rfl))
  rintro v s1 ⟨x, H1, I1, rel, ⟨D, ex, inH⟩, q⟩
  subst ex
  cases rel
  obtain ⟨o, es, ep, tb, at1, exact1, data1, _, _, _, few, fits, size0, _⟩ := PpSet.setBO_get I1 inH
  refine args_nil (call_len_set at1 exact1 data1 fits (by unfold scanBound at few; omega) ⟨.int 0, H1, I1.tok _, ⟨s1.toks + 1, by rw [size0]; rfl⟩, q⟩)
end
end Dn
end
section
set_option Elab.async false
set_option backward.match.sparseCases false
set_option linter.all false
set_option maxRecDepth 100000
set_option maxHeartbeats 4000100
namespace Dn
open PySem L2 PySem.Spec PyProof.Rows
/-! ### dicts' methods -/
def getDW : DM := fun x ws G => match dctQ x G, ws with
  | some (_, lk, kvs), [k] => if keyFits lk kvs k = true then .ok ((dfind kvs k).getD .non) G else .stuck
  | some (_, lk, kvs), [k, d] => if keyFits lk kvs k = true then .ok ((dfind kvs k).getD d) G else .stuck
  | _, _ => .stuck
def setdefaultW : DM := fun x ws G => match dctQ x G, ws with
  | some (n, false, kvs), [k, d] => if keyFits false kvs k = true ∧ (tupKey k).isSome = true ∧ kvs.length < 16777216 then match dfind kvs k with
      | some w => .ok w G
      | none => .ok d (G.set n (.dct false (kvs ++ [(k, d)])))
    else .stuck
  | _, _ => .stuck
section
variable {X : Cx} {Wx : WX} {k : Nat}
theorem mt_getDW (c : Ctx X Wx k) : MtR X "dict.get" (lfM X.kw getDW) := by
  intro pins s σ H x xs v us Q I rx rv ⟨ρ, G, wx, ws, r, ax, al, q⟩
  unfold getDW at q
  split at q
  · rename_i n lk kvs kw e
    obtain ⟨rfl, g⟩ := dctQ_some e
    obtain ⟨a, ea, rfl⟩ := ax
    obtain ⟨y, _, rfl, ay, rfl⟩ := al
    cases rx
    cases rv with
    | cons r1 r2 =>
      cases r2
      split at q
      · rename_i ft
        exact dget_non c I r ea g ft ay r1 fun u' s' H' z I' r' g' az rz => ⟨z, H', I', rz, q ρ H' z g' r' az⟩
      · exact q.bad
  · rename_i n lk kvs kw d e
    obtain ⟨rfl, g⟩ := dctQ_some e
    obtain ⟨a, ea, rfl⟩ := ax
    obtain ⟨y, _, rfl, ay, y2, _, rfl, ay2, rfl⟩ := al
    cases rx
    cases rv with
    | cons r1 r2 =>
      cases r2 with
      | cons r2 r3 =>
        cases r3
        split at q
        · rename_i ft
          exact dget_or c I r ea g ft ay r1 ay2 r2 fun u' s' H' z I' r' g' az rz => ⟨z, H', I', rz, q ρ H' z g' r' az⟩
        · exact q.bad
  · exact q.bad
theorem mt_setdefaultW (c : Ctx X Wx k) : MtR X "dict.setdefault" (lfM X.kw setdefaultW) := by
  intro pins s σ H x xs v us Q I rx rv ⟨ρ, G, wx, ws, r, ax, al, q⟩
  unfold setdefaultW at q
  split at q
  · rename_i n kvs kw d e
    obtain ⟨rfl, g⟩ := dctQ_some e
    obtain ⟨a, ea, rfl⟩ := ax
    obtain ⟨y, _, rfl, ay, y2, _, rfl, ay2, rfl⟩ := al
    cases rx
    cases rv with
    | cons r1 r2 =>
      cases r2 with
      | cons r2 r3 =>
        cases r3
        split at q
        · rename_i ft
          obtain ⟨ft, ht, hz⟩ := ft
          refine dset_dflt c I r ea g ft ht hz ay r1 ay2 r2 (fun w0 e0 => ?_) fun e0 s' H' I' r' g' az => ?_
          · rw [e0] at q
            exact fun u' s' H' z I' r' g' az rz => ⟨z, H', I', rz, q ρ H' z g' r' az⟩
          · rw [e0] at q
            exact ⟨_, H', I', r2, q ρ H' _ g' r' az⟩
        · exact q.bad
  · exact q.bad
end
end Dn
end
section
set_option Elab.async false
set_option backward.match.sparseCases false
set_option linter.all false
set_option maxRecDepth 100000
set_option maxHeartbeats 4000100
namespace Dn
open PySem L2 PySem.Spec PyProof.Rows
/-! ### properties -/
structure PropAt (K : PySem.W.Frag) (C : Addr) (f : Str) (g : Addr) : Prop where
  ex : ∃ p, PySem.W.findIn K (.ref C) f = some (some (.ref p)) ∧ PySem.W.specialIn K (.ref p) "__get__" = some (some (.builtin "property.__get__")) ∧ PySem.W.takesIn K (.ref p) = some true ∧ ∃ rest, PySem.W.recIn K p "property" = some (.ref g :: rest)
def dProp (C : Addr) (F : DF) (o : DE) : DE := fun σ => bnd (o σ) fun x G => match insQ x G with
  | some (_, C', _) => if C' = C then noX (F [x]) G else .stuck
  | none => .stuck
section
variable {X : Cx} {Wx : WX} {k : Nat}
theorem le_prop {C g : Addr} {fd : FuncData} {ps : List Str} {F : DF} {f : Str} {e : Expr} {dO : DE} {pos : Pos} (c : Ctx X Wx (k + 1)) (cl : SlX.SCls X.K C ∧ SlX.SIsi X.K C) (pr : PropAt X.K C f g) (L : LF X.prog X.w X.K X.mg X.base k g fd ps F) (hb : Binds X.K fd ps []) (he : LE X Wx e dO)
    (hbb : attributeBase e f X.env (eval e X.env) = eval e X.env := by rfl) : LE X Wx (.Attribute e f pos) (dProp C F dO) := by
  constructor; intro pins s σ H Q I h
  refine attr_of hbb (thn (he.run pins s σ H _ I (Lf.bnd (R1 := Abs X.kw) h)) fun u s1 ⟨x, H1, I1, rx, ρ1, σd, G1, w, r1, s2, ax, q1⟩ => ?_)
  cases eq : insQ w G1 with
  | none => rw [eq] at q1; exact q1.elim
  | some t =>
    obtain ⟨n, C', ws⟩ := t
    rw [eq] at q1
    dsimp only at q1
    by_cases hC : C' = C
    · rw [if_pos hC] at q1
      subst hC
      obtain ⟨b, rfl, eb, gq, dx, vs, cl', hn, _, ne, sl, hl, hv⟩ := ins_at r1 ax eq
      cases rx
      obtain ⟨p, at_, get, tk, rest, hrec⟩ := pr.ex
      obtain ⟨sl', od, _, J, _⟩ := SlX.slt_inst I1 sl
      have I2 : Inv X pins σ H1 { s1 with toks := s1.toks + 1 } := I1.tok (s1.toks + 1)
      have want : LfF X.kw F [.ref b] H1 Q (fun _ _ _ => False) := by
        refine ⟨ρ1, G1, [w], r1, ⟨_, _, rfl, ax, rfl⟩, ?_⟩
        exact q1.noX
      have ln : ([Value.ref b] : List Value).length = ps.length := L.len _ _ _ _ want
      have gds : (X.A.under (.builtin "property.__get__" ⟨[.ref p, .ref b], []⟩)).guards = some [] := by
        first | exact c.gd | (simp [Around.under, Code.isGuard, guardIds, c.gd])
      refine PySem.W.get_bind I1.kIn J (PySem.W.plainGet_of (cl'.1.get f)).1 (PySem.W.findObj_data cl'.1.ic at_ get tk) (PySem.W.plainGet_of (cl'.1.get f)).2 (wpAny_call (PySem.W.prop_get (s := { s1 with toks := s1.toks + 1 }) I1.kIn hrec ?_))
      have bd : BindsTo { s1 with toks := s1.toks + 1 } fd ⟨[Value.ref b], []⟩ (ps.zip [Value.ref b]) := by
        have z := hb { s1 with toks := s1.toks + 1 } [.ref b] I1.kIn (by simpa using ln)
        simpa using z
      refine codeAny_mono (L.run X.A.in1 X.stack { s1 with toks := s1.toks + 1 } H1 ⟨[.ref b], []⟩ [.ref b] [.ref b] Q (fun _ _ _ => False) c.rm.in1 c.gd I2.env0.in1 bd (.cons rfl .nil) want) fun r s' hq => ?_
      cases r with
      | error e => obtain ⟨_, _, _, _, _, _, _, _, _, _, _, _, z⟩ := hq; exact False.elim z
      | ok fl =>
        cases fl with
        | ret u =>
          obtain ⟨v, H', I3, rv, q⟩ := I2.after hq
          exact wpAny_of_eq (PySem.W.handedOut_of (handed_of rv)) ⟨v, H', I3, rv, q⟩
        | next => exact False.elim hq
        | brk => exact False.elim hq
        | cont => exact False.elim hq
    · rw [if_neg hC] at q1
      exact q1.elim
end
end Dn
end
section
set_option Elab.async false
set_option backward.match.sparseCases false
set_option linter.all false
set_option maxRecDepth 100000
set_option maxHeartbeats 2000000
namespace Dn
open PySem L2
/-! ## dict displays -/
abbrev DP := Loc → M (List (W × W))
def RP (K : Kw) : RR (List (W × W)) (List (V × V)) := fun ρ H ws ps => Paired (fun (w : W × W) (v : V × V) => Abs K ρ H w.1 v.1 ∧ Abs K ρ H w.2 v.2) ws ps
def dPnil : DP := fun _ => ret []
def dPcons (dk dv : DE) (r : DP) : DP := fun σ => bnd (dk σ) fun k => bnd (dv σ) fun v => bnd (r σ) fun ps => ret ((k, v) :: ps)
structure LP (X : Cx) (Wx : WX) (pos : Pos) (keys : List (Option Expr)) (values : List Expr) (d : DP) : Prop where
  ex : ∃ trs, PPs X pos keys values trs ∧ ∀ σ H Q, Lf X.kw (RP X.kw) Wx d σ H Q → tPairs trs σ H Q
section
variable {X : Cx} {Wx : WX} {k : Nat} {pos : Pos}
theorem lp_nil : LP X Wx pos [] [] dPnil := ⟨[], pps_nil, fun σ H Q ⟨ρ, σd, G, r, s, q⟩ => q ρ H [] .refl r .nil⟩
theorem lp_cons {a b : Expr} {ks : List (Option Expr)} {vs : List Expr} {dk dv : DE} {d : DP} (ha : LE X Wx a dk) (hb : LE X Wx b dv) (hr : LP X Wx pos ks vs d) : LP X Wx pos (some a :: ks) (b :: vs) (dPcons dk dv d) := by
  obtain ⟨trs, p, i⟩ := hr.ex
  refine ⟨_, pps_cons ha hb p, fun σ H Q h => ?_⟩
  refine (Lf.bnd (R1 := Abs X.kw) h).mono fun x H1 ⟨ρ1, σd, G1, wx, r1, s1, ax, q1⟩ => ?_
  refine ⟨ρ1, σd, G1, r1, s1, (Aft.bnd (R1 := Abs X.kw) q1).mono fun y H2 ⟨ρ2, G2, wy, g2, r2, ay, q2⟩ => ?_⟩
  refine i σ H2 _ ⟨ρ2, σd, G2, r2, s1.go g2, (Aft.bnd (R1 := RP X.kw) q2).mono fun ps H3 ⟨ρ3, G3, ws, g3, r3, ap, q3⟩ => ?_⟩
  exact q3 ρ3 H3 _ .refl r3 (.cons ⟨(ax.go g2).go g3, ay.go g3⟩ ap)
end
def mergeW (kvs more : List (W × W)) : List (W × W) := more.foldl (fun acc kv => dput acc kv.1 kv.2) kvs
def dDisp (d : DP) : DE := fun σ G => match d σ (G ++ [.rsv]) with
  | .ok kvs G2 => match G2[G.length]? with
    | some .rsv => if kvs.length ≤ 15 ∧ (kvs.all fun p => (flatKey p.1).isSome) = true then .ok (.ref G.length) (G2.set G.length (.dct false (mergeW [] kvs))) else .stuck
    | _ => .stuck
  | .exc x G2 => .exc x G2
  | .stuck => .stuck
section
variable {K : Kw} {ρ : List Addr} {H : Hp}
theorem flat_pairs : ∀ {kvs : List (W × W)} {ps : List (V × V)}, RP K ρ H kvs ps → (kvs.all fun p => (flatKey p.1).isSome) = true → ∃ fk : List (Key × V), ps = fk.map (fun kv => (kV kv.1, kv.2)) ∧ FP K ρ H kvs fk
  | _, _, .nil, _ => ⟨[], rfl, .nil⟩
  | _, _, .cons (a := a) (b := b) r t, h => by
    rw [List.all_cons, Bool.and_eq_true_iff] at h
    obtain ⟨fk, e, p⟩ := flat_pairs (by exact t) h.2
    obtain ⟨kk, hk⟩ := Option.isSome_iff_exists.mp h.1
    have e1 := flatKey_kW hk
    have e2 : b.1 = kV kk := by
      have z := r.1
      rw [e1] at z
      cases kk with
      | inl i => simpa [kW, kV, Abs] using z
      | inr x => simpa [kW, kV, Abs] using z
    refine ⟨(kk, b.2) :: fk, ?_, .cons ⟨e1, r.2⟩ p⟩
    rw [List.map_cons, e, ← e2]
theorem merge_FP : ∀ {kvs : List (W × W)} {fk : List (Key × V)} {base : List (W × W)} {bk : List (Key × V)}, FP K ρ H kvs fk → FP K ρ H base bk → FP K ρ H (mergeW base kvs) (mergeK bk fk)
  | _, _, _, _, .nil, h => h
  | _, _, base, bk, .cons (a := a) (b := b) r t, h => by
    have z : FP K ρ H (dput base a.1 a.2) (putK bk b.1 b.2) := by
      rw [r.1]
      exact FP.put h r.2
    have y : FP K ρ H _ _ := t
    exact merge_FP (base := dput base a.1 a.2) (bk := putK bk b.1 b.2) y z
end
section
variable {X : Cx} {Wx : WX} {k : Nat} {pos : Pos}
theorem le_disp {keys : List (Option Expr)} {values : List Expr} {d : DP} (hp : LP X Wx pos keys values d) (hall : keys.all (·.isSome) = true := by rfl) (hl : keys.length = values.length := by rfl) (h0 : keys ≠ [] := by intro z; cases z) (h15 : keys.length ≤ 15 := by decide) :
    LE X Wx (.Dict keys values pos) (dDisp d) := by
  obtain ⟨trs, p, i⟩ := hp.ex
  refine PE.imp (pe_disp p hall hl h0 h15) fun σ H Q ⟨ρ, σd, G, r, s, q⟩ a hn => ?_
  have g1 : Go ρ (ρ ++ [a]) H (upd H a (.dK [])) := Go.add r hn
  have r1 : RG X.kw (ρ ++ [a]) (upd H a (.dK [])) (G ++ [.rsv]) := r.add hn upd_same
  have e1 : (ρ ++ [a])[G.length]? = some a := by rw [← r.len, List.getElem?_append_right (Nat.le_refl _), Nat.sub_self] <;> rfl
  refine i σ _ _ ⟨ρ ++ [a], σd, G ++ [.rsv], r1, s.go g1, ?_⟩
  unfold dDisp at q
  cases e : d σd (G ++ [.rsv]) with
  | stuck => rw [e] at q; exact q.elim
  | exc x G2 => rw [e] at q; exact fun ρ2 H2 c dd g2 r2 ax => q ρ2 H2 c dd (g1.trans g2) r2 ax
  | ok kvs G2 =>
    rw [e] at q
    intro ρ2 H2 ps g2 r2 ap
    dsimp only at q
    split at q
    · rename_i eg
      split at q
      · rename_i fit
        have e2 := g2.ix e1
        have ha : H2 a = some (.dK []) := r2.ob _ _ _ eg e2
        obtain ⟨fk, ef, fp⟩ := flat_pairs ap fit.2
        have lenf : fk.length = kvs.length := by
          have : ∀ {x : List (W × W)} {y : List (Key × V)}, FP X.kw ρ2 H2 x y → y.length = x.length := by
            intro x y h
            induction h with
            | nil => rfl
            | cons _ _ ih => simp only [List.length_cons, ih]
          exact this fp
        refine ⟨ha, fk, ef, by rw [lenf]; exact fit.1, ?_⟩
        have g3 : Go ρ2 ρ2 H2 (upd H2 a (.dK (mergeK [] fk))) := Go.put r2 e2 (nofz ha)
        refine q ρ2 _ _ ((g1.trans g2).trans g3) (r2.put e2 ⟨_, .inl ⟨_, rfl, ?_⟩, upd_same⟩) ⟨a, e2, rfl⟩
        exact Paired.mapP (merge_FP fp .nil) fun x y z => ⟨z.1, z.2.go g3⟩
      · exact q.elim
    · exact q.elim
/-- {} -/
def dDnew : DE := fun _ G => .ok (.ref G.length) (G ++ [.dct false []])
theorem le_dnew : LE X Wx (.Dict [] [] pos) dDnew := PE.imp pe_dnewK fun σ H Q ⟨ρ, σd, G, r, s, q⟩ a hn =>
  q (ρ ++ [a]) _ _ (Go.add r hn) (r.add hn ⟨_, .inl ⟨[], rfl, .nil⟩, upd_same⟩) ⟨a, by rw [← r.len, List.getElem?_append_right (Nat.le_refl _), Nat.sub_self] <;> rfl, rfl⟩
end
end Dn
end
section
set_option Elab.async false
set_option backward.match.sparseCases false
set_option linter.all false
set_option maxRecDepth 100000
set_option maxHeartbeats 2000000
namespace Dn
open PySem L2
/-! ## dict(pairs) -/
def pairW : W → Option (W × W)
  | .tup [k, v] => some (k, v)
  | _ => none
def pairsW : List W → Option (List (W × W))
  | [] => some []
  | w :: ws => match pairW w, pairsW ws with
    | some p, some ps => some (p :: ps)
    | _, _ => none
def dictPW : DF := fun ws G => match ws with
  | [.ref n] => match G[n]? with
    | some (.lst xs) => match pairsW xs with
      | some kvs => if (kvs.all fun p => (flatKey p.1).isSome) = true then .ok (.ref G.length) (G ++ [.dct false (mergeW [] kvs)]) else .stuck
      | none => .stuck
    | _ => .stuck
  | [] => .ok (.ref G.length) (G ++ [.dct false []])
  | _ => .stuck
section
variable {X : Cx} {k : Nat} {ρ : List Addr} {H : Hp}
theorem pairs_at {K : Kw} {F : PySem.W.Frag} : ∀ {xs : List W} {vs : List V} {kvs : List (W × W)}, AbsL K ρ H xs vs → pairsW xs = some kvs → (kvs.all fun p => (flatKey p.1).isSome) = true →
    ∃ (ps : List Addr) (fk : List (Key × V)), vs = ps.map V.ref ∧ Paired (fun p (kv : Key × V) => SqT F H p [kV kv.1, kv.2]) ps fk ∧ FP K ρ H kvs fk
  | [], _, _, a, e, _ => by
    simp only [AbsL] at a
    simp only [pairsW, Option.some.injEq] at e
    subst a e
    exact ⟨[], [], rfl, .nil, .nil⟩
  | w :: ws, _, _, a, e, fl => by
    obtain ⟨v, r, rfl, a1, a2⟩ := a
    unfold pairsW at e
    split at e
    · rename_i p ps' e1 e2
      cases e
      rw [List.all_cons, Bool.and_eq_true] at fl
      obtain ⟨ps, fk, rfl, h1, h2⟩ := pairs_at a2 e2 fl.2
      unfold pairW at e1
      split at e1
      · rename_i x y
        cases e1
        obtain ⟨b, vv, rfl, st, l⟩ := a1
        obtain ⟨vx, _, rfl, ax, vy, _, rfl, ay, rfl⟩ := l
        obtain ⟨kk, hk⟩ := Option.isSome_iff_exists.mp fl.1
        have e1 : x = kW kk := flatKey_kW hk
        have e2 : vx = kV kk := by
          rw [e1] at ax
          cases kk with
          | inl i => simpa [kW, kV, Abs] using ax
          | inr z => simpa [kW, kV, Abs] using ax
        refine ⟨b :: ps, (kk, vy) :: fk, rfl, .cons ?_ h1, .cons ⟨e1, ay⟩ h2⟩
        rw [← e2]
        exact st.sq
      · cases e1
    · cases e
theorem call_dictPW (hc : X.calm = true) : CallR X (.type "dict") (lfC X.kw dictPW) := by
  intro pins s σ H xs us Q I rx ⟨ρ, G, ws, r, al, q⟩
  unfold dictPW at q
  split at q
  · rename_i n
    split at q
    · rename_i xs g
      split at q
      · rename_i kvs ek
        split at q
        · rename_i fl
          obtain ⟨v, _, rfl, ⟨a, ea, rfl⟩, rfl⟩ := al
          obtain ⟨vs, hv, l⟩ := r.lst ea g
          obtain ⟨ps, fk, rfl, hp, fp⟩ := pairs_at (F := X.K) l ek fl
          exact call_dictP hc pins s σ H _ us Q I rx ⟨a, ps, fk, rfl, SqL.of hv, hp, fun p hn => q (ρ ++ [p]) _ _ (Go.add r hn) (r.add hn ⟨_, .inl ⟨_, rfl, Paired.mapP (merge_FP fp .nil) fun x y z => ⟨z.1, z.2.go (Go.add r hn)⟩⟩, upd_same⟩) ⟨p, by rw [← r.len, List.getElem?_append_right (Nat.le_refl _), Nat.sub_self] <;> rfl, rfl⟩⟩
        · exact q.elim
      · exact q.elim
    · exact q.elim
  · simp only [AbsL] at al
    subst al
    cases rx
    have hn : H _ = none := I.hok.fresh (Nat.le_refl s.heap.objs.size)
    refine FK.call_dict0 ⟨.ref s.heap.objs.size, upd H s.heap.objs.size (.dK []), ?_, rfl, q (ρ ++ [s.heap.objs.size]) _ _ (Go.add r hn) (r.add hn ⟨_, .inl ⟨[], rfl, .nil⟩, upd_same⟩) ⟨_, by rw [← r.len, List.getElem?_append_right (Nat.le_refl _), Nat.sub_self] <;> rfl, rfl⟩⟩
    exact I.laid (a := s.heap.objs.size) (o := .dK []) (h' := s.heap.push { cls := .type "dict", data := .dict #[] }) (t' := s.toks) (fun _ _ z => Heap.get?_push_of_some _ z) (Nat.le_refl _) (dk_empty s.heap I.big)
  · exact q.elim
end
end Dn
end
section
set_option Elab.async false
set_option backward.match.sparseCases false
set_option linter.all false
set_option maxRecDepth 100000
set_option maxHeartbeats 2000000
namespace Dn
open PySem L2
section
variable {X : Cx} {Wx : WX} {k : Nat} {pos : Pos}
/-- a name of the module, bound to what stays -/
theorem le_const {x : Str} {w : W} {v : V} (hg : Gl X x) (hm : ∃ u, X.mg x = some u ∧ RelV v u) (hw : ∀ ρ H, Abs X.kw ρ H w v := by intro _ _; simp [Abs]) (hd : (x == ("__debug__" : Str)) = false := by decide) : LE X Wx (.Name x pos) (dC w) := by
  obtain ⟨u, e, r⟩ := hm
  exact le_c (pe_glob hg e r hd) hw
/-- a built-in class as a value -/
theorem le_tyc {x : Str} {T : String} (hg : Gl X x) (hm : X.mg x = none) (hv : bootBuiltins x = some (.type T)) (hn : x ≠ "__name__" := by decide) (hdb : (x == ("__debug__" : Str)) = false := by decide) : LE X Wx (.Name x pos) (dC (.ty T)) :=
  ⟨fun pins s σ H Q I ⟨ρ, σd, G, r, s0, q⟩ => ld_blt I hg hm hv ⟨.ty T, H, I, rfl, q ρ H _ .refl r (by simp [Abs])⟩ hn hdb⟩
/-- -e -/
def dNeg (d : DE) : DE := fun σ => bnd (d σ) fun w G => match w with
  | .int i => .ok (.int (-i)) G
  | _ => .stuck
theorem le_neg {e : Expr} {d : DE} (h : LE X Wx e d) : LE X Wx (.UnaryOp .USub e pos) (dNeg d) := PE.imp (pe_un un_neg h) fun σ H Q q =>
  (Lf.bnd (R1 := Abs X.kw) q).mono fun x H1 ⟨ρ1, σd, G1, wx, r1, s1, ax, q1⟩ => by
    cases wx with
    | int i =>
      simp only [Abs] at ax
      exact ⟨i, ax, q1 ρ1 H1 _ .refl r1 (by simp [Abs])⟩
    | _ => exact q1.elim
end
end Dn
end
section
set_option Elab.async false
set_option backward.match.sparseCases false
set_option linter.all false
set_option maxRecDepth 100000
namespace Dn
open PySem L2
/-! ## isinstance of built-in classes, told (printed by a program of our own) -/
section
variable {K : PySem.W.Frag}
@[simp] theorem kit_NoneType_int : PySem.W.kitOne K (.type "NoneType") (.type "int") = some false := by first | rfl | decide +kernel
@[simp] theorem kit_NoneType_bool : PySem.W.kitOne K (.type "NoneType") (.type "bool") = some false := by first | rfl | decide +kernel
@[simp] theorem kit_NoneType_str : PySem.W.kitOne K (.type "NoneType") (.type "str") = some false := by first | rfl | decide +kernel
@[simp] theorem kit_NoneType_tuple : PySem.W.kitOne K (.type "NoneType") (.type "tuple") = some false := by first | rfl | decide +kernel
@[simp] theorem kit_NoneType_list : PySem.W.kitOne K (.type "NoneType") (.type "list") = some false := by first | rfl | decide +kernel
@[simp] theorem kit_NoneType_dict : PySem.W.kitOne K (.type "NoneType") (.type "dict") = some false := by first | rfl | decide +kernel
@[simp] theorem kit_bool_int : PySem.W.kitOne K (.type "bool") (.type "int") = some true := by first | rfl | decide +kernel
@[simp] theorem kit_bool_bool : PySem.W.kitOne K (.type "bool") (.type "bool") = some true := by first | rfl | decide +kernel
@[simp] theorem kit_bool_str : PySem.W.kitOne K (.type "bool") (.type "str") = some false := by first | rfl | decide +kernel
@[simp] theorem kit_bool_tuple : PySem.W.kitOne K (.type "bool") (.type "tuple") = some false := by first | rfl | decide +kernel
@[simp] theorem kit_bool_list : PySem.W.kitOne K (.type "bool") (.type "list") = some false := by first | rfl | decide +kernel
@[simp] theorem kit_bool_dict : PySem.W.kitOne K (.type "bool") (.type "dict") = some false := by first | rfl | decide +kernel
@[simp] theorem kit_int_int : PySem.W.kitOne K (.type "int") (.type "int") = some true := by first | rfl | decide +kernel
@[simp] theorem kit_int_bool : PySem.W.kitOne K (.type "int") (.type "bool") = some false := by first | rfl | decide +kernel
@[simp] theorem kit_int_str : PySem.W.kitOne K (.type "int") (.type "str") = some false := by first | rfl | decide +kernel
@[simp] theorem kit_int_tuple : PySem.W.kitOne K (.type "int") (.type "tuple") = some false := by first | rfl | decide +kernel
@[simp] theorem kit_int_list : PySem.W.kitOne K (.type "int") (.type "list") = some false := by first | rfl | decide +kernel
@[simp] theorem kit_int_dict : PySem.W.kitOne K (.type "int") (.type "dict") = some false := by first | rfl | decide +kernel
@[simp] theorem kit_str_int : PySem.W.kitOne K (.type "str") (.type "int") = some false := by first | rfl | decide +kernel
@[simp] theorem kit_str_bool : PySem.W.kitOne K (.type "str") (.type "bool") = some false := by first | rfl | decide +kernel
@[simp] theorem kit_str_str : PySem.W.kitOne K (.type "str") (.type "str") = some true := by first | rfl | decide +kernel
@[simp] theorem kit_str_tuple : PySem.W.kitOne K (.type "str") (.type "tuple") = some false := by first | rfl | decide +kernel
@[simp] theorem kit_str_list : PySem.W.kitOne K (.type "str") (.type "list") = some false := by first | rfl | decide +kernel
@[simp] theorem kit_str_dict : PySem.W.kitOne K (.type "str") (.type "dict") = some false := by first | rfl | decide +kernel
@[simp] theorem kit_tuple_int : PySem.W.kitOne K (.type "tuple") (.type "int") = some false := by first | rfl | decide +kernel
@[simp] theorem kit_tuple_bool : PySem.W.kitOne K (.type "tuple") (.type "bool") = some false := by first | rfl | decide +kernel
@[simp] theorem kit_tuple_str : PySem.W.kitOne K (.type "tuple") (.type "str") = some false := by first | rfl | decide +kernel
@[simp] theorem kit_tuple_tuple : PySem.W.kitOne K (.type "tuple") (.type "tuple") = some true := by first | rfl | decide +kernel
@[simp] theorem kit_tuple_list : PySem.W.kitOne K (.type "tuple") (.type "list") = some false := by first | rfl | decide +kernel
@[simp] theorem kit_tuple_dict : PySem.W.kitOne K (.type "tuple") (.type "dict") = some false := by first | rfl | decide +kernel
@[simp] theorem kit_list_int : PySem.W.kitOne K (.type "list") (.type "int") = some false := by first | rfl | decide +kernel
@[simp] theorem kit_list_bool : PySem.W.kitOne K (.type "list") (.type "bool") = some false := by first | rfl | decide +kernel
@[simp] theorem kit_list_str : PySem.W.kitOne K (.type "list") (.type "str") = some false := by first | rfl | decide +kernel
@[simp] theorem kit_list_tuple : PySem.W.kitOne K (.type "list") (.type "tuple") = some false := by first | rfl | decide +kernel
@[simp] theorem kit_list_list : PySem.W.kitOne K (.type "list") (.type "list") = some true := by first | rfl | decide +kernel
@[simp] theorem kit_list_dict : PySem.W.kitOne K (.type "list") (.type "dict") = some false := by first | rfl | decide +kernel
@[simp] theorem kit_dict_int : PySem.W.kitOne K (.type "dict") (.type "int") = some false := by first | rfl | decide +kernel
@[simp] theorem kit_dict_bool : PySem.W.kitOne K (.type "dict") (.type "bool") = some false := by first | rfl | decide +kernel
@[simp] theorem kit_dict_str : PySem.W.kitOne K (.type "dict") (.type "str") = some false := by first | rfl | decide +kernel
@[simp] theorem kit_dict_tuple : PySem.W.kitOne K (.type "dict") (.type "tuple") = some false := by first | rfl | decide +kernel
@[simp] theorem kit_dict_list : PySem.W.kitOne K (.type "dict") (.type "list") = some false := by first | rfl | decide +kernel
@[simp] theorem kit_dict_dict : PySem.W.kitOne K (.type "dict") (.type "dict") = some true := by first | rfl | decide +kernel
end
end Dn
end
section
set_option Elab.async false
set_option backward.match.sparseCases false
set_option linter.all false
set_option maxRecDepth 100000
set_option maxHeartbeats 2000000
namespace Dn
open PySem L2 PySem.Spec PyProof.Rows
/-! ### the end of a law -/
/-- how the script may be told: one list, locked or a part of the frame; nothing else is told -/
structure Told (P : Program) (w : World) (K : PySem.W.Frag) (h : Heap) (a : Addr) (us : List V) (H : Hp) : Prop where
  alone : ∀ b u, H b = some u → b = a ∧ K.lookup a = none ∧ ∃ o xs, u = .frz o (.lst xs) ∧ h.get? a = some o
  script : StL (K, w) [] H a us
  right : HOk P w H h
/-- the list itself -/
def scriptObj (vs : List Value) : Obj := { cls := .type "list", data := .seq vs.toArray }
theorem told_of {P : Program} {w : World} {K : PySem.W.Frag} {h : Heap} {a : Addr} {vs : List Value} {ns : List Int} (inK : K.In h) (at1 : h.get? a = some (scriptObj vs)) (are : IntsAre vs ns) (few : ns.length ≤ sizeLine) : ∃ H, Told P w K h a (ns.map V.int) H := by
  have same := vals_ints are
  have short : (ns.map V.int).length ≤ sizeLine := by simpa using few
  rcases known : K.lookup a with _ | o
  · let H : Hp := fun b => if b = a then some (.frz (scriptObj vs) (.lst (ns.map V.int))) else none
    have here : H a = some (.frz (scriptObj vs) (.lst (ns.map V.int))) := if_pos rfl
    have there : ∀ b u, H b = some u → b = a ∧ u = .frz (scriptObj vs) (.lst (ns.map V.int)) := fun b u e => by
      by_cases q : b = a
      · subst q; rw [here] at e; exact ⟨rfl, (Option.some.inj e).symm⟩
      · exact nomatch (show H b = none from if_neg q).symm.trans e
    refine ⟨H, ⟨fun b u e => ?_, .inl ⟨by simp, .inr ⟨_, here⟩⟩, fun b u e => ?_⟩⟩
    · obtain ⟨e1, e2⟩ := there b u e
      exact ⟨e1, known, _, _, e2, at1⟩
    · obtain ⟨e1, e2⟩ := there b u e
      subst e1; subst e2
      exact ⟨at1, short, vs, 0, same, at1⟩
  · have e := (inK a o known).symm.trans at1
    cases e
    refine ⟨fun _ => none, ⟨fun b u e => (nomatch e), .inr ⟨_, vs.toArray, _, known, rfl, rfl, rfl, ?_, ?_⟩, fun b u e => (nomatch e)⟩⟩
    · rw [List.size_toArray, are.length]; exact few
    · simpa using same
section
variable {P : Program} {w : World} {K : PySem.W.Frag} {mg : Str → Option Value} {h : Heap} {a : Addr} {us : List V} {H : Hp}
/-- what is not the script stands beneath -/
theorem Told.under (T : Told P w K h a us H) {b : Addr} {o : Obj} (at1 : h.get? b = some o) (free : b = a → K.lookup a ≠ none ∨ ∃ es ep, o.data = .dict es ep) (list : ∃ vs, h.get? a = some (scriptObj vs)) : (hidT h H).get? b = some o := by
  refine hidT_get at1 ?_
  rcases told : H b with _ | u
  · rfl
  · obtain ⟨eb, unknown, _⟩ := T.alone b u told
    rcases free eb with known | ⟨es, ep, isDict⟩
    · exact absurd unknown known
    · obtain ⟨vs, l⟩ := list
      rw [eb, l] at at1
      cases at1
      cases isDict
theorem Told.names (T : Told P w K h a us H) (list : ∃ vs, h.get? a = some (scriptObj vs)) {b : Addr} {m : Str → Option Value} (n : h.Ns b m) : (hidT h H).Ns b m := by
  obtain ⟨o, es, ep, at1, isDict, rest⟩ := n
  exact ⟨o, es, ep, T.under at1 (fun _ => .inr ⟨es, ep, isDict⟩) list, isDict, rest⟩
theorem Told.frame (T : Told P w K h a us H) (list : ∃ vs, h.get? a = some (scriptObj vs)) (inK : K.In h) : K.In (hidT h H) := fun b o known =>
  T.under (inK b o known) (fun e => .inl (by rw [← e, known]; simp)) list
end
/-- a law's call says True where its denotation does -/
theorem law_callW {P : Program} {w : World} {K : PySem.W.Frag} {mg mb : Str → Option Value} {k : Nat} {fa a : Addr} {fd : FuncData} {x : Str} {F : DF} {before : Shared} {vs : List Value} {ns : List Int}
    (inK : K.In before.heap) (globals : before.heap.Ns mainGlobals mg) (built : before.heap.Ns builtinsNs mb) (boot : ∀ x : Str, x ≠ "__name__" → mb x = bootBuiltins x) (free : before.heap.NoLimit) (modules : ∃ m, before.heap.Ns sysModules m) (noGens : before.gens = #[])
    (at1 : before.heap.get? a = some (scriptObj vs)) (are : IntsAre vs ns) (few : ns.length ≤ sizeLine) (room : Room k callerA)
    (def1 : ∀ base : Heap, K.In base → base.Ns mainGlobals mg → (∃ o, base.get? sysModules = some o) → LF P w K mg base k fa fd [x] F) (bind1 : ∀ (s : Shared) (u : Value), BindsTo s fd ⟨[u], []⟩ [(x, u)])
    (says : ∃ G, F [.rol (ns.map .int)] [] = .ok (.bl true) G) :
    codeAny (model P w) callerA (.call (.ref fa) ⟨[.ref a], []⟩) (fun r after => r = .ok (.ret (.bool true)) ∧ OldK before.heap after.heap ∧ after.os = before.os ∧ AllBare after.gens) before := by
  obtain ⟨H, T⟩ := told_of (P := P) (w := w) inK at1 are few
  have list : ∃ vs, before.heap.get? a = some (scriptObj vs) := ⟨vs, at1⟩
  have inB := T.frame list inK
  have lim : (hidT before.heap H).NoLimit := by
    obtain ⟨m, n, q⟩ := free
    exact ⟨m, T.names list n, q⟩
  have env : Env0 P w K mg (hidT before.heap H) callerA [] before H := by
    refine ⟨rfl, ⟨inB, T.names list globals, ⟨mb, T.names list built, boot⟩, lim⟩, fun b o e => of_hidT e, Nat.le_of_eq (hidT_size before.heap H), trivial, ?_, T.right, .of_eq noGens⟩
    exact fun b hb => absurd (show b ∈ ([] : List Addr) from hb) List.not_mem_nil
  have mods : ∃ o, (hidT before.heap H).get? sysModules = some o := by
    obtain ⟨m, n⟩ := modules
    obtain ⟨o, _, _, q, _⟩ := T.names list n
    exact ⟨o, q⟩
  have want : LfF (K, w) F [.ref a] H (fun v _ => v = .bl true) (fun _ _ _ => False) := by
    obtain ⟨G, eG⟩ := says
    have each : ∀ js : List Int, AbsL (K, w) [] H (js.map W.int) (js.map V.int) := fun js => by
      induction js with
      | nil => exact rfl
      | cons j js more => exact ⟨_, _, rfl, by simp [Abs], more⟩
    refine ⟨[], [], [.rol (ns.map .int)], ⟨rfl, List.nodup_nil, fun n o b e => by simp at e⟩, ⟨_, [], rfl, ⟨a, _, rfl, T.script, each ns⟩, rfl⟩, ?_⟩
    rw [eG]
    exact fun _ _ b _ _ told => by simpa [Abs] using told
  have ran := (def1 _ inB (T.names list globals) mods).run callerA [] before H ⟨[.ref a], []⟩ [.ref a] [.ref a] _ _ room rfl env (bind1 before (.ref a)) (.cons rfl .nil) want
  refine codeAny_mono ran fun r after told => ?_
  match r, told with
  | .error _, ⟨_, _, _, _, _, _, _, _, _, _, _, _, never⟩ => exact False.elim never
  | .ok .next, never => exact False.elim never
  | .ok .brk, never => exact False.elim never
  | .ok .cont, never => exact False.elim never
  | .ok (.ret u), ⟨v, H', os, bare, kept, right', rel, ev⟩ =>
    subst ev
    cases (show u = .bool true from rel)
    refine ⟨rfl, .of_keep fun b o old => ?_, os, bare⟩
    rcases told : H b with _ | u
    · exact kept.keep b o old told (fun z => absurd (show b ∈ ([] : List Addr) from z) List.not_mem_nil) List.not_mem_nil
    · obtain ⟨eb, _, q, xs, eu, _⟩ := T.alone b u told
      subst eu
      have now := (right' b _ (kept.frzs b q _ told)).1
      have was := (T.right b _ told).1
      exact now.trans (was.symm.trans old)
/-- what a law's def is to be shown, wherever it stands: it has a denotation, and that says True of every script -/
def SaysTrue (prog : Program) (K : Params → PySem.W.Frag) (name x : Str) (k n : Nat) : Prop :=
  ∀ world globals place heap, (K world.params).In heap → Heap.Ns heap mainGlobals globals → globals name = some (.ref place) →
    ∃ (fd : FuncData) (F : DF), (∀ (s : Shared) (u : Value), BindsTo s fd ⟨[u], []⟩ [(x, u)]) ∧
      (∀ base : Heap, (K world.params).In base → base.Ns mainGlobals globals → (∃ o, base.get? sysModules = some o) → LF prog world (K world.params) globals base k place fd [x] F) ∧
      ∀ script : List Int, script.length ≤ n → ∃ G, F [.rol (script.map .int)] [] = .ok (.bl true) G
/-- the goal that the head leaves, from the law's denotation -/
theorem walk_W {l : PySem.W.OpenLaw} {n k : Nat} {q : Program} {loose : List Str} {XP : (Str → Option Value) → Heap → Prop} {YP : World → Heap → Prop} {d : DefRec} {K : Params → PySem.W.Frag} {x : Str}
    (hn : l.most = some n) (hn2 : n ≤ sizeLine) (hdf : d.params.defaults = []) (hr : Room k callerA) (him : importsNone q = true)
    (stands : ∀ world heap, YP world heap → (K world.params).In heap) (good : SaysTrue l.prog K d.name x k n) : PySem.W.WalkO q loose XP YP l.row.toRowW d [] fun f args => PySem.call f args := by
  apply Att.attach_call hn hdf
  intro world first before globals mb place o pm cd doc at_ vs script start asks _ _ _ called listed are few noGens
  have inK := stands world _ asks
  obtain ⟨fd, F, bind1, def1, says⟩ := good world globals place _ inK start.T.g called
  have modules : ∃ m, before.heap.Ns sysModules m := by obtain ⟨_, ⟨m, ofModules, _⟩, _⟩ := start.T.seer him; exact ⟨m, ofModules⟩
  exact law_callW inK start.T.g start.T.b start.T.builtins start.T.nolimit modules noGens listed are (Nat.le_trans few hn2) hr def1 bind1 (says script few)
end Dn
end
section
set_option Elab.async false
set_option backward.match.sparseCases false
set_option linter.all false
set_option maxRecDepth 100000
set_option maxHeartbeats 4000100
namespace Dn
open PySem L2
/-! ### isinstance of a class of the text's own -/
section
variable {K : PySem.W.Frag} {C : Addr} {T : String}
theorem kit_own_ty (h : PySem.W.subIn K (.ref C) (.type T) = some false) (m : PySem.W.kitMeta T = true) : PySem.W.kitOne K (.ref C) (.type T) = some false := by
  unfold PySem.W.kitOne
  rw [if_neg (show ¬ (Value.ref C == Value.type T) = true from by intro z; cases (eq_of_beq z))]
  show (if PySem.W.kitMeta T = true then PySem.W.subIn K (.ref C) (.type T) else none) = some false
  rw [if_pos m]
  exact h
theorem kit_ty_own (h : PySem.W.subIn K (.type T) (.ref C) = some false) (m1 : PySem.W.isClsIn K C = true) (m2 : PySem.W.typeIn K (.ref C) = some (.type "type")) : PySem.W.kitOne K (.type T) (.ref C) = some false := by
  unfold PySem.W.kitOne
  rw [if_neg (show ¬ (Value.type T == Value.ref C) = true from by intro z; cases (eq_of_beq z))]
  show (if ((PySem.W.clsIn K C).isSome && PySem.W.typeIn K (.ref C) == some (.type "type")) = true then PySem.W.subIn K (.type T) (.ref C) else none) = some false
  have z : (PySem.W.clsIn K C).isSome = true := m1
  rw [z, m2, if_pos (by rfl)]
  exact h
theorem kit_own_own : PySem.W.kitOne K (.ref C) (.ref C) = some true := by
  unfold PySem.W.kitOne
  rw [beq_self_eq_true, if_pos rfl]
end
end Dn
end
section
set_option Elab.async false
set_option backward.match.sparseCases false
set_option linter.all false
set_option maxRecDepth 100000
set_option maxHeartbeats 4000100
namespace Dn
open PySem L2
/-! ### ==, != where one side is an empty list or tuple -/
def emptyQ (x y : W) (G : Gh) : Option Bool := match x, y with
  | .tup xs, .tup [] => some xs.isEmpty
  | .tup [], .tup ys => some ys.isEmpty
  | .ref n, .ref m => match G[n]?, G[m]? with
    | some (.lst xs), some (.lst []) => some xs.isEmpty
    | some (.lst []), some (.lst ys) => some ys.isEmpty
    | _, _ => none
  | _, _ => none
def eqX : D2 := fun x y G => match emptyQ x y G with
  | some b => .ok (.bl b) G
  | none => eqW x y G
def neX : D2 := fun x y G => match emptyQ x y G with
  | some b => .ok (.bl (!b)) G
  | none => neW x y G
section
variable {X : Cx} {Wx : WX} {k : Nat} {pins : List (Addr × Obj)} {σ : L2.St} {H : Hp} {s : Shared} {ρ : List Addr} {G : Gh}
/-- what stands there: two lists or two tuples, one of them empty -/
def TwoSeq (s : Shared) (u v : Value) (b : Bool) : Prop := ∃ a c xs ys, u = .ref a ∧ v = .ref c ∧ ((s.heap.IsList a xs ∧ s.heap.IsList c ys) ∨ (s.heap.IsTuple a xs ∧ s.heap.IsTuple c ys)) ∧ (xs.size = 0 ∨ ys.size = 0) ∧ b = (xs.size == ys.size)
theorem two_of (I : Inv X pins σ H s) (r : RG X.kw ρ H G) {wx wy : W} {x y : V} {u v : Value} {b : Bool} (ax : Abs X.kw ρ H wx x) (ay : Abs X.kw ρ H wy y) (rx : RelV x u) (ry : RelV y v) (e : emptyQ wx wy G = some b) : TwoSeq s u v b := by
  have tupc : ∀ {xs ys : List W}, Abs X.kw ρ H (.tup xs) x → Abs X.kw ρ H (.tup ys) y → (xs.length = 0 ∨ ys.length = 0) → b = (xs.length == ys.length) → TwoSeq s u v b := fun {xs ys} a1 a2 h hb => by
    obtain ⟨p, vs, rfl, s1, l1⟩ := a1
    obtain ⟨p2, vs2, rfl, s2, l2⟩ := a2
    cases rx
    cases ry
    obtain ⟨i1, v1, t1, _⟩ := I.tuple (s1.sq (F := X.K))
    obtain ⟨i2, v2, t2, _⟩ := I.tuple (s2.sq (F := X.K))
    have e1 : i1.length = xs.length := by rw [l1.len, v1.length]
    have e2 : i2.length = ys.length := by rw [l2.len, v2.length]
    exact ⟨p, p2, _, _, rfl, rfl, .inr ⟨t1, t2⟩, by simpa [e1, e2] using h, by simpa [e1, e2] using hb⟩
  have lstc : ∀ {n m : Nat} {xs ys : List W}, Abs X.kw ρ H (.ref n) x → Abs X.kw ρ H (.ref m) y → G[n]? = some (.lst xs) → G[m]? = some (.lst ys) → (xs.length = 0 ∨ ys.length = 0) → b = (xs.length == ys.length) → TwoSeq s u v b := fun {n m xs ys} a1 a2 g1 g2 h hb => by
    obtain ⟨p, e1, rfl⟩ := a1
    obtain ⟨p2, e2, rfl⟩ := a2
    cases rx
    cases ry
    obtain ⟨vs, h1, l1⟩ := r.lst e1 g1
    obtain ⟨vs2, h2, l2⟩ := r.lst e2 g2
    obtain ⟨i1, v1, t1, _⟩ := I.list (SqL.of h1)
    obtain ⟨i2, v2, t2, _⟩ := I.list (SqL.of h2)
    have z1 : i1.length = xs.length := by rw [l1.len, v1.length]
    have z2 : i2.length = ys.length := by rw [l2.len, v2.length]
    exact ⟨p, p2, _, _, rfl, rfl, .inl ⟨t1.isList, t2.isList⟩, by simpa [z1, z2] using h, by simpa [z1, z2] using hb⟩
  unfold emptyQ at e
  split at e
  · rename_i xs
    cases e
    exact tupc ax ay (.inr rfl) (by cases xs <;> simp)
  · rename_i ys _
    cases e
    exact tupc ax ay (.inl rfl) (by cases ys <;> simp)
  · split at e
    · rename_i xs g1 g2
      cases e
      exact lstc ax ay g1 g2 (.inr rfl) (by cases xs <;> simp)
    · rename_i ys _ g1 g2
      cases e
      exact lstc ax ay g1 g2 (.inl rfl) (by cases ys <;> simp)
    · cases e
  · cases e
theorem op_eqX (c : Ctx X Wx k) : OpR X (compareOp .Eq) (lf2 X.kw eqX) := by
  intro pins s σ H x y v u Q I rx ry ⟨ρ, G, wx, wy, r, ax, ay, q⟩
  unfold eqX at q
  cases e : emptyQ wx wy G with
  | none => rw [e] at q; exact op_eqW c pins s σ H x y v u Q I rx ry ⟨ρ, G, wx, wy, r, ax, ay, q⟩
  | some b =>
    rw [e] at q
    obtain ⟨a, d, xs, ys, rfl, rfl, h, h0, hb⟩ := two_of I r ax ay rx ry e
    have fin : EP X pins σ Q (.bool b) s := ⟨.bl b, H, I, rfl, q ρ H _ .refl r (by simp [Abs])⟩
    have un : X.A.units < cLine := by have := c.rm.un; omega
    obtain ⟨h1, h2⟩ | ⟨h1, h2⟩ := h
    · by_cases hs : xs.size = ys.size
      · refine SeqAt.eq_listAt (e := fun _ => true) h1 h2 hs un (fun j j1 j2 => by omega) ?_
        have z : (List.range xs.size).all (fun _ => true) = b := by rw [hb]; simp [hs]
        rw [z]; exact fin
      · refine SeqAt.eq_list_lengthsAt h1 h2 (by simpa using hs) un ?_
        have z : b = false := by rw [hb]; simpa using hs
        rw [z] at fin; exact fin
    · refine SeqAt.eq_tupleAt (e := fun _ => true) h1 h2 un (fun j j1 j2 => by omega) ?_
      have z : ((List.range (min xs.size ys.size)).all (fun _ => true) && xs.size == ys.size) = b := by rw [hb]; simp
      rw [z]; exact fin
theorem op_neX (c : Ctx X Wx k) : OpR X (compareOp .NotEq) (lf2 X.kw neX) := by
  intro pins s σ H x y v u Q I rx ry ⟨ρ, G, wx, wy, r, ax, ay, q⟩
  unfold neX at q
  cases e : emptyQ wx wy G with
  | none => rw [e] at q; exact op_neW c pins s σ H x y v u Q I rx ry ⟨ρ, G, wx, wy, r, ax, ay, q⟩
  | some b =>
    rw [e] at q
    obtain ⟨a, d, xs, ys, rfl, rfl, h, h0, hb⟩ := two_of I r ax ay rx ry e
    have fin : EP X pins σ Q (.bool (!b)) s := ⟨.bl (!b), H, I, rfl, q ρ H _ .refl r (by simp [Abs])⟩
    have un : X.A.units < cLine := by have := c.rm.un; omega
    obtain ⟨h1, h2⟩ | ⟨h1, h2⟩ := h
    · by_cases hs : xs.size = ys.size
      · refine SeqAt.RcNeAt.lists (e := fun _ => true) h1 h2 hs un (fun j j1 j2 => by omega) X.prog X.w _ _ ?_
        have z : b = true := by rw [hb]; simpa using hs
        subst z
        have z2 : (List.range xs.size).all (fun _ => true) = true := List.all_eq_true.mpr fun _ _ => rfl
        rw [z2]; exact fin
      · refine SeqAt.RcNeAt.lists_lengths h1 h2 (by simpa using hs) un X.prog X.w _ _ ?_
        have z : b = false := by rw [hb]; simpa using hs
        subst z; exact fin
    · refine SeqAt.RcNeAt.tuples (e := fun _ => true) h1 h2 un (fun j j1 j2 => by omega) X.prog X.w _ _ ?_
      subst hb
      have z2 : (List.range (min xs.size ys.size)).all (fun _ => true) = true := List.all_eq_true.mpr fun _ _ => rfl
      rw [z2, Bool.true_and]; exact fin
end
end Dn
end
section
set_option Elab.async false
set_option backward.match.sparseCases false
set_option linter.all false
set_option maxRecDepth 100000
set_option maxHeartbeats 4000100
namespace Dn
open PySem
/-! ## plain reasoning about denotations -/
/-- the heap has grown -/
def Gr (G G' : Gh) : Prop := ∃ J, G' = G ++ J
theorem Gr.refl {G : Gh} : Gr G G := ⟨[], (List.append_nil G).symm⟩
theorem Gr.trans {G G1 G2 : Gh} (h : Gr G G1) (h' : Gr G1 G2) : Gr G G2 := by
  obtain ⟨J, rfl⟩ := h
  obtain ⟨K, rfl⟩ := h'
  exact ⟨J ++ K, List.append_assoc _ _ _⟩
theorem Gr.one {G : Gh} {o : GO} : Gr G (G ++ [o]) := ⟨[o], rfl⟩
theorem Gr.get {G G' : Gh} (h : Gr G G') {n : Nat} {o : GO} (e : G[n]? = some o) : G'[n]? = some o := by
  obtain ⟨J, rfl⟩ := h
  rw [List.getElem?_append_left (List.getElem?_eq_some_iff.mp e).1]
  exact e
theorem Gr.len {G G' : Gh} (h : Gr G G') : G.length ≤ G'.length := by
  obtain ⟨J, rfl⟩ := h
  rw [List.length_append]; omega
/-- what has been made later may be set -/
theorem Gr.put {G G' : Gh} (h : Gr G G') {n : Nat} {o : GO} (hn : G.length ≤ n) : Gr G (G'.set n o) := by
  obtain ⟨J, rfl⟩ := h
  exact ⟨J.set (n - G.length) o, by rw [List.set_append_right _ _ hn]⟩
/-- yields a, and only makes things -/
def Pu {α : Type} (m : M α) (G : Gh) (a : α) : Prop := ∃ G', m G = .ok a G' ∧ Gr G G'
theorem Pu.ok {α : Type} {G : Gh} {a : α} : Pu (fun G => .ok a G) G a := ⟨G, rfl, .refl⟩
theorem Pu.ret {α : Type} {G : Gh} {a : α} : Pu (Dn.ret a) G a := ⟨G, rfl, .refl⟩
theorem Pu.bnd {α β : Type} {m : M α} {f : α → M β} {G : Gh} {a : α} {b : β} (h : Pu m G a) (k : ∀ G', Gr G G' → Pu (f a) G' b) : Pu (Dn.bnd m f) G b := by
  obtain ⟨G1, e, g⟩ := h
  obtain ⟨G2, e2, g2⟩ := k G1 g
  exact ⟨G2, by unfold Dn.bnd; rw [e]; exact e2, g.trans g2⟩
theorem Pu.noX {m : M W} {G : Gh} {a : W} (h : Pu m G a) : Pu (Dn.noX m) G a := by
  obtain ⟨G1, e, g⟩ := h
  exact ⟨G1, by unfold Dn.noX; rw [e], g⟩
/-- statements: a return, or on -/
def Rt (d : DS) (σ : Loc) (G : Gh) (w : W) : Prop := ∃ G', d σ G = .rt w G' ∧ Gr G G'
def Nx (d : DS) (σ : Loc) (G : Gh) (σ' : Loc) : Prop := ∃ G', d σ G = .nx σ' G' ∧ Gr G G'
section
variable {d e : DE} {t u : DT} {s s' : DS} {σ σ' : Loc} {G : Gh} {w v : W} {b : Bool} {i : Nat}
theorem Rt.ret (h : Pu (d σ) G w) : Rt (sRet d) σ G w := by
  obtain ⟨G1, e, g⟩ := h
  exact ⟨G1, by unfold sRet sOf; rw [e], g⟩
theorem Rt.seq1 (h : Rt s σ G w) : Rt (sSeq s s') σ G w := by
  obtain ⟨G1, e, g⟩ := h
  exact ⟨G1, by unfold sSeq; rw [e], g⟩
theorem Rt.seq2 (h : Nx s σ G σ') (k : ∀ G', Gr G G' → Rt s' σ' G' w) : Rt (sSeq s s') σ G w := by
  obtain ⟨G1, e, g⟩ := h
  obtain ⟨G2, e2, g2⟩ := k G1 g
  exact ⟨G2, by unfold sSeq; rw [e]; exact e2, g.trans g2⟩
theorem Nx.seq (h : Nx s σ G σ') {σ2 : Loc} (k : ∀ G', Gr G G' → Nx s' σ' G' σ2) : Nx (sSeq s s') σ G σ2 := by
  obtain ⟨G1, e, g⟩ := h
  obtain ⟨G2, e2, g2⟩ := k G1 g
  exact ⟨G2, by unfold sSeq; rw [e]; exact e2, g.trans g2⟩
theorem Nx.next : Nx sNext σ G σ := ⟨G, rfl, .refl⟩
theorem Rt.ifT (h : Pu (t σ) G true) (k : ∀ G', Gr G G' → Rt s σ G' w) : Rt (sIf t s s') σ G w := by
  obtain ⟨G1, e, g⟩ := h
  obtain ⟨G2, e2, g2⟩ := k G1 g
  exact ⟨G2, by unfold sIf sOfT; rw [e]; exact e2, g.trans g2⟩
theorem Rt.ifF (h : Pu (t σ) G false) (k : ∀ G', Gr G G' → Rt s' σ G' w) : Rt (sIf t s s') σ G w := by
  obtain ⟨G1, e, g⟩ := h
  obtain ⟨G2, e2, g2⟩ := k G1 g
  exact ⟨G2, by unfold sIf sOfT; rw [e]; exact e2, g.trans g2⟩
theorem Nx.ifT {σ2 : Loc} (h : Pu (t σ) G true) (k : ∀ G', Gr G G' → Nx s σ G' σ2) : Nx (sIf t s s') σ G σ2 := by
  obtain ⟨G1, e, g⟩ := h
  obtain ⟨G2, e2, g2⟩ := k G1 g
  exact ⟨G2, by unfold sIf sOfT; rw [e]; exact e2, g.trans g2⟩
theorem Nx.ifF {σ2 : Loc} (h : Pu (t σ) G false) (k : ∀ G', Gr G G' → Nx s' σ G' σ2) : Nx (sIf t s s') σ G σ2 := by
  obtain ⟨G1, e, g⟩ := h
  obtain ⟨G2, e2, g2⟩ := k G1 g
  exact ⟨G2, by unfold sIf sOfT; rw [e]; exact e2, g.trans g2⟩
theorem Nx.asg (h : Pu (d σ) G w) : Nx (sAsg d (gV i)) σ G (σ.set i (some w)) := by
  obtain ⟨G1, e, g⟩ := h
  exact ⟨G1, by unfold sAsg sOf; rw [e]; rfl, g⟩
/-- «if c: return x», then the rest -/
theorem Rt.guard {r : W} (h : Pu (t σ) G b) (hT : b = true → ∀ G', Gr G G' → Pu (d σ) G' w) (hF : b = false → ∀ G', Gr G G' → Rt s' σ G' w) : Rt (sSeq (sIf t (sRet d) sNext) s') σ G w := by
  cases b with
  | true => exact Rt.seq1 (Rt.ifT h fun G' g => Rt.ret (hT rfl G' g))
  | false =>
    obtain ⟨G1, e, g⟩ := h
    have n : Nx (sIf t (sRet d) sNext) σ G σ := Nx.ifF ⟨G1, e, g⟩ fun G' _ => Nx.next
    exact Rt.seq2 n fun G' g' => hF rfl G' g'
/-- tests -/
theorem Pu.dB (h : Pu (d σ) G (.bl b)) : Pu (dB d σ) G b := Pu.bnd h fun G' g => ⟨G', rfl, .refl⟩
theorem Pu.dNot (h : Pu (t σ) G b) : Pu (dNot t σ) G (!b) := Pu.bnd h fun G' g => ⟨G', rfl, .refl⟩
theorem Pu.dAnd {c : Bool} (h : Pu (t σ) G b) (k : b = true → ∀ G', Gr G G' → Pu (u σ) G' c) : Pu (dAnd t u σ) G (b && c) := Pu.bnd h fun G' g => by
  cases b with
  | true => exact k rfl G' g
  | false => exact ⟨G', rfl, .refl⟩
theorem Pu.dOr {c : Bool} (h : Pu (t σ) G b) (k : b = false → ∀ G', Gr G G' → Pu (u σ) G' c) : Pu (dOr t u σ) G (b || c) := Pu.bnd h fun G' g => by
  cases b with
  | false => exact k rfl G' g
  | true => exact ⟨G', rfl, .refl⟩
theorem Pu.dAndV {c : Bool} (h : Pu (d σ) G (.bl b)) (k : b = true → ∀ G', Gr G G' → Pu (e σ) G' (.bl c)) : Pu (dAndV d e σ) G (.bl (b && c)) := Pu.bnd h fun G' g => by
  cases b with
  | true => exact k rfl G' g
  | false => exact ⟨G', rfl, .refl⟩
theorem Pu.dOrV {c : Bool} (h : Pu (d σ) G (.bl b)) (k : b = false → ∀ G', Gr G G' → Pu (e σ) G' (.bl c)) : Pu (dOrV d e σ) G (.bl (b || c)) := Pu.bnd h fun G' g => by
  cases b with
  | false => exact k rfl G' g
  | true => exact ⟨G', rfl, .refl⟩
theorem Pu.dNotV (h : Pu (d σ) G (.bl b)) : Pu (dNotV d σ) G (.bl (!b)) := Pu.bnd h fun G' g => ⟨G', rfl, .refl⟩
theorem Pu.var (h : σ[i]? = some (some w)) : Pu (dVar i σ) G w := ⟨G, by unfold dVar; rw [h], .refl⟩
theorem Pu.c : Pu (dC w σ) G w := ⟨G, rfl, .refl⟩
theorem Pu.d2 {f : D2} {r : W} (h1 : Pu (d σ) G w) (h2 : ∀ G', Gr G G' → Pu (e σ) G' v) (h3 : ∀ G', Gr G G' → Pu (f w v) G' r) : Pu (d2 (fun x y => Dn.noX (f x y)) d e σ) G r :=
  Pu.bnd h1 fun G1 g1 => Pu.bnd (h2 G1 g1) fun G2 g2 => Pu.noX (h3 G2 (g1.trans g2))
theorem Pu.nil : Pu (dNil σ) G [] := ⟨G, rfl, .refl⟩
theorem Pu.cons {ds : DA} {ws : List W} (h1 : Pu (d σ) G w) (h2 : ∀ G', Gr G G' → Pu (ds σ) G' ws) : Pu (dCons d ds σ) G (w :: ws) :=
  Pu.bnd h1 fun G1 g1 => Pu.bnd (h2 G1 g1) fun G2 g2 => ⟨G2, rfl, .refl⟩
theorem Pu.call {F : DF} {ds : DA} {ws : List W} {r : W} (h1 : Pu (ds σ) G ws) (h2 : ∀ G', Gr G G' → Pu (F ws) G' r) : Pu (dCall F ds σ) G r := Pu.bnd h1 h2
theorem Pu.tup {ds : DA} {ws : List W} (h1 : Pu (ds σ) G ws) (hl : ws.length ≤ 16777216 := by decide) : Pu (dTup ds σ) G (.tup ws) := Pu.bnd h1 fun G' g => by rw [if_pos hl]; exact ⟨G', rfl, .refl⟩
theorem Pu.def1 {N n : Nat} {s : DS} {ws : List W} (hl : ws.length = n) (h : Rt s (slots N ws) G w) : Pu (defB N n s ws) G w := by
  obtain ⟨G1, e, g⟩ := h
  exact ⟨G1, by unfold defB; rw [if_pos hl]; unfold runB; rw [e], g⟩
theorem Pu.callB {F : DF} {ds : DA} {ws : List W} {r : W} (h1 : Pu (ds σ) G ws) (h2 : ∀ G', Gr G G' → Pu (F ws) G' r) : Pu (dCallB F ds σ) G r := by
  first
  | exact Pu.bnd h1 fun G' g => Pu.noX (h2 G' g)
  | exact Pu.bnd h1 h2
end
/-! ### comprehensions -/
theorem loopC_ok {get : Nat → Gh → Option (Option W)} {g : Tgt} {t : DT} {e : DE} {σ : Loc} {G0 : Gh} {ws : List W} {σ1 : W → Loc} {p : W → Bool} {h : W → W}
    (hget : ∀ i G', Gr G0 G' → get i G' = some ws[i]?) (hset : ∀ w ∈ ws, g.set w σ = some (σ1 w)) (hz : ws.length ≤ 16777216)
    (ht : ∀ w ∈ ws, ∀ G', Gr G0 G' → Pu (t (σ1 w)) G' (p w)) (he : ∀ w ∈ ws, p w = true → ∀ G', Gr G0 G' → Pu (e (σ1 w)) G' (h w)) :
    ∀ (m i : Nat) (acc : List W) (G : Gh), Gr G0 G → G0.length < G.length → G[G0.length]? = some (.lst acc) → i ≤ ws.length → acc.length ≤ i → ws.length - i < m →
      ∃ G', loopC get g t e σ G0.length m i G = .ok () G' ∧ Gr G0 G' ∧ G'[G0.length]? = some (.lst (acc ++ ((ws.drop i).filter p).map h))
  | 0, _, _, _, _, _, _, _, _, hm => absurd hm (Nat.not_lt_zero _)
  | m + 1, i, acc, G, gr, hl, ha, hi, hc, hm => by
    unfold loopC
    rw [hget i G gr]
    by_cases hlt : i < ws.length
    · rw [List.getElem?_eq_getElem hlt]
      dsimp only
      have mem : ws[i] ∈ ws := List.getElem_mem hlt
      rw [hset _ mem]
      dsimp only
      obtain ⟨G1, e1, g1⟩ := ht _ mem G gr
      rw [e1]
      have dr : ws.drop i = ws[i] :: ws.drop (i + 1) := List.drop_eq_getElem_cons hlt
      cases hp : p ws[i] with
      | false =>
        dsimp only
        obtain ⟨G', e2, g2, a2⟩ := loopC_ok hget hset hz ht he m (i + 1) acc G1 (gr.trans g1) (Nat.lt_of_lt_of_le hl g1.len) (g1.get ha) hlt (by omega) (by omega)
        refine ⟨G', e2, g2, ?_⟩
        rw [a2, dr, List.filter_cons_of_neg (by simp [hp])]
      | true =>
        dsimp only
        obtain ⟨G2, e2, g2⟩ := he _ mem hp G1 (gr.trans g1)
        rw [e2]
        dsimp only
        have a2 := g2.get (g1.get ha)
        rw [a2]
        dsimp only
        rw [if_pos (show acc.length < 16777216 by omega)]
        have l2 : G0.length < G2.length := Nat.lt_of_lt_of_le hl (g1.trans g2).len
        have g3 : Gr G0 (G2.set G0.length (.lst (acc ++ [h ws[i]]))) := (gr.trans (g1.trans g2)).put (Nat.le_refl _)
        obtain ⟨G', e3, g4, a4⟩ := loopC_ok hget hset hz ht he m (i + 1) (acc ++ [h ws[i]]) _ g3 (by rw [List.length_set]; exact l2) (by rw [List.getElem?_set_self l2]) hlt (by simp; omega) (by omega)
        refine ⟨G', e3, g4, ?_⟩
        rw [a4, dr, List.filter_cons_of_pos hp, List.map_cons, List.append_assoc]
        rfl
    · have e : ws[i]? = none := List.getElem?_eq_none (by omega)
      rw [e]
      refine ⟨G, rfl, gr, ?_⟩
      rw [List.drop_eq_nil_of_le (by omega), List.filter_nil, List.map_nil, List.append_nil]
      exact ha
/-- what is walked stays, and is ws -/
def Fix (src : DI) (σ : Loc) (G : Gh) (ws : List W) : Prop := ∃ G0 get, src σ G = .ok ⟨ws.length + 1, get, none⟩ G0 ∧ Gr G G0 ∧ ∀ i G', Gr G0 G' → get i G' = some ws[i]?
theorem lc_ok {src : DI} {g : Tgt} {t : DT} {e : DE} {vs : List Nat} {σ : Loc} {G : Gh} {ws : List W} (p : W → Bool) (h : W → W) (σ1 : W → Loc) (hs : Fix src σ G ws) (hset : ∀ w ∈ ws, g.set w (wipeD σ vs) = some (σ1 w)) (hz : ws.length ≤ 16777216)
    (ht : ∀ w ∈ ws, ∀ G', Gr G G' → Pu (t (σ1 w)) G' (p w)) (he : ∀ w ∈ ws, p w = true → ∀ G', Gr G G' → Pu (e (σ1 w)) G' (h w)) :
    ∃ n G', dLc src g t e vs σ G = .ok (.ref n) G' ∧ Gr G G' ∧ G'[n]? = some (.lst ((ws.filter p).map h)) := by
  obtain ⟨G0, get, es, g0, hget⟩ := hs
  obtain ⟨G', e2, g2, a2⟩ := loopC_ok hget hset hz (fun w hw G' gr => ht w hw G' (g0.trans gr)) (fun w hw hp G' gr => he w hw hp G' (g0.trans gr)) (ws.length + 1) 0 [] (G0 ++ [.lst []]) .one (by simp) (by simp) (Nat.zero_le _) (Nat.zero_le _) (by omega)
  refine ⟨G0.length, G', ?_, g0.trans g2, a2⟩
  unfold dLc
  rw [es]
  dsimp only
  rw [if_pos (show lockFree none G = true from rfl), e2]
  rfl
theorem Fix.tup {d : DE} {σ : Loc} {G : Gh} {ws : List W} (h : Pu (d σ) G (.tup ws)) : Fix (iAny d) σ G ws := by
  obtain ⟨G1, e, g⟩ := h
  exact ⟨G1, getS ws, by unfold iAny bnd; rw [e]; rfl, g, fun i G' _ => rfl⟩
theorem Fix.str {d : DE} {σ : Loc} {G : Gh} {x : Str} (h : Pu (d σ) G (.str x)) : Fix (iAny d) σ G (x.cps.toList.map fun c => .str ⟨#[c]⟩) := by
  obtain ⟨G1, e, g⟩ := h
  refine ⟨G1, getS (x.cps.toList.map fun c => .str ⟨#[c]⟩), by unfold iAny bnd; rw [e]; simp only [srcAny, srcOf, List.length_map, Array.length_toList], g, fun i G' _ => rfl⟩
theorem Fix.lst {d : DE} {σ : Loc} {G : Gh} {n : Nat} {ws : List W} (h : Pu (d σ) G (.ref n)) (hn : G[n]? = some (.lst ws)) : Fix (iAny d) σ G ws := by
  obtain ⟨G1, e, g⟩ := h
  refine ⟨G1, getL n, by unfold iAny bnd; rw [e]; simp only [srcAny, g.get hn], g, fun i G' gr => ?_⟩
  unfold getL
  rw [gr.get (g.get hn)]
end Dn
end
section
set_option Elab.async false
set_option backward.match.sparseCases false
set_option linter.all false
set_option maxRecDepth 100000
set_option maxHeartbeats 4000100
namespace Dn
open PySem
/-! ## operations on known values -/
section
variable {G : Gh} {σ : Loc}
theorem shaped_int (i : Int) : SeqAt.shaped (.int i) = true := by simp [SeqAt.shaped, PyData.canLay0, PyData.depth]
theorem shaped_str {x : Str} (h : PyData.strOk x = true) : SeqAt.shaped (.str x) = true := by simp [SeqAt.shaped, PyData.canLay0, PyData.depth, h]
theorem pu_ltI (i j : Int) : Pu (ltD (.int i) (.int j)) G (.bl (decide (i < j))) := by
  refine ⟨G, ?_, .refl⟩
  simp [ltD, ordQ, datW, datV, PySem.W.alike, PySem.W.dataLt_int, notNon, PyData.depth]
theorem pu_leI (i j : Int) : Pu (leD (.int i) (.int j)) G (.bl (decide (i ≤ j))) := by
  refine ⟨G, ?_, .refl⟩
  have e : decide (j < i) = !decide (i ≤ j) := by by_cases h : i ≤ j <;> simp [h] <;> omega
  simp [leD, ordQ, datW, datV, PySem.W.alike, PySem.W.dataLt_int, notNon, PyData.depth, e]
theorem pu_eqI (i j : Int) : Pu (eqX (.int i) (.int j)) G (.bl (i == j)) := by
  refine ⟨G, ?_, .refl⟩
  simp [eqX, emptyQ, eqW, datW, datV, shaped_int, PyData.eqv]
theorem pu_neI (i j : Int) : Pu (neX (.int i) (.int j)) G (.bl (!(i == j))) := by
  refine ⟨G, ?_, .refl⟩
  simp [neX, emptyQ, neW, datW, datV, shaped_int, PyData.eqv]
theorem pu_eqS {x y : Str} (hx : PyData.strOk x = true) (hy : PyData.strOk y = true) : Pu (eqX (.str x) (.str y)) G (.bl (x == y)) := by
  refine ⟨G, ?_, .refl⟩
  simp [eqX, emptyQ, eqW, datW, datV, shaped_str hx, shaped_str hy, PyData.eqv]
theorem pu_neS {x y : Str} (hx : PyData.strOk x = true) (hy : PyData.strOk y = true) : Pu (neX (.str x) (.str y)) G (.bl (!(x == y))) := by
  refine ⟨G, ?_, .refl⟩
  simp [neX, emptyQ, neW, datW, datV, shaped_str hx, shaped_str hy, PyData.eqv]
theorem pu_lenT {ws : List W} : Pu (lenAW [.tup ws]) G (.int ws.length) := ⟨G, by simp [lenAW, dctQ, lenW, lenQ], .refl⟩
theorem pu_lenS {x : Str} (h : x.length ≤ 16777216) : Pu (lenAW [.str x]) G (.int x.length) := ⟨G, by simp [lenAW, dctQ, lenW, lenQ, h], .refl⟩
theorem pu_lenL {n : Nat} {ws : List W} (h : G[n]? = some (.lst ws)) : Pu (lenAW [.ref n]) G (.int ws.length) := ⟨G, by simp [lenAW, dctQ, lenW, lenQ, h], .refl⟩
theorem pu_itemT {ws : List W} {i : Nat} {w : W} (h : ws[i]? = some w) : Pu (itemW (.tup ws) (.int i)) G w := by
  have hl := (List.getElem?_eq_some_iff.mp h).1
  refine ⟨G, ?_, .refl⟩
  have e : ixOf ws.length (i : Int) = some i := by
    unfold ixOf
    rw [if_pos (by omega), if_pos (by exact_mod_cast hl)]
    simp
  simp [itemW, dctQ, ixW, e, h]
theorem pu_chain {f f' : D2} {da db dc : DE} {x y z : W} {b c : Bool} (h1 : Pu (da σ) G x) (h2 : ∀ G', Gr G G' → Pu (db σ) G' y) (h3 : ∀ G', Gr G G' → Pu (f x y) G' (.bl b)) (h4 : b = true → ∀ G', Gr G G' → Pu (dc σ) G' z) (h5 : b = true → ∀ G', Gr G G' → Pu (f' y z) G' (.bl c)) :
    Pu (dChain f f' da db dc σ) G (.bl (b && c)) := Pu.bnd h1 fun G1 g1 => Pu.bnd (h2 G1 g1) fun G2 g2 => Pu.bnd (Pu.noX (h3 G2 (g1.trans g2))) fun G3 g3 => by
  cases b with
  | true => exact Pu.bnd (h4 rfl G3 ((g1.trans g2).trans g3)) fun G4 g4 => Pu.noX (h5 rfl G4 (((g1.trans g2).trans g3).trans g4))
  | false => exact ⟨G3, rfl, .refl⟩
theorem pu_memS {x y : Str} : Pu (memW false (.str x) (.str y)) G (.bl (inS x y)) := ⟨G, by simp [memW, dctQ, inW, inQ], .refl⟩
theorem pu_notMemS {x y : Str} : Pu (memW true (.str x) (.str y)) G (.bl (!inS x y)) := ⟨G, by simp [memW, dctQ, notInW, inQ], .refl⟩
theorem blOf_map (bs : List Bool) : blOf (bs.map W.bl) = some bs := by
  induction bs with
  | nil => rfl
  | cons b bs ih => simp [blOf, ih]
theorem pu_all {n : Nat} {bs : List Bool} (h : G[n]? = some (.lst (bs.map .bl))) : Pu (allW [.ref n]) G (.bl (bs.all id)) := ⟨G, by simp [allW, lstOf, h, blOf_map], .refl⟩
/-- all([e for x in xs]) -/
theorem pu_allLc {src : DI} {g : Tgt} {e : DE} {vs : List Nat} {ws : List W} (f : W → Bool) (σ1 : W → Loc) (hs : Fix src σ G ws) (hset : ∀ w ∈ ws, g.set w (wipeD σ vs) = some (σ1 w)) (hz : ws.length ≤ 16777216)
    (he : ∀ w ∈ ws, ∀ G', Gr G G' → Pu (e (σ1 w)) G' (.bl (f w))) : Pu (dCallB allW (dCons (dLc src g dYes e vs) dNil) σ) G (.bl (ws.all f)) := by
  obtain ⟨n, G1, e1, g1, a1⟩ := lc_ok (t := dYes) (fun _ => true) (fun w => .bl (f w)) σ1 hs hset hz (fun w _ G' _ => Pu.ret) (fun w hw _ G' gr => he w hw G' gr)
  rw [List.filter_eq_self.mpr (fun _ _ => rfl)] at a1
  have a2 : G1[n]? = some (.lst ((ws.map f).map .bl)) := by rw [List.map_map]; exact a1
  refine ⟨G1, ?_, g1⟩
  have a3 : blOf (ws.map (W.bl ∘ f)) = some (ws.map f) := by rw [← List.map_map]; exact blOf_map _
  simp [dCallB, bnd, dCons, e1, dNil, ret, noX, allW, lstOf, a2, a3, List.all_map]
/-- [e for x in xs if t] == [] -/
theorem pu_lcEmpty {src : DI} {g : Tgt} {t : DT} {e : DE} {vs : List Nat} {ws : List W} (p : W → Bool) (h : W → W) (σ1 : W → Loc) (hs : Fix src σ G ws) (hset : ∀ w ∈ ws, g.set w (wipeD σ vs) = some (σ1 w)) (hz : ws.length ≤ 16777216)
    (ht : ∀ w ∈ ws, ∀ G', Gr G G' → Pu (t (σ1 w)) G' (p w)) (he : ∀ w ∈ ws, p w = true → ∀ G', Gr G G' → Pu (e (σ1 w)) G' (h w)) (ne : Bool) :
    Pu (d2 (fun x y => noX ((if ne = true then neX else eqX) x y)) (dLc src g t e vs) (dLst dNil) σ) G (.bl (if ne = true then ws.any p else !ws.any p)) := by
  obtain ⟨n, G1, e1, g1, a1⟩ := lc_ok p h σ1 hs hset hz ht he
  have hn := (List.getElem?_eq_some_iff.mp a1).1
  have b1 : (G1 ++ [GO.lst []])[n]? = some (.lst ((ws.filter p).map h)) := by rw [List.getElem?_append_left hn]; exact a1
  have b2 : (G1 ++ [GO.lst []])[G1.length]? = some (.lst []) := by simp
  have b3 : ((ws.filter p).map h).isEmpty = !ws.any p := by
    rw [List.isEmpty_map]
    cases q : ws.any p with
    | true =>
      obtain ⟨x, hx, hp⟩ := List.any_eq_true.mp q
      have m : x ∈ ws.filter p := List.mem_filter.mpr ⟨hx, hp⟩
      cases z : ws.filter p with
      | nil => rw [z] at m; cases m
      | cons _ _ => rfl
    | false =>
      have z : ws.filter p = [] := List.filter_eq_nil_iff.mpr fun x hx hp => by
        have := List.any_eq_false.mp q x hx
        exact this hp
      rw [z]; rfl
  have b4 : emptyQ (.ref n) (.ref G1.length) (G1 ++ [GO.lst []]) = some (!ws.any p) := by
    unfold emptyQ
    dsimp only
    rw [b1, b2]
    dsimp only
    rw [← b3]
  refine ⟨G1 ++ [.lst []], ?_, g1.trans .one⟩
  cases ne with
  | true => simp [d2, bnd, e1, dLst, dNil, ret, noX, neX, b4]
  | false => simp [d2, bnd, e1, dLst, dNil, ret, noX, eqX, b4]
theorem pu_lcNe {src : DI} {g : Tgt} {t : DT} {e : DE} {vs : List Nat} {ws : List W} (p : W → Bool) (h : W → W) (σ1 : W → Loc) (hs : Fix src σ G ws) (hset : ∀ w ∈ ws, g.set w (wipeD σ vs) = some (σ1 w)) (hz : ws.length ≤ 16777216)
    (ht : ∀ w ∈ ws, ∀ G', Gr G G' → Pu (t (σ1 w)) G' (p w)) (he : ∀ w ∈ ws, p w = true → ∀ G', Gr G G' → Pu (e (σ1 w)) G' (h w)) : Pu (d2 (fun x y => noX (neX x y)) (dLc src g t e vs) (dLst dNil) σ) G (.bl (ws.any p)) := pu_lcEmpty p h σ1 hs hset hz ht he true
theorem pu_lcEq {src : DI} {g : Tgt} {t : DT} {e : DE} {vs : List Nat} {ws : List W} (p : W → Bool) (h : W → W) (σ1 : W → Loc) (hs : Fix src σ G ws) (hset : ∀ w ∈ ws, g.set w (wipeD σ vs) = some (σ1 w)) (hz : ws.length ≤ 16777216)
    (ht : ∀ w ∈ ws, ∀ G', Gr G G' → Pu (t (σ1 w)) G' (p w)) (he : ∀ w ∈ ws, p w = true → ∀ G', Gr G G' → Pu (e (σ1 w)) G' (h w)) : Pu (d2 (fun x y => noX (eqX x y)) (dLc src g t e vs) (dLst dNil) σ) G (.bl (!ws.any p)) := pu_lcEmpty p h σ1 hs hset hz ht he false
end
end Dn
end
section
set_option Elab.async false
set_option backward.match.sparseCases false
set_option linter.all false
set_option maxRecDepth 100000
set_option maxHeartbeats 4000100
namespace Dn
open PySem
/-! ## loops that only look -/
section
variable {get : Nat → Gh → Option (Option W)} {g : Tgt} {body : DS} {ws : List W} {G0 : Gh} {S : Loc → Prop} {σ1 : W → Loc} {c : W → Bool} {r : W}
theorem loopI_ret (hget : ∀ i G', Gr G0 G' → get i G' = some ws[i]?) (hset : ∀ σ, S σ → ∀ w ∈ ws, g.set w σ = some (σ1 w)) (hS : ∀ w ∈ ws, S (σ1 w))
    (hT : ∀ w ∈ ws, c w = true → ∀ G', Gr G0 G' → Rt body (σ1 w) G' r) (hF : ∀ w ∈ ws, c w = false → ∀ G', Gr G0 G' → Nx body (σ1 w) G' (σ1 w)) :
    ∀ (m i : Nat) (σ : Loc) (G : Gh), S σ → Gr G0 G → i ≤ ws.length → ws.length - i < m →
      ((ws.drop i).any c = true → Rt (loopI get g body m i) σ G r) ∧ ((ws.drop i).any c = false → ∃ σ', S σ' ∧ Nx (loopI get g body m i) σ G σ')
  | 0, _, _, _, _, _, _, hm => absurd hm (Nat.not_lt_zero _)
  | m + 1, i, σ, G, s, gr, hi, hm => by
    by_cases hlt : i < ws.length
    · have mem : ws[i] ∈ ws := List.getElem_mem hlt
      have dr : ws.drop i = ws[i] :: ws.drop (i + 1) := List.drop_eq_getElem_cons hlt
      rw [dr, List.any_cons]
      cases hc : c ws[i] with
      | true =>
        refine ⟨fun _ => ?_, fun z => by simp at z⟩
        obtain ⟨G1, e1, g1⟩ := hT _ mem hc G gr
        refine ⟨G1, ?_, g1⟩
        unfold loopI
        rw [hget i G gr, List.getElem?_eq_getElem hlt]
        dsimp only
        rw [hset σ s _ mem]
        dsimp only
        rw [e1]
      | false =>
        obtain ⟨G1, e1, g1⟩ := hF _ mem hc G gr
        obtain ⟨k1, k2⟩ := loopI_ret hget hset hS hT hF m (i + 1) (σ1 ws[i]) G1 (hS _ mem) (gr.trans g1) hlt (by omega)
        have step : loopI get g body (m + 1) i σ G = loopI get g body m (i + 1) (σ1 ws[i]) G1 := by
          conv => lhs; unfold loopI
          rw [hget i G gr, List.getElem?_eq_getElem hlt]
          dsimp only
          rw [hset σ s _ mem]
          dsimp only
          rw [e1]
        rw [Bool.false_or]
        refine And.intro (fun z => ?_) fun z => ?_
        · obtain ⟨G2, e2, g2⟩ := k1 z
          exact ⟨G2, by rw [step]; exact e2, g1.trans g2⟩
        · obtain ⟨σ', s', G2, e2, g2⟩ := k2 z
          exact ⟨σ', s', G2, by rw [step]; exact e2, g1.trans g2⟩
    · have e : ws[i]? = none := List.getElem?_eq_none (by omega)
      rw [List.drop_eq_nil_of_le (by omega)]
      refine ⟨fun z => by simp at z, fun _ => ⟨σ, s, G, ?_, .refl⟩⟩
      unfold loopI
      rw [hget i G gr, e]
theorem for_ret {src : DI} {σ : Loc} {G : Gh} (hs : Fix src σ G ws) (h0 : S σ) (hset : ∀ σ, S σ → ∀ w ∈ ws, g.set w σ = some (σ1 w)) (hS : ∀ w ∈ ws, S (σ1 w))
    (hT : ∀ w ∈ ws, c w = true → ∀ G', Gr G G' → Rt body (σ1 w) G' r) (hF : ∀ w ∈ ws, c w = false → ∀ G', Gr G G' → Nx body (σ1 w) G' (σ1 w)) :
    (ws.any c = true → Rt (sFor src g body) σ G r) ∧ (ws.any c = false → ∃ σ', S σ' ∧ Nx (sFor src g body) σ G σ') := by
  obtain ⟨G1, get, e1, g1, hget⟩ := hs
  obtain ⟨k1, k2⟩ := loopI_ret hget hset hS (fun w hw hc G' gr => hT w hw hc G' (g1.trans gr)) (fun w hw hc G' gr => hF w hw hc G' (g1.trans gr)) (ws.length + 1) 0 σ G1 h0 .refl (Nat.zero_le _) (by omega)
  have step : ∀ o, loopI get g body (ws.length + 1) 0 σ G1 = o → sFor src g body σ G = finS none o := fun o ho => by
    unfold sFor
    rw [e1]
    dsimp only
    rw [if_pos (show lockFree none G = true from rfl), ho]
  refine And.intro (fun z => ?_) fun z => ?_
  · obtain ⟨G2, e2, g2⟩ := k1 z
    exact ⟨G2, by rw [step _ e2]; rfl, g1.trans g2⟩
  · obtain ⟨σ', s', G2, e2, g2⟩ := k2 z
    exact ⟨σ', s', G2, by rw [step _ e2]; rfl, g1.trans g2⟩
end
/-- range(n) -/
theorem Fix.range {d : DA} {σ : Loc} {G : Gh} {j : Int} (h : Pu (d σ) G [.int j]) (h1 : -(2 ^ 62) ≤ j) (h2 : j < 2 ^ 62) : Fix (iR1 d) σ G ((List.range j.toNat).map fun k : Nat => W.int (k : Int)) := by
  obtain ⟨G1, e, g⟩ := h
  refine ⟨G1, getR 0 j.toNat, by unfold iR1 bnd; rw [e]; simp only [srcR1, List.length_map, List.length_range]; rw [if_pos ⟨h1, h2⟩], g, fun i G' _ => ?_⟩
  unfold getR
  rw [List.getElem?_map]
  by_cases hi : i < j.toNat
  · rw [if_pos hi, List.getElem?_range hi]
    simp
  · rw [if_neg hi, List.getElem?_eq_none (by simpa using hi)]
    rfl
end Dn
end
section
set_option Elab.async false
set_option backward.match.sparseCases false
set_option linter.all false
set_option maxRecDepth 100000
set_option maxHeartbeats 4000100
namespace Dn
open PySem
/-! ## what is drawn from -/
/-- all but what is masked stays -/
def Stp (M : Nat → Bool) (G G' : Gh) : Prop := G.length ≤ G'.length ∧ ∀ i, i < G.length → M i = false → G'[i]? = G[i]?
theorem Stp.refl {M : Nat → Bool} {G : Gh} : Stp M G G := ⟨Nat.le_refl _, fun _ _ _ => rfl⟩
theorem Stp.trans {M : Nat → Bool} {G G1 G2 : Gh} (h : Stp M G G1) (h' : Stp M G1 G2) : Stp M G G2 := ⟨Nat.le_trans h.1 h'.1, fun i hi ne => (h'.2 i (Nat.lt_of_lt_of_le hi h.1) ne).trans (h.2 i hi ne)⟩
theorem Gr.stp {M : Nat → Bool} {G G' : Gh} (g : Gr G G') : Stp M G G' := by
  refine ⟨g.len, fun i hi _ => ?_⟩
  obtain ⟨J, rfl⟩ := g
  rw [List.getElem?_append_left hi]
theorem Stp.get {M : Nat → Bool} {G G' : Gh} (h : Stp M G G') {n : Nat} {o : GO} (e : G[n]? = some o) (ne : M n = false) : G'[n]? = some o := by rw [h.2 n (List.getElem?_eq_some_iff.mp e).1 ne]; exact e
theorem Stp.set {M : Nat → Bool} {b : Nat} (hb : M b = true) {G : Gh} {o : GO} : Stp M G (G.set b o) := ⟨by rw [List.length_set]; exact Nat.le_refl _, fun i hi ne => List.getElem?_set_ne (by rintro rfl; rw [hb] at ne; cases ne)⟩
/-- one more is masked -/
def mor (M : Nat → Bool) (n : Nat) : Nat → Bool := fun i => M i || decide (i = n)
theorem Stp.less {M : Nat → Bool} {n : Nat} {G G1 G2 : Gh} (h : Stp M G G1) (h' : Stp (mor M n) G1 G2) (hn : G.length ≤ n) : Stp M G G2 := ⟨Nat.le_trans h.1 h'.1, fun i hi ne => by
  rw [h'.2 i (Nat.lt_of_lt_of_le hi h.1) (by unfold mor; rw [ne]; simp; omega)]
  exact h.2 i hi ne⟩
/-- what is masked is old -/
def Msk (M : Nat → Bool) (b : Nat) (G : Gh) : Prop := M b = true ∧ ∀ i, M i = true → i < G.length
theorem Msk.le {M : Nat → Bool} {b : Nat} {G G' : Gh} (h : Msk M b G) (l : G.length ≤ G'.length) : Msk M b G' := ⟨h.1, fun i hi => Nat.lt_of_lt_of_le (h.2 i hi) l⟩
theorem Msk.new {M : Nat → Bool} {b : Nat} {G : Gh} (h : Msk M b G) {n : Nat} (hn : G.length ≤ n) : M n = false := by
  cases e : M n with
  | false => rfl
  | true => have := h.2 n e; omega
theorem Msk.more {M : Nat → Bool} {b n : Nat} {G : Gh} (h : Msk M b G) (hn : n < G.length) : Msk (mor M n) b G := ⟨by unfold mor; rw [h.1]; rfl, fun i hi => by
  unfold mor at hi
  rw [Bool.or_eq_true, decide_eq_true_eq] at hi
  rcases hi with hi | rfl
  · exact h.2 i hi
  · exact hn⟩
/-- the bag: what is parted, what is mixed, how many came, the cells -/
structure Bag (b : Nat) (G : Gh) : Prop where
  ex : ∃ (q m k : Int) (c : Nat) (cs : List Int), G[b]? = some (.lst [.int q, .int m, .int k, .ref c]) ∧ c < b ∧ G[c]? = some (.lst (cs.map .int)) ∧ 0 ≤ q ∧ (∀ x ∈ cs, 0 ≤ x) ∧ 0 ≤ m ∧ m < 2147483647 ∧ 0 ≤ k
theorem Bag.gr {b : Nat} {G G' : Gh} (h : Bag b G) (g : Gr G G') : Bag b G' := by
  obtain ⟨q, m, k, c, cs, h1, h2, h3, h4⟩ := h.ex
  exact ⟨q, m, k, c, cs, g.get h1, h2, g.get h3, h4⟩
theorem Bag.put {b : Nat} {G : Gh} (h : Bag b G) {n : Nat} {o : GO} (hn : b < n) : Bag b (G.set n o) := by
  obtain ⟨q, m, k, c, cs, h1, h2, h3, h4⟩ := h.ex
  exact ⟨q, m, k, c, cs, by rw [List.getElem?_set_ne (by omega)]; exact h1, h2, by rw [List.getElem?_set_ne (by omega)]; exact h3, h4⟩
theorem item_lst {G : Gh} {n : Nat} {ws : List W} {i : Nat} {w : W} (h : G[n]? = some (.lst ws)) (e : ws[i]? = some w) : itemW (.ref n) (.int i) G = .ok w G := by
  have hl := (List.getElem?_eq_some_iff.mp e).1
  have e2 : ixOf ws.length (i : Int) = some i := by
    unfold ixOf
    rw [if_pos (by omega), if_pos (by exact_mod_cast hl)]
    simp
  simp [itemW, dctQ, ixW, h, e2, e]
theorem set_lst {G : Gh} {n : Nat} {ws : List W} {i : Nat} {v : W} (h : G[n]? = some (.lst ws)) (hi : i < ws.length) : setW (.ref n) (.int i) v G = some (G.set n (.lst (ws.set i v))) := by
  have e2 : ixOf ws.length (i : Int) = some i := by
    unfold ixOf
    rw [if_pos (by omega), if_pos (by exact_mod_cast hi)]
    simp
  simp [setW, h, e2]
/-- yields w, the rest as P says -/
def EV {α : Type} (M : Nat → Bool) (b : Nat) (m : Dn.M α) (G : Gh) (P : α → Gh → Prop) : Prop := ∃ w G', m G = .ok w G' ∧ Stp M G G' ∧ Bag b G' ∧ P w G'
section
variable {α β : Type} {M : Nat → Bool} {b : Nat} {G : Gh}
theorem EV.pu {m : Dn.M α} {a : α} (B : Bag b G) (h : Pu m G a) {P : α → Gh → Prop} (p : ∀ G', Gr G G' → P a G') : EV M b m G P := by
  obtain ⟨G', e, g⟩ := h
  exact ⟨a, G', e, g.stp, B.gr g, p G' g⟩
theorem EV.bnd {m : Dn.M α} {f : α → Dn.M β} {P : α → Gh → Prop} {Q : β → Gh → Prop} (h : EV M b m G P) (k : ∀ a G', Stp M G G' → Bag b G' → P a G' → EV M b (f a) G' Q) : EV M b (Dn.bnd m f) G Q := by
  obtain ⟨a, G1, e, s, B, p⟩ := h
  obtain ⟨a2, G2, e2, s2, B2, p2⟩ := k a G1 s B p
  exact ⟨a2, G2, by unfold Dn.bnd; rw [e]; exact e2, s.trans s2, B2, p2⟩
theorem EV.noX {m : Dn.M W} {P : W → Gh → Prop} (h : EV M b m G P) : EV M b (Dn.noX m) G P := by
  obtain ⟨a, G1, e, r⟩ := h
  exact ⟨a, G1, by unfold Dn.noX; rw [e], r⟩
theorem EV.mono {m : Dn.M α} {P Q : α → Gh → Prop} (h : EV M b m G P) (k : ∀ a G', Stp M G G' → Bag b G' → P a G' → Q a G') : EV M b m G Q := by
  obtain ⟨a, G1, e, s, B, p⟩ := h
  exact ⟨a, G1, e, s, B, k a G1 s B p⟩
theorem EV.stp {m : Dn.M α} {P : α → Gh → Prop} (h : EV M b m G P) : EV M b m G fun a G' => P a G' ∧ Stp M G G' ∧ Bag b G' := by
  obtain ⟨a, G1, e, s, B, p⟩ := h
  exact ⟨a, G1, e, s, B, p, s, B⟩
end
/-! ### straight runs -/
def Ex (d : DE) (σ : Loc) (G : Gh) (w : W) : Prop := d σ G = .ok w G
section
variable {d e o i' : DE} {t : DT} {s s' s2 : DS} {σ : Loc} {G G' : Gh} {w v r x y : W} {i : Nat} {b : Bool}
theorem Ex.var (h : σ[i]? = some (some w) := by rfl) : Ex (dVar i) σ G w := by unfold Ex dVar; rw [h]
theorem Ex.c : Ex (dC w) σ G w := rfl
theorem Ex.d2 {f : D2} (h1 : Ex d σ G w) (h2 : Ex e σ G v) (h3 : f w v G = .ok r G) : Ex (Dn.d2 (fun x y => Dn.noX (f x y)) d e) σ G r := by
  unfold Ex at h1 h2 ⊢
  unfold Dn.d2 bnd
  rw [h1]; dsimp only
  rw [h2]; dsimp only
  unfold Dn.noX
  rw [h3]
theorem Ex.cb1 {F : DF} (h1 : Ex d σ G w) (h3 : F [w] G = .ok r G) : Ex (dCallB F (dCons d dNil)) σ G r := by
  unfold Ex at h1 ⊢
  unfold dCallB dCons dNil bnd
  rw [h1]; dsimp only [bnd, Dn.ret]
  unfold Dn.noX
  rw [h3]
theorem Ex.pu (h : Ex d σ G w) : Pu (d σ) G w := ⟨G, h, .refl⟩
theorem ExT {t : DE} (h : Ex t σ G (.bl b)) : dB t σ G = .ok b G := by
  unfold Ex at h
  unfold dB bnd
  rw [h]
theorem seq_asg (h : Ex d σ G w) : sSeq (sAsg d (gV i)) s σ G = s (σ.set i (some w)) G := by
  unfold Ex at h
  unfold sSeq sAsg sOf
  rw [h] <;> rfl
theorem seq_set (h1 : Ex e σ G v) (h2 : Ex o σ G x) (h3 : Ex i' σ G y) (h4 : setW x y v G = some G') : sSeq (sSet o i' e) s σ G = s σ G' := by
  unfold Ex at h1 h2 h3
  unfold sSeq sSet sOf
  rw [h1]; dsimp only
  rw [h2]; dsimp only
  rw [h3]; dsimp only
  rw [h4]
theorem run_set (h1 : Ex e σ G v) (h2 : Ex o σ G x) (h3 : Ex i' σ G y) (h4 : setW x y v G = some G') : sSet o i' e σ G = .nx σ G' := by
  unfold Ex at h1 h2 h3
  unfold sSet sOf
  rw [h1]; dsimp only
  rw [h2]; dsimp only
  rw [h3]; dsimp only
  rw [h4]
theorem run_asg (h : Ex d σ G w) : sAsg d (gV i) σ G = .nx (σ.set i (some w)) G := by
  unfold Ex at h
  unfold sAsg sOf
  rw [h] <;> rfl
theorem run_ret (h : Ex d σ G w) : sRet d σ G = .rt w G := by
  unfold Ex at h
  unfold sRet sOf
  rw [h]
theorem run_ifT {t : DE} (h : Ex t σ G (.bl true)) : sIf (dB t) s s' σ G = s σ G := by
  unfold sIf sOfT
  rw [ExT h] <;> rfl
theorem run_ifF {t : DE} (h : Ex t σ G (.bl false)) : sIf (dB t) s s' σ G = s' σ G := by
  unfold sIf sOfT
  rw [ExT h] <;> rfl
theorem seq_ifN {t : DE} (h : Ex t σ G (.bl false)) : sSeq (sIf (dB t) s sNext) s' σ G = s' σ G := by
  unfold sSeq
  rw [run_ifF h] <;> rfl
theorem run_seq {σ' : Loc} (h : s σ G = .nx σ' G') : sSeq s s' σ G = s' σ' G' := by
  unfold sSeq
  rw [h]
theorem run_seqR (h : s σ G = .rt w G') : sSeq s s' σ G = .rt w G' := by
  unfold sSeq
  rw [h]
theorem eqIv (i j : Int) (G : Gh) : eqX (.int i) (.int j) G = .ok (.bl (i == j)) G := by
  simp [eqX, emptyQ, eqW, datW, datV, shaped_int, PyData.eqv]
theorem ltIv (i j : Int) (G : Gh) : ltD (.int i) (.int j) G = .ok (.bl (decide (i < j))) G := by
  simp [ltD, ordQ, datW, datV, PySem.W.alike, PySem.W.dataLt_int, notNon, PyData.depth]
theorem gtIv (i j : Int) (G : Gh) : gtD (.int i) (.int j) G = .ok (.bl (decide (j < i))) G := by
  simp [gtD, ordQ, datW, datV, PySem.W.alike, PySem.W.dataLt_int, notNon, PyData.depth]
theorem geIv (i j : Int) (G : Gh) : geD (.int i) (.int j) G = .ok (.bl (!decide (i < j))) G := by
  simp [geD, ordQ, datW, datV, PySem.W.alike, PySem.W.dataLt_int, notNon, PyData.depth]
theorem modIv {i j : Int} (h : 0 < j) (G : Gh) : modW (.int i) (.int j) G = .ok (.int (i % j)) G := if_pos h
theorem fdivIv {i j : Int} (h : 0 < j ∧ j < 1073741824) (G : Gh) : fdivW (.int i) (.int j) G = .ok (.int (i / j)) G := if_pos h
theorem mulIv {i j : Int} (h : (-(2 ^ 64) < i ∧ i < 2 ^ 64) ∨ (-(2 ^ 64) < j ∧ j < 2 ^ 64)) (G : Gh) : mulW (.int i) (.int j) G = .ok (.int (i * j)) G := if_pos h
end
end Dn
end
section
set_option Elab.async false
set_option backward.match.sparseCases false
set_option linter.all false
set_option maxRecDepth 100000
set_option maxHeartbeats 4000100
namespace Dn
open PySem
/-! ## data of a bounded size, none of it in the bag -/
/-- a text, a number: shown shortly -/
theorem txt_add {x y : Str} (hx : PyData.strOk x = true) (hy : PyData.strOk y = true) : PyData.strOk (x ++ y) = true := by
  unfold PyData.strOk at *
  show (x.cps ++ y.cps).all _ = true
  rw [Array.all_append, hx, hy]; rfl
theorem txt_from : ∀ (ts : List Str) (k : Nat) (acc : Str), PyData.strOk acc = true → (∀ t ∈ ts, PyData.strOk t = true) → PyData.strOk (textFrom k acc ts) = true
  | [], _, _, h, _ => h
  | t :: r, k, acc, h, ht => txt_from r (k + 1) _ (txt_add (txt_add h (by split <;> decide +kernel)) (ht t List.mem_cons_self)) fun x hx => ht x (List.mem_cons_of_mem _ hx)
theorem txt_join : ∀ ts : List Str, (∀ t ∈ ts, PyData.strOk t = true) → PyData.strOk (Str.join ", " ts) = true
  | [], _ => by decide +kernel
  | [x], h => h x List.mem_cons_self
  | x :: y :: r, h => txt_add (txt_add (h x List.mem_cons_self) (by decide +kernel)) (txt_join (y :: r) fun t ht => h t (List.mem_cons_of_mem _ ht))
theorem txt_list {ts : List Str} (h : ∀ t ∈ ts, PyData.strOk t = true) : PyData.strOk (listText ts) = true := txt_add (txt_from ts 0 _ (by decide +kernel) h) (by decide +kernel)
theorem txt_tuple {ts : List Str} (h : ∀ t ∈ ts, PyData.strOk t = true) : PyData.strOk (tupleText ts) = true := txt_add (txt_add (by decide +kernel) (txt_join ts h)) (by split <;> decide +kernel)
theorem txt_dict {ts : List Str} (h : ∀ t ∈ ts, PyData.strOk t = true) : PyData.strOk (dictText ts) = true := txt_add (txt_add (by decide +kernel) (txt_join ts h)) (by decide +kernel)
def okAt (d : PyData) : Bool := decide (d.shown.length ≤ 60) && d.showable && PyData.strOk d.shown
def okStr (x : Str) : Bool := PyData.strOk x && decide (x.length ≤ 16) && okAt (.str x)
def isI : W → Bool
  | .int _ => true
  | _ => false
def wide (ws : List W) : Bool := decide (ws.length < 64) || (ws.all isI && decide (ws.length < 1000))
def szs (f : W → Option Nat) : List W → Option Nat
  | [] => some 0
  | w :: ws => match f w, szs f ws with
    | some m, some n => some (m + n)
    | _, _ => none
def szV (M : Nat → Bool) (G : Gh) : Nat → W → Option Nat
  | _, .non => some 1
  | _, .bl _ => some 1
  | _, .int i => if okAt (.int i) = true then some 1 else none
  | _, .str x => if okStr x = true then some 1 else none
  | 0, _ => none
  | f + 1, .tup ws => if wide ws = true then (szs (szV M G f) ws).map (· + 1) else none
  | f + 1, .ref n => if M n = true then none else match G[n]? with
    | some (.lst ws) => if wide ws = true then (szs (szV M G f) ws).map (· + 1) else none
    | some (.dct _ kvs) => match szs (szV M G f) (kvs.map (·.1)), szs (szV M G f) (kvs.map (·.2)) with
      | some x, some y => some (x + y + 1)
      | _, _ => none
    | _ => none
  | _, _ => none
section
variable {M : Nat → Bool} {G G' : Gh}
theorem szs_mono {f g : W → Option Nat} : ∀ {ws : List W} {n : Nat}, (∀ w ∈ ws, ∀ n, f w = some n → g w = some n) → szs f ws = some n → szs g ws = some n
  | [], n, _, h => h
  | w :: ws, n, k, h => by
    unfold szs at h ⊢
    cases e1 : f w with
    | none => rw [e1] at h; cases h
    | some a =>
      cases e2 : szs f ws with
      | none => rw [e1, e2] at h; cases h
      | some c =>
        rw [e1, e2] at h
        rw [k w List.mem_cons_self a e1, szs_mono (fun x hx => k x (List.mem_cons_of_mem _ hx)) e2]
        exact h
theorem szV_stp (s : Stp M G G') : ∀ (f : Nat) {w : W} {n : Nat}, szV M G f w = some n → szV M G' f w = some n
  | f, .non, n, h => by cases f <;> exact h
  | f, .bl _, n, h => by cases f <;> exact h
  | f, .int _, n, h => by cases f <;> exact h
  | f, .str _, n, h => by cases f <;> exact h
  | 0, .tup _, _, h => by cases h
  | 0, .ref _, _, h => by cases h
  | 0, .rol _, _, h => by cases h
  | 0, .ty _, _, h => by cases h
  | 0, .obj _, _, h => by cases h
  | f + 1, .tup ws, n, h => by
    unfold szV at h ⊢
    by_cases hw : wide ws = true
    · rw [if_pos hw] at h ⊢
      rcases Option.map_eq_some_iff.mp h with ⟨a, e, rfl⟩
      rw [szs_mono (fun w _ n => szV_stp s f) e]
      rfl
    · rw [if_neg hw] at h; cases h
  | f + 1, .ref i, n, h => by
    unfold szV at h ⊢
    by_cases hb : M i = true
    · rw [if_pos hb] at h; exact nomatch h
    · rw [if_neg hb] at h ⊢
      cases e : G[i]? with
      | none => rw [e] at h; exact nomatch h
      | some o =>
        rw [e] at h
        rw [s.get e (by simpa using hb)]
        cases o with
        | lst ws =>
          dsimp only at h ⊢
          by_cases hw : wide ws = true
          · rw [if_pos hw] at h ⊢
            rcases Option.map_eq_some_iff.mp h with ⟨a, e, rfl⟩
            rw [szs_mono (fun w _ n => szV_stp s f) e]
            rfl
          · rw [if_neg hw] at h; cases h
        | dct l kvs =>
          dsimp only at h ⊢
          cases e1 : szs (szV M G f) (kvs.map (·.1)) with
          | none => rw [e1] at h; cases h
          | some x =>
            cases e2 : szs (szV M G f) (kvs.map (·.2)) with
            | none => rw [e1, e2] at h; cases h
            | some y =>
              rw [e1, e2] at h
              rw [szs_mono (fun w _ n => szV_stp s f) e1, szs_mono (fun w _ n => szV_stp s f) e2]
              exact h
        | ins _ _ => cases h
        | rsv => cases h
  | f + 1, .rol _, _, h => by cases h
  | f + 1, .ty _, _, h => by cases h
  | f + 1, .obj _, _, h => by cases h
theorem szV_up : ∀ (f g : Nat) {w : W} {n : Nat}, f ≤ g → szV M G f w = some n → szV M G g w = some n
  | f, g, .non, n, _, h => by cases f <;> cases g <;> exact h
  | f, g, .bl _, n, _, h => by cases f <;> cases g <;> exact h
  | f, g, .int _, n, _, h => by cases f <;> cases g <;> exact h
  | f, g, .str _, n, _, h => by cases f <;> cases g <;> exact h
  | 0, _, .tup _, _, _, h => by cases h
  | 0, _, .ref _, _, _, h => by cases h
  | f + 1, 0, _, _, hl, _ => absurd hl (by omega)
  | f + 1, g + 1, .tup ws, n, hl, h => by
    unfold szV at h ⊢
    by_cases hw : wide ws = true
    · rw [if_pos hw] at h ⊢
      rcases Option.map_eq_some_iff.mp h with ⟨a, e, rfl⟩
      rw [szs_mono (fun w _ n => szV_up f g (by omega)) e]
      rfl
    · rw [if_neg hw] at h; cases h
  | f + 1, g + 1, .ref i, n, hl, h => by
    unfold szV at h ⊢
    by_cases hb : M i = true
    · rw [if_pos hb] at h; exact nomatch h
    · rw [if_neg hb] at h ⊢
      cases e : G[i]? with
      | none => rw [e] at h; exact nomatch h
      | some o =>
        rw [e] at h
        cases o with
        | lst ws =>
          dsimp only at h ⊢
          by_cases hw : wide ws = true
          · rw [if_pos hw] at h ⊢
            rcases Option.map_eq_some_iff.mp h with ⟨a, e, rfl⟩
            rw [szs_mono (fun w _ n => szV_up f g (by omega)) e]
            rfl
          · rw [if_neg hw] at h; cases h
        | dct l kvs =>
          dsimp only at h ⊢
          cases e1 : szs (szV M G f) (kvs.map (·.1)) with
          | none => rw [e1] at h; cases h
          | some x =>
            cases e2 : szs (szV M G f) (kvs.map (·.2)) with
            | none => rw [e1, e2] at h; cases h
            | some y =>
              rw [e1, e2] at h
              rw [szs_mono (fun w _ n => szV_up f g (by omega)) e1, szs_mono (fun w _ n => szV_up f g (by omega)) e2]
              exact h
        | ins _ _ => cases h
        | rsv => cases h
  | 0, _, .rol _, _, _, h => by cases h
  | 0, _, .ty _, _, _, h => by cases h
  | 0, _, .obj _, _, _, h => by cases h
  | f + 1, g + 1, .rol _, _, _, h => by cases h
  | f + 1, g + 1, .ty _, _, _, h => by cases h
  | f + 1, g + 1, .obj _, _, _, h => by cases h
/-! what it reads as -/
def Rd1 (f : Nat) (n : Nat) (d : PyData) : Prop := d.showable = true ∧ d.depth ≤ f ∧ d.shown.length + 2 ≤ 65 * n ∧ PyData.strOk d.shown = true
theorem datVs_of {rec : Nat → Option PyData} {f : Nat} {g : W → Option Nat} : ∀ {ws : List W} {n : Nat}, (∀ w ∈ ws, ∀ n, g w = some n → ∃ d, datV rec w = some d ∧ Rd1 f n d) → szs g ws = some n → (∀ w ∈ ws, ∀ n, g w = some n → 0 < n) →
    ∃ ds, datVs rec ws = some ds ∧ PyData.showableAll ds = true ∧ PyData.depthAll ds ≤ f ∧ ((PyData.shownAll ds).map (·.length)).sum + 2 * ds.length ≤ 65 * n ∧ ds.length = ws.length ∧ ws.length ≤ n ∧ ∀ t ∈ PyData.shownAll ds, PyData.strOk t = true
  | [], n, _, h, _ => by
    cases h
    exact ⟨[], rfl, rfl, by simp [PyData.depthAll], by simp [PyData.shownAll], rfl, Nat.le_refl _, fun t ht => by cases ht⟩
  | w :: ws, n, k, h, p => by
    unfold szs at h
    cases e1 : g w with
    | none => rw [e1] at h; cases h
    | some a =>
      cases e2 : szs g ws with
      | none => rw [e1, e2] at h; cases h
      | some c =>
        rw [e1, e2] at h
        cases h
        obtain ⟨d, d1, d2, d3, d4, d5⟩ := k w List.mem_cons_self a e1
        obtain ⟨ds, h1, h2, h3, h4, h5, h6, h7⟩ := datVs_of (fun x hx => k x (List.mem_cons_of_mem _ hx)) e2 (fun x hx => p x (List.mem_cons_of_mem _ hx))
        refine ⟨d :: ds, by unfold datVs; rw [d1, h1], by simp [PyData.showableAll, d2, h2], by simp [PyData.depthAll]; omega, ?_, by simp [h5], ?_, fun t ht => (List.mem_cons.mp ht).elim (fun e => e ▸ d5) (h7 t)⟩
        · simp only [PyData.shownAll, List.map_cons, List.sum_cons, List.length_cons]; omega
        · have := p w List.mem_cons_self a e1
          rw [List.length_cons]; omega
theorem shownAll_len : ∀ ds : List PyData, (PyData.shownAll ds).length = ds.length
  | [] => rfl
  | d :: ds => by simp [PyData.shownAll, shownAll_len ds]
theorem szV_pos : ∀ {f : Nat} {w : W} {n : Nat}, szV M G f w = some n → 0 < n := by
  intro f w n h
  unfold szV at h
  split at h
  · cases h; decide
  · cases h; decide
  · split at h <;> cases h; decide
  · split at h <;> cases h; decide
  · cases h
  · split at h
    · rcases Option.map_eq_some_iff.mp h with ⟨a, _, rfl⟩
      exact Nat.succ_pos _
    · cases h
  · split at h
    · cases h
    · split at h
      · split at h
        · rcases Option.map_eq_some_iff.mp h with ⟨a, _, rfl⟩
          exact Nat.succ_pos _
        · cases h
      · split at h
        · cases h; exact Nat.succ_pos _
        · cases h
      · cases h
  · cases h
theorem kv_of : ∀ {ks vs : List PyData}, ks.length = vs.length → PyData.showableAll ks = true → PyData.showableAll vs = true → PyData.showableKv (ks.zip vs) = true ∧ PyData.depthKv (ks.zip vs) ≤ max (PyData.depthAll ks) (PyData.depthAll vs) ∧
    ((PyData.shownKv (ks.zip vs)).map (·.length)).sum = ((PyData.shownAll ks).map (·.length)).sum + ((PyData.shownAll vs).map (·.length)).sum + 2 * ks.length ∧ (PyData.shownKv (ks.zip vs)).length = ks.length ∧ ((∀ t ∈ PyData.shownAll ks, PyData.strOk t = true) → (∀ t ∈ PyData.shownAll vs, PyData.strOk t = true) → ∀ t ∈ PyData.shownKv (ks.zip vs), PyData.strOk t = true)
  | [], [], _, _, _ => by simp [PyData.showableKv, PyData.depthKv, PyData.shownKv, PyData.shownAll]
  | [], _ :: _, h, _, _ => by cases h
  | _ :: _, [], h, _, _ => by cases h
  | k :: ks, v :: vs, h, h1, h2 => by
    simp only [PyData.showableAll, Bool.and_eq_true] at h1 h2
    obtain ⟨a, c, d, e, z⟩ := kv_of (Nat.succ.inj h) h1.2 h2.2
    refine ⟨by simp [PyData.showableKv, h1.1, h2.1, a], by simp only [List.zip_cons_cons, PyData.depthKv, PyData.depthAll]; omega, ?_, by simp [PyData.shownKv, e], fun p q t ht => (List.mem_cons.mp ht).elim (fun e => e ▸ txt_add (txt_add (p _ List.mem_cons_self) (by decide +kernel)) (q _ List.mem_cons_self)) (z (fun t ht => p t (List.mem_cons_of_mem _ ht)) (fun t ht => q t (List.mem_cons_of_mem _ ht)) t)⟩
    simp only [List.zip_cons_cons, PyData.shownKv, PyData.shownAll, List.map_cons, List.sum_cons, List.length_cons, d]
    have q : (k.shown ++ ": " ++ v.shown).length = k.shown.length + 2 + v.shown.length := by rw [strLen_append, strLen_append]; rfl
    rw [q]; omega
theorem szV_dat : ∀ (f k : Nat) {w : W} {n : Nat}, f ≤ k → szV M G f w = some n → ∃ d, datV (datR G k) w = some d ∧ Rd1 f n d
  | f, k, .non, n, _, h => by
    have e : n = 1 := by cases f <;> (cases h; rfl)
    subst e
    exact ⟨.none, by simp [datV], rfl, by simp [PyData.depth], by decide +kernel, by decide +kernel⟩
  | f, k, .bl x, n, _, h => by
    have e : n = 1 := by cases f <;> (cases h; rfl)
    subst e
    exact ⟨.bool x, by simp [datV], rfl, by simp [PyData.depth], by cases x <;> decide +kernel, by cases x <;> decide +kernel⟩
  | f, k, .int i, n, _, h => by
    have e : okAt (.int i) = true ∧ n = 1 := by
      cases f <;>
      · unfold szV at h
        split at h
        · cases h; exact ⟨by assumption, rfl⟩
        · cases h
    obtain ⟨e, rfl⟩ := e
    unfold okAt at e
    rw [Bool.and_eq_true, Bool.and_eq_true, decide_eq_true_eq] at e
    exact ⟨.int i, by simp [datV], e.1.2, by simp [PyData.depth], by omega, e.2⟩
  | f, k, .str x, n, _, h => by
    have e : okStr x = true ∧ n = 1 := by
      cases f <;>
      · unfold szV at h
        split at h
        · cases h; exact ⟨by assumption, rfl⟩
        · cases h
    obtain ⟨e, rfl⟩ := e
    unfold okStr okAt at e
    simp only [Bool.and_eq_true, decide_eq_true_eq] at e
    exact ⟨.str x, by simp [datV], e.2.1.2, by simp [PyData.depth], by omega, e.2.2⟩
  | 0, _, .tup _, _, _, h => by cases h
  | 0, _, .ref _, _, _, h => by cases h
  | f + 1, 0, _, _, hl, _ => absurd hl (by omega)
  | f + 1, k + 1, .tup ws, n, hl, h => by
    unfold szV at h
    by_cases hw : wide ws = true
    · rw [if_pos hw] at h
      rcases Option.map_eq_some_iff.mp h with ⟨a, e, rfl⟩
      obtain ⟨ds, h1, h2, h3, h4, h5, h6, h7⟩ := datVs_of (rec := datR G (k + 1)) (f := f) (fun w _ n hn => szV_dat f (k + 1) (by omega) hn) e fun w _ n hn => szV_pos hn
      refine ⟨.tuple ds, by simp [datV, h1], by simpa [PyData.showable] using h2, by simp [PyData.depth]; omega, ?_, by simp only [PyData.shown]; exact txt_tuple h7⟩
      have := tupleText_len_le (PyData.shownAll ds)
      rw [shownAll_len] at this
      show (PyData.shown (.tuple ds)).length + 2 ≤ _
      simp only [PyData.shown]
      omega
    · rw [if_neg hw] at h; cases h
  | f + 1, k + 1, .ref i, n, hl, h => by
    unfold szV at h
    by_cases hb : M i = true
    · rw [if_pos hb] at h; exact nomatch h
    · rw [if_neg hb] at h
      cases e : G[i]? with
      | none => rw [e] at h; exact nomatch h
      | some o =>
        rw [e] at h
        have dr : datV (datR G (k + 1)) (.ref i) = datO (datR G k) o := by simp only [datV, datR, e]
        rw [dr]
        cases o with
        | lst ws =>
          dsimp only at h
          by_cases hw : wide ws = true
          · rw [if_pos hw] at h
            rcases Option.map_eq_some_iff.mp h with ⟨a, e, rfl⟩
            obtain ⟨ds, h1, h2, h3, h4, h5, h6, h7⟩ := datVs_of (rec := datR G k) (f := f) (fun w _ n hn => szV_dat f k (by omega) hn) e fun w _ n hn => szV_pos hn
            refine ⟨.list ds, by simp [datO, h1], by simpa [PyData.showable] using h2, by simp [PyData.depth]; omega, ?_, by simp only [PyData.shown]; exact txt_list h7⟩
            have := listText_len_le (PyData.shownAll ds)
            rw [shownAll_len] at this
            simp only [PyData.shown]
            omega
          · rw [if_neg hw] at h; cases h
        | dct l kvs =>
          dsimp only at h
          cases e1 : szs (szV M G f) (kvs.map (·.1)) with
          | none => rw [e1] at h; cases h
          | some x =>
            cases e2 : szs (szV M G f) (kvs.map (·.2)) with
            | none => rw [e1, e2] at h; cases h
            | some y =>
              rw [e1, e2] at h
              cases h
              obtain ⟨ds, h1, h2, h3, h4, h5, h6, h7⟩ := datVs_of (rec := datR G k) (f := f) (fun w _ n hn => szV_dat f k (by omega) hn) e1 fun w _ n hn => szV_pos hn
              obtain ⟨es, g1, g2, g3, g4, g5, g6, g7⟩ := datVs_of (rec := datR G k) (f := f) (fun w _ n hn => szV_dat f k (by omega) hn) e2 fun w _ n hn => szV_pos hn
              have ln : ds.length = es.length := by rw [h5, g5]; simp
              obtain ⟨a, c, d, e, z⟩ := kv_of ln h2 g2
              refine ⟨.dict (ds.zip es), by simp only [datO, h1, g1], by simpa [PyData.showable] using a, by simp [PyData.depth]; omega, ?_, by simp only [PyData.shown]; exact txt_dict (z h7 g7)⟩
              have := dictText_len_le (PyData.shownKv (ds.zip es))
              rw [e, d] at this
              simp only [PyData.shown]
              omega
        | ins _ _ => cases h
        | rsv => cases h
  | 0, _, .rol _, _, _, h => by cases h
  | 0, _, .ty _, _, _, h => by cases h
  | 0, _, .obj _, _, _, h => by cases h
  | f + 1, k + 1, .rol _, _, _, h => by cases h
  | f + 1, k + 1, .ty _, _, _, h => by cases h
  | f + 1, k + 1, .obj _, _, _, h => by cases h
/-- what is read stays -/
theorem datVs_same {r r' : Nat → Option PyData} : ∀ {ws : List W}, (∀ w ∈ ws, datV r' w = datV r w) → datVs r' ws = datVs r ws
  | [], _ => rfl
  | w :: ws, h => by
    unfold datVs
    rw [h w List.mem_cons_self, datVs_same fun x hx => h x (List.mem_cons_of_mem _ hx)]
theorem szs_each {g : W → Option Nat} : ∀ {ws : List W} {n : Nat}, szs g ws = some n → ∀ w ∈ ws, ∃ n, g w = some n
  | [], _, _, w, hw => by cases hw
  | x :: ws, n, h, w, hw => by
    unfold szs at h
    cases e1 : g x with
    | none => rw [e1] at h; cases h
    | some a =>
      cases e2 : szs g ws with
      | none => rw [e1, e2] at h; cases h
      | some c =>
        obtain rfl | hw := List.mem_cons.mp hw
        · exact ⟨a, e1⟩
        · exact szs_each e2 w hw
theorem szV_same (st : Stp M G G') : ∀ (f k : Nat) {w : W} {n : Nat}, szV M G f w = some n → datV (datR G' k) w = datV (datR G k) w
  | f, k, .non, n, _ => by simp [datV]
  | f, k, .bl _, n, _ => by simp [datV]
  | f, k, .int _, n, _ => by simp [datV]
  | f, k, .str _, n, _ => by simp [datV]
  | 0, _, .tup _, _, h => by cases h
  | 0, _, .ref _, _, h => by cases h
  | f + 1, k, .tup ws, n, h => by
    unfold szV at h
    by_cases hw : wide ws = true
    · rw [if_pos hw] at h
      rcases Option.map_eq_some_iff.mp h with ⟨a, e, rfl⟩
      simp only [datV]
      rw [datVs_same fun w hw => let ⟨n, e⟩ := szs_each e w hw; szV_same st f k e]
    · rw [if_neg hw] at h; cases h
  | f + 1, 0, .ref i, n, h => by simp [datV, datR]
  | f + 1, k + 1, .ref i, n, h => by
    unfold szV at h
    by_cases hb : M i = true
    · rw [if_pos hb] at h; exact nomatch h
    · rw [if_neg hb] at h
      simp only [datV, datR]
      cases e : G[i]? with
      | none => rw [e] at h; exact nomatch h
      | some o =>
        rw [st.get e (by simpa using hb)]
        rw [e] at h
        cases o with
        | lst ws =>
          dsimp only at h
          by_cases hw : wide ws = true
          · rw [if_pos hw] at h
            rcases Option.map_eq_some_iff.mp h with ⟨a, e, rfl⟩
            simp only [datO]
            rw [datVs_same fun w hw => let ⟨n, e⟩ := szs_each e w hw; szV_same st f k e]
          · rw [if_neg hw] at h; cases h
        | dct l kvs =>
          dsimp only at h
          cases e1 : szs (szV M G f) (kvs.map (·.1)) with
          | none => rw [e1] at h; cases h
          | some x =>
            cases e2 : szs (szV M G f) (kvs.map (·.2)) with
            | none => rw [e1, e2] at h; cases h
            | some y =>
              simp only [datO]
              rw [datVs_same fun w hw => let ⟨n, e⟩ := szs_each e1 w hw; szV_same st f k e, datVs_same fun w hw => let ⟨n, e⟩ := szs_each e2 w hw; szV_same st f k e]
        | ins _ _ => cases h
        | rsv => cases h
  | 0, _, .rol _, _, h => by cases h
  | 0, _, .ty _, _, h => by cases h
  | 0, _, .obj _, _, h => by cases h
  | f + 1, _, .rol _, _, h => by cases h
  | f + 1, _, .ty _, _, h => by cases h
  | f + 1, _, .obj _, _, h => by cases h
end
end Dn
end
section
set_option Elab.async false
set_option backward.match.sparseCases false
set_option linter.all false
set_option maxRecDepth 100000
set_option maxHeartbeats 4000100
namespace Dn
open PySem
def GV (M : Nat → Bool) (G : Gh) (f s : Nat) (w : W) : Prop := ∃ n, szV M G f w = some n ∧ n ≤ s
def GVs (M : Nat → Bool) (G : Gh) (f s : Nat) (ws : List W) : Prop := ∃ n, szs (szV M G f) ws = some n ∧ n ≤ s
section
variable {M : Nat → Bool} {G G' : Gh} {f f' s s' : Nat} {w : W} {ws us : List W}
theorem GV.stp (h : GV M G f s w) (st : Stp M G G') : GV M G' f s w := let ⟨n, e, l⟩ := h; ⟨n, szV_stp st f e, l⟩
theorem GVs.stp (h : GVs M G f s ws) (st : Stp M G G') : GVs M G' f s ws := let ⟨n, e, l⟩ := h; ⟨n, szs_mono (fun w _ n => szV_stp st f) e, l⟩
theorem GV.mono (h : GV M G f s w) (hf : f ≤ f' := by omega) (hs : s ≤ s' := by omega) : GV M G f' s' w := let ⟨n, e, l⟩ := h; ⟨n, szV_up f f' hf e, Nat.le_trans l hs⟩
theorem GVs.mono (h : GVs M G f s ws) (hf : f ≤ f' := by omega) (hs : s ≤ s' := by omega) : GVs M G f' s' ws := let ⟨n, e, l⟩ := h; ⟨n, szs_mono (fun w _ n => szV_up f f' hf) e, Nat.le_trans l hs⟩
theorem GVs.nil : GVs M G f s [] := ⟨0, rfl, Nat.zero_le _⟩
theorem GVs.cons (h : GV M G f s w) (h' : GVs M G f s' ws) : GVs M G f (s + s') (w :: ws) := by
  obtain ⟨n, e, l⟩ := h
  obtain ⟨m, e', l'⟩ := h'
  exact ⟨n + m, by unfold szs; rw [e, e'], by omega⟩
theorem GVs.inv (h : GVs M G f s (w :: ws)) : ∃ s1 s2, GV M G f s1 w ∧ GVs M G f s2 ws ∧ s1 + s2 ≤ s := by
  obtain ⟨n, e, l⟩ := h
  unfold szs at e
  cases e1 : szV M G f w with
  | none => rw [e1] at e; cases e
  | some a =>
    cases e2 : szs (szV M G f) ws with
    | none => rw [e1, e2] at e; cases e
    | some c =>
      rw [e1, e2] at e
      cases e
      exact ⟨a, c, ⟨a, e1, Nat.le_refl _⟩, ⟨c, e2, Nat.le_refl _⟩, l⟩
theorem GVs.mem : ∀ {ws : List W} {s : Nat}, GVs M G f s ws → w ∈ ws → GV M G f s w
  | [], _, _, h => by cases h
  | x :: ws, s, h, m => by
    obtain ⟨s1, s2, a, c, l⟩ := h.inv
    obtain rfl | m := List.mem_cons.mp m
    · exact a.mono
    · exact (GVs.mem c m).mono
theorem GV.pos (h : GV M G f s w) : 0 < s := let ⟨n, e, l⟩ := h; Nat.lt_of_lt_of_le (szV_pos e) l
theorem GVs.len : ∀ {ws : List W} {s : Nat}, GVs M G f s ws → ws.length ≤ s
  | [], _, _ => Nat.zero_le _
  | x :: ws, s, h => by
    obtain ⟨s1, s2, a, c, l⟩ := h.inv
    have := a.pos
    have := GVs.len c
    rw [List.length_cons]; omega
theorem GVs.append : ∀ {ws : List W} {s : Nat}, GVs M G f s ws → GVs M G f s' us → GVs M G f (s + s') (ws ++ us)
  | [], s, _, h => h.mono
  | x :: ws, s, h, h' => by
    obtain ⟨s1, s2, a, c, l⟩ := h.inv
    exact (GVs.cons a (GVs.append c h')).mono
theorem GVs.take : ∀ {ws : List W} {s : Nat} (n : Nat), GVs M G f s ws → GVs M G f s (ws.take n)
  | _, _, 0, _ => by rw [List.take_zero]; exact GVs.nil
  | [], _, _ + 1, h => h
  | x :: ws, s, n + 1, h => by
    obtain ⟨s1, s2, a, c, l⟩ := h.inv
    rw [List.take_succ_cons]
    exact (GVs.cons a (GVs.take n c)).mono
theorem GVs.drop : ∀ {ws : List W} {s : Nat} (n : Nat), GVs M G f s ws → GVs M G f s (ws.drop n)
  | _, _, 0, h => h
  | [], _, _ + 1, h => h
  | x :: ws, s, n + 1, h => by
    obtain ⟨s1, s2, a, c, l⟩ := h.inv
    rw [List.drop_succ_cons]
    exact (GVs.drop n c).mono
theorem GVs.split (h : GVs M G f s ws) (n : Nat) : ∃ s1 s2, GVs M G f s1 (ws.take n) ∧ GVs M G f s2 (ws.drop n) ∧ s1 + s2 ≤ s := by
  induction ws generalizing s n with
  | nil => exact ⟨0, 0, by rw [List.take_nil]; exact GVs.nil, by rw [List.drop_nil]; exact GVs.nil, Nat.zero_le _⟩
  | cons x ws ih =>
    cases n with
    | zero => exact ⟨0, s, by rw [List.take_zero]; exact GVs.nil, h, by omega⟩
    | succ n =>
      obtain ⟨s1, s2, a, c, l⟩ := h.inv
      obtain ⟨t1, t2, d, e, l2⟩ := ih c n
      exact ⟨s1 + t1, t2, GVs.cons a d, e, by omega⟩
theorem wide_few (h : ws.length < 64) : wide ws = true := by unfold wide; simp [h]
theorem GV.tup (h : GVs M G f s ws) (hw : wide ws = true) : GV M G (f + 1) (s + 1) (.tup ws) := by
  obtain ⟨n, e, l⟩ := h
  exact ⟨n + 1, by unfold szV; rw [if_pos hw, e]; rfl, by omega⟩
theorem GV.lst {n : Nat} (g : G[n]? = some (.lst ws)) (hm : M n = false) (h : GVs M G f s ws) (hw : wide ws = true) : GV M G (f + 1) (s + 1) (.ref n) := by
  obtain ⟨m, e, l⟩ := h
  refine ⟨m + 1, ?_, by omega⟩
  unfold szV
  rw [if_neg (by rw [hm]; decide), g]
  dsimp only
  rw [if_pos hw, e]
  rfl
theorem GV.atom {w : W} (h : szV M G 0 w = some 1) : GV M G f 1 w := ⟨1, szV_up 0 f (Nat.zero_le _) h, Nat.le_refl _⟩
/-- fewer masks -/
theorem szV_less {M M' : Nat → Bool} (hm : ∀ i, M' i = false → M i = false) : ∀ (f : Nat) {w : W} {n : Nat}, szV M' G f w = some n → szV M G f w = some n
  | f, .non, n, h => by cases f <;> exact h
  | f, .bl _, n, h => by cases f <;> exact h
  | f, .int _, n, h => by cases f <;> exact h
  | f, .str _, n, h => by cases f <;> exact h
  | 0, .tup _, _, h => by cases h
  | 0, .ref _, _, h => by cases h
  | 0, .rol _, _, h => by cases h
  | 0, .ty _, _, h => by cases h
  | 0, .obj _, _, h => by cases h
  | f + 1, .tup ws, n, h => by
    unfold szV at h ⊢
    by_cases hw : wide ws = true
    · rw [if_pos hw] at h ⊢
      rcases Option.map_eq_some_iff.mp h with ⟨a, e, rfl⟩
      rw [szs_mono (fun w _ n => szV_less hm f) e]
      rfl
    · rw [if_neg hw] at h; cases h
  | f + 1, .ref i, n, h => by
    unfold szV at h ⊢
    by_cases hb : M' i = true
    · rw [if_pos hb] at h; exact nomatch h
    · rw [if_neg hb] at h
      rw [if_neg (by rw [hm i (by simpa using hb)]; decide)]
      cases e : G[i]? with
      | none => rw [e] at h; exact nomatch h
      | some o =>
        rw [e] at h
        cases o with
        | lst ws =>
          dsimp only at h ⊢
          by_cases hw : wide ws = true
          · rw [if_pos hw] at h ⊢
            rcases Option.map_eq_some_iff.mp h with ⟨a, e, rfl⟩
            rw [szs_mono (fun w _ n => szV_less hm f) e]
            rfl
          · rw [if_neg hw] at h; cases h
        | dct l kvs =>
          dsimp only at h ⊢
          cases e1 : szs (szV M' G f) (kvs.map (·.1)) with
          | none => rw [e1] at h; cases h
          | some x =>
            cases e2 : szs (szV M' G f) (kvs.map (·.2)) with
            | none => rw [e1, e2] at h; cases h
            | some y =>
              rw [e1, e2] at h
              rw [szs_mono (fun w _ n => szV_less hm f) e1, szs_mono (fun w _ n => szV_less hm f) e2]
              exact h
        | ins _ _ => cases h
        | rsv => cases h
  | f + 1, .rol _, _, h => by cases h
  | f + 1, .ty _, _, h => by cases h
  | f + 1, .obj _, _, h => by cases h
/-- what is not there is not met -/
theorem szV_more {n0 : Nat} (h0 : G[n0]? = none) : ∀ (f : Nat) {w : W} {n : Nat}, szV M G f w = some n → szV (mor M n0) G f w = some n
  | f, .non, n, h => by cases f <;> exact h
  | f, .bl _, n, h => by cases f <;> exact h
  | f, .int _, n, h => by cases f <;> exact h
  | f, .str _, n, h => by cases f <;> exact h
  | 0, .tup _, _, h => by cases h
  | 0, .ref _, _, h => by cases h
  | 0, .rol _, _, h => by cases h
  | 0, .ty _, _, h => by cases h
  | 0, .obj _, _, h => by cases h
  | f + 1, .tup ws, n, h => by
    unfold szV at h ⊢
    by_cases hw : wide ws = true
    · rw [if_pos hw] at h ⊢
      rcases Option.map_eq_some_iff.mp h with ⟨a, e, rfl⟩
      rw [szs_mono (fun w _ n => szV_more h0 f) e]
      rfl
    · rw [if_neg hw] at h; cases h
  | f + 1, .ref i, n, h => by
    unfold szV at h ⊢
    by_cases hb : M i = true
    · rw [if_pos hb] at h; exact nomatch h
    · rw [if_neg hb] at h
      cases e : G[i]? with
      | none => rw [e] at h; exact nomatch h
      | some o =>
        have ne : i ≠ n0 := by rintro rfl; rw [h0] at e; cases e
        have hb' : M i = false := by simpa using hb
        rw [if_neg (by unfold mor; rw [hb']; simp [ne])]
        rw [e] at h
        cases o with
        | lst ws =>
          dsimp only at h ⊢
          by_cases hw : wide ws = true
          · rw [if_pos hw] at h ⊢
            rcases Option.map_eq_some_iff.mp h with ⟨a, e, rfl⟩
            rw [szs_mono (fun w _ n => szV_more h0 f) e]
            rfl
          · rw [if_neg hw] at h; cases h
        | dct l kvs =>
          dsimp only at h ⊢
          cases e1 : szs (szV M G f) (kvs.map (·.1)) with
          | none => rw [e1] at h; cases h
          | some x =>
            cases e2 : szs (szV M G f) (kvs.map (·.2)) with
            | none => rw [e1, e2] at h; cases h
            | some y =>
              rw [e1, e2] at h
              rw [szs_mono (fun w _ n => szV_more h0 f) e1, szs_mono (fun w _ n => szV_more h0 f) e2]
              exact h
        | ins _ _ => cases h
        | rsv => cases h
  | f + 1, .rol _, _, h => by cases h
  | f + 1, .ty _, _, h => by cases h
  | f + 1, .obj _, _, h => by cases h
theorem GVs.less {n0 : Nat} (h : GVs (mor M n0) G f s ws) : GVs M G f s ws := let ⟨n, e, l⟩ := h; ⟨n, szs_mono (fun w _ n => szV_less (fun i hi => by unfold mor at hi; rw [Bool.or_eq_false_iff] at hi; exact hi.1) f) e, l⟩
theorem GV.less {n0 : Nat} (h : GV (mor M n0) G f s w) : GV M G f s w := let ⟨n, e, l⟩ := h; ⟨n, szV_less (fun i hi => by unfold mor at hi; rw [Bool.or_eq_false_iff] at hi; exact hi.1) f e, l⟩
theorem GVs.more {n0 : Nat} (h : GVs M G f s ws) (h0 : G[n0]? = none) : GVs (mor M n0) G f s ws := let ⟨n, e, l⟩ := h; ⟨n, szs_mono (fun w _ n => szV_more h0 f) e, l⟩
theorem GV.more {n0 : Nat} (h : GV M G f s w) (h0 : G[n0]? = none) : GV (mor M n0) G f s w := let ⟨n, e, l⟩ := h; ⟨n, szV_more h0 f e, l⟩
/-- a list of k things -/
def LV (M : Nat → Bool) (G : Gh) (f s k : Nat) (w : W) : Prop := ∃ n ws, w = .ref n ∧ M n = false ∧ G[n]? = some (.lst ws) ∧ ws.length = k ∧ GVs M G f s ws
theorem LV.stp {k : Nat} (h : LV M G f s k w) (st : Stp M G G') : LV M G' f s k w := by
  obtain ⟨n, ws, rfl, hm, g, l, h⟩ := h
  exact ⟨n, ws, rfl, hm, st.get g hm, l, h.stp st⟩
theorem LV.gv {k : Nat} (h : LV M G f s k w) (hk : k < 64) : GV M G (f + 1) (s + 1) w := by
  obtain ⟨n, ws, rfl, hm, g, l, h⟩ := h
  exact GV.lst g hm h (wide_few (by omega))
end
/-! ### expressions -/
section
variable {M : Nat → Bool} {b : Nat} {G : Gh} {f s s1 s2 k k1 k2 : Nat} {σ : Loc} {d e : DE} {ds : DA}
theorem EV.c {w : W} (B : Bag b G) (h : szV M G 0 w = some 1) : EV M b (dC w σ) G fun w G' => GV M G' f 1 w := EV.pu B Pu.c fun G' g => (GV.atom h).stp g.stp
theorem EV.cs {w : W} {P : W → Gh → Prop} (B : Bag b G) (h : P w G) : EV M b (dC w σ) G P := ⟨w, G, rfl, .refl, B, h⟩
theorem EV.var {i : Nat} {w : W} {P : W → Gh → Prop} (B : Bag b G) (h : σ[i]? = some (some w)) (p : P w G) : EV M b (dVar i σ) G P := ⟨w, G, by unfold dVar; rw [h], .refl, B, p⟩
theorem EV.nil (B : Bag b G) : EV M b (dNil σ) G fun ws G' => GVs M G' f 0 ws ∧ ws.length = 0 := ⟨[], G, rfl, .refl, B, GVs.nil, rfl⟩
theorem EV.cons (h1 : EV M b (d σ) G fun w G' => GV M G' f s1 w) (h2 : ∀ G', Stp M G G' → Bag b G' → EV M b (ds σ) G' fun ws G' => GVs M G' f s2 ws ∧ ws.length = k) : EV M b (dCons d ds σ) G fun ws G' => GVs M G' f (s1 + s2) ws ∧ ws.length = k + 1 :=
  EV.bnd h1 fun w G1 st1 B1 p1 => EV.bnd (EV.stp (h2 G1 st1 B1)) fun ws G2 st2 B2 ⟨⟨p2, l2⟩, st3, _⟩ => ⟨_, G2, rfl, .refl, B2, GVs.cons (p1.stp st3) p2, by simp [l2]⟩
theorem EV.tup (h : EV M b (ds σ) G fun ws G' => GVs M G' f s ws ∧ ws.length = k) (hk : k < 64 := by decide) : EV M b (dTup ds σ) G fun w G' => GV M G' (f + 1) (s + 1) w :=
  EV.bnd h fun ws G1 st B ⟨p, l⟩ => by
    rw [if_pos (by omega)]
    exact ⟨_, G1, rfl, .refl, B, GV.tup p (wide_few (by omega))⟩
theorem EV.lst (K : Msk M b G) (h : EV M b (ds σ) G fun ws G' => GVs M G' f s ws ∧ ws.length = k) (hk : k ≤ 1000 := by decide) : EV M b (dLst ds σ) G fun w G' => LV M G' f s k w :=
  EV.bnd h fun ws G1 st B ⟨p, l⟩ => by
    refine ⟨.ref G1.length, G1 ++ [.lst ws], if_pos (by omega), Gr.one.stp, B.gr .one, G1.length, ws, rfl, (K.le st.1).new (Nat.le_refl _), by simp, l, p.stp Gr.one.stp⟩
theorem EV.add (K : Msk M b G) (h1 : EV M b (d σ) G fun w G' => LV M G' f s1 k1 w) (h2 : ∀ G', Stp M G G' → Bag b G' → EV M b (e σ) G' fun w G' => LV M G' f s2 k2 w) (hk : k1 + k2 ≤ 1000 := by decide) : EV M b (Dn.d2 (fun x y => Dn.noX (addW x y)) d e σ) G fun w G' => LV M G' f (s1 + s2) (k1 + k2) w :=
  EV.bnd h1 fun x G1 st1 B1 p1 => EV.bnd (EV.stp (h2 G1 st1 B1)) fun y G2 st2 B2 ⟨p2, st3, _⟩ => EV.noX (by
    obtain ⟨n, ws, rfl, hm, g, l, h⟩ := p1.stp st3
    obtain ⟨m, us, rfl, hm2, g2, l2, h'⟩ := p2
    refine ⟨.ref G2.length, G2 ++ [.lst (ws ++ us)], ?_, Gr.one.stp, B2.gr .one, G2.length, ws ++ us, rfl, (K.le (st1.trans st2).1).new (Nat.le_refl _), by simp, by simp [l, l2], (h.append h').stp Gr.one.stp⟩
    simp only [addW, g, g2]
    rw [if_pos (by omega)])
theorem EV.gv {f' s' : Nat} {m : Dn.M W} (h : EV M b m G fun w G' => LV M G' f s k w) (hk : k < 64 := by decide) (hf : f + 1 ≤ f' := by omega) (hs : s + 1 ≤ s' := by omega) : EV M b m G fun w G' => GV M G' f' s' w := h.mono fun w G' _ _ p => (p.gv hk).mono hf hs
theorem EV.up {f' s' : Nat} {m : Dn.M W} (h : EV M b m G fun w G' => GV M G' f s w) (hf : f ≤ f' := by omega) (hs : s ≤ s' := by omega) : EV M b m G fun w G' => GV M G' f' s' w := h.mono fun w G' _ _ p => p.mono hf hs
end
/-! ### statements -/
def RV (M : Nat → Bool) (b : Nat) (s : DS) (σ : Loc) (G : Gh) (P : W → Gh → Prop) : Prop := ∃ w G', s σ G = .rt w G' ∧ Stp M G G' ∧ Bag b G' ∧ P w G'
def NV (M : Nat → Bool) (b : Nat) (s : DS) (σ : Loc) (G : Gh) (Q : Loc → Gh → Prop) : Prop := ∃ σ' G', s σ G = .nx σ' G' ∧ Stp M G G' ∧ Bag b G' ∧ Q σ' G'
section
variable {M : Nat → Bool} {b : Nat} {G : Gh} {σ : Loc} {d : DE} {t : DT} {s s' : DS} {P Q : W → Gh → Prop} {R : Loc → Gh → Prop}
theorem RV.ret (h : EV M b (d σ) G P) : RV M b (sRet d) σ G P := by
  obtain ⟨w, G1, e, r⟩ := h
  exact ⟨w, G1, by unfold sRet sOf; rw [e], r⟩
theorem RV.asg {i : Nat} (h : EV M b (d σ) G P) (k : ∀ w G', Stp M G G' → Bag b G' → P w G' → RV M b s (σ.set i (some w)) G' Q) : RV M b (sSeq (sAsg d (gV i)) s) σ G Q := by
  obtain ⟨w, G1, e, st, B, p⟩ := h
  obtain ⟨w2, G2, e2, st2, B2, p2⟩ := k w G1 st B p
  exact ⟨w2, G2, by unfold sSeq sAsg sOf; rw [e]; exact e2, st.trans st2, B2, p2⟩
theorem NV.asg {i : Nat} (h : EV M b (d σ) G P) (k : ∀ w G', Stp M G G' → P w G' → R (σ.set i (some w)) G') : NV M b (sAsg d (gV i)) σ G R := by
  obtain ⟨w, G1, e, st, B, p⟩ := h
  exact ⟨_, G1, by unfold sAsg sOf; rw [e]; rfl, st, B, k w G1 st p⟩
theorem RV.nx (h : NV M b s σ G R) (k : ∀ σ' G', Stp M G G' → Bag b G' → R σ' G' → RV M b s' σ' G' Q) : RV M b (sSeq s s') σ G Q := by
  obtain ⟨σ1, G1, e, st, B, p⟩ := h
  obtain ⟨w2, G2, e2, st2, B2, p2⟩ := k σ1 G1 st B p
  exact ⟨w2, G2, by rw [run_seq e]; exact e2, st.trans st2, B2, p2⟩
theorem NV.nx (h : NV M b s σ G R) {R' : Loc → Gh → Prop} (k : ∀ σ' G', Stp M G G' → Bag b G' → R σ' G' → NV M b s' σ' G' R') : NV M b (sSeq s s') σ G R' := by
  obtain ⟨σ1, G1, e, st, B, p⟩ := h
  obtain ⟨σ2, G2, e2, st2, B2, p2⟩ := k σ1 G1 st B p
  exact ⟨σ2, G2, by rw [run_seq e]; exact e2, st.trans st2, B2, p2⟩
theorem NV.next (B : Bag b G) (h : R σ G) : NV M b sNext σ G R := ⟨σ, G, rfl, .refl, B, h⟩
theorem RV.sq (h : RV M b s σ G Q) : RV M b (sSeq s s') σ G Q := by
  obtain ⟨w, G1, e, r⟩ := h
  exact ⟨w, G1, run_seqR e, r⟩
theorem RV.if {T : Bool → Gh → Prop} (h : EV M b (t σ) G T) (k : ∀ c G', Stp M G G' → Bag b G' → T c G' → RV M b (if c = true then s else s') σ G' Q) : RV M b (sIf t s s') σ G Q := by
  obtain ⟨c, G1, e, st, B, p⟩ := h
  obtain ⟨w2, G2, e2, st2, B2, p2⟩ := k c G1 st B p
  exact ⟨w2, G2, by unfold sIf sOfT; rw [e]; exact e2, st.trans st2, B2, p2⟩
theorem NV.if {T : Bool → Gh → Prop} (h : EV M b (t σ) G T) (k : ∀ c G', Stp M G G' → Bag b G' → T c G' → NV M b (if c = true then s else s') σ G' R) : NV M b (sIf t s s') σ G R := by
  obtain ⟨c, G1, e, st, B, p⟩ := h
  obtain ⟨w2, G2, e2, st2, B2, p2⟩ := k c G1 st B p
  exact ⟨w2, G2, by unfold sIf sOfT; rw [e]; exact e2, st.trans st2, B2, p2⟩
theorem EV.def1 {N n : Nat} {ws : List W} (hl : ws.length = n) (h : RV M b s (slots N ws) G P) : EV M b (defB N n s ws) G P := by
  obtain ⟨w, G1, e, r⟩ := h
  exact ⟨w, G1, by unfold defB; rw [if_pos hl]; unfold runB; rw [e], r⟩
theorem EV.call {F : DF} {ds : DA} {A : List W → Gh → Prop} (h : EV M b (ds σ) G A) (k : ∀ ws G', Stp M G G' → Bag b G' → A ws G' → EV M b (F ws) G' P) : EV M b (dCall F ds σ) G P := EV.bnd h k
theorem EV.dB {T : W → Gh → Prop} (h : EV M b (d σ) G T) (hb : ∀ w G', T w G' → ∃ c, w = .bl c) : EV M b (dB d σ) G fun c G' => T (.bl c) G' := EV.bnd h fun w G' st B p => by
  obtain ⟨c, rfl⟩ := hb w G' p
  exact ⟨c, G', rfl, .refl, B, p⟩
end
end Dn
end
section
set_option Elab.async false
set_option backward.match.sparseCases false
set_option linter.all false
set_option maxRecDepth 100000
set_option maxHeartbeats 4000100
namespace Dn
open PySem
/-! ## from any later heap -/
def EA {α : Type} (M : Nat → Bool) (b : Nat) (G0 : Gh) (m : Dn.M α) (P : α → Gh → Prop) : Prop := ∀ G, Stp M G0 G → Bag b G → EV M b m G P
def RA (M : Nat → Bool) (b : Nat) (G0 : Gh) (s : DS) (σ : Loc) (P : W → Gh → Prop) : Prop := ∀ G, Stp M G0 G → Bag b G → RV M b s σ G P
def NA (M : Nat → Bool) (b : Nat) (G0 : Gh) (s : DS) (σ : Loc) (Q : Loc → Gh → Prop) : Prop := ∀ G, Stp M G0 G → Bag b G → NV M b s σ G Q
/-- things each of a bounded size -/
def AL (M : Nat → Bool) (f S k : Nat) (ws : List W) (G : Gh) : Prop := ws.length = k ∧ ∀ w ∈ ws, GV M G f S w
def LL (M : Nat → Bool) (f S k : Nat) (w : W) (G : Gh) : Prop := ∃ n ws, w = .ref n ∧ M n = false ∧ G[n]? = some (.lst ws) ∧ AL M f S k ws G
/-- a list of things of a kind -/
def LPu (M : Nat → Bool) (A : W → Prop) (k : Nat) (w : W) (G : Gh) : Prop := ∃ n ws, w = .ref n ∧ M n = false ∧ G[n]? = some (.lst ws) ∧ ws.length ≤ k ∧ ∀ w ∈ ws, A w
section
variable {M : Nat → Bool} {b : Nat} {G0 G G' : Gh} {f f' S S' k k' : Nat} {σ : Loc} {w : W} {ws us : List W}
theorem AL.stp (h : AL M f S k ws G) (st : Stp M G G') : AL M f S k ws G' := ⟨h.1, fun w hw => (h.2 w hw).stp st⟩
theorem LL.stp (h : LL M f S k w G) (st : Stp M G G') : LL M f S k w G' := by
  obtain ⟨n, ws, rfl, hm, g, a⟩ := h
  exact ⟨n, ws, rfl, hm, st.get g hm, a.stp st⟩
theorem LPu.stp {A : W → Prop} (h : LPu M A k w G) (st : Stp M G G') : LPu M A k w G' := by
  obtain ⟨n, ws, rfl, hm, g, a⟩ := h
  exact ⟨n, ws, rfl, hm, st.get g hm, a⟩
theorem GVs.each : ∀ {ws : List W}, (∀ w ∈ ws, GV M G f S w) → GVs M G f (ws.length * S) ws
  | [], _ => GVs.nil.mono (Nat.le_refl _) (Nat.zero_le _)
  | w :: ws, h => (GVs.cons (h w List.mem_cons_self) (GVs.each fun x hx => h x (List.mem_cons_of_mem _ hx))).mono (Nat.le_refl _) (by rw [List.length_cons, Nat.succ_mul]; omega)
theorem AL.gvs (h : AL M f S k ws G) : GVs M G f (k * S) ws := h.1 ▸ GVs.each h.2
theorem AL.tup (h : AL M f S k ws G) (hk : k < 64) (hf : f + 1 ≤ f') (hs : k * S + 1 ≤ S') : GV M G f' S' (.tup ws) := (GV.tup h.gvs (wide_few (by rw [h.1]; exact hk))).mono hf hs
theorem LL.gv (h : LL M f S k w G) (hk : k < 64) (hf : f + 1 ≤ f') (hs : k * S + 1 ≤ S') : GV M G f' S' w := by
  obtain ⟨n, ws, rfl, hm, g, a⟩ := h
  exact (GV.lst g hm a.gvs (wide_few (by rw [a.1]; exact hk))).mono hf hs
theorem AL.cut {lo hi : Option Int} (h : ∀ w ∈ ws, GV M G f S w) : ∀ w ∈ cutW ws lo hi, GV M G f S w := fun w hw => h w (List.mem_of_mem_drop (List.mem_of_mem_take hw))
theorem cut_len {lo hi : Option Int} : (cutW ws lo hi).length ≤ ws.length := by
  unfold cutW
  simp only [List.length_take, List.length_drop]
  omega
/-! ### expressions -/
variable {d e : DE} {ds : DA} {α β : Type}
theorem EA.mono {m : Dn.M α} {P Q : α → Gh → Prop} (h : EA M b G0 m P) (k : ∀ a G, Stp M G0 G → Bag b G → P a G → Q a G) : EA M b G0 m Q := fun G st B => (h G st B).mono fun a G' st' B' p => k a G' (st.trans st') B' p
theorem EA.bnd {m : Dn.M α} {g : α → Dn.M β} {P : α → Gh → Prop} {Q : β → Gh → Prop} (h : EA M b G0 m P) (k : ∀ a G, Stp M G0 G → P a G → EA M b G (g a) Q) : EA M b G0 (Dn.bnd m g) Q := fun G st B => EV.bnd (h G st B) fun a G' st' B' p => k a G' (st.trans st') p G' .refl B'
theorem EA.noX {m : Dn.M W} {P : W → Gh → Prop} (h : EA M b G0 m P) : EA M b G0 (Dn.noX m) P := fun G st B => (h G st B).noX
theorem EA.later {m : Dn.M α} {P : α → Gh → Prop} (h : EA M b G0 m P) (st : Stp M G0 G) : EA M b G m P := fun G' st' B => h G' (st.trans st') B
theorem EA.ret {a : α} {P : α → Gh → Prop} (h : ∀ G, Stp M G0 G → P a G) : EA M b G0 (Dn.ret a) P := fun G st B => ⟨a, G, rfl, .refl, B, h G st⟩
theorem EA.ok {m : Dn.M α} {a : α} {P : α → Gh → Prop} (h : ∀ G, Stp M G0 G → m G = .ok a G ∧ P a G) : EA M b G0 m P := fun G st B => ⟨a, G, (h G st).1, .refl, B, (h G st).2⟩
theorem EA.pu {m : Dn.M α} {a : α} {P : α → Gh → Prop} (h : ∀ G, Stp M G0 G → Pu m G a ∧ ∀ G', Gr G G' → P a G') : EA M b G0 m P := fun G st B => EV.pu B (h G st).1 (h G st).2
/-- one that tells an atom -/
theorem EA.ex (h : ∀ G, Ex d σ G w) (ha : szV M [] 0 w = some 1) (hs : 1 ≤ S := by decide) : EA M b G0 (d σ) fun w G => GV M G f S w := fun G _ B => ⟨w, G, h G, .refl, B, by
  refine (GV.atom (w := w) ?_).mono (Nat.le_refl _) hs
  cases w with
  | tup _ => cases ha
  | ref _ => cases ha
  | _ => exact ha⟩
theorem EA.c (ha : szV M [] 0 w = some 1) (hs : 1 ≤ S := by decide) : EA M b G0 (dC w σ) fun w G => GV M G f S w := EA.ex (d := dC w) (σ := σ) (fun _ => rfl) ha hs
theorem EA.var {i : Nat} {P : W → Gh → Prop} (h : σ[i]? = some (some w)) (p : ∀ G, Stp M G0 G → P w G) : EA M b G0 (dVar i σ) P := EA.ok fun G st => ⟨by unfold dVar; rw [h], p G st⟩
theorem EA.nil : EA M b G0 (dNil σ) (AL M f S 0) := EA.ret fun G _ => ⟨rfl, fun w hw => by cases hw⟩
theorem EA.cons (h1 : EA M b G0 (d σ) fun w G => GV M G f S w) (h2 : EA M b G0 (ds σ) (AL M f S k)) : EA M b G0 (dCons d ds σ) (AL M f S (k + 1)) :=
  EA.bnd h1 fun w G1 st1 p1 => EA.bnd (h2.later st1) fun ws G2 st2 p2 => EA.ret fun G st => ⟨by rw [List.length_cons, p2.1], fun x hx => by
    obtain rfl | hx := List.mem_cons.mp hx
    · exact p1.stp (st2.trans st)
    · exact (p2.2 x hx).stp st⟩
theorem EA.tup (h : EA M b G0 (ds σ) (AL M f S k)) (hk : k < 64 := by decide) (hf : f + 1 ≤ f' := by decide) (hs : k * S + 1 ≤ S' := by decide) : EA M b G0 (dTup ds σ) fun w G => GV M G f' S' w :=
  EA.bnd h fun ws G1 st p => by
    rw [if_pos (by rw [p.1]; omega)]
    exact EA.ret fun G st => (p.stp st).tup hk hf hs
theorem EA.lst (K : Msk M b G0) (h : EA M b G0 (ds σ) (AL M f S k)) (hk : k ≤ 1000 := by decide) : EA M b G0 (dLst ds σ) (LL M f S k) :=
  EA.bnd h fun ws G1 st p G2 st2 B => by
    exact ⟨.ref G2.length, G2 ++ [.lst ws], if_pos (by rw [p.1]; omega), Gr.one.stp, B.gr .one, G2.length, ws, rfl, (K.le (st.trans st2).1).new (Nat.le_refl _), by simp, (p.stp st2).stp Gr.one.stp⟩
theorem EA.gv {m : Dn.M W} (h : EA M b G0 m (LL M f S k)) (hk : k < 64 := by decide) (hf : f + 1 ≤ f' := by decide) (hs : k * S + 1 ≤ S' := by decide) : EA M b G0 m fun w G => GV M G f' S' w := h.mono fun w G _ _ p => p.gv hk hf hs
theorem EA.up {m : Dn.M W} (h : EA M b G0 m fun w G => GV M G f S w) (hf : f ≤ f' := by decide) (hs : S ≤ S' := by decide) : EA M b G0 m fun w G => GV M G f' S' w := h.mono fun w G _ _ p => p.mono hf hs
theorem EA.add (K : Msk M b G0) (h1 : EA M b G0 (d σ) (LL M f S k)) (h2 : EA M b G0 (e σ) (LL M f S k')) (hk : k + k' ≤ 1000 := by decide) : EA M b G0 (Dn.d2 (fun x y => Dn.noX (addW x y)) d e σ) (LL M f S (k + k')) :=
  EA.bnd h1 fun x G1 st1 p1 => EA.bnd (h2.later st1) fun y G2 st2 p2 => EA.noX fun G st B => by
    obtain ⟨n, ws, rfl, hm, g, a⟩ := p1.stp (st2.trans st)
    obtain ⟨m, us, rfl, hm2, g2, a2⟩ := p2.stp st
    refine ⟨.ref G.length, G ++ [.lst (ws ++ us)], ?_, Gr.one.stp, B.gr .one, G.length, ws ++ us, rfl, (K.le ((st1.trans st2).trans st).1).new (Nat.le_refl _), by simp, by rw [List.length_append, a.1, a2.1], fun w hw => ?_⟩
    · simp only [addW, g, g2]
      rw [if_pos (by rw [a.1, a2.1]; omega)]
    · obtain hw | hw := List.mem_append.mp hw
      · exact (a.2 w hw).stp Gr.one.stp
      · exact (a2.2 w hw).stp Gr.one.stp
theorem EA.dnew (K : Msk M b G0) (hf : 1 ≤ f := by decide) (hs : 1 ≤ S := by decide) : EA M b G0 (dDnew σ) fun w G => GV M G f S w := fun G st B => ⟨.ref G.length, G ++ [.dct false []], rfl, Gr.one.stp, B.gr .one, by
  refine GV.mono (f := 1) (s := 1) ⟨1, ?_, Nat.le_refl _⟩ hf hs
  have : M G.length = false := (K.le st.1).new (Nat.le_refl _)
  have e : (G ++ [GO.dct false []])[G.length]? = some (.dct false []) := by simp
  simp [szV, this, e, szs]⟩
theorem EA.disp1 {x v : W} (K : Msk M b G0) (hx : szV M [] 0 x = some 1) (hv : szV M [] 0 v = some 1) (hk : (flatKey x).isSome = true) (hf : 1 ≤ f := by decide) (hs : 3 ≤ S := by decide) : EA M b G0 (dDisp (dPcons (dC x) (dC v) dPnil) σ) fun w G => GV M G f S w := fun G st B => by
  have m : M G.length = false := (K.le st.1).new (Nat.le_refl _)
  refine ⟨.ref G.length, G ++ [.dct false [(x, v)]], ?_, Gr.one.stp, B.gr .one, ?_⟩
  · unfold dDisp
    show (match (Out.ok [(x, v)] (G ++ [.rsv]) : Out (List (W × W))) with
      | .ok kvs G2 => match G2[G.length]? with
        | some .rsv => if kvs.length ≤ 15 ∧ (kvs.all fun p => (flatKey p.1).isSome) = true then Out.ok (W.ref G.length) (G2.set G.length (.dct false (mergeW [] kvs))) else .stuck
        | _ => .stuck
      | .exc x G2 => .exc x G2
      | .stuck => .stuck) = _
    dsimp only
    rw [show (G ++ [GO.rsv])[G.length]? = some .rsv by simp]
    dsimp only
    rw [if_pos ⟨by simp, by simp [hk]⟩, List.set_append_right _ _ (Nat.le_refl _), Nat.sub_self]
    rfl
  · refine GV.mono (f := 1) (s := 3) ⟨3, ?_, Nat.le_refl _⟩ hf hs
    have e : (G ++ [GO.dct false [(x, v)]])[G.length]? = some (.dct false [(x, v)]) := by simp
    have z : ∀ {w : W}, szV M [] 0 w = some 1 → szV M (G ++ [GO.dct false [(x, v)]]) 0 w = some 1 := fun {w} h => by
      cases w with
      | tup _ => cases h
      | ref _ => cases h
      | _ => exact h
    simp [szV, m, e, szs, z hx, z hv]
theorem EA.if {t : DT} {T : Bool → Gh → Prop} {P : W → Gh → Prop} (h : EA M b G0 (t σ) T) (k : ∀ c G, Stp M G0 G → T c G → EA M b G (if c = true then d σ else e σ) P) : EA M b G0 (dIf t d e σ) P := EA.bnd h k
theorem EA.def1 {N n : Nat} {s : DS} {P : W → Gh → Prop} (hl : ws.length = n) (h : RA M b G0 s (slots N ws) P) : EA M b G0 (defB N n s ws) P := fun G st B => EV.def1 hl (h G st B)
theorem EV.both {m : Dn.M α} {M' : Nat → Bool} {P P' : α → Gh → Prop} (h : EV M b m G P) (h' : EV M' b m G P') : EV M b m G fun a G' => P a G' ∧ P' a G' ∧ Stp M' G G' := by
  obtain ⟨a, G1, e1, st, B, p⟩ := h
  obtain ⟨a2, G2, e2, st2, B2, p2⟩ := h'
  rw [e1] at e2
  cases e2
  exact ⟨a, G1, e1, st, B, p, p2, st2⟩
/-! ### statements -/
variable {s s' : DS} {P Q : W → Gh → Prop} {R R' : Loc → Gh → Prop} {t : DT}
theorem RA.ret (h : EA M b G0 (d σ) P) : RA M b G0 (sRet d) σ P := fun G st B => RV.ret (h G st B)
theorem RA.asg {i : Nat} (h : EA M b G0 (d σ) P) (k : ∀ w G, Stp M G0 G → P w G → RA M b G s (σ.set i (some w)) Q) : RA M b G0 (sSeq (sAsg d (gV i)) s) σ Q := fun G st B => RV.asg (h G st B) fun w G' st' B' p => k w G' (st.trans st') p G' .refl B'
theorem NA.asg {i : Nat} (h : EA M b G0 (d σ) P) (k : ∀ w G, Stp M G0 G → P w G → R (σ.set i (some w)) G) : NA M b G0 (sAsg d (gV i)) σ R := fun G st B => NV.asg (h G st B) fun w G' st' p => k w G' (st.trans st') p
theorem RA.nx (h : NA M b G0 s σ R) (k : ∀ σ' G, Stp M G0 G → R σ' G → RA M b G s' σ' Q) : RA M b G0 (sSeq s s') σ Q := fun G st B => RV.nx (h G st B) fun σ' G' st' B' p => k σ' G' (st.trans st') p G' .refl B'
theorem NA.nx (h : NA M b G0 s σ R) (k : ∀ σ' G, Stp M G0 G → R σ' G → NA M b G s' σ' R') : NA M b G0 (sSeq s s') σ R' := fun G st B => NV.nx (h G st B) fun σ' G' st' B' p => k σ' G' (st.trans st') p G' .refl B'
theorem NA.next (h : ∀ G, Stp M G0 G → R σ G) : NA M b G0 sNext σ R := fun G st B => NV.next B (h G st)
theorem RA.if {T : Bool → Gh → Prop} (h : EA M b G0 (t σ) T) (k : ∀ c G, Stp M G0 G → T c G → RA M b G (if c = true then s else s') σ Q) : RA M b G0 (sIf t s s') σ Q := fun G st B => RV.if (h G st B) fun c G' st' B' p => k c G' (st.trans st') p G' .refl B'
theorem NA.if {T : Bool → Gh → Prop} (h : EA M b G0 (t σ) T) (k : ∀ c G, Stp M G0 G → T c G → NA M b G (if c = true then s else s') σ R) : NA M b G0 (sIf t s s') σ R := fun G st B => NV.if (h G st B) fun c G' st' B' p => k c G' (st.trans st') p G' .refl B'
/-- «if c: return …», then the rest -/
theorem RA.gd {T : Bool → Gh → Prop} (h : EA M b G0 (t σ) T) (hT : ∀ G, Stp M G0 G → T true G → RA M b G s σ Q) (hF : ∀ G, Stp M G0 G → T false G → RA M b G s' σ Q) : RA M b G0 (sSeq (sIf t s sNext) s') σ Q := fun G st B => by
  obtain ⟨c, G1, e, st1, B1, p⟩ := h G st B
  cases c with
  | true =>
    obtain ⟨w, G2, e2, st2, B2, q⟩ := hT G1 (st.trans st1) p G1 .refl B1
    exact ⟨w, G2, run_seqR (by unfold sIf sOfT; rw [e]; exact e2), st1.trans st2, B2, q⟩
  | false =>
    obtain ⟨w, G2, e2, st2, B2, q⟩ := hF G1 (st.trans st1) p G1 .refl B1
    exact ⟨w, G2, by rw [run_seq (σ' := σ) (G' := G1) (by unfold sIf sOfT; rw [e] <;> rfl)]; exact e2, st1.trans st2, B2, q⟩
/-! ### loops -/
theorem srcR1_nat {n : Nat} (hn : n < 2000) : srcR1 [.int n] G = .ok ⟨n + 1, getR 0 n, none⟩ G := by
  unfold srcR1
  exact (if_pos (by constructor <;> omega)).trans (by rw [Int.toNat_natCast])
theorem iR1_of {ds : DA} {s : Src} {ws : List W} (h : ds σ G = .ok ws G') (h' : srcR1 ws G' = .ok s G') : iR1 ds σ G = .ok s G' := by
  unfold iR1 Dn.bnd
  rw [h]
  exact h'
theorem loopI_ev {n i : Nat} {body : DS} {R : Nat → Loc → Gh → Prop} (step : ∀ k σ G, k < n → Bag b G → R k σ G → NV M b body (σ.set i (some (.int k))) G (R (k + 1))) (st0 : ∀ k σ G, R k σ G → i < σ.length) :
    ∀ (m k : Nat) (σ : Loc) (G : Gh), k ≤ n → n - k < m → Bag b G → R k σ G → NV M b (loopI (getR 0 n) (.n i) body m k) σ G (R n)
  | 0, _, _, _, _, h, _, _ => absurd h (Nat.not_lt_zero _)
  | m + 1, k, σ, G, hk, hm, B, r => by
    by_cases hlt : k < n
    · obtain ⟨σ1, G1, e1, st1, B1, r1⟩ := step k σ G hlt B r
      obtain ⟨σ2, G2, e2, st2, B2, r2⟩ := loopI_ev step st0 m (k + 1) σ1 G1 hlt (by omega) B1 r1
      refine ⟨σ2, G2, ?_, st1.trans st2, B2, r2⟩
      unfold loopI
      simp only [getR]
      rw [if_pos hlt]
      dsimp only
      have : (Tgt.n i).set (W.int (0 + (k : Int))) σ = some (σ.set i (some (.int k))) := by rw [Int.zero_add]; rfl
      rw [this]
      dsimp only
      rw [e1]
      exact e2
    · refine ⟨σ, G, ?_, .refl, B, ?_⟩
      · unfold loopI
        simp only [getR]
        rw [if_neg hlt]
      · rw [show n = k by omega]; exact r
theorem sFor_of {src : DI} {g : Tgt} {body : DS} {s : Src} {o : SO} (h : src σ G = .ok s G') (hl : s.lk = none) (h2 : loopI s.get g body s.fuel 0 σ G' = o) : sFor src g body σ G = finS none o := by
  unfold sFor
  rw [h]
  dsimp only
  rw [hl, if_pos (show lockFree none G = true from rfl), h2]
theorem NA.range {n i : Nat} {body : DS} {R : Nat → Loc → Gh → Prop} (hn : n < 2000) (h0 : ∀ G, Stp M G0 G → R 0 σ G) (st0 : ∀ k σ G, R k σ G → i < σ.length) (step : ∀ k σ G, k < n → R k σ G → Stp M G0 G → NA M b G body (σ.set i (some (.int k))) (R (k + 1))) : NA M b G0 (sFor (iR1 (dCons (dC (.int n)) dNil)) (.n i) body) σ (R n) := fun G st B => by
  have z : NV M b (loopI (getR 0 n) (.n i) body (n + 1) 0) σ G (fun σ G => R n σ G ∧ Stp M G0 G) := loopI_ev (R := fun k σ G => R k σ G ∧ Stp M G0 G) (fun k σ G hk B ⟨r, st⟩ => by
    obtain ⟨σ', G', e, st', B', r⟩ := step k σ G hk r st G .refl B
    exact ⟨σ', G', e, st', B', r, st.trans st'⟩) (fun k σ G r => st0 k σ G r.1) (n + 1) 0 σ G (Nat.zero_le _) (by omega) B ⟨h0 G st, st⟩
  obtain ⟨σ', G', e, st', B', r, _⟩ := z
  exact ⟨σ', G', sFor_of (iR1_of rfl (srcR1_nat hn)) rfl e, st', B', r⟩
/-- [e for i in range(n)], each a thing of a kind -/
theorem loopC_ev {n i D : Nat} {A : W → Prop} {G1 : Gh} (hD : M D = false) (hb : b < D) (hl : G1.length ≤ D) (he : ∀ k G', k < n → Stp M G1 G' → Bag b G' → EV M b (e (σ.set i (some (.int k)))) G' fun w _ => A w) :
    ∀ (m k : Nat) (G : Gh) (acc : List W), k ≤ n → n - k < m → n ≤ 1000 → Bag b G → Stp M G1 G → G[D]? = some (.lst acc) → acc.length ≤ k → (∀ w ∈ acc, A w) →
      ∃ G' ws, loopC (getR 0 n) (.n i) dYes e σ D m k G = .ok () G' ∧ Stp M G1 G' ∧ Bag b G' ∧ G'[D]? = some (.lst ws) ∧ ws.length ≤ n ∧ ∀ w ∈ ws, A w
  | 0, _, _, _, _, h, _, _, _, _, _, _ => absurd h (Nat.not_lt_zero _)
  | m + 1, k, G, acc, hk, hm, hn, B, st, ha, hc, hA => by
    by_cases hlt : k < n
    · obtain ⟨w, G2, e2, st2, B2, aw⟩ := he k G hlt st B
      have a2 := st2.get ha hD
      obtain ⟨G', ws, e3, st3, r⟩ := loopC_ev hD hb hl he m (k + 1) (G2.set D (.lst (acc ++ [w]))) (acc ++ [w]) hlt (by omega) hn (B2.put hb) (by
          refine ⟨by rw [List.length_set]; exact Nat.le_trans st.1 st2.1, fun j hj hm => ?_⟩
          rw [List.getElem?_set_ne (by omega), st2.2 j (Nat.lt_of_lt_of_le hj st.1) hm, st.2 j hj hm]) (List.getElem?_set_self (List.getElem?_eq_some_iff.mp a2).1) (by simp; omega) (fun x hx => by
          obtain hx | hx := List.mem_append.mp hx
          · exact hA x hx
          · rw [List.mem_singleton.mp hx]; exact aw)
      refine ⟨G', ws, ?_, st3, r⟩
      unfold loopC
      simp only [getR]
      rw [if_pos hlt]
      dsimp only
      have : (Tgt.n i).set (W.int (0 + (k : Int))) σ = some (σ.set i (some (.int k))) := by rw [Int.zero_add]; rfl
      rw [this]
      dsimp only
      rw [show dYes (σ.set i (some (.int k))) G = .ok true G from rfl]
      dsimp only
      rw [e2]
      dsimp only
      rw [a2]
      dsimp only
      rw [if_pos (by omega)]
      exact e3
    · refine ⟨G, acc, ?_, st, B, ha, by omega, hA⟩
      unfold loopC
      simp only [getR]
      rw [if_neg hlt]
theorem dLc_of {src : DI} {g : Tgt} {t : DT} {vs : List Nat} {s : Src} {G1 : Gh} (h : src σ G = .ok s G1) (hl : s.lk = none) (h2 : loopC s.get g t e (wipeD σ vs) G1.length s.fuel 0 (G1 ++ [.lst []]) = .ok () G') : dLc src g t e vs σ G = .ok (.ref G1.length) G' := by
  unfold dLc
  rw [h]
  dsimp only
  rw [hl, if_pos (show lockFree none G = true from rfl), h2]
  rfl
theorem EA.lcR {i c : Nat} {vs : List Nat} {A : W → Prop} (K : Msk M b G0) (hi : i < (wipeD σ vs).length) (hc : c ≤ 1000) (hn : EA M b G0 (ds σ) fun ws _ => ∃ v : Nat, v ≤ c ∧ ws = [.int v]) (he : ∀ k : Nat, EA M b G0 (e ((wipeD σ vs).set i (some (.int k)))) fun w _ => A w) : EA M b G0 (dLc (iR1 ds) (.n i) dYes e vs σ) (LPu M A c) := fun G st B => by
  obtain ⟨ws, G1, e1, st1, B1, v, hv, rfl⟩ := hn G st B
  have hD : M G1.length = false := (K.le (st.trans st1).1).new (Nat.le_refl _)
  have hb : b < G1.length := Nat.lt_of_lt_of_le (K.2 b K.1) (st.trans st1).1
  obtain ⟨G', ws, e2, st2, B2, a2, l2, hA⟩ := loopC_ev (n := v) (G1 := G1) (D := G1.length) (i := i) (σ := wipeD σ vs) hD hb (Nat.le_refl _) (fun k G' hk st' B' => he k G' ((st.trans st1).trans st') B') (v + 1) 0 (G1 ++ [.lst []]) [] (Nat.zero_le _) (by omega) (by omega) (B1.gr .one) Gr.one.stp (by simp) (Nat.zero_le _) (fun w hw => by cases hw)
  refine ⟨.ref G1.length, G', ?_, st1.trans st2, B2, G1.length, ws, rfl, hD, a2, by omega, hA⟩
  exact dLc_of (iR1_of e1 (srcR1_nat (n := v) (by omega))) rfl e2
end
end Dn
end
section
set_option Elab.async false
set_option backward.match.sparseCases false
set_option linter.all false
set_option maxRecDepth 100000
set_option maxHeartbeats 4000100
namespace Dn
open PySem
/-! ## things of a kind -/
def atomB : W → Bool
  | .non => true
  | .bl _ => true
  | .int i => okAt (.int i)
  | .str x => okStr x
  | _ => false
def strB : W → Bool
  | .str x => okStr x
  | _ => false
def pairStr : W → Bool
  | .tup [.str a, .str b] => okStr a && okStr b
  | _ => false
section
variable {M : Nat → Bool} {b : Nat} {G0 G G' : Gh} {f f' S S' k k' : Nat} {σ : Loc} {w : W} {ws us : List W} {d e : DE} {ds : DA} {A A' : W → Prop}
theorem strB.atom (h : strB w = true) : atomB w = true := by
  cases w with
  | str x => exact h
  | _ => cases h
theorem atomB.gv (h : atomB w = true) : GV M G f 1 w := by
  cases w with
  | non => exact GV.atom rfl
  | bl _ => exact GV.atom rfl
  | int i => exact GV.atom (if_pos h)
  | str x => exact GV.atom (if_pos h)
  | _ => cases h
theorem pairStr.gv (h : pairStr w = true) : GV M G (f + 1) 3 w := by
  unfold pairStr at h
  split at h
  · rename_i x y
    rw [Bool.and_eq_true] at h
    have hx : GV M G f 1 (.str x) := atomB.gv h.1
    have hy : GV M G f 1 (.str y) := atomB.gv h.2
    exact GV.tup (s := 2) (GVs.cons (s' := 1) hx (GVs.cons (s' := 0) hy GVs.nil)) (wide_few (by simp))
  · cases h
theorem EA.cs {ws : List W} {P : List W → Gh → Prop} (h : ∀ G, ds σ G = .ok ws G) (p : ∀ G, Stp M G0 G → P ws G) : EA M b G0 (ds σ) P := EA.ok fun G st => ⟨h G, p G st⟩
theorem EA.cb {F : DF} {P : List W → Gh → Prop} {Q : W → Gh → Prop} (h : EA M b G0 (ds σ) P) (k : ∀ ws G, Stp M G0 G → P ws G → EA M b G (F ws) Q) : EA M b G0 (dCallB F ds σ) Q := EA.bnd h fun ws G st p => EA.noX (k ws G st p)
theorem EA.cl {F : DF} {P : List W → Gh → Prop} {Q : W → Gh → Prop} (h : EA M b G0 (ds σ) P) (k : ∀ ws G, Stp M G0 G → P ws G → EA M b G (F ws) Q) : EA M b G0 (dCall F ds σ) Q := EA.bnd h k
theorem EA.arg1 {P : W → Gh → Prop} (h : EA M b G0 (d σ) P) : EA M b G0 (dCons d dNil σ) fun ws G => ∃ w, ws = [w] ∧ P w G := fun G st B => by
  obtain ⟨w, G1, e, r1, r2, p⟩ := h G st B
  exact ⟨[w], G1, by unfold dCons dNil Dn.bnd; rw [e] <;> rfl, r1, r2, w, rfl, p⟩
theorem EA.argV {P : W → Gh → Prop} {j : Nat} {v : W} (hv : σ[j]? = some (some v)) (h : EA M b G0 (d σ) P) : EA M b G0 (dCons (dVar j) (dCons d dNil) σ) fun ws G => ∃ w, ws = [v, w] ∧ P w G := fun G st B => by
  obtain ⟨w, G1, e, r1, r2, p⟩ := h G st B
  exact ⟨[v, w], G1, by unfold dCons dNil dVar Dn.bnd; rw [hv]; dsimp only; rw [e] <;> rfl, r1, r2, w, rfl, p⟩
theorem EA.cb1 {F : DF} {P Q : W → Gh → Prop} (h : EA M b G0 (d σ) P) (k : ∀ w G, Stp M G0 G → Bag b G → P w G → EV M b (F [w]) G Q) : EA M b G0 (dCallB F (dCons d dNil) σ) Q := fun G st B => by
  obtain ⟨ws, G1, e, st1, B1, w, rfl, p⟩ := EA.arg1 h G st B
  obtain ⟨r, G2, e2, st2, B2, q⟩ := k w G1 (st.trans st1) B1 p
  exact ⟨r, G2, by unfold dCallB Dn.bnd Dn.noX; rw [e]; dsimp only; rw [e2], st1.trans st2, B2, q⟩
theorem EA.call1 {F : DF} {P Q : W → Gh → Prop} (h : EA M b G0 (d σ) P) (k : ∀ w G, Stp M G0 G → Bag b G → P w G → EV M b (F [w]) G Q) : EA M b G0 (dCall F (dCons d dNil) σ) Q := fun G st B => by
  obtain ⟨ws, G1, e, st1, B1, w, rfl, p⟩ := EA.arg1 h G st B
  obtain ⟨r, G2, e2, st2, B2, q⟩ := k w G1 (st.trans st1) B1 p
  exact ⟨r, G2, by unfold dCall Dn.bnd; rw [e]; dsimp only; rw [e2], st1.trans st2, B2, q⟩
theorem EA.callV {F : DF} {P Q : W → Gh → Prop} {j : Nat} {v : W} (hv : σ[j]? = some (some v)) (h : EA M b G0 (d σ) P) (k : ∀ w G, Stp M G0 G → Bag b G → P w G → EV M b (F [v, w]) G Q) : EA M b G0 (dCall F (dCons (dVar j) (dCons d dNil)) σ) Q := fun G st B => by
  obtain ⟨ws, G1, e, st1, B1, w, rfl, p⟩ := EA.argV hv h G st B
  obtain ⟨r, G2, e2, st2, B2, q⟩ := k w G1 (st.trans st1) B1 p
  exact ⟨r, G2, by unfold dCall Dn.bnd; rw [e]; dsimp only; rw [e2], st1.trans st2, B2, q⟩
/-- two operands; of the first what stays -/
theorem EA.op {F : D2} {P1 P2 Q : W → Gh → Prop} (h1 : EA M b G0 (d σ) P1) (hP : ∀ w G G', P1 w G → Stp M G G' → P1 w G') (h2 : EA M b G0 (e σ) P2) (k : ∀ x y G, Stp M G0 G → Bag b G → P1 x G → P2 y G → EV M b (F x y) G Q) : EA M b G0 (Dn.d2 (fun x y => Dn.noX (F x y)) d e σ) Q := fun G st B => by
  obtain ⟨x, G1, e1, st1, B1, p1⟩ := h1 G st B
  obtain ⟨y, G2, e2, st2, B2, p2⟩ := h2 G1 (st.trans st1) B1
  obtain ⟨r, G3, e3, st3, B3, q⟩ := k x y G2 ((st.trans st1).trans st2) B2 (hP _ _ _ p1 st2) p2
  exact ⟨r, G3, by unfold Dn.d2 Dn.bnd Dn.noX; rw [e1]; dsimp only; rw [e2]; dsimp only; rw [e3], (st1.trans st2).trans st3, B3, q⟩
theorem EV.ok {m : Dn.M W} {a : W} {P : W → Gh → Prop} (B : Bag b G) (h : m G = .ok a G) (p : P a G) : EV M b m G P := ⟨a, G, h, .refl, B, p⟩
/-- whole numbers -/
def isInt (w : W) (_ : Gh) : Prop := ∃ i : Int, w = .int i
def isBool (w : W) (_ : Gh) : Prop := ∃ c : Bool, w = .bl c
def isNat (n : Nat) (w : W) (_ : Gh) : Prop := ∃ v : Nat, v < n ∧ w = .int v
theorem EA.int {i : Int} : EA M b G0 (dC (.int i) σ) isInt := EA.ok fun G st => ⟨rfl, i, rfl⟩
theorem isNat.isInt {n : Nat} (h : isNat n w G) : isInt w G := let ⟨v, _, e⟩ := h; ⟨v, e⟩
theorem EA.nat {n : Nat} (h : EA M b G0 (d σ) (isNat n)) : EA M b G0 (d σ) isInt := h.mono fun _ _ _ _ p => p.isInt
theorem EA.varI {i : Nat} (h : σ[i]? = some (some w)) (p : isInt w []) : EA M b G0 (dVar i σ) isInt := EA.var h fun _ _ => p
theorem EA.eqI (h1 : EA M b G0 (d σ) isInt) (h2 : EA M b G0 (e σ) isInt) : EA M b G0 (Dn.d2 (fun x y => Dn.noX (eqX x y)) d e σ) isBool := EA.op h1 (fun _ _ _ p _ => p) h2 fun _ _ G _ B ⟨i, e1⟩ ⟨j, e2⟩ => by
  subst e1; subst e2; exact EV.ok B (eqIv i j G) ⟨_, rfl⟩
theorem EA.ltI (h1 : EA M b G0 (d σ) isInt) (h2 : EA M b G0 (e σ) isInt) : EA M b G0 (Dn.d2 (fun x y => Dn.noX (ltD x y)) d e σ) isBool := EA.op h1 (fun _ _ _ p _ => p) h2 fun _ _ G _ B ⟨i, e1⟩ ⟨j, e2⟩ => by
  subst e1; subst e2; exact EV.ok B (ltIv i j G) ⟨_, rfl⟩
theorem EA.addI (h1 : EA M b G0 (d σ) isInt) (h2 : EA M b G0 (e σ) isInt) : EA M b G0 (Dn.d2 (fun x y => Dn.noX (addW x y)) d e σ) isInt := EA.op h1 (fun _ _ _ p _ => p) h2 fun _ _ G _ B ⟨i, e1⟩ ⟨j, e2⟩ => by
  subst e1; subst e2; exact EV.ok B rfl ⟨_, rfl⟩
theorem EA.dB {P : W → Gh → Prop} (h : EA M b G0 (d σ) P) (hP : ∀ w G, P w G → isBool w G) : EA M b G0 (Dn.dB d σ) fun c G => P (.bl c) G := fun G st B => by
  obtain ⟨w, G1, e, st1, B1, p⟩ := h G st B
  obtain ⟨c, rfl⟩ := hP _ _ p
  exact ⟨c, G1, by unfold Dn.dB Dn.bnd; rw [e] <;> rfl, st1, B1, p⟩
theorem EA.test (h : EA M b G0 (d σ) isBool) : EA M b G0 (Dn.dB d σ) fun _ _ => True := (EA.dB h fun _ _ p => p).mono fun _ _ _ _ _ => trivial
/-! ### lists of things of a kind -/
theorem LPu.kind {w : W} (h : LPu M A k w G) (hA : ∀ w, A w → A' w) (hk : k ≤ k') : LPu M A' k' w G := by
  obtain ⟨n, ws, rfl, hm, g, l, a⟩ := h
  exact ⟨n, ws, rfl, hm, g, Nat.le_trans l hk, fun x hx => hA x (a x hx)⟩
theorem EA.lstP (K : Msk M b G0) (h : EA M b G0 (ds σ) fun ws _ => ws.length ≤ k ∧ ∀ w ∈ ws, A w) (hk : k ≤ 1000 := by decide) : EA M b G0 (dLst ds σ) (LPu M A k) := fun G st B => by
  obtain ⟨ws, G1, e, st1, B1, l, a⟩ := h G st B
  refine ⟨.ref G1.length, G1 ++ [.lst ws], ?_, st1.trans Gr.one.stp, B1.gr .one, G1.length, ws, rfl, (K.le (st.trans st1).1).new (Nat.le_refl _), by simp, l, a⟩
  unfold dLst Dn.bnd
  rw [e]
  exact if_pos (by omega)
theorem EA.addP (K : Msk M b G0) (h1 : EA M b G0 (d σ) (LPu M A k)) (h2 : EA M b G0 (e σ) (LPu M A k')) (hk : k + k' ≤ 1000 := by decide) : EA M b G0 (Dn.d2 (fun x y => Dn.noX (addW x y)) d e σ) (LPu M A (k + k')) := EA.op h1 (fun _ _ _ p st => p.stp st) h2 fun x y G st B p1 p2 => by
  obtain ⟨n, ws, rfl, hm, g, l, a⟩ := p1
  obtain ⟨m, us, rfl, hm2, g2, l2, a2⟩ := p2
  refine ⟨.ref G.length, G ++ [.lst (ws ++ us)], ?_, Gr.one.stp, B.gr .one, G.length, ws ++ us, rfl, (K.le st.1).new (Nat.le_refl _), by simp, by rw [List.length_append]; omega, fun w hw => ?_⟩
  · simp only [addW, g, g2]
    rw [if_pos (by omega)]
  · obtain hw | hw := List.mem_append.mp hw
    · exact a w hw
    · exact a2 w hw
theorem EA.cutP (K : Msk M b G0) (h1 : EA M b G0 (d σ) (LPu M A k)) (h2 : EA M b G0 (e σ) isInt) : EA M b G0 (dSl d dNoPart (dPart e) σ) (LPu M A k) := fun G st B => by
  obtain ⟨x, G1, e1, st1, B1, p1⟩ := h1 G st B
  obtain ⟨y, G2, e2, st2, B2, i, rfl⟩ := h2 G1 (st.trans st1) B1
  obtain ⟨n, ws, rfl, hm, g, l, a⟩ := p1.stp st2
  refine ⟨.ref G2.length, G2 ++ [.lst (cutW ws none (some i))], ?_, (st1.trans st2).trans Gr.one.stp, B2.gr .one, G2.length, cutW ws none (some i), rfl, (K.le ((st.trans st1).trans st2).1).new (Nat.le_refl _), by simp, Nat.le_trans (cut_len (lo := none) (hi := some i)) l, fun w hw => a w (List.mem_of_mem_drop (List.mem_of_mem_take hw))⟩
  unfold dSl dNoPart dPart Dn.bnd Dn.ret Dn.noX
  rw [e1]; dsimp only
  rw [e2]; dsimp only
  unfold slW
  dsimp only
  rw [g]
theorem EA.tupP (h : EA M b G0 (d σ) (LPu M A k)) (hA : ∀ w M G, A w → GV M G f S w) (hk : k < 64 := by decide) (hf : f + 1 ≤ f' := by decide) (hs : k * S + 1 ≤ S' := by decide) : EA M b G0 (dCallB tupleW (dCons d dNil) σ) fun w G => GV M G f' S' w := EA.cb1 h fun w G st B ⟨n, ws, e, hm, g, l, a⟩ => by
  subst e
  refine EV.ok B (a := .tup ws) (by simp [tupleW, seqW, g]) ?_
  exact (GV.tup (GVs.each fun x hx => hA x M G (a x hx)) (wide_few (by omega))).mono hf (Nat.le_trans (Nat.add_le_add_right (Nat.mul_le_mul_right S l) 1) hs)
theorem LPu.gv {w : W} (h : LPu M A k w G) (hA : ∀ w M G, A w → GV M G f S w) (hk : k < 64 := by decide) (hf : f + 1 ≤ f' := by decide) (hs : k * S + 1 ≤ S' := by decide) : GV M G f' S' w := by
  obtain ⟨n, ws, rfl, hm, g, l, a⟩ := h
  exact (GV.lst g hm (GVs.each fun x hx => hA x M G (a x hx)) (wide_few (by omega))).mono hf (Nat.le_trans (Nat.add_le_add_right (Nat.mul_le_mul_right S l) 1) hs)
end
end Dn
end
section
set_option Elab.async false
set_option backward.match.sparseCases false
set_option linter.all false
set_option maxRecDepth 100000
set_option maxHeartbeats 4000100
namespace Dn
open PySem
section
variable {get : Nat → Gh → Option (Option W)} {g : Tgt} {body : DS} {ws : List W} {G G0 : Gh} {S : Loc → Prop} {σ : Loc}
/-- a walk that only makes things, and goes on -/
theorem loopI_nx (hget : ∀ i G', Gr G0 G' → get i G' = some ws[i]?) (step : ∀ σ, S σ → ∀ w ∈ ws, ∃ σ1, g.set w σ = some σ1 ∧ ∀ G', Gr G0 G' → ∃ σ2, Nx body σ1 G' σ2 ∧ S σ2) :
    ∀ (m i : Nat) (σ : Loc) (G : Gh), S σ → Gr G0 G → i ≤ ws.length → ws.length - i < m → ∃ σ', S σ' ∧ Nx (loopI get g body m i) σ G σ'
  | 0, _, _, _, _, _, _, hm => absurd hm (Nat.not_lt_zero _)
  | m + 1, i, σ, G, s, gr, hi, hm => by
    by_cases hlt : i < ws.length
    · obtain ⟨σ1, e1, k⟩ := step σ s ws[i] (List.getElem_mem hlt)
      obtain ⟨σ2, ⟨G1, e2, g1⟩, s2⟩ := k G gr
      obtain ⟨σ', s', G2, e3, g2⟩ := loopI_nx hget step m (i + 1) σ2 G1 s2 (gr.trans g1) hlt (by omega)
      refine ⟨σ', s', G2, ?_, g1.trans g2⟩
      unfold loopI
      rw [hget i G gr, List.getElem?_eq_getElem hlt]
      dsimp only
      rw [e1]
      dsimp only
      rw [e2]
      exact e3
    · refine ⟨σ, s, G, ?_, .refl⟩
      unfold loopI
      rw [hget i G gr, List.getElem?_eq_none (by omega)]
/-- the walk of a list that has just been made, of a tuple -/
theorem for_nx {d : DE} {G1 : Gh} {w : W} (hd : d σ G = .ok w G1) (hw : ∃ get, srcAny w G1 = .ok ⟨ws.length + 1, get, none⟩ G1 ∧ ∀ i G', Gr G1 G' → get i G' = some ws[i]?) (h0 : S σ) (step : ∀ σ, S σ → ∀ w ∈ ws, ∃ σ1, g.set w σ = some σ1 ∧ ∀ G', Gr G1 G' → ∃ σ2, Nx body σ1 G' σ2 ∧ S σ2) : ∃ σ' G', sFor (iAny d) g body σ G = .nx σ' G' ∧ S σ' ∧ Gr G1 G' := by
  obtain ⟨get, es, hget⟩ := hw
  obtain ⟨σ', s', G2, e2, g2⟩ := loopI_nx hget step (ws.length + 1) 0 σ G1 h0 .refl (Nat.zero_le _) (by omega)
  refine ⟨σ', G2, ?_, s', g2⟩
  have : iAny d σ G = .ok ⟨ws.length + 1, get, none⟩ G1 := by unfold iAny bnd; rw [hd]; exact es
  rw [sFor_of this rfl e2]
  rfl
theorem src_lst {n : Nat} (h : G[n]? = some (.lst ws)) : ∃ get, srcAny (.ref n) G = .ok ⟨ws.length + 1, get, none⟩ G ∧ ∀ i G', Gr G G' → get i G' = some ws[i]? :=
  ⟨getL n, by simp only [srcAny, h], fun i G' gr => by unfold getL; rw [gr.get h]⟩
theorem srcT : ∃ get, srcAny (.tup ws) G = .ok ⟨ws.length + 1, get, none⟩ G ∧ ∀ i G', Gr G G' → get i G' = some ws[i]? := ⟨getS ws, by simp only [srcAny, srcOf], fun i G' _ => rfl⟩
/-- a list made: its place is not known ahead -/
theorem lstE {ds : DA} {us : List W} (h : Pu (ds σ) G us) (hl : us.length ≤ 16777216) : ∃ n G', dLst ds σ G = .ok (.ref n) G' ∧ Gr G G' ∧ G'[n]? = some (.lst us) := by
  obtain ⟨G1, e, g1⟩ := h
  refine ⟨G1.length, G1 ++ [.lst us], ?_, g1.trans .one, by simp⟩
  unfold dLst bnd
  rw [e]
  exact if_pos hl
theorem Nx.asgE {d : DE} {i : Nat} {w : W} {G' : Gh} (h : d σ G = .ok w G') (g : Gr G G') : Nx (sAsg d (gV i)) σ G (σ.set i (some w)) := ⟨G', by unfold sAsg sOf; rw [h] <;> rfl, g⟩
/-- truths in a list -/
theorem dat_bls (rec : Nat → Option PyData) : ∀ bs : List Bool, datVs rec (bs.map .bl) = some (bs.map .bool)
  | [] => rfl
  | b :: bs => by simp [datVs, datV, dat_bls rec bs]
theorem datR_lst {n k : Nat} {us : List W} (h : G[n]? = some (.lst us)) : datR G (k + 1) n = (datVs (datR G k) us).map .list := by
  unfold datR
  rw [h]
  rfl
theorem datW_bls {n : Nat} {bs : List Bool} (h : G[n]? = some (.lst (bs.map .bl))) : datW G (.ref n) = some (.list (bs.map .bool)) := by
  have := datR_lst (k := 69) h
  rw [dat_bls] at this
  unfold datW
  rw [datV]
  exact this
theorem eqv_bls : ∀ bs : List Bool, PyData.eqvAll (bs.map .bool) (bs.map .bool) = true
  | [] => rfl
  | b :: bs => by
    simp only [List.map_cons, PyData.eqvAll, eqv_bls bs, Bool.and_true]
    cases b <;> decide +kernel
theorem lay_bls : ∀ bs : List Bool, PyData.canLayAll0 (bs.map .bool) = true ∧ PyData.depthAll (bs.map .bool) = 0 ∧ PyData.showableAll (bs.map .bool) = true ∧ (∀ t ∈ PyData.shownAll (bs.map .bool), PyData.strOk t = true) ∧ ((PyData.shownAll (bs.map .bool)).map (·.length)).sum ≤ 5 * bs.length
  | [] => ⟨rfl, by simp [PyData.depthAll], rfl, (fun t h => by cases h), by simp [PyData.shownAll]⟩
  | b :: bs => by
    obtain ⟨a, c, d, e, f⟩ := lay_bls bs
    refine ⟨by simp [PyData.canLayAll0, PyData.canLay0, a], by simp [PyData.depthAll, PyData.depth, c], by simp [PyData.showableAll, PyData.showable, d], fun t ht => ?_, ?_⟩
    · simp only [List.map_cons, PyData.shownAll, List.mem_cons] at ht
      rcases ht with rfl | ht
      · cases b <;> decide +kernel
      · exact e t ht
    · have : (PyData.shown (.bool b)).length ≤ 5 := by cases b <;> decide +kernel
      simp only [List.map_cons, PyData.shownAll, List.sum_cons, List.length_cons]
      omega
theorem shaped_bls (bs : List Bool) : SeqAt.shaped (.list (bs.map .bool)) = true := by
  obtain ⟨a, c, _⟩ := lay_bls bs
  simp [SeqAt.shaped, PyData.canLay0, PyData.depth, a, c]
theorem eq_bls {n m : Nat} {bs : List Bool} (h : G[n]? = some (.lst (bs.map .bl))) (h' : G[m]? = some (.lst (bs.map .bl))) (hb : bs ≠ []) : eqX (.ref n) (.ref m) G = .ok (.bl true) G := by
  have he : emptyQ (.ref n) (.ref m) G = none := by
    cases bs with
    | nil => exact absurd rfl hb
    | cons b bs => simp [emptyQ, h, h']
  unfold eqX
  rw [he]
  unfold eqW
  rw [datW_bls h, datW_bls h']
  dsimp only
  rw [if_pos ⟨shaped_bls bs, shaped_bls bs⟩]
  simp only [PyData.eqv, eqv_bls]
theorem repr_bls {n : Nat} {bs : List Bool} (h : G[n]? = some (.lst (bs.map .bl))) (hb : bs.length ≤ 1000) : reprW [.ref n] G = .ok (.str (PyData.shown (.list (bs.map .bool)))) G ∧ PyData.strOk (PyData.shown (.list (bs.map .bool))) = true := by
  obtain ⟨a, c, d, e, f⟩ := lay_bls bs
  have := listText_len_le (PyData.shownAll (bs.map .bool))
  rw [shownAll_len, List.length_map] at this
  refine ⟨?_, by simp only [PyData.shown]; exact txt_list e⟩
  unfold reprW
  dsimp only
  rw [datW_bls h]
  dsimp only
  rw [if_pos ⟨by simpa [PyData.showable] using d, by simp [PyData.depth, c], by simp only [PyData.shown]; omega⟩]
end
end Dn
end
section
set_option Elab.async false
set_option backward.match.sparseCases false
set_option linter.all false
set_option maxRecDepth 100000
set_option maxHeartbeats 4000100
namespace K11
open PySem L2 Dn
structure Adr where
  K : PySem.W.Frag
  C_Gate : Addr
def d_is_integer (Z : Adr) : DS := (sRet (dAndV (dCallB (isiW Z.K) (dCons (dVar 0) (dCons (dC (.ty "int")) dNil))) (dNotV (dCallB (isiW Z.K) (dCons (dVar 0) (dCons (dC (.ty "bool")) dNil))))))
def f_is_integer (Z : Adr) : DF := defB 1 1 (d_is_integer Z)
def d_is_name (Z : Adr) : DS := (sSeq (sIf (dOr (dNot (dB (dCallB (isiW Z.K) (dCons (dVar 0) (dCons (dC (.ty "str")) dNil))))) (dNot (dB (dChain ltD leD (dC (.int 0)) (dCallB lenAW (dCons (dVar 0) dNil)) (dC (.int 8)))))) (sRet (dC (.bl false))) sNext)
    (sRet (dCallB allW (dCons (dLc (iAny (dVar 0)) (.n 1) dYes (d2 (fun x y => noX ((memW false) x y)) (dVar 1) (dC (.str "abcdefghijklmnopqrstuvwxyz"))) [1]) dNil))))
def f_is_name (Z : Adr) : DF := defB 2 1 (d_is_name Z)
def d_are_names (Z : Adr) : DS := (sSeq (sIf (dOr (dNot (dB (dCallB (isiW Z.K) (dCons (dVar 0) (dCons (dTup (dCons (dC (.ty "list")) (dCons (dC (.ty "tuple")) dNil))) dNil))))) (dNot (dB (dCallB allW (dCons (dLc (iAny (dVar 0)) (.n 1) dYes (dCall (f_is_name Z) (dCons (dVar 1) dNil)) [1]) dNil))))) (sRet (dC (.bl false))) sNext)
    (sRet (d2 (fun x y => noX (eqX x y)) (dLenSet (dVar 0)) (dCallB lenAW (dCons (dVar 0) dNil)))))
def f_are_names (Z : Adr) : DF := defB 2 1 (d_are_names Z)
def d_is_pair (Z : Adr) : DS := (sRet (dAndV (dCallB (isiW Z.K) (dCons (dVar 0) (dCons (dC (.ty "tuple")) dNil))) (dAndV (d2 (fun x y => noX (eqX x y)) (dCallB lenAW (dCons (dVar 0) dNil)) (dC (.int 2))) (dAndV (dCall (f_is_name Z) (dCons (d2 (fun x y => noX (itemW x y)) (dVar 0) (dC (.int 0))) dNil)) (dCall (f_is_name Z) (dCons (d2 (fun x y => noX (itemW x y)) (dVar 0) (dC (.int 1))) dNil))))))
def f_is_pair (Z : Adr) : DF := defB 1 1 (d_is_pair Z)
def d_is_wish (Z : Adr) : DS := (sSeq (sIf (dOr (dNot (dB (dCallB (isiW Z.K) (dCons (dVar 0) (dCons (dC (.ty "tuple")) dNil))))) (dOr (dB (d2 (fun x y => noX (eqX x y)) (dVar 0) (dTup dNil))) (dNot (dB (dCallB allW (dCons (dLc (iAny (dVar 0)) (.n 1) dYes (dCall (f_is_pair Z) (dCons (dVar 1) dNil)) [1]) dNil)))))) (sRet (dC (.bl false))) sNext)
    (sRet (d2 (fun x y => noX (eqX x y)) (dCallB listW (dCons (dVar 0) dNil)) (dSortSet (dVar 0)))))
def f_is_wish (Z : Adr) : DF := defB 2 1 (d_is_wish Z)
def d_is_call (Z : Adr) : DS := (sSeq (sIf (dOr (dB (d2 (fun x y => noX (neX x y)) (dCallB lenAW (dCons (dVar 0) dNil)) (dC (.int 4)))) (dOr (dNot (dB (dCall (f_is_name Z) (dCons (d2 (fun x y => noX (itemW x y)) (dVar 0) (dC (.int 1))) dNil)))) (dNot (dB (dCall (f_is_name Z) (dCons (d2 (fun x y => noX (itemW x y)) (dVar 0) (dC (.int 2))) dNil)))))) (sRet (dC (.bl false))) sNext)
    (sRet (dOrV (dCall (f_is_name Z) (dCons (d2 (fun x y => noX (itemW x y)) (dVar 0) (dC (.int 3))) dNil)) (dAndV (dCallB (isiW Z.K) (dCons (d2 (fun x y => noX (itemW x y)) (dVar 0) (dC (.int 3))) (dCons (dC (.ty "str")) dNil))) (d2 (fun x y => noX (eqX x y)) (d2 (fun x y => noX (itemW x y)) (dVar 0) (dC (.int 3))) (dC (.str "")))))))
def f_is_call (Z : Adr) : DF := defB 1 1 (d_is_call Z)
def d_is_deed (Z : Adr) : DS := (sSeq (sIf (dOr (dNot (dB (dCallB (isiW Z.K) (dCons (dVar 0) (dCons (dC (.ty "tuple")) dNil))))) (dOr (dB (d2 (fun x y => noX (ltD x y)) (dCallB lenAW (dCons (dVar 0) dNil)) (dC (.int 2)))) (dNot (dB (dCallB (isiW Z.K) (dCons (d2 (fun x y => noX (itemW x y)) (dVar 0) (dC (.int 0))) (dCons (dC (.ty "str")) dNil))))))) (sRet (dC (.bl false))) sNext)
    (sSeq (sIf (dB (d2 (fun x y => noX (eqX x y)) (d2 (fun x y => noX (itemW x y)) (dVar 0) (dC (.int 0))) (dC (.str "call")))) (sRet (dCall (f_is_call Z) (dCons (dVar 0) dNil))) sNext)
    (sSeq (sIf (dB (d2 (fun x y => noX (eqX x y)) (d2 (fun x y => noX (itemW x y)) (dVar 0) (dC (.int 0))) (dC (.str "hand")))) (sRet (dAndV (d2 (fun x y => noX (eqX x y)) (dCallB lenAW (dCons (dVar 0) dNil)) (dC (.int 4))) (dAndV (dCallB allW (dCons (dLc (iAny (dSl (dVar 0) (dPart (dC (.int 1))) dNoPart)) (.n 1) dYes (dCall (f_is_name Z) (dCons (dVar 1) dNil)) [1]) dNil)) (d2 (fun x y => noX (neX x y)) (d2 (fun x y => noX (itemW x y)) (dVar 0) (dC (.int 1))) (d2 (fun x y => noX (itemW x y)) (dVar 0) (dC (.int 2))))))) sNext)
    (sRet (dAndV (d2 (fun x y => noX (eqX x y)) (d2 (fun x y => noX (itemW x y)) (dVar 0) (dC (.int 0))) (dC (.str "throw"))) (dAndV (d2 (fun x y => noX (eqX x y)) (dCallB lenAW (dCons (dVar 0) dNil)) (dC (.int 2))) (dCall (f_is_name Z) (dCons (d2 (fun x y => noX (itemW x y)) (dVar 0) (dC (.int 1))) dNil))))))))
def f_is_deed (Z : Adr) : DF := defB 2 1 (d_is_deed Z)
def d_is_state (Z : Adr) : DS := (sRet (dAndV (dCall (f_is_integer Z) (dCons (dVar 0) dNil)) (dChain leD ltD (dC (.int 0)) (dVar 0) (dVar 1))))
def f_is_state (Z : Adr) : DF := defB 2 2 (d_is_state Z)
def d_is_kind (Z : Adr) : DS := (sRet (dAndV (dCallB (isiW Z.K) (dCons (dVar 0) (dCons (dC (.ty "str")) dNil))) (dOrV (d2 (fun x y => noX ((memW false) x y)) (dVar 0) (dTup (dCons (dC (.str "")) (dCons (dC (.str "?")) dNil)))) (d2 (fun x y => noX ((memW false) x y)) (dVar 0) (dVar 1)))))
def f_is_kind (Z : Adr) : DF := defB 2 2 (d_is_kind Z)
def d_is_word (Z : Adr) : DS := (sSeq (sIf (dNot (dB (dCallB (isiW Z.K) (dCons (dVar 0) (dCons (dC (.ty "str")) dNil))))) (sRet (dC (.bl false))) sNext)
    (sRet (dOrV (d2 (fun x y => noX ((memW false) x y)) (dVar 0) (dVar 1)) (dOrV (d2 (fun x y => noX (eqX x y)) (dVar 0) (dC (.str "+kept"))) (dAndV (d2 (fun x y => noX (eqX x y)) (dVar 0) (dC (.str "+given"))) (d2 (fun x y => noX (neX x y)) (dVar 2) (dC (.str ""))))))))
def f_is_word (Z : Adr) : DF := defB 3 3 (d_is_word Z)
def d_is_rule (Z : Adr) : DS := (sSeq (sIf (dOr (dNot (dB (dCallB (isiW Z.K) (dCons (dVar 0) (dCons (dC (.ty "tuple")) dNil))))) (dB (d2 (fun x y => noX (neX x y)) (dCallB lenAW (dCons (dVar 0) dNil)) (dC (.int 6))))) (sRet (dC (.bl false))) sNext)
    (sSeq (sAsg (dVar 0) (gTupD [gV 4, gV 5, gV 6, gV 7, gV 8, gV 9]))
    (sSeq (sIf (dOr (dNot (dB (dCall (f_is_name Z) (dCons (dVar 4) dNil)))) (dOr (dB (d2 (fun x y => noX ((memW true) x y)) (dVar 4) (dVar 2))) (dOr (dNot (dB (dCall (f_is_state Z) (dCons (dVar 5) (dCons (dVar 1) dNil))))) (dNot (dB (dCall (f_is_kind Z) (dCons (dVar 6) (dCons (dVar 3) dNil)))))))) (sRet (dC (.bl false))) sNext)
    (sSeq (sIf (dOr (dNot (dB (dCall (f_is_state Z) (dCons (dVar 7) (dCons (dVar 1) dNil))))) (dOr (dNot (dB (dCallB (isiW Z.K) (dCons (dVar 8) (dCons (dC (.ty "bool")) dNil))))) (dAnd (dB (dVar 8)) (dB (d2 (fun x y => noX (eqX x y)) (dVar 6) (dC (.str ""))))))) (sRet (dC (.bl false))) sNext)
    (sRet (dAndV (dCallB (isiW Z.K) (dCons (dVar 9) (dCons (dC (.ty "tuple")) dNil))) (dCallB allW (dCons (dLc (iAny (dVar 9)) (.n 10) dYes (dCall (f_is_word Z) (dCons (dVar 10) (dCons (dVar 3) (dCons (dVar 6) dNil)))) [10]) dNil))))))))
def f_is_rule (Z : Adr) : DF := defB 11 4 (d_is_rule Z)
def d_are_rules (Z : Adr) : DS := (sSeq (sIf (dNot (dB (dCallB (isiW Z.K) (dCons (dVar 0) (dCons (dTup (dCons (dC (.ty "list")) (dCons (dC (.ty "tuple")) dNil))) dNil))))) (sRet (dC (.bl false))) sNext)
    (sSeq (sIf (dNot (dB (dCallB allW (dCons (dLc (iAny (dVar 0)) (.n 4) dYes (dCall (f_is_rule Z) (dCons (dVar 4) (dCons (dVar 1) (dCons (dVar 2) (dCons (dVar 3) dNil))))) [4]) dNil)))) (sRet (dC (.bl false))) sNext)
    (sRet (d2 (fun x y => noX (eqX x y)) (dLen0 (iAny (dVar 0))) (dCallB lenAW (dCons (dVar 0) dNil))))))
def f_are_rules (Z : Adr) : DF := defB 5 4 (d_are_rules Z)
def d_Gate___init__ (Z : Adr) : DS := (sSeq (sIf (dOr (dNot (dB (dCall (f_is_integer Z) (dCons (dVar 1) dNil)))) (dNot (dB (dChain leD leD (dC (.int 1)) (dVar 1) (dC (.int 64)))))) sNever sNext)
    (sSeq (sIf (dOr (dNot (dB (dCall (f_are_names Z) (dCons (dVar 2) dNil)))) (dB (d2 (fun x y => noX (eqX x y)) (dCallB lenAW (dCons (dVar 2) dNil)) (dC (.int 0))))) sNever sNext)
    (sSeq (sIf (dNot (dB (dCall (f_are_names Z) (dCons (dVar 3) dNil)))) sNever sNext)
    (sSeq (sIf (dNot (dB (dCall (f_are_rules Z) (dCons (dVar 4) (dCons (dVar 1) (dCons (dVar 2) (dCons (dVar 3) dNil))))))) sNever sNext)
    (sSeq (sAsg (dTup (dCons (dVar 1) (dCons (dCallB sortedW (dCons (dVar 2) dNil)) (dCons (dCallB sortedW (dCons (dVar 3) dNil)) dNil)))) (gTupD [(gFld (fAt Z.C_Gate 4) (dVar 0)), (gFld (fAt Z.C_Gate 1) (dVar 0)), (gFld (fAt Z.C_Gate 0) (dVar 0))]))
    (sSeq (sFldS (fAt Z.C_Gate 3) (dVar 0) (dDc0 (iAny (dCallB sortedW (dCons (dVar 4) dNil)))))
    (sSeq (sFldS (fAt Z.C_Gate 2) (dVar 0) dDnew)
    (sFor (iAny (dFld (fAt Z.C_Gate 3) (dVar 0))) (.t [5, 6, 7]) (sExpr (dMeth "list" appendW (dMeth "dict" setdefaultW (dFld (fAt Z.C_Gate 2) (dVar 0)) (dCons (dTup (dCons (dVar 5) (dCons (dVar 6) dNil))) (dCons (dLst dNil) dNil))) (dCons (dVar 7) dNil)))))))))))
def f_Gate___init__ (Z : Adr) : DF := defB 9 5 (d_Gate___init__ Z)
def d_Gate___eq__ (Z : Adr) : DS := (sSeq (sIf (dNot (dB (dCallB (isiW Z.K) (dCons (dVar 1) (dCons (dC (.obj Z.C_Gate)) dNil))))) (sRet (dC (.bl false))) sNext)
    (sSeq (sAsg (dTup (dCons (dFld (fAt Z.C_Gate 4) (dVar 0)) (dCons (dFld (fAt Z.C_Gate 1) (dVar 0)) (dCons (dFld (fAt Z.C_Gate 0) (dVar 0)) (dCons (dFld (fAt Z.C_Gate 3) (dVar 0)) dNil))))) (gV 2))
    (sRet (d2 (fun x y => noX (eqX x y)) (dVar 2) (dTup (dCons (dFld (fAt Z.C_Gate 4) (dVar 1)) (dCons (dFld (fAt Z.C_Gate 1) (dVar 1)) (dCons (dFld (fAt Z.C_Gate 0) (dVar 1)) (dCons (dFld (fAt Z.C_Gate 3) (dVar 1)) dNil)))))))))
def f_Gate___eq__ (Z : Adr) : DF := defB 3 2 (d_Gate___eq__ Z)
def d_Gate_states (Z : Adr) : DS := (sRet (dFld (fAt Z.C_Gate 4) (dVar 0)))
def f_Gate_states (Z : Adr) : DF := defB 1 1 (d_Gate_states Z)
def d_Gate_doors (Z : Adr) : DS := (sRet (dCallB listW (dCons (dFld (fAt Z.C_Gate 1) (dVar 0)) dNil)))
def f_Gate_doors (Z : Adr) : DF := defB 1 1 (d_Gate_doors Z)
def d_Gate_closet (Z : Adr) : DS := (sRet (dCallB listW (dCons (dFld (fAt Z.C_Gate 0) (dVar 0)) dNil)))
def f_Gate_closet (Z : Adr) : DF := defB 1 1 (d_Gate_closet Z)
def d_Gate_kind_of (Z : Adr) : DS := (sRet (dIf (dOr (dB (d2 (fun x y => noX (eqX x y)) (dVar 1) (dC (.str "")))) (dB (d2 (fun x y => noX ((memW false) x y)) (dVar 1) (dFld (fAt Z.C_Gate 0) (dVar 0))))) (dVar 1) (dC (.str "?"))))
def f_Gate_kind_of (Z : Adr) : DF := defB 2 2 (d_Gate_kind_of Z)
def d_Gate_call (Z : Adr) : DS := (sSeq (sAsg (dMeth "dict" getDW (dFld (fAt Z.C_Gate 3) (dVar 0)) (dCons (dTup (dCons (dVar 3) (dCons (dVar 1) (dCons (dMCall Z.C_Gate (f_Gate_kind_of Z) (dVar 0) (dCons (dVar 4) dNil)) dNil)))) dNil)) (gV 5))
    (sSeq (sIf (dB (d2 (fun x y => noX (isW x y)) (dVar 5) (dC .non))) (sRet (dTup (dCons (dVar 1) (dCons (dVar 2) (dCons (dLst dNil) dNil))))) sNext)
    (sSeq (sAsg (dDisp (dPcons (dC (.str "+given")) (dVar 4) (dPcons (dC (.str "+kept")) (dVar 2) dPnil))) (gV 6))
    (sSeq (sAsg (dLc (iAny (d2 (fun x y => noX (itemW x y)) (dVar 5) (dC (.int 5)))) (.n 8) dYes (dMeth "dict" getDW (dVar 6) (dCons (dVar 8) (dCons (dVar 8) dNil))) [8]) (gV 7))
    (sRet (dTup (dCons (d2 (fun x y => noX (itemW x y)) (dVar 5) (dC (.int 3))) (dCons (dIf (dB (d2 (fun x y => noX (itemW x y)) (dVar 5) (dC (.int 4)))) (dVar 4) (dVar 2)) (dCons (dLc (iAny (dVar 7)) (.n 9) (dB (d2 (fun x y => noX (neX x y)) (dVar 9) (dC (.str "")))) (dVar 9) [9]) dNil)))))))))
def f_Gate_call (Z : Adr) : DF := defB 10 5 (d_Gate_call Z)
def d__law_bag (Z : Adr) : DS := (sRet (dLst (dCons (dC (.int 0)) (dCons (dC (.int 1234567891)) (dCons (dC (.int 0)) (dCons (dLc (iAny (dSl (dVar 0) dNoPart (dPart (dC (.int 63))))) (.n 1) dYes (dCallB absW (dCons (dVar 1) dNil)) [1]) dNil))))))
def f__law_bag (Z : Adr) : DF := defB 2 1 (d__law_bag Z)
def d__law_take (Z : Adr) : DS := (sSeq (sIf (dB (d2 (fun x y => noX (eqX x y)) (d2 (fun x y => noX (itemW x y)) (dVar 0) (dC (.int 0))) (dC (.int 0)))) (sSeq (sAsg (dC (.int 0)) (gV 2))
    (sSeq (sIf (dB (d2 (fun x y => noX (ltD x y)) (d2 (fun x y => noX (itemW x y)) (dVar 0) (dC (.int 2))) (dCallB lenAW (dCons (d2 (fun x y => noX (itemW x y)) (dVar 0) (dC (.int 3))) dNil)))) (sAsg (d2 (fun x y => noX (itemW x y)) (d2 (fun x y => noX (itemW x y)) (dVar 0) (dC (.int 3))) (d2 (fun x y => noX (itemW x y)) (dVar 0) (dC (.int 2)))) (gV 2)) sNext)
    (sSeq (sAugS (dVar 0) (dC (.int 2)) (dC (.int 1)) addI)
    (sSeq (sIf (dB (d2 (fun x y => noX (geD x y)) (dVar 2) (d2 (fun x y => noX (powW x y)) (dC (.int 10)) (dC (.int 18))))) (sSet (dVar 0) (dC (.int 0)) (dVar 2)) sNext)
    (sSeq (sAsg (d2 (fun x y => noX (addW x y)) (d2 (fun x y => noX (addW x y)) (d2 (fun x y => noX (mulW x y)) (d2 (fun x y => noX (itemW x y)) (dVar 0) (dC (.int 1))) (dC (.int 48271))) (d2 (fun x y => noX (modW x y)) (dCallB intW (dCons (dVar 2) dNil)) (dC (.int 2147483647)))) (d2 (fun x y => noX (mulW x y)) (dC (.int 7919)) (d2 (fun x y => noX (itemW x y)) (dVar 0) (dC (.int 2))))) (gV 3))
    (sSet (dVar 0) (dC (.int 1)) (d2 (fun x y => noX (modW x y)) (dCallB intW (dCons (dVar 3) dNil)) (dC (.int 2147483647))))))))) sNext)
    (sSeq (sIf (dB (d2 (fun x y => noX (gtD x y)) (d2 (fun x y => noX (itemW x y)) (dVar 0) (dC (.int 0))) (dC (.int 0)))) (sSeq (sAsg (d2 (fun x y => noX (modW x y)) (dCallB intW (dCons (d2 (fun x y => noX (itemW x y)) (dVar 0) (dC (.int 0))) dNil)) (dVar 1)) (gV 4))
    (sSeq (sSet (dVar 0) (dC (.int 0)) (d2 (fun x y => noX (fdivW x y)) (d2 (fun x y => noX (itemW x y)) (dVar 0) (dC (.int 0))) (dVar 1)))
    (sRet (dVar 4)))) sNext)
    (sSeq (sAsg (d2 (fun x y => noX (modW x y)) (dCallB intW (dCons (d2 (fun x y => noX (mulW x y)) (d2 (fun x y => noX (addW x y)) (d2 (fun x y => noX (itemW x y)) (dVar 0) (dC (.int 1))) (dC (.int 1))) (dC (.int 39373))) dNil)) (dC (.int 1000000007))) (gV 5))
    (sSeq (sAsg (d2 (fun x y => noX (modW x y)) (dCallB intW (dCons (d2 (fun x y => noX (mulW x y)) (d2 (fun x y => noX (modW x y)) (dCallB intW (dCons (d2 (fun x y => noX (mulW x y)) (dVar 5) (dVar 5)) dNil)) (dC (.int 998244353))) (dC (.int 30011))) dNil)) (dC (.int 998244353))) (gV 6))
    (sRet (d2 (fun x y => noX (modW x y)) (dCallB intW (dCons (d2 (fun x y => noX (fdivW x y)) (dVar 6) (dC (.int 7))) dNil)) (dVar 1)))))))
def f__law_take (Z : Adr) : DF := defB 7 2 (d__law_take Z)
def d__law_one (Z : Adr) : DS := (sRet (d2 (fun x y => noX (itemW x y)) (dVar 1) (dCall (f__law_take Z) (dCons (dVar 0) (dCons (dCallB lenAW (dCons (dVar 1) dNil)) dNil)))))
def f__law_one (Z : Adr) : DF := defB 2 2 (d__law_one Z)
def d__law_alike (Z : Adr) : DS := (sRet (dAndV (d2 (fun x y => noX (eqX x y)) (dVar 0) (dVar 1)) (d2 (fun x y => noX (eqX x y)) (dCallB reprW (dCons (dVar 0) dNil)) (dCallB reprW (dCons (dVar 1) dNil)))))
def f__law_alike (Z : Adr) : DF := defB 2 2 (d__law_alike Z)
def d__law_is_whole (Z : Adr) : DS := (sRet (dAndV (dCallB (isiW Z.K) (dCons (dVar 0) (dCons (dC (.ty "int")) dNil))) (dNotV (dCallB (isiW Z.K) (dCons (dVar 0) (dCons (dC (.ty "bool")) dNil))))))
def f__law_is_whole (Z : Adr) : DF := defB 1 1 (d__law_is_whole Z)
def d__law_is_name (Z : Adr) : DS := (sSeq (sIf (dOr (dNot (dB (dCallB (isiW Z.K) (dCons (dVar 0) (dCons (dC (.ty "str")) dNil))))) (dNot (dB (dChain leD leD (dC (.int 1)) (dCallB lenAW (dCons (dVar 0) dNil)) (dC (.int 8)))))) (sRet (dC (.bl false))) sNext)
    (sRet (d2 (fun x y => noX (eqX x y)) (dLc (iAny (dVar 0)) (.n 1) (dB (d2 (fun x y => noX ((memW true) x y)) (dVar 1) (dC (.str "abcdefghijklmnopqrstuvwxyz")))) (dVar 1) [1]) (dLst dNil))))
def f__law_is_name (Z : Adr) : DF := defB 2 1 (d__law_is_name Z)
def d__law_are_names (Z : Adr) : DS := (sSeq (sIf (dOr (dNot (dB (dCallB (isiW Z.K) (dCons (dVar 0) (dCons (dTup (dCons (dC (.ty "list")) (dCons (dC (.ty "tuple")) dNil))) dNil))))) (dB (d2 (fun x y => noX (neX x y)) (dLc (iAny (dVar 0)) (.n 1) (dNot (dB (dCall (f__law_is_name Z) (dCons (dVar 1) dNil)))) (dVar 1) [1]) (dLst dNil)))) (sRet (dC (.bl false))) sNext)
    (sRet (d2 (fun x y => noX (eqX x y)) (dCallB lenAW (dCons (dCallB dictPW (dCons (dLc (iAny (dVar 0)) (.n 1) dYes (dTup (dCons (dVar 1) (dCons (dC (.bl true)) dNil))) [1]) dNil)) dNil)) (dCallB lenAW (dCons (dVar 0) dNil)))))
def f__law_are_names (Z : Adr) : DF := defB 2 1 (d__law_are_names Z)
def d__law_odd (Z : Adr) : DS := (sSeq (sAsg (dCall (f__law_one Z) (dCons (dVar 0) (dCons (dLst (dCons (dLst dNil) (dCons dDnew (dCons (dTup dNil) (dCons (dC (.str "a")) dNil))))) dNil))) (gV 1))
    (sSeq (sFor (iR1 (dCons (dC (.int 5)) dNil)) (.n 2) (sAsg (dIf (dB (d2 (fun x y => noX (eqX x y)) (dCall (f__law_take Z) (dCons (dVar 0) (dCons (dC (.int 2)) dNil))) (dC (.int 0)))) (dLst (dCons (dVar 1) dNil)) (dTup (dCons (dVar 1) dNil))) (gV 1)))
    (sSeq (sAsg (dLst (dCons (dC .non) (dCons (dC (.bl true)) (dCons (dC (.bl false)) (dCons (dC (.int 0)) (dCons (dC (.int 1)) (dCons (dNeg (dC (.int 1))) (dCons (dC (.int 64)) (dCons (dC (.int 65)) (dCons (d2 (fun x y => noX (powW x y)) (dC (.int 10)) (dC (.int 39))) (dCons (dNeg (d2 (fun x y => noX (powW x y)) (dC (.int 10)) (dC (.int 39)))) (dCons (dC (.str "")) (dCons (dC (.str "a")) (dCons (dC (.str "A")) (dCons (dC (.str "ninesigns")) (dCons (dC (.str "?")) (dCons (dC (.str "+given")) (dCons (dC (.str "+kept")) dNil)))))))))))))))))) (gV 3))
    (sSeq (sAsg (d2 (fun x y => noX (addW x y)) (dVar 3) (dLst (dCons (dC (.str "a b")) (dCons (dC (.str "a\n")) (dCons (dLst dNil) (dCons (dTup dNil) (dCons dDnew (dCons (dLst (dCons (dC (.int 0)) dNil)) (dCons (dTup (dCons (dC (.int 0)) dNil)) (dCons (dLst (dCons (dC (.str "a")) dNil)) (dCons (dTup (dCons (dC (.str "a")) dNil)) (dCons (dLst (dCons (dLst (dCons (dC (.str "a")) dNil)) dNil)) (dCons (dTup (dCons (dTup (dCons (dC (.str "a")) dNil)) dNil)) (dCons (dDisp (dPcons (dC (.str "a")) (dC (.int 0)) dPnil)) (dCons (dDisp (dPcons (dC (.int 0)) (dC (.str "a")) dPnil)) (dCons (dVar 1) dNil)))))))))))))))) (gV 3))
    (sSeq (sAsg (d2 (fun x y => noX (addW x y)) (dVar 3) (dLst (dCons (dTup (dCons (dC (.str "a")) (dCons (dC (.int 0)) (dCons (dC (.str "")) (dCons (dC (.int 0)) (dCons (dC (.bl false)) (dCons (dTup dNil) dNil))))))) (dCons (dTup (dCons (dC (.str "a")) (dCons (dC (.str "b")) dNil))) (dCons (dTup (dCons (dTup (dCons (dC (.str "a")) (dCons (dC (.str "b")) dNil))) dNil)) (dCons (dLst (dCons (dTup (dCons (dC (.str "a")) (dCons (dC (.str "b")) dNil))) dNil)) (dCons (dTup (dCons (dC (.str "call")) (dCons (dC (.str "a")) (dCons (dC (.str "b")) (dCons (dC (.str "")) dNil))))) dNil))))))) (gV 3))
    (sRet (dCall (f__law_one Z) (dCons (dVar 0) (dCons (d2 (fun x y => noX (addW x y)) (dVar 3) (dLst (dCons (dTup (dCons (dC (.str "hand")) (dCons (dC (.str "a")) (dCons (dC (.str "b")) (dCons (dC (.str "c")) dNil))))) (dCons (dTup (dCons (dC (.str "throw")) (dCons (dC (.str "a")) dNil))) (dCons (d2 (fun x y => noX (mulW x y)) (dLst (dCons (dC (.int 0)) dNil)) (dC (.int 900))) (dCons (dLst (dCons (dC (.str "a")) (dCons (dC (.str "a")) dNil))) (dCons (dTup (dCons (dC (.str "a")) (dCons (dC .non) dNil))) dNil))))))) dNil)))))))))
def f__law_odd (Z : Adr) : DF := defB 4 1 (d__law_odd Z)
def d__law_is_deed (Z : Adr) : DS := (sSeq (sIf (dOr (dNot (dB (dCallB (isiW Z.K) (dCons (dVar 0) (dCons (dC (.ty "tuple")) dNil))))) (dOr (dB (d2 (fun x y => noX (eqX x y)) (dVar 0) (dTup dNil))) (dB (d2 (fun x y => noX (neX x y)) (dLc (iAny (dVar 0)) (.n 1) (dNot (dB (dCallB (isiW Z.K) (dCons (dVar 1) (dCons (dC (.ty "str")) dNil))))) (dVar 1) [1]) (dLst dNil))))) (sRet (dC (.bl false))) sNext)
    (sSeq (sIf (dB (d2 (fun x y => noX (eqX x y)) (d2 (fun x y => noX (itemW x y)) (dVar 0) (dC (.int 0))) (dC (.str "throw")))) (sRet (dAndV (d2 (fun x y => noX (eqX x y)) (dCallB lenAW (dCons (dVar 0) dNil)) (dC (.int 2))) (dCall (f__law_is_name Z) (dCons (d2 (fun x y => noX (itemW x y)) (dVar 0) (dC (.int 1))) dNil)))) sNext)
    (sSeq (sIf (dOr (dB (d2 (fun x y => noX (neX x y)) (dCallB lenAW (dCons (dVar 0) dNil)) (dC (.int 4)))) (dOr (dNot (dB (dCall (f__law_is_name Z) (dCons (d2 (fun x y => noX (itemW x y)) (dVar 0) (dC (.int 1))) dNil)))) (dNot (dB (dCall (f__law_is_name Z) (dCons (d2 (fun x y => noX (itemW x y)) (dVar 0) (dC (.int 2))) dNil)))))) (sRet (dC (.bl false))) sNext)
    (sSeq (sIf (dB (d2 (fun x y => noX (eqX x y)) (d2 (fun x y => noX (itemW x y)) (dVar 0) (dC (.int 0))) (dC (.str "call")))) (sRet (dOrV (d2 (fun x y => noX (eqX x y)) (d2 (fun x y => noX (itemW x y)) (dVar 0) (dC (.int 3))) (dC (.str ""))) (dCall (f__law_is_name Z) (dCons (d2 (fun x y => noX (itemW x y)) (dVar 0) (dC (.int 3))) dNil)))) sNext)
    (sRet (dAndV (d2 (fun x y => noX (eqX x y)) (d2 (fun x y => noX (itemW x y)) (dVar 0) (dC (.int 0))) (dC (.str "hand"))) (dAndV (dCall (f__law_is_name Z) (dCons (d2 (fun x y => noX (itemW x y)) (dVar 0) (dC (.int 3))) dNil)) (d2 (fun x y => noX (neX x y)) (d2 (fun x y => noX (itemW x y)) (dVar 0) (dC (.int 1))) (d2 (fun x y => noX (itemW x y)) (dVar 0) (dC (.int 2)))))))))))
def f__law_is_deed (Z : Adr) : DF := defB 2 1 (d__law_is_deed Z)
def d__law_is_wish (Z : Adr) : DS := (sSeq (sIf (dOr (dNot (dB (dCallB (isiW Z.K) (dCons (dVar 0) (dCons (dC (.ty "tuple")) dNil))))) (dB (d2 (fun x y => noX (eqX x y)) (dVar 0) (dTup dNil)))) (sRet (dC (.bl false))) sNext)
    (sSeq (sFor (iAny (dVar 0)) (.n 1) (sIf (dOr (dNot (dB (dCallB (isiW Z.K) (dCons (dVar 1) (dCons (dC (.ty "tuple")) dNil))))) (dOr (dB (d2 (fun x y => noX (neX x y)) (dCallB lenAW (dCons (dVar 1) dNil)) (dC (.int 2)))) (dOr (dNot (dB (dCall (f__law_is_name Z) (dCons (d2 (fun x y => noX (itemW x y)) (dVar 1) (dC (.int 0))) dNil)))) (dNot (dB (dCall (f__law_is_name Z) (dCons (d2 (fun x y => noX (itemW x y)) (dVar 1) (dC (.int 1))) dNil))))))) (sRet (dC (.bl false))) sNext))
    (sRet (d2 (fun x y => noX (eqX x y)) (dLc (iR1 (dCons (d2 (fun x y => noX (subW x y)) (dCallB lenAW (dCons (dVar 0) dNil)) (dC (.int 1))) dNil)) (.n 2) (dB (d2 (fun x y => noX (geD x y)) (d2 (fun x y => noX (itemW x y)) (dVar 0) (dVar 2)) (d2 (fun x y => noX (itemW x y)) (dVar 0) (d2 (fun x y => noX (addW x y)) (dVar 2) (dC (.int 1)))))) (dVar 2) [2]) (dLst dNil)))))
def f__law_is_wish (Z : Adr) : DF := defB 3 1 (d__law_is_wish Z)
def d__law_some_name (Z : Adr) : DS := (sSeq (sAsg (dLst (dCons (dC (.str "a")) (dCons (dC (.str "b")) (dCons (dC (.str "ab")) (dCons (dC (.str "ann")) (dCons (dC (.str "zzzzzzzz")) (dCons (dC (.str "cup")) (dCons (dC (.str "call")) (dCons (dC (.str "")) (dCons (dC (.str "A")) (dCons (dC (.str "aB")) (dCons (dC (.str "Ab")) (dCons (dC (.str "ninelette")) (dCons (dC (.str "a1")) (dCons (dC (.str "a b")) (dCons (dC (.str "?")) dNil)))))))))))))))) (gV 1))
    (sRet (dCall (f__law_one Z) (dCons (dVar 0) (dCons (dVar 1) dNil)))))
def f__law_some_name (Z : Adr) : DF := defB 2 1 (d__law_some_name Z)
def d__law_drawn_thing (Z : Adr) : DS := (sSeq (sAsg (dCall (f__law_take Z) (dCons (dVar 0) (dCons (dC (.int 7)) dNil))) (gV 1))
    (sSeq (sAsg (dLc (iR1 (dCons (dCall (f__law_take Z) (dCons (dVar 0) (dCons (dC (.int 5)) dNil))) dNil)) (.n 5) dYes (dCall (f__law_some_name Z) (dCons (dVar 0) dNil)) [5]) (gV 2))
    (sSeq (sIf (dB (d2 (fun x y => noX (ltD x y)) (dVar 1) (dC (.int 2)))) (sRet (dIf (dB (d2 (fun x y => noX (eqX x y)) (dVar 1) (dC (.int 0)))) (dVar 2) (dCallB tupleW (dCons (dVar 2) dNil)))) sNext)
    (sSeq (sIf (dB (d2 (fun x y => noX (ltD x y)) (dVar 1) (dC (.int 4)))) (sSeq (sAsg (dLc (iR1 (dCons (dCall (f__law_take Z) (dCons (dVar 0) (dCons (dC (.int 4)) dNil))) dNil)) (.n 5) dYes (dTup (dCons (dCall (f__law_some_name Z) (dCons (dVar 0) dNil)) (dCons (dCall (f__law_some_name Z) (dCons (dVar 0) dNil)) dNil))) [5]) (gV 3))
    (sRet (dCallB tupleW (dCons (dIf (dB (d2 (fun x y => noX (eqX x y)) (dVar 1) (dC (.int 2)))) (dCallB sortedW (dCons (dVar 3) dNil)) (dVar 3)) dNil)))) sNext)
    (sSeq (sAsg (dCall (f__law_one Z) (dCons (dVar 0) (dCons (dLst (dCons (dC (.str "call")) (dCons (dC (.str "hand")) (dCons (dC (.str "throw")) (dCons (dC (.str "step")) (dCons (dC (.str "CALL")) (dCons (dC (.int 0)) dNil))))))) dNil))) (gV 4))
    (sRet (dCallB tupleW (dCons (d2 (fun x y => noX (addW x y)) (dLst (dCons (dVar 4) dNil)) (dSl (d2 (fun x y => noX (addW x y)) (dVar 2) (dLst (dCons (dC (.str "ann")) (dCons (dC (.str "bob")) (dCons (dC (.str "cup")) dNil))))) dNoPart (dPart (dCall (f__law_one Z) (dCons (dVar 0) (dCons (dLst (dCons (dC (.int 1)) (dCons (dC (.int 3)) (dCons (dC (.int 3)) (dCons (dC (.int 3)) (dCons (dC (.int 2)) (dCons (dC (.int 4)) dNil))))))) dNil)))))) dNil))))))))
def f__law_drawn_thing (Z : Adr) : DF := defB 6 1 (d__law_drawn_thing Z)
def d__law_near_one (Z : Adr) : DS := (sSeq (sAsg (dSl (dCallB sortedW (dCons (dLst (dCons (dTup (dCons (dC (.str "a")) (dCons (dC (.str "b")) dNil))) (dCons (dTup (dCons (dC (.str "a")) (dCons (dC (.str "cup")) dNil))) (dCons (dTup (dCons (dC (.str "b")) (dCons (dC (.str "a")) dNil))) (dCons (dTup (dCons (dC (.str "cup")) (dCons (dC (.str "z")) dNil))) (dCons (dTup (dCons (dC (.str "x")) (dCons (dC (.str "x")) dNil))) dNil)))))) dNil)) dNoPart (dPart (d2 (fun x y => noX (addW x y)) (dC (.int 1)) (dCall (f__law_take Z) (dCons (dVar 0) (dCons (dC (.int 5)) dNil)))))) (gV 1))
    (sSeq (sAsg (dLst (dCons (dTup (dCons (dC (.str "hand")) (dCons (dC (.str "ann")) (dCons (dC (.str "bob")) (dCons (dC (.str "ann")) dNil))))) (dCons (dTup (dCons (dC (.str "hand")) (dCons (dC (.str "ann")) (dCons (dC (.str "bob")) (dCons (dC (.str "bob")) dNil))))) (dCons (dTup (dCons (dC (.str "hand")) (dCons (dC (.str "a")) (dCons (dC (.str "b")) (dCons (dC (.str "")) dNil))))) dNil)))) (gV 2))
    (sSeq (sAsg (d2 (fun x y => noX (addW x y)) (dVar 2) (dLst (dCons (dTup (dCons (dC (.str "hand")) (dCons (dC (.str "a")) (dCons (dC (.str "a")) (dCons (dC (.str "b")) dNil))))) (dCons (dTup (dCons (dTup (dCons (dC (.str "a")) (dCons (dC (.str "a")) dNil))) dNil)) (dCons (dTup (dCons (dTup (dCons (dC (.str "a")) (dCons (dC (.str "")) dNil))) dNil)) (dCons (dTup (dCons (dC (.str "a")) (dCons (dC (.str "b")) dNil))) (dCons (dCallB tupleW (dCons (dVar 1) dNil)) (dCons (dCallB tupleW (dCons (dVar 1) dNil)) dNil)))))))) (gV 2))
    (sSeq (sAsg (d2 (fun x y => noX (addW x y)) (dVar 2) (dLst (dCons (dTup (dCons (dC (.str "call")) (dCons (dC (.str "a")) (dCons (dC (.str "b")) (dCons (dC .non) dNil))))) (dCons (dTup (dCons (dC (.str "call")) (dCons (dC (.str "a")) (dCons (dC (.str "b")) (dCons (dC (.str "")) dNil))))) (dCons (dTup (dCons (dC (.str "call")) (dCons (dC (.str "a")) (dCons (dC (.str "a")) (dCons (dC (.str "a")) dNil))))) (dCons (dTup (dCons (dC (.str "call")) (dCons (dC (.str "a")) (dCons (dC (.str "")) (dCons (dC (.str "b")) dNil))))) dNil)))))) (gV 2))
    (sSeq (sAsg (d2 (fun x y => noX (addW x y)) (dVar 2) (dLst (dCons (dTup (dCons (dC (.str "step")) (dCons (dC (.str "a")) dNil))) (dCons (dTup (dCons (dC (.str "step")) dNil)) (dCons (dTup (dCons (dC (.str "throw")) (dCons (dC (.str "a")) (dCons (dC (.str "b")) dNil)))) (dCons (dTup (dCons (dC (.str "throw")) (dCons (dC (.str "")) dNil))) (dCons (dTup (dCons (dLst (dCons (dC (.str "a")) (dCons (dC (.str "b")) dNil))) dNil)) dNil))))))) (gV 2))
    (sSeq (sAsg (d2 (fun x y => noX (addW x y)) (dVar 2) (dLst (dCons (dTup (dCons (dTup (dCons (dC (.str "a")) (dCons (dLst (dCons (dC (.str "b")) dNil)) dNil))) dNil)) (dCons (dTup (dCons (dTup (dCons (dC (.str "a")) (dCons (dC .non) dNil))) (dCons (dTup (dCons (dC (.str "a")) (dCons (dC (.str "b")) dNil))) dNil))) (dCons (dTup (dCons (dTup (dCons (dLst (dCons (dC (.str "a")) dNil)) (dCons (dC (.str "b")) dNil))) dNil)) (dCons (dTup (dCons (dC (.str "call")) (dCons (dC (.str "a")) (dCons (dLst (dCons (dC (.str "b")) dNil)) (dCons (dC (.str "")) dNil))))) dNil)))))) (gV 2))
    (sRet (dCall (f__law_one Z) (dCons (dVar 0) (dCons (d2 (fun x y => noX (addW x y)) (dVar 2) (dLst (dCons (dTup (dCons (dTup (dCons (dC (.str "a")) (dCons (dC (.str "b")) dNil))) (dCons (dLst (dCons (dC (.str "a")) (dCons (dC (.str "c")) dNil))) dNil))) (dCons (dTup (dCons (dTup (dCons (dC (.str "a")) (dCons (dC (.str "b")) dNil))) (dCons (dTup (dCons (dC (.str "a")) (dCons (dC (.str "b")) dNil))) dNil))) dNil)))) dNil))))))))))
def f__law_near_one (Z : Adr) : DF := defB 3 1 (d__law_near_one Z)
def d__law_bent (Z : Adr) : DS := (sSeq (sIf (dOr (dNot (dB (dCallB (isiW Z.K) (dCons (dVar 1) (dCons (dTup (dCons (dC (.ty "list")) (dCons (dC (.ty "tuple")) dNil))) dNil))))) (dB (d2 (fun x y => noX (eqX x y)) (dCallB lenAW (dCons (dVar 1) dNil)) (dC (.int 0))))) (sRet (dCall (f__law_odd Z) (dCons (dVar 0) dNil))) sNext)
    (sSeq (sPar [2, 3] (dCons (dCall (f__law_take Z) (dCons (dVar 0) (dCons (dCallB lenAW (dCons (dVar 1) dNil)) dNil))) (dCons (dCallB listW (dCons (dVar 1) dNil)) dNil)))
    (sSeq (sAsg (dCall (f__law_take Z) (dCons (dVar 0) (dCons (dC (.int 5)) dNil))) (gV 4))
    (sSeq (sIf (dB (d2 (fun x y => noX (eqX x y)) (dVar 4) (dC (.int 0)))) (sSeq (sAsg (dLst (dCons (dC .non) (dCons (dC (.bl true)) (dCons (dC (.int 0)) (dCons (dLst (dCons (dC (.str "a")) dNil)) (dCons (dTup (dCons (dC (.str "a")) (dCons (dC (.str "b")) dNil))) (dCons (dC (.str "a")) (dCons (dC (.str "")) (dCons (dCall (f__law_odd Z) (dCons (dVar 0) dNil)) dNil))))))))) (gV 5))
    (sSet (dVar 3) (dVar 2) (dIf (dAnd (dB (dCallB (isiW Z.K) (dCons (d2 (fun x y => noX (itemW x y)) (dVar 3) (dVar 2)) (dCons (dC (.ty "tuple")) dNil)))) (dB (d2 (fun x y => noX (eqX x y)) (dCall (f__law_take Z) (dCons (dVar 0) (dCons (dC (.int 2)) dNil))) (dC (.int 0))))) (dCallB listW (dCons (d2 (fun x y => noX (itemW x y)) (dVar 3) (dVar 2)) dNil)) (dCall (f__law_one Z) (dCons (dVar 0) (dCons (dVar 5) dNil)))))) sNext)
    (sSeq (sIf (dB (d2 (fun x y => noX (eqX x y)) (dVar 4) (dC (.int 1)))) (sExpr (dMeth "list" popAtW (dVar 3) (dCons (dVar 2) dNil))) sNext)
    (sSeq (sIf (dB (d2 (fun x y => noX (eqX x y)) (dVar 4) (dC (.int 2)))) (sExpr (dMeth "list" insertW (dVar 3) (dCons (dVar 2) (dCons (d2 (fun x y => noX (itemW x y)) (dVar 3) (dVar 2)) dNil)))) sNext)
    (sRet (dIf (dOr (dAnd (dB (dCallB (isiW Z.K) (dCons (dVar 1) (dCons (dC (.ty "tuple")) dNil)))) (dB (d2 (fun x y => noX (eqX x y)) (dVar 4) (dC (.int 3))))) (dB (dCallB (isiW Z.K) (dCons (dVar 1) (dCons (dC (.ty "list")) dNil))))) (dVar 3) (dCallB tupleW (dCons (dVar 3) dNil))))))))))
def f__law_bent (Z : Adr) : DF := defB 6 2 (d__law_bent Z)
def d_law (Z : Adr) : DS := (sSeq (sAsg (dCall (f__law_bag Z) (dCons (dVar 0) dNil)) (gV 1))
    (sSeq (sFor (iR1 (dCons (dC (.int 20)) dNil)) (.n 2) (sSeq (sAsg (dCall (f__law_drawn_thing Z) (dCons (dVar 1) dNil)) (gV 3))
    (sSeq (sAsg (dLst (dCons (dVar 3) (dCons (dCall (f__law_bent Z) (dCons (dVar 1) (dCons (dVar 3) dNil))) (dCons (dCall (f__law_odd Z) (dCons (dVar 1) dNil)) (dCons (dCall (f__law_some_name Z) (dCons (dVar 1) dNil)) (dCons (d2 (fun x y => noX (subW x y)) (dCall (f__law_take Z) (dCons (dVar 1) (dCons (dC (.int 99)) dNil))) (dC (.int 50))) dNil)))))) (gV 4))
    (sFor (iAny (d2 (fun x y => noX (addW x y)) (dVar 4) (dLst (dCons (dCall (f__law_near_one Z) (dCons (dVar 1) dNil)) (dCons (dCall (f__law_bent Z) (dCons (dVar 1) (dCons (dCall (f__law_near_one Z) (dCons (dVar 1) dNil)) dNil))) dNil))))) (.n 5) (sSeq (sAsg (dCallB reprW (dCons (dVar 5) dNil)) (gV 6))
    (sSeq (sAsg (dLst (dCons (dCall (f_is_integer Z) (dCons (dVar 5) dNil)) (dCons (dCall (f_is_name Z) (dCons (dVar 5) dNil)) (dCons (dCall (f_are_names Z) (dCons (dVar 5) dNil)) (dCons (dCall (f_is_wish Z) (dCons (dVar 5) dNil)) (dCons (dCall (f_is_deed Z) (dCons (dVar 5) dNil)) dNil)))))) (gV 7))
    (sSeq (sAsg (dLst (dCons (dCall (f__law_is_whole Z) (dCons (dVar 5) dNil)) (dCons (dCall (f__law_is_name Z) (dCons (dVar 5) dNil)) (dCons (dCall (f__law_are_names Z) (dCons (dVar 5) dNil)) (dCons (dCall (f__law_is_wish Z) (dCons (dVar 5) dNil)) (dCons (dCall (f__law_is_deed Z) (dCons (dVar 5) dNil)) dNil)))))) (gV 8))
    (sIf (dOr (dNot (dB (dCall (f__law_alike Z) (dCons (dVar 7) (dCons (dVar 8) dNil))))) (dB (d2 (fun x y => noX (neX x y)) (dCallB reprW (dCons (dVar 5) dNil)) (dVar 6)))) (sRet (dC (.bl false))) sNext))))))))
    (sSeq (sAsg (dMake Z.C_Gate (f_Gate___init__ Z) (dCons (dC (.int 1)) (dCons (dLst (dCons (dC (.str "a")) dNil)) (dCons (dLst dNil) (dCons (dLst dNil) dNil))))) (gV 9))
    (sSeq (sFor (iAny (dTup (dCons (dVar 9) (dCons (dLst (dCons (dVar 9) dNil)) (dCons (dTup (dCons (dVar 9) dNil)) (dCons (dTup (dCons (dC (.str "throw")) (dCons (dVar 9) dNil))) (dCons (dTup (dCons (dTup (dCons (dC (.str "a")) (dCons (dVar 9) dNil))) dNil)) (dCons (dTup (dCons (dC (.str "hand")) (dCons (dVar 9) (dCons (dC (.str "a")) (dCons (dC (.str "b")) dNil))))) dNil)))))))) (.n 3) (sSeq (sAsg (dLst (dCons (dCall (f_is_integer Z) (dCons (dVar 3) dNil)) (dCons (dCall (f_is_name Z) (dCons (dVar 3) dNil)) (dCons (dCall (f_are_names Z) (dCons (dVar 3) dNil)) (dCons (dCall (f_is_wish Z) (dCons (dVar 3) dNil)) (dCons (dCall (f_is_deed Z) (dCons (dVar 3) dNil)) dNil)))))) (gV 7))
    (sIf (dNot (dB (dCall (f__law_alike Z) (dCons (dVar 7) (dCons (d2 (fun x y => noX (mulW x y)) (dLst (dCons (dC (.bl false)) dNil)) (dC (.int 5))) dNil))))) (sRet (dC (.bl false))) sNext)))
    (sRet (dAndV (d2 (fun x y => noX (isW x y)) (dCall (f_are_names Z) (dCons (dLst dNil) dNil)) (dC (.bl true))) (dAndV (d2 (fun x y => noX (isW x y)) (dCall (f_are_names Z) (dCons (dTup dNil) dNil)) (dC (.bl true))) (d2 (fun x y => noX (isW x y)) (dCall (f_is_wish Z) (dCons (dTup dNil) dNil)) (dC (.bl false))))))))))
def f_law (Z : Adr) : DF := defB 10 1 (d_law Z)
end K11
end
section
set_option linter.all false
set_option Elab.async false
set_option maxRecDepth 100000
set_option maxHeartbeats 4000100
namespace K11
open PySem L2 Dn
section
variable {G : Gh} {b : Nat} {q m k : Int} {c : W}
abbrev bagL (q m k : Int) (c : W) : GO := .lst [.int q, .int m, .int k, c]
theorem ex0 {σ : Dn.Loc} (h : G[b]? = some (bagL q m k c)) (hs : σ[0]? = some (some (.ref b)) := by rfl) : Ex (Dn.d2 (fun x y => noX (itemW x y)) (dVar 0) (dC (.int 0))) σ G (.int q) := Ex.d2 (Ex.var hs) Ex.c (item_lst (i := 0) h rfl)
theorem ex1 {σ : Dn.Loc} (h : G[b]? = some (bagL q m k c)) (hs : σ[0]? = some (some (.ref b)) := by rfl) : Ex (Dn.d2 (fun x y => noX (itemW x y)) (dVar 0) (dC (.int 1))) σ G (.int m) := Ex.d2 (Ex.var hs) Ex.c (item_lst (i := 1) h rfl)
theorem ex2 {σ : Dn.Loc} (h : G[b]? = some (bagL q m k c)) (hs : σ[0]? = some (some (.ref b)) := by rfl) : Ex (Dn.d2 (fun x y => noX (itemW x y)) (dVar 0) (dC (.int 2))) σ G (.int k) := Ex.d2 (Ex.var hs) Ex.c (item_lst (i := 2) h rfl)
theorem ex3 {σ : Dn.Loc} (h : G[b]? = some (bagL q m k c)) (hs : σ[0]? = some (some (.ref b)) := by rfl) : Ex (Dn.d2 (fun x y => noX (itemW x y)) (dVar 0) (dC (.int 3))) σ G c := Ex.d2 (Ex.var hs) Ex.c (item_lst (i := 3) h rfl)
theorem st0 (h : G[b]? = some (bagL q m k c)) (v : W) : setW (.ref b) (.int 0) v G = some (G.set b (.lst [v, .int m, .int k, c])) := set_lst (i := 0) h (by simp)
theorem st1 (h : G[b]? = some (bagL q m k c)) (v : W) : setW (.ref b) (.int 1) v G = some (G.set b (.lst [.int q, v, .int k, c])) := set_lst (i := 1) h (by simp)
theorem st2 (h : G[b]? = some (bagL q m k c)) (v : W) : setW (.ref b) (.int 2) v G = some (G.set b (.lst [.int q, .int m, v, c])) := set_lst (i := 2) h (by simp)
def tail2 : DS := (sSeq (sIf (dB (Dn.d2 (fun x y => noX (gtD x y)) (Dn.d2 (fun x y => noX (itemW x y)) (dVar 0) (dC (.int 0))) (dC (.int 0)))) (sSeq (sAsg (Dn.d2 (fun x y => noX (modW x y)) (dCallB intW (dCons (Dn.d2 (fun x y => noX (itemW x y)) (dVar 0) (dC (.int 0))) dNil)) (dVar 1)) (gV 4))
    (sSeq (sSet (dVar 0) (dC (.int 0)) (Dn.d2 (fun x y => noX (fdivW x y)) (Dn.d2 (fun x y => noX (itemW x y)) (dVar 0) (dC (.int 0))) (dVar 1)))
    (sRet (dVar 4)))) sNext)
    (sSeq (sAsg (Dn.d2 (fun x y => noX (modW x y)) (dCallB intW (dCons (Dn.d2 (fun x y => noX (mulW x y)) (Dn.d2 (fun x y => noX (addW x y)) (Dn.d2 (fun x y => noX (itemW x y)) (dVar 0) (dC (.int 1))) (dC (.int 1))) (dC (.int 39373))) dNil)) (dC (.int 1000000007))) (gV 5))
    (sSeq (sAsg (Dn.d2 (fun x y => noX (modW x y)) (dCallB intW (dCons (Dn.d2 (fun x y => noX (mulW x y)) (Dn.d2 (fun x y => noX (modW x y)) (dCallB intW (dCons (Dn.d2 (fun x y => noX (mulW x y)) (dVar 5) (dVar 5)) dNil)) (dC (.int 998244353))) (dC (.int 30011))) dNil)) (dC (.int 998244353))) (gV 6))
    (sRet (Dn.d2 (fun x y => noX (modW x y)) (dCallB intW (dCons (Dn.d2 (fun x y => noX (fdivW x y)) (dVar 6) (dC (.int 7))) dNil)) (dVar 1))))))
theorem nat_of {x : Int} {n : Nat} (hn : 0 < n) : ∃ v : Nat, v < n ∧ x % n = v := by
  have h1 := Int.emod_lt_of_pos x (show (0 : Int) < n by omega)
  have h2 := Int.emod_nonneg x (show (n : Int) ≠ 0 by omega)
  exact ⟨(x % n).toNat, by omega, by omega⟩
theorem tail2_ok {n : Nat} {x2 x3 : Option W} (h : G[b]? = some (bagL q m k c)) (hn0 : 0 < n) (hn : n < 1073741824) (hq : 0 ≤ q) :
    ∃ (v : Nat) (q' : Int), v < n ∧ 0 ≤ q' ∧ tail2 [some (.ref b), some (.int n), x2, x3, none, none, none] G = .rt (.int v) (if 0 < q then G.set b (bagL q' m k c) else G) := by
  have hn1 : (0 : Int) < n := by omega
  unfold tail2
  by_cases h0 : 0 < q
  · obtain ⟨v, hv, ev⟩ := nat_of (x := q) hn0
    refine ⟨v, q / n, hv, Int.ediv_nonneg hq (by omega), ?_⟩
    rw [if_pos h0]
    refine run_seqR ?_
    rw [run_ifT (Ex.d2 (ex0 h) Ex.c (by rw [gtIv, decide_eq_true h0]))]
    rw [seq_asg (Ex.d2 (Ex.cb1 (ex0 h) rfl) Ex.var (modIv hn1 G))]
    rw [seq_set (Ex.d2 (ex0 h) Ex.var (fdivIv ⟨hn1, by omega⟩ G)) Ex.var Ex.c (st0 h _)]
    rw [ev]
    exact run_ret Ex.var
  · have z : q = 0 := by omega
    subst z
    let a : Int := (m + 1) * 39373 % 1000000007
    have ha := Int.emod_lt_of_pos ((m + 1) * 39373) (show (0 : Int) < 1000000007 by decide)
    have ha0 := Int.emod_nonneg ((m + 1) * 39373) (show (1000000007 : Int) ≠ 0 by decide)
    obtain ⟨v, hv, ev⟩ := nat_of (x := a * a % 998244353 * 30011 % 998244353 / 7) hn0
    refine ⟨v, 0, hv, Int.le_refl _, ?_⟩
    rw [if_neg h0]
    rw [seq_ifN (Ex.d2 (ex0 h) Ex.c (by rw [gtIv]; rfl))]
    rw [seq_asg (w := .int a) (Ex.d2 (Ex.cb1 (Ex.d2 (Ex.d2 (ex1 h) Ex.c rfl) Ex.c (mulIv (.inr (by decide)) G)) rfl) Ex.c (modIv (by decide) G))]
    rw [seq_asg (w := .int (a * a % 998244353 * 30011 % 998244353)) (Ex.d2 (Ex.cb1 (Ex.d2 (Ex.d2 (Ex.cb1 (Ex.d2 Ex.var Ex.var (mulIv (.inl ⟨by omega, by omega⟩) G)) rfl) Ex.c (modIv (by decide) G)) Ex.c (mulIv (.inr (by decide)) G)) rfl) Ex.c (modIv (by decide) G))]
    rw [run_ret (Ex.d2 (Ex.cb1 (Ex.d2 Ex.var Ex.c (fdivIv (by decide) G)) rfl) Ex.var (modIv hn1 G)), ev]
/-- the first half: a cell more is looked at -/
def head2 : DS := (sSeq (sAsg (dC (.int 0)) (gV 2))
    (sSeq (sIf (dB (Dn.d2 (fun x y => noX (ltD x y)) (Dn.d2 (fun x y => noX (itemW x y)) (dVar 0) (dC (.int 2))) (dCallB lenAW (dCons (Dn.d2 (fun x y => noX (itemW x y)) (dVar 0) (dC (.int 3))) dNil)))) (sAsg (Dn.d2 (fun x y => noX (itemW x y)) (Dn.d2 (fun x y => noX (itemW x y)) (dVar 0) (dC (.int 3))) (Dn.d2 (fun x y => noX (itemW x y)) (dVar 0) (dC (.int 2)))) (gV 2)) sNext)
    (sSeq (sAugS (dVar 0) (dC (.int 2)) (dC (.int 1)) addI)
    (sSeq (sIf (dB (Dn.d2 (fun x y => noX (geD x y)) (dVar 2) (Dn.d2 (fun x y => noX (powW x y)) (dC (.int 10)) (dC (.int 18))))) (sSet (dVar 0) (dC (.int 0)) (dVar 2)) sNext)
    (sSeq (sAsg (Dn.d2 (fun x y => noX (addW x y)) (Dn.d2 (fun x y => noX (addW x y)) (Dn.d2 (fun x y => noX (mulW x y)) (Dn.d2 (fun x y => noX (itemW x y)) (dVar 0) (dC (.int 1))) (dC (.int 48271))) (Dn.d2 (fun x y => noX (modW x y)) (dCallB intW (dCons (dVar 2) dNil)) (dC (.int 2147483647)))) (Dn.d2 (fun x y => noX (mulW x y)) (dC (.int 7919)) (Dn.d2 (fun x y => noX (itemW x y)) (dVar 0) (dC (.int 2))))) (gV 3))
    (sSet (dVar 0) (dC (.int 1)) (Dn.d2 (fun x y => noX (modW x y)) (dCallB intW (dCons (dVar 3) dNil)) (dC (.int 2147483647)))))))))
theorem run_augS {d : DE} {f : D2} {σ : Dn.Loc} {G G' : Gh} {o i' : DE} {x y z w v : W} (h1 : Ex o σ G x) (h2 : Ex i' σ G y) (h3 : itemM x y G = .ok z G) (h4 : Ex d σ G w) (h5 : f z w G = .ok v G) (h6 : setW x y v G = some G') : sAugS o i' d f σ G = .nx σ G' := by
  unfold Ex at h1 h2 h4
  unfold sAugS sOf
  rw [h1]; dsimp only
  rw [h2]; dsimp only
  unfold noX
  rw [h3]; dsimp only
  unfold bnd
  rw [h4]; dsimp only
  rw [h5]; dsimp only
  rw [h6]
theorem set_set (o o' : GO) : (G.set b o).set b o' = G.set b o' := List.set_set ..
theorem head2_ok {n : W} {cn : Nat} {cs : List Int} (h : G[b]? = some (bagL 0 m k (.ref cn))) (hc : cn ≠ b) (hcs : G[cn]? = some (.lst (cs.map .int))) (hp : ∀ x ∈ cs, 0 ≤ x) (hk : 0 ≤ k) :
    ∃ (q' m' : Int) (x2 x3 : Option W), 0 ≤ q' ∧ 0 ≤ m' ∧ m' < 2147483647 ∧ head2 [some (.ref b), some n, none, none, none, none, none] G = .nx [some (.ref b), some n, x2, x3, none, none, none] (G.set b (bagL q' m' (k + 1) (.ref cn))) := by
  -- the cell
  have cell : ∃ x : Int, 0 ≤ x ∧ ∀ s', sSeq (sIf (dB (Dn.d2 (fun x y => noX (ltD x y)) (Dn.d2 (fun x y => noX (itemW x y)) (dVar 0) (dC (.int 2))) (dCallB lenAW (dCons (Dn.d2 (fun x y => noX (itemW x y)) (dVar 0) (dC (.int 3))) dNil)))) (sAsg (Dn.d2 (fun x y => noX (itemW x y)) (Dn.d2 (fun x y => noX (itemW x y)) (dVar 0) (dC (.int 3))) (Dn.d2 (fun x y => noX (itemW x y)) (dVar 0) (dC (.int 2)))) (gV 2)) sNext) s'
      [some (.ref b), some n, some (.int 0), none, none, none, none] G = s' [some (.ref b), some n, some (.int x), none, none, none, none] G := by
    have len : lenAW [.ref cn] G = .ok (.int cs.length) G := by simp [lenAW, dctQ, hcs, lenW, lenQ]
    have tst : ∀ bb, decide (k < (cs.length : Int)) = bb → Ex (Dn.d2 (fun x y => noX (ltD x y)) (Dn.d2 (fun x y => noX (itemW x y)) (dVar 0) (dC (.int 2))) (dCallB lenAW (dCons (Dn.d2 (fun x y => noX (itemW x y)) (dVar 0) (dC (.int 3))) dNil))) [some (.ref b), some n, some (.int 0), none, none, none, none] G (.bl bb) := fun bb e => Ex.d2 (ex2 h) (Ex.cb1 (ex3 h) len) (by rw [ltIv, e])
    by_cases hl : k < cs.length
    · have hkn : k.toNat < cs.length := by omega
      refine ⟨cs[k.toNat], hp _ (List.getElem_mem _), fun s' => ?_⟩
      have it : itemW (.ref cn) (.int k) G = .ok (.int cs[k.toNat]) G := by
        have this := item_lst (i := k.toNat) (w := .int cs[k.toNat]) hcs (by rw [List.getElem?_map, List.getElem?_eq_getElem hkn]; rfl)
        rw [Int.toNat_of_nonneg hk] at this
        exact this
      exact (run_seq ((run_ifT (tst true (decide_eq_true hl))).trans (run_asg (Ex.d2 (ex3 h) (ex2 h) it)))).trans rfl
    · exact ⟨0, Int.le_refl _, fun s' => seq_ifN (tst false (decide_eq_false hl))⟩
  obtain ⟨x, hx, cell⟩ := cell
  have it2 : itemM (.ref b) (.int 2) G = .ok (.int k) G := by
    have e : ixOf 4 2 = some 2 := rfl
    simp [itemM, dctQ, h, e]
  have aug : sAugS (dVar 0) (dC (.int 2)) (dC (.int 1)) addI [some (.ref b), some n, some (.int x), none, none, none, none] G = .nx [some (.ref b), some n, some (.int x), none, none, none, none] (G.set b (bagL 0 m (k + 1) (.ref cn))) :=
    run_augS Ex.var Ex.c it2 Ex.c rfl (st2 h _)
  have hb := (List.getElem?_eq_some_iff.mp h).1
  -- whether it is parted
  have part : ∃ q' : Int, 0 ≤ q' ∧ ∀ s', sSeq (sIf (dB (Dn.d2 (fun x y => noX (geD x y)) (dVar 2) (Dn.d2 (fun x y => noX (powW x y)) (dC (.int 10)) (dC (.int 18))))) (sSet (dVar 0) (dC (.int 0)) (dVar 2)) sNext) s'
      [some (.ref b), some n, some (.int x), none, none, none, none] (G.set b (bagL 0 m (k + 1) (.ref cn))) = s' [some (.ref b), some n, some (.int x), none, none, none, none] (G.set b (bagL q' m (k + 1) (.ref cn))) := by
    have h' : (G.set b (bagL 0 m (k + 1) (.ref cn)))[b]? = some (bagL 0 m (k + 1) (.ref cn)) := List.getElem?_set_self hb
    have tst : ∀ bb, (!decide (x < 10 ^ 18)) = bb → Ex (Dn.d2 (fun x y => noX (geD x y)) (dVar 2) (Dn.d2 (fun x y => noX (powW x y)) (dC (.int 10)) (dC (.int 18)))) [some (.ref b), some n, some (.int x), none, none, none, none] (G.set b (bagL 0 m (k + 1) (.ref cn))) (.bl bb) := fun bb e => Ex.d2 Ex.var (Ex.d2 Ex.c Ex.c rfl) (by rw [geIv]; exact congrArg (fun z => Out.ok (W.bl z) _) e)
    by_cases hg : x < 10 ^ 18
    · exact ⟨0, Int.le_refl _, fun s' => seq_ifN (tst false (by rw [decide_eq_true hg]; rfl))⟩
    · refine ⟨x, hx, fun s' => ?_⟩
      refine (run_seq ((run_ifT (tst true (by rw [decide_eq_false hg]; rfl))).trans (run_set Ex.var Ex.var Ex.c (st0 h' _)))).trans ?_
      rw [set_set]
  obtain ⟨q', hq', part⟩ := part
  have h2 : (G.set b (bagL q' m (k + 1) (.ref cn)))[b]? = some (bagL q' m (k + 1) (.ref cn)) := List.getElem?_set_self hb
  let y : Int := m * 48271 + x % 2147483647 + 7919 * (k + 1)
  refine ⟨q', y % 2147483647, some (.int x), some (.int y), hq', Int.emod_nonneg _ (by decide), Int.emod_lt_of_pos _ (by decide), ?_⟩
  unfold head2
  rw [seq_asg Ex.c]
  refine (cell _).trans ?_
  rw [run_seq aug]
  refine (part _).trans ?_
  rw [seq_asg (w := .int y) (Ex.d2 (Ex.d2 (Ex.d2 (ex1 h2) Ex.c (mulIv (.inr (by decide)) _)) (Ex.d2 (Ex.cb1 Ex.var rfl) Ex.c (modIv (by decide) _)) rfl) (Ex.d2 Ex.c (ex2 h2) (mulIv (.inl (by decide)) _)) rfl)]
  rw [run_set (Ex.d2 (Ex.cb1 Ex.var rfl) Ex.c (modIv (by decide) _)) Ex.var Ex.c (st1 h2 _), set_set]
  rfl
theorem take_eq (Z : Adr) : d__law_take Z = sSeq (sIf (dB (Dn.d2 (fun x y => noX (eqX x y)) (Dn.d2 (fun x y => noX (itemW x y)) (dVar 0) (dC (.int 0))) (dC (.int 0)))) head2 sNext) tail2 := rfl
/-- a draw -/
theorem take_ok (Z : Adr) {M : Nat → Bool} {n : Nat} (hM : M b = true) (B : Bag b G) (hn0 : 0 < n) (hn : n < 1073741824) : EV M b (f__law_take Z [.ref b, .int n]) G fun w _ => ∃ v : Nat, v < n ∧ w = .int v := by
  obtain ⟨q, m, k, c, cs, h, hc, hcs, hq, hp, hm, hm2, hk⟩ := B.ex
  have hb := (List.getElem?_eq_some_iff.mp h).1
  have bag : ∀ q' m' k' : Int, 0 ≤ q' → 0 ≤ m' → m' < 2147483647 → 0 ≤ k' → Bag b (G.set b (bagL q' m' k' (.ref c))) := fun q' m' k' h1 h2 h3 h4 => ⟨q', m', k', c, cs, List.getElem?_set_self hb, hc, by rw [List.getElem?_set_ne (Nat.ne_of_gt hc)]; exact hcs, h1, hp, h2, h3, h4⟩
  have fin : ∀ {w : Nat} {G' : Gh}, w < n → d__law_take Z [some (.ref b), some (.int n), none, none, none, none, none] G = .rt (.int w) G' → Stp M G G' → Bag b G' → EV M b (f__law_take Z [.ref b, .int n]) G fun w _ => ∃ v : Nat, v < n ∧ w = .int v := fun {w G'} hw e s B => by
    refine ⟨.int w, G', ?_, s, B, w, hw, rfl⟩
    unfold f__law_take defB
    rw [if_pos (by rfl)]
    unfold runB
    rw [show slots 7 [W.ref b, W.int n] = [some (.ref b), some (.int n), none, none, none, none, none] from rfl, e]
  rw [take_eq] at fin
  by_cases h0 : q = 0
  · subst h0
    obtain ⟨q', m', x2, x3, hq', hm', hm2', e1⟩ := head2_ok (n := .int n) h (Nat.ne_of_lt hc) hcs hp hk
    have h2 : (G.set b (bagL q' m' (k + 1) (.ref c)))[b]? = some (bagL q' m' (k + 1) (.ref c)) := List.getElem?_set_self hb
    obtain ⟨v, q2, hv, hq2, e2⟩ := tail2_ok (x2 := x2) (x3 := x3) h2 hn0 hn hq'
    refine fin hv ((run_seq ((run_ifT (Ex.d2 (ex0 h) Ex.c (by rw [eqIv]; rfl))).trans e1)).trans e2) ?_ ?_
    · split
      · rw [set_set]; exact Stp.set hM
      · exact Stp.set hM
    · split
      · rw [set_set]; exact bag _ _ _ hq2 hm' hm2' (by omega)
      · exact bag _ _ _ hq' hm' hm2' (by omega)
  · obtain ⟨v, q2, hv, hq2, e2⟩ := tail2_ok (x2 := none) (x3 := none) h hn0 hn hq
    refine fin hv ((seq_ifN (Ex.d2 (ex0 h) Ex.c (by rw [eqIv]; exact congrArg (fun z => Out.ok (W.bl z) G) (beq_eq_false_iff_ne.mpr h0)))).trans e2) ?_ ?_
    · split
      · exact Stp.set hM
      · exact .refl
    · split
      · exact bag _ _ _ hq2 hm hm2 hk
      · exact B
end
end K11
end
section
set_option Elab.async false
set_option backward.match.sparseCases false
set_option linter.all false
set_option maxRecDepth 100000
set_option maxHeartbeats 4000100
namespace K11
open PySem L2 Dn
def top (i : Nat) : Stmt := PySem.Challenge.pw_letinside_k11_kinds_of_any_value.main.body.getD i (.Pass ⟨0, 0, 0, 0⟩)
structure Txt (Z : Adr) (mg : Str → Option Value) where
  b_abs : mg "abs" = none
  b_all : mg "all" = none
  b_bool : mg "bool" = none
  b_dict : mg "dict" = none
  b_int : mg "int" = none
  b_isinstance : mg "isinstance" = none
  b_len : mg "len" = none
  b_list : mg "list" = none
  b_range : mg "range" = none
  b_repr : mg "repr" = none
  b_set : mg "set" = none
  b_sorted : mg "sorted" = none
  b_str : mg "str" = none
  b_tuple : mg "tuple" = none
  g_GIVEN : ∃ u, mg "GIVEN" = some u ∧ RelV (.str "+given") u
  g_KEPT : ∃ u, mg "KEPT" = some u ∧ RelV (.str "+kept") u
  g_LETTERS : ∃ u, mg "LETTERS" = some u ∧ RelV (.str "abcdefghijklmnopqrstuvwxyz") u
  g_LONGEST : ∃ u, mg "LONGEST" = some u ∧ RelV (.int 8) u
  g_MOST_STATES : ∃ u, mg "MOST_STATES" = some u ∧ RelV (.int 64) u
  g_NOTHING : ∃ u, mg "NOTHING" = some u ∧ RelV (.str "") u
  g_OTHER : ∃ u, mg "OTHER" = some u ∧ RelV (.str "?") u
  cl_Gate : SlX.SCls Z.K Z.C_Gate
  is_Gate : SlX.SIsi Z.K Z.C_Gate
  mg_Gate : mg "Gate" = some (.ref Z.C_Gate)
  i_Gate_int : PySem.W.kitOne Z.K (.ref Z.C_Gate) (.type "int") = some false
  i_Gate_bool : PySem.W.kitOne Z.K (.ref Z.C_Gate) (.type "bool") = some false
  i_Gate_str : PySem.W.kitOne Z.K (.ref Z.C_Gate) (.type "str") = some false
  i_Gate_list : PySem.W.kitOne Z.K (.ref Z.C_Gate) (.type "list") = some false
  i_Gate_tuple : PySem.W.kitOne Z.K (.ref Z.C_Gate) (.type "tuple") = some false
  i_Gate_dict : PySem.W.kitOne Z.K (.ref Z.C_Gate) (.type "dict") = some false
  j_Gate_NoneType : PySem.W.kitOne Z.K (.type "NoneType") (.ref Z.C_Gate) = some false
  j_Gate_int : PySem.W.kitOne Z.K (.type "int") (.ref Z.C_Gate) = some false
  j_Gate_bool : PySem.W.kitOne Z.K (.type "bool") (.ref Z.C_Gate) = some false
  j_Gate_str : PySem.W.kitOne Z.K (.type "str") (.ref Z.C_Gate) = some false
  j_Gate_list : PySem.W.kitOne Z.K (.type "list") (.ref Z.C_Gate) = some false
  j_Gate_tuple : PySem.W.kitOne Z.K (.type "tuple") (.ref Z.C_Gate) = some false
  j_Gate_dict : PySem.W.kitOne Z.K (.type "dict") (.ref Z.C_Gate) = some false
  p_Gate_its_closet : Addr
  s_Gate_its_closet : SlX.Slot1 Z.K Z.C_Gate "its_closet" p_Gate_its_closet 0
  p_Gate_its_doors : Addr
  s_Gate_its_doors : SlX.Slot1 Z.K Z.C_Gate "its_doors" p_Gate_its_doors 1
  p_Gate_its_kinds : Addr
  s_Gate_its_kinds : SlX.Slot1 Z.K Z.C_Gate "its_kinds" p_Gate_its_kinds 2
  p_Gate_its_rules : Addr
  s_Gate_its_rules : SlX.Slot1 Z.K Z.C_Gate "its_rules" p_Gate_its_rules 3
  p_Gate_its_states : Addr
  s_Gate_its_states : SlX.Slot1 Z.K Z.C_Gate "its_states" p_Gate_its_states 4
  a_is_integer : Addr
  c_is_integer : FuncData
  F_is_integer : Fun Z.K "is_integer" "is_integer" (top 4) a_is_integer c_is_integer
  B_is_integer : Binds Z.K c_is_integer ["thing"] []
  m_is_integer : mg "is_integer" = some (.ref a_is_integer)
  k_is_integer : PySem.W.keepIn Z.K (.ref a_is_integer) = true
  a_is_name : Addr
  c_is_name : FuncData
  F_is_name : Fun Z.K "is_name" "is_name" (top 5) a_is_name c_is_name
  B_is_name : Binds Z.K c_is_name ["thing"] []
  m_is_name : mg "is_name" = some (.ref a_is_name)
  k_is_name : PySem.W.keepIn Z.K (.ref a_is_name) = true
  a_are_names : Addr
  c_are_names : FuncData
  F_are_names : Fun Z.K "are_names" "are_names" (top 6) a_are_names c_are_names
  B_are_names : Binds Z.K c_are_names ["thing"] []
  m_are_names : mg "are_names" = some (.ref a_are_names)
  k_are_names : PySem.W.keepIn Z.K (.ref a_are_names) = true
  a_is_pair : Addr
  c_is_pair : FuncData
  F_is_pair : Fun Z.K "is_pair" "is_pair" (top 7) a_is_pair c_is_pair
  B_is_pair : Binds Z.K c_is_pair ["thing"] []
  m_is_pair : mg "is_pair" = some (.ref a_is_pair)
  k_is_pair : PySem.W.keepIn Z.K (.ref a_is_pair) = true
  a_is_wish : Addr
  c_is_wish : FuncData
  F_is_wish : Fun Z.K "is_wish" "is_wish" (top 8) a_is_wish c_is_wish
  B_is_wish : Binds Z.K c_is_wish ["thing"] []
  m_is_wish : mg "is_wish" = some (.ref a_is_wish)
  k_is_wish : PySem.W.keepIn Z.K (.ref a_is_wish) = true
  a_is_call : Addr
  c_is_call : FuncData
  F_is_call : Fun Z.K "is_call" "is_call" (top 9) a_is_call c_is_call
  B_is_call : Binds Z.K c_is_call ["thing"] []
  m_is_call : mg "is_call" = some (.ref a_is_call)
  k_is_call : PySem.W.keepIn Z.K (.ref a_is_call) = true
  a_is_deed : Addr
  c_is_deed : FuncData
  F_is_deed : Fun Z.K "is_deed" "is_deed" (top 10) a_is_deed c_is_deed
  B_is_deed : Binds Z.K c_is_deed ["thing"] []
  m_is_deed : mg "is_deed" = some (.ref a_is_deed)
  k_is_deed : PySem.W.keepIn Z.K (.ref a_is_deed) = true
  a_is_state : Addr
  c_is_state : FuncData
  F_is_state : Fun Z.K "is_state" "is_state" (top 20) a_is_state c_is_state
  B_is_state : Binds Z.K c_is_state ["thing", "states"] []
  m_is_state : mg "is_state" = some (.ref a_is_state)
  k_is_state : PySem.W.keepIn Z.K (.ref a_is_state) = true
  a_is_kind : Addr
  c_is_kind : FuncData
  F_is_kind : Fun Z.K "is_kind" "is_kind" (top 21) a_is_kind c_is_kind
  B_is_kind : Binds Z.K c_is_kind ["thing", "closet"] []
  m_is_kind : mg "is_kind" = some (.ref a_is_kind)
  k_is_kind : PySem.W.keepIn Z.K (.ref a_is_kind) = true
  a_is_word : Addr
  c_is_word : FuncData
  F_is_word : Fun Z.K "is_word" "is_word" (top 22) a_is_word c_is_word
  B_is_word : Binds Z.K c_is_word ["thing", "closet", "kind"] []
  m_is_word : mg "is_word" = some (.ref a_is_word)
  k_is_word : PySem.W.keepIn Z.K (.ref a_is_word) = true
  a_is_rule : Addr
  c_is_rule : FuncData
  F_is_rule : Fun Z.K "is_rule" "is_rule" (top 23) a_is_rule c_is_rule
  B_is_rule : Binds Z.K c_is_rule ["thing", "states", "doors", "closet"] []
  m_is_rule : mg "is_rule" = some (.ref a_is_rule)
  k_is_rule : PySem.W.keepIn Z.K (.ref a_is_rule) = true
  a_are_rules : Addr
  c_are_rules : FuncData
  F_are_rules : Fun Z.K "are_rules" "are_rules" (top 24) a_are_rules c_are_rules
  B_are_rules : Binds Z.K c_are_rules ["thing", "states", "doors", "closet"] []
  m_are_rules : mg "are_rules" = some (.ref a_are_rules)
  k_are_rules : PySem.W.keepIn Z.K (.ref a_are_rules) = true
  a_Gate___init__ : Addr
  c_Gate___init__ : FuncData
  F_Gate___init__ : Fun Z.K "__init__" "Gate.__init__" (inClass (top 25) 1) a_Gate___init__ c_Gate___init__
  B_Gate___init__ : Binds Z.K c_Gate___init__ ["self", "states", "doors", "closet", "rules"] []
  M_Gate : Mk Z.K Z.C_Gate a_Gate___init__
  a_Gate___eq__ : Addr
  c_Gate___eq__ : FuncData
  F_Gate___eq__ : Fun Z.K "__eq__" "Gate.__eq__" (inClass (top 25) 2) a_Gate___eq__ c_Gate___eq__
  B_Gate___eq__ : Binds Z.K c_Gate___eq__ ["self", "other"] []
  M_Gate___eq__ : Meth Z.K Z.C_Gate "__eq__" a_Gate___eq__
  a_Gate_states : Addr
  c_Gate_states : FuncData
  F_Gate_states : Fun Z.K "states" "Gate.states" (inClass (top 25) 3) a_Gate_states c_Gate_states
  B_Gate_states : Binds Z.K c_Gate_states ["self"] []
  pr_Gate_states : PropAt Z.K Z.C_Gate "states" a_Gate_states
  a_Gate_doors : Addr
  c_Gate_doors : FuncData
  F_Gate_doors : Fun Z.K "doors" "Gate.doors" (inClass (top 25) 4) a_Gate_doors c_Gate_doors
  B_Gate_doors : Binds Z.K c_Gate_doors ["self"] []
  M_Gate_doors : Meth Z.K Z.C_Gate "doors" a_Gate_doors
  a_Gate_closet : Addr
  c_Gate_closet : FuncData
  F_Gate_closet : Fun Z.K "closet" "Gate.closet" (inClass (top 25) 5) a_Gate_closet c_Gate_closet
  B_Gate_closet : Binds Z.K c_Gate_closet ["self"] []
  M_Gate_closet : Meth Z.K Z.C_Gate "closet" a_Gate_closet
  a_Gate_kind_of : Addr
  c_Gate_kind_of : FuncData
  F_Gate_kind_of : Fun Z.K "kind_of" "Gate.kind_of" (inClass (top 25) 7) a_Gate_kind_of c_Gate_kind_of
  B_Gate_kind_of : Binds Z.K c_Gate_kind_of ["self", "given"] []
  M_Gate_kind_of : Meth Z.K Z.C_Gate "kind_of" a_Gate_kind_of
  a_Gate_call : Addr
  c_Gate_call : FuncData
  F_Gate_call : Fun Z.K "call" "Gate.call" (inClass (top 25) 9) a_Gate_call c_Gate_call
  B_Gate_call : Binds Z.K c_Gate_call ["self", "state", "kept", "door", "given"] []
  M_Gate_call : Meth Z.K Z.C_Gate "call" a_Gate_call
  a__law_bag : Addr
  c__law_bag : FuncData
  F__law_bag : Fun Z.K "_law_bag" "_law_bag" (top 27) a__law_bag c__law_bag
  B__law_bag : Binds Z.K c__law_bag ["_law_script"] []
  m__law_bag : mg "_law_bag" = some (.ref a__law_bag)
  k__law_bag : PySem.W.keepIn Z.K (.ref a__law_bag) = true
  a__law_take : Addr
  c__law_take : FuncData
  F__law_take : Fun Z.K "_law_take" "_law_take" (top 28) a__law_take c__law_take
  B__law_take : Binds Z.K c__law_take ["_law_bag_here", "_law_many"] []
  m__law_take : mg "_law_take" = some (.ref a__law_take)
  k__law_take : PySem.W.keepIn Z.K (.ref a__law_take) = true
  a__law_one : Addr
  c__law_one : FuncData
  F__law_one : Fun Z.K "_law_one" "_law_one" (top 29) a__law_one c__law_one
  B__law_one : Binds Z.K c__law_one ["_law_bag_here", "_law_things"] []
  m__law_one : mg "_law_one" = some (.ref a__law_one)
  k__law_one : PySem.W.keepIn Z.K (.ref a__law_one) = true
  a__law_alike : Addr
  c__law_alike : FuncData
  F__law_alike : Fun Z.K "_law_alike" "_law_alike" (top 30) a__law_alike c__law_alike
  B__law_alike : Binds Z.K c__law_alike ["_law_found", "_law_due"] []
  m__law_alike : mg "_law_alike" = some (.ref a__law_alike)
  k__law_alike : PySem.W.keepIn Z.K (.ref a__law_alike) = true
  a__law_is_whole : Addr
  c__law_is_whole : FuncData
  F__law_is_whole : Fun Z.K "_law_is_whole" "_law_is_whole" (top 31) a__law_is_whole c__law_is_whole
  B__law_is_whole : Binds Z.K c__law_is_whole ["_law_thing"] []
  m__law_is_whole : mg "_law_is_whole" = some (.ref a__law_is_whole)
  k__law_is_whole : PySem.W.keepIn Z.K (.ref a__law_is_whole) = true
  a__law_is_name : Addr
  c__law_is_name : FuncData
  F__law_is_name : Fun Z.K "_law_is_name" "_law_is_name" (top 32) a__law_is_name c__law_is_name
  B__law_is_name : Binds Z.K c__law_is_name ["_law_thing"] []
  m__law_is_name : mg "_law_is_name" = some (.ref a__law_is_name)
  k__law_is_name : PySem.W.keepIn Z.K (.ref a__law_is_name) = true
  a__law_are_names : Addr
  c__law_are_names : FuncData
  F__law_are_names : Fun Z.K "_law_are_names" "_law_are_names" (top 33) a__law_are_names c__law_are_names
  B__law_are_names : Binds Z.K c__law_are_names ["_law_thing"] []
  m__law_are_names : mg "_law_are_names" = some (.ref a__law_are_names)
  k__law_are_names : PySem.W.keepIn Z.K (.ref a__law_are_names) = true
  a__law_odd : Addr
  c__law_odd : FuncData
  F__law_odd : Fun Z.K "_law_odd" "_law_odd" (top 34) a__law_odd c__law_odd
  B__law_odd : Binds Z.K c__law_odd ["_law_bag_here"] []
  m__law_odd : mg "_law_odd" = some (.ref a__law_odd)
  k__law_odd : PySem.W.keepIn Z.K (.ref a__law_odd) = true
  a__law_is_deed : Addr
  c__law_is_deed : FuncData
  F__law_is_deed : Fun Z.K "_law_is_deed" "_law_is_deed" (top 35) a__law_is_deed c__law_is_deed
  B__law_is_deed : Binds Z.K c__law_is_deed ["_law_thing"] []
  m__law_is_deed : mg "_law_is_deed" = some (.ref a__law_is_deed)
  k__law_is_deed : PySem.W.keepIn Z.K (.ref a__law_is_deed) = true
  a__law_is_wish : Addr
  c__law_is_wish : FuncData
  F__law_is_wish : Fun Z.K "_law_is_wish" "_law_is_wish" (top 36) a__law_is_wish c__law_is_wish
  B__law_is_wish : Binds Z.K c__law_is_wish ["_law_thing"] []
  m__law_is_wish : mg "_law_is_wish" = some (.ref a__law_is_wish)
  k__law_is_wish : PySem.W.keepIn Z.K (.ref a__law_is_wish) = true
  a__law_some_name : Addr
  c__law_some_name : FuncData
  F__law_some_name : Fun Z.K "_law_some_name" "_law_some_name" (top 37) a__law_some_name c__law_some_name
  B__law_some_name : Binds Z.K c__law_some_name ["_law_bag_here"] []
  m__law_some_name : mg "_law_some_name" = some (.ref a__law_some_name)
  k__law_some_name : PySem.W.keepIn Z.K (.ref a__law_some_name) = true
  a__law_drawn_thing : Addr
  c__law_drawn_thing : FuncData
  F__law_drawn_thing : Fun Z.K "_law_drawn_thing" "_law_drawn_thing" (top 38) a__law_drawn_thing c__law_drawn_thing
  B__law_drawn_thing : Binds Z.K c__law_drawn_thing ["_law_bag_here"] []
  m__law_drawn_thing : mg "_law_drawn_thing" = some (.ref a__law_drawn_thing)
  k__law_drawn_thing : PySem.W.keepIn Z.K (.ref a__law_drawn_thing) = true
  a__law_near_one : Addr
  c__law_near_one : FuncData
  F__law_near_one : Fun Z.K "_law_near_one" "_law_near_one" (top 39) a__law_near_one c__law_near_one
  B__law_near_one : Binds Z.K c__law_near_one ["_law_bag_here"] []
  m__law_near_one : mg "_law_near_one" = some (.ref a__law_near_one)
  k__law_near_one : PySem.W.keepIn Z.K (.ref a__law_near_one) = true
  a__law_bent : Addr
  c__law_bent : FuncData
  F__law_bent : Fun Z.K "_law_bent" "_law_bent" (top 40) a__law_bent c__law_bent
  B__law_bent : Binds Z.K c__law_bent ["_law_bag_here", "_law_thing"] []
  m__law_bent : mg "_law_bent" = some (.ref a__law_bent)
  k__law_bent : PySem.W.keepIn Z.K (.ref a__law_bent) = true
  a_law : Addr
  c_law : FuncData
  F_law : Fun Z.K "law" "law" (top 41) a_law c_law
  B_law : Binds Z.K c_law ["_law_script"] []
  m_law : mg "law" = some (.ref a_law)
  k_law : PySem.W.keepIn Z.K (.ref a_law) = true
section
variable {P : Program} {w : World} {Z : Adr} {mg : Str → Option Value} {base : Heap}
theorem s_is_integer : FnScope ["thing"] ["thing"] (defScope (top 4)) := ⟨rfl, rfl, rfl, by decide +kernel, rfl, by decide +kernel, by decide +kernel⟩
theorem L_is_integer (sm : ∃ o, base.get? sysModules = some o) (T : Txt Z mg) : LF P w Z.K mg base 1 T.a_is_integer T.c_is_integer ["thing"] (f_is_integer Z) := by
  refine lf_def (k := 0) sm T.F_is_integer s_is_integer fun cdv A outer s H E c => ?_
  exact (ls_one (ls_ret (le_and (le_callB call_isiW (by rfl) T.b_isinstance (by rfl) (la_cons (le_var (pv 0)) (la_cons (le_tyc (by rfl) T.b_int (by rfl)) la_nil))) (le_one (le_not (le_callB call_isiW (by rfl) T.b_isinstance (by rfl) (la_cons (le_var (pv 0)) (la_cons (le_tyc (by rfl) T.b_bool (by rfl)) la_nil))))))))
theorem s_is_name : FnScope ["thing", "sign"] ["thing"] (defScope (top 5)) := ⟨rfl, rfl, rfl, by decide +kernel, rfl, by decide +kernel, by decide +kernel⟩
theorem L_is_name (sm : ∃ o, base.get? sysModules = some o) (T : Txt Z mg) : LF P w Z.K mg base 1 T.a_is_name T.c_is_name ["thing"] (f_is_name Z) := by
  refine lf_def (k := 0) sm T.F_is_name s_is_name fun cdv A outer s H E c => ?_
  exact (ls_cons (ls_if (lt_w (lw_or (lt_not (lt_val (le_callB call_isiW (by rfl) T.b_isinstance (by rfl) (la_cons (le_var (pv 0)) (la_cons (le_tyc (by rfl) T.b_str (by rfl)) la_nil))))) (lw_or1 (lt_not (lt_chain (op_ltD c) (op_leD c) le_int (le_callB call_lenAW (by rfl) T.b_len (by rfl) (la_cons (le_var (pv 0)) la_nil)) (le_const (w := (.int 8)) (by rfl) T.g_LONGEST)))))) (ls_one (ls_ret le_bl)) ls_nil)
    (ls_one (ls_ret (le_callB (call_allW c) (by rfl) T.b_all (by rfl) (la_cons (le_lc (own := [("sign", 1)]) c (li_any (le_var (pv 0))) (by kernel_rfl) (by decide) (fun s H C cl fp => pg_name (by exact c.nd) rfl (by first | exact Or.inl rfl | exact Or.inr rfl)) (fun s H C cl fp c => lts_nil) (fun s H C cl fp c => (le_cmp (op_mem c) (by rfl) (le_var (pv 1)) (le_const (w := (.str "abcdefghijklmnopqrstuvwxyz")) (by rfl) T.g_LETTERS)))) la_nil)))))
theorem s_are_names : FnScope ["thing", "one"] ["thing"] (defScope (top 6)) := ⟨rfl, rfl, rfl, by decide +kernel, rfl, by decide +kernel, by decide +kernel⟩
theorem L_are_names (sm : ∃ o, base.get? sysModules = some o) (T : Txt Z mg) : LF P w Z.K mg base 2 T.a_are_names T.c_are_names ["thing"] (f_are_names Z) := by
  refine lf_def (k := 1) sm T.F_are_names s_are_names fun cdv A outer s H E c => ?_
  exact (ls_cons (ls_if (lt_w (lw_or (lt_not (lt_val (le_callB call_isiW (by rfl) T.b_isinstance (by rfl) (la_cons (le_var (pv 0)) (la_cons (le_tup (la_cons (le_tyc (by rfl) T.b_list (by rfl)) (la_cons (le_tyc (by rfl) T.b_tuple (by rfl)) la_nil))) la_nil))))) (lw_or1 (lt_not (lt_val (le_callB (call_allW c) (by rfl) T.b_all (by rfl) (la_cons (le_lc (own := [("one", 1)]) c (li_any (le_var (pv 0))) (by kernel_rfl) (by decide) (fun s H C cl fp => pg_name (by exact c.nd) rfl (by first | exact Or.inl rfl | exact Or.inr rfl)) (fun s H C cl fp c => lts_nil) (fun s H C cl fp c => (le_call c ((L_is_name sm T).mono (by decide)) (by rfl) T.m_is_name T.k_is_name T.B_is_name (la_cons (le_var (pv 1)) la_nil)))) la_nil))))))) (ls_one (ls_ret le_bl)) ls_nil)
    (ls_one (ls_ret (le_cmp (op_eqX c) (by rfl) (le_lenSet c (by rfl) T.b_len (by rfl) T.b_set (le_var (pv 0))) (le_callB call_lenAW (by rfl) T.b_len (by rfl) (la_cons (le_var (pv 0)) la_nil))))))
theorem s_is_pair : FnScope ["thing"] ["thing"] (defScope (top 7)) := ⟨rfl, rfl, rfl, by decide +kernel, rfl, by decide +kernel, by decide +kernel⟩
theorem L_is_pair (sm : ∃ o, base.get? sysModules = some o) (T : Txt Z mg) : LF P w Z.K mg base 2 T.a_is_pair T.c_is_pair ["thing"] (f_is_pair Z) := by
  refine lf_def (k := 1) sm T.F_is_pair s_is_pair fun cdv A outer s H E c => ?_
  exact (ls_one (ls_ret (le_and (le_callB call_isiW (by rfl) T.b_isinstance (by rfl) (la_cons (le_var (pv 0)) (la_cons (le_tyc (by rfl) T.b_tuple (by rfl)) la_nil))) (le_and (le_cmp (op_eqX c) (by rfl) (le_callB call_lenAW (by rfl) T.b_len (by rfl) (la_cons (le_var (pv 0)) la_nil)) le_int) (le_and (le_call c ((L_is_name sm T).mono (by decide)) (by rfl) T.m_is_name T.k_is_name T.B_is_name (la_cons (le_item c (le_var (pv 0)) le_int) la_nil)) (le_one (le_call c ((L_is_name sm T).mono (by decide)) (by rfl) T.m_is_name T.k_is_name T.B_is_name (la_cons (le_item c (le_var (pv 0)) le_int) la_nil))))))))
theorem s_is_wish : FnScope ["thing", "pair"] ["thing"] (defScope (top 8)) := ⟨rfl, rfl, rfl, by decide +kernel, rfl, by decide +kernel, by decide +kernel⟩
theorem L_is_wish (sm : ∃ o, base.get? sysModules = some o) (T : Txt Z mg) : LF P w Z.K mg base 3 T.a_is_wish T.c_is_wish ["thing"] (f_is_wish Z) := by
  refine lf_def (k := 2) sm T.F_is_wish s_is_wish fun cdv A outer s H E c => ?_
  exact (ls_cons (ls_if (lt_w (lw_or (lt_not (lt_val (le_callB call_isiW (by rfl) T.b_isinstance (by rfl) (la_cons (le_var (pv 0)) (la_cons (le_tyc (by rfl) T.b_tuple (by rfl)) la_nil))))) (lw_or (lt_cmp (op_eqX c) (by rfl) (le_var (pv 0)) (le_tup la_nil)) (lw_or1 (lt_not (lt_val (le_callB (call_allW c) (by rfl) T.b_all (by rfl) (la_cons (le_lc (own := [("pair", 1)]) c (li_any (le_var (pv 0))) (by kernel_rfl) (by decide) (fun s H C cl fp => pg_name (by exact c.nd) rfl (by first | exact Or.inl rfl | exact Or.inr rfl)) (fun s H C cl fp c => lts_nil) (fun s H C cl fp c => (le_call c ((L_is_pair sm T).mono (by decide)) (by rfl) T.m_is_pair T.k_is_pair T.B_is_pair (la_cons (le_var (pv 1)) la_nil)))) la_nil)))))))) (ls_one (ls_ret le_bl)) ls_nil)
    (ls_one (ls_ret (le_cmp (op_eqX c) (by rfl) (le_callTy call_listW (by rfl) T.b_list (by rfl) (la_cons (le_var (pv 0)) la_nil)) (le_sortSet c (by rfl) T.b_sorted (by rfl) T.b_set (le_var (pv 0)))))))
theorem s_is_call : FnScope ["thing"] ["thing"] (defScope (top 9)) := ⟨rfl, rfl, rfl, by decide +kernel, rfl, by decide +kernel, by decide +kernel⟩
theorem L_is_call (sm : ∃ o, base.get? sysModules = some o) (T : Txt Z mg) : LF P w Z.K mg base 2 T.a_is_call T.c_is_call ["thing"] (f_is_call Z) := by
  refine lf_def (k := 1) sm T.F_is_call s_is_call fun cdv A outer s H E c => ?_
  exact (ls_cons (ls_if (lt_w (lw_or (lt_cmp (op_neX c) (by rfl) (le_callB call_lenAW (by rfl) T.b_len (by rfl) (la_cons (le_var (pv 0)) la_nil)) le_int) (lw_or (lt_not (lt_val (le_call c ((L_is_name sm T).mono (by decide)) (by rfl) T.m_is_name T.k_is_name T.B_is_name (la_cons (le_item c (le_var (pv 0)) le_int) la_nil)))) (lw_or1 (lt_not (lt_val (le_call c ((L_is_name sm T).mono (by decide)) (by rfl) T.m_is_name T.k_is_name T.B_is_name (la_cons (le_item c (le_var (pv 0)) le_int) la_nil)))))))) (ls_one (ls_ret le_bl)) ls_nil)
    (ls_one (ls_ret (le_or (le_call c ((L_is_name sm T).mono (by decide)) (by rfl) T.m_is_name T.k_is_name T.B_is_name (la_cons (le_item c (le_var (pv 0)) le_int) la_nil)) (le_one (le_and (le_callB call_isiW (by rfl) T.b_isinstance (by rfl) (la_cons (le_item c (le_var (pv 0)) le_int) (la_cons (le_tyc (by rfl) T.b_str (by rfl)) la_nil))) (le_one (le_cmp (op_eqX c) (by rfl) (le_item c (le_var (pv 0)) le_int) le_str))))))))
theorem s_is_deed : FnScope ["thing", "one"] ["thing"] (defScope (top 10)) := ⟨rfl, rfl, rfl, by decide +kernel, rfl, by decide +kernel, by decide +kernel⟩
theorem L_is_deed (sm : ∃ o, base.get? sysModules = some o) (T : Txt Z mg) : LF P w Z.K mg base 3 T.a_is_deed T.c_is_deed ["thing"] (f_is_deed Z) := by
  refine lf_def (k := 2) sm T.F_is_deed s_is_deed fun cdv A outer s H E c => ?_
  exact (ls_cons (ls_if (lt_w (lw_or (lt_not (lt_val (le_callB call_isiW (by rfl) T.b_isinstance (by rfl) (la_cons (le_var (pv 0)) (la_cons (le_tyc (by rfl) T.b_tuple (by rfl)) la_nil))))) (lw_or (lt_cmp (op_ltD c) (by rfl) (le_callB call_lenAW (by rfl) T.b_len (by rfl) (la_cons (le_var (pv 0)) la_nil)) le_int) (lw_or1 (lt_not (lt_val (le_callB call_isiW (by rfl) T.b_isinstance (by rfl) (la_cons (le_item c (le_var (pv 0)) le_int) (la_cons (le_tyc (by rfl) T.b_str (by rfl)) la_nil))))))))) (ls_one (ls_ret le_bl)) ls_nil)
    (ls_cons (ls_if (lt_cmp (op_eqX c) (by rfl) (le_item c (le_var (pv 0)) le_int) le_str) (ls_one (ls_ret (le_call c ((L_is_call sm T).mono (by decide)) (by rfl) T.m_is_call T.k_is_call T.B_is_call (la_cons (le_var (pv 0)) la_nil)))) ls_nil)
    (ls_cons (ls_if (lt_cmp (op_eqX c) (by rfl) (le_item c (le_var (pv 0)) le_int) le_str) (ls_one (ls_ret (le_and (le_cmp (op_eqX c) (by rfl) (le_callB call_lenAW (by rfl) T.b_len (by rfl) (la_cons (le_var (pv 0)) la_nil)) le_int) (le_and (le_callB (call_allW c) (by rfl) T.b_all (by rfl) (la_cons (le_lc (own := [("one", 1)]) c (li_any (le_sl (le_var (pv 0)) (lo_some le_int) lo_none)) (by kernel_rfl) (by decide) (fun s H C cl fp => pg_name (by exact c.nd) rfl (by first | exact Or.inl rfl | exact Or.inr rfl)) (fun s H C cl fp c => lts_nil) (fun s H C cl fp c => (le_call c ((L_is_name sm T).mono (by decide)) (by rfl) T.m_is_name T.k_is_name T.B_is_name (la_cons (le_var (pv 1)) la_nil)))) la_nil)) (le_one (le_cmp (op_neX c) (by rfl) (le_item c (le_var (pv 0)) le_int) (le_item c (le_var (pv 0)) le_int))))))) ls_nil)
    (ls_one (ls_ret (le_and (le_cmp (op_eqX c) (by rfl) (le_item c (le_var (pv 0)) le_int) le_str) (le_and (le_cmp (op_eqX c) (by rfl) (le_callB call_lenAW (by rfl) T.b_len (by rfl) (la_cons (le_var (pv 0)) la_nil)) le_int) (le_one (le_call c ((L_is_name sm T).mono (by decide)) (by rfl) T.m_is_name T.k_is_name T.B_is_name (la_cons (le_item c (le_var (pv 0)) le_int) la_nil))))))))))
theorem s_is_state : FnScope ["thing", "states"] ["thing", "states"] (defScope (top 20)) := ⟨rfl, rfl, rfl, by decide +kernel, rfl, by decide +kernel, by decide +kernel⟩
theorem L_is_state (sm : ∃ o, base.get? sysModules = some o) (T : Txt Z mg) : LF P w Z.K mg base 2 T.a_is_state T.c_is_state ["thing", "states"] (f_is_state Z) := by
  refine lf_def (k := 1) sm T.F_is_state s_is_state fun cdv A outer s H E c => ?_
  exact (ls_one (ls_ret (le_and (le_call c ((L_is_integer sm T).mono (by decide)) (by rfl) T.m_is_integer T.k_is_integer T.B_is_integer (la_cons (le_var (pv 0)) la_nil)) (le_one (le_chain (op_leD c) (op_ltD c) le_int (le_var (pv 0)) (le_var (pv 1)))))))
theorem s_is_kind : FnScope ["thing", "closet"] ["thing", "closet"] (defScope (top 21)) := ⟨rfl, rfl, rfl, by decide +kernel, rfl, by decide +kernel, by decide +kernel⟩
theorem L_is_kind (sm : ∃ o, base.get? sysModules = some o) (T : Txt Z mg) : LF P w Z.K mg base 1 T.a_is_kind T.c_is_kind ["thing", "closet"] (f_is_kind Z) := by
  refine lf_def (k := 0) sm T.F_is_kind s_is_kind fun cdv A outer s H E c => ?_
  exact (ls_one (ls_ret (le_and (le_callB call_isiW (by rfl) T.b_isinstance (by rfl) (la_cons (le_var (pv 0)) (la_cons (le_tyc (by rfl) T.b_str (by rfl)) la_nil))) (le_one (le_or (le_cmp (op_mem c) (by rfl) (le_var (pv 0)) (le_tup (la_cons (le_const (w := (.str "")) (by rfl) T.g_NOTHING) (la_cons (le_const (w := (.str "?")) (by rfl) T.g_OTHER) la_nil)))) (le_one (le_cmp (op_mem c) (by rfl) (le_var (pv 0)) (le_var (pv 1)))))))))
theorem s_is_word : FnScope ["thing", "closet", "kind"] ["thing", "closet", "kind"] (defScope (top 22)) := ⟨rfl, rfl, rfl, by decide +kernel, rfl, by decide +kernel, by decide +kernel⟩
theorem L_is_word (sm : ∃ o, base.get? sysModules = some o) (T : Txt Z mg) : LF P w Z.K mg base 1 T.a_is_word T.c_is_word ["thing", "closet", "kind"] (f_is_word Z) := by
  refine lf_def (k := 0) sm T.F_is_word s_is_word fun cdv A outer s H E c => ?_
  exact (ls_cons (ls_if (lt_not (lt_val (le_callB call_isiW (by rfl) T.b_isinstance (by rfl) (la_cons (le_var (pv 0)) (la_cons (le_tyc (by rfl) T.b_str (by rfl)) la_nil))))) (ls_one (ls_ret le_bl)) ls_nil)
    (ls_one (ls_ret (le_or (le_cmp (op_mem c) (by rfl) (le_var (pv 0)) (le_var (pv 1))) (le_or (le_cmp (op_eqX c) (by rfl) (le_var (pv 0)) (le_const (w := (.str "+kept")) (by rfl) T.g_KEPT)) (le_one (le_and (le_cmp (op_eqX c) (by rfl) (le_var (pv 0)) (le_const (w := (.str "+given")) (by rfl) T.g_GIVEN)) (le_one (le_cmp (op_neX c) (by rfl) (le_var (pv 2)) (le_const (w := (.str "")) (by rfl) T.g_NOTHING))))))))))
theorem s_is_rule : FnScope ["thing", "states", "doors", "closet", "door", "state", "kind", "later", "keeps", "told", "word"] ["thing", "states", "doors", "closet"] (defScope (top 23)) := ⟨rfl, rfl, rfl, by decide +kernel, rfl, by decide +kernel, by decide +kernel⟩
theorem L_is_rule (sm : ∃ o, base.get? sysModules = some o) (T : Txt Z mg) : LF P w Z.K mg base 3 T.a_is_rule T.c_is_rule ["thing", "states", "doors", "closet"] (f_is_rule Z) := by
  refine lf_def (k := 2) sm T.F_is_rule s_is_rule fun cdv A outer s H E c => ?_
  exact (ls_cons (ls_if (lt_w (lw_or (lt_not (lt_val (le_callB call_isiW (by rfl) T.b_isinstance (by rfl) (la_cons (le_var (pv 0)) (la_cons (le_tyc (by rfl) T.b_tuple (by rfl)) la_nil))))) (lw_or1 (lt_cmp (op_neX c) (by rfl) (le_callB call_lenAW (by rfl) T.b_len (by rfl) (la_cons (le_var (pv 0)) la_nil)) le_int)))) (ls_one (ls_ret le_bl)) ls_nil)
    (ls_cons (ls_asg (le_var (pv 0)) (lg_tup c.calm (lgs_cons (lg_name (pg_name (i := 4) c.nd rfl (by first | exact Or.inl rfl | exact Or.inr rfl))) (lgs_cons (lg_name (pg_name (i := 5) c.nd rfl (by first | exact Or.inl rfl | exact Or.inr rfl))) (lgs_cons (lg_name (pg_name (i := 6) c.nd rfl (by first | exact Or.inl rfl | exact Or.inr rfl))) (lgs_cons (lg_name (pg_name (i := 7) c.nd rfl (by first | exact Or.inl rfl | exact Or.inr rfl))) (lgs_cons (lg_name (pg_name (i := 8) c.nd rfl (by first | exact Or.inl rfl | exact Or.inr rfl))) (lgs_cons (lg_name (pg_name (i := 9) c.nd rfl (by first | exact Or.inl rfl | exact Or.inr rfl))) lgs_nil))))))))
    (ls_cons (ls_if (lt_w (lw_or (lt_not (lt_val (le_call c ((L_is_name sm T).mono (by decide)) (by rfl) T.m_is_name T.k_is_name T.B_is_name (la_cons (le_var (pv 4)) la_nil)))) (lw_or (lt_cmp (op_notMem c) (by rfl) (le_var (pv 4)) (le_var (pv 2))) (lw_or (lt_not (lt_val (le_call c ((L_is_state sm T).mono (by decide)) (by rfl) T.m_is_state T.k_is_state T.B_is_state (la_cons (le_var (pv 5)) (la_cons (le_var (pv 1)) la_nil))))) (lw_or1 (lt_not (lt_val (le_call c ((L_is_kind sm T).mono (by decide)) (by rfl) T.m_is_kind T.k_is_kind T.B_is_kind (la_cons (le_var (pv 6)) (la_cons (le_var (pv 3)) la_nil)))))))))) (ls_one (ls_ret le_bl)) ls_nil)
    (ls_cons (ls_if (lt_w (lw_or (lt_not (lt_val (le_call c ((L_is_state sm T).mono (by decide)) (by rfl) T.m_is_state T.k_is_state T.B_is_state (la_cons (le_var (pv 7)) (la_cons (le_var (pv 1)) la_nil))))) (lw_or (lt_not (lt_val (le_callB call_isiW (by rfl) T.b_isinstance (by rfl) (la_cons (le_var (pv 8)) (la_cons (le_tyc (by rfl) T.b_bool (by rfl)) la_nil))))) (lw_or1 (lt_w (lw_and (lt_val (le_var (pv 8))) (lw_and1 (lt_cmp (op_eqX c) (by rfl) (le_var (pv 6)) (le_const (w := (.str "")) (by rfl) T.g_NOTHING))))))))) (ls_one (ls_ret le_bl)) ls_nil)
    (ls_one (ls_ret (le_and (le_callB call_isiW (by rfl) T.b_isinstance (by rfl) (la_cons (le_var (pv 9)) (la_cons (le_tyc (by rfl) T.b_tuple (by rfl)) la_nil))) (le_one (le_callB (call_allW c) (by rfl) T.b_all (by rfl) (la_cons (le_lc (own := [("word", 10)]) c (li_any (le_var (pv 9))) (by kernel_rfl) (by decide) (fun s H C cl fp => pg_name (by exact c.nd) rfl (by first | exact Or.inl rfl | exact Or.inr rfl)) (fun s H C cl fp c => lts_nil) (fun s H C cl fp c => (le_call c ((L_is_word sm T).mono (by decide)) (by rfl) T.m_is_word T.k_is_word T.B_is_word (la_cons (le_var (pv 10)) (la_cons (le_var (pv 3)) (la_cons (le_var (pv 6)) la_nil)))))) la_nil))))))))))
theorem s_are_rules : FnScope ["thing", "states", "doors", "closet", "rule"] ["thing", "states", "doors", "closet"] (defScope (top 24)) := ⟨rfl, rfl, rfl, by decide +kernel, rfl, by decide +kernel, by decide +kernel⟩
theorem L_are_rules (sm : ∃ o, base.get? sysModules = some o) (T : Txt Z mg) : LF P w Z.K mg base 4 T.a_are_rules T.c_are_rules ["thing", "states", "doors", "closet"] (f_are_rules Z) := by
  refine lf_def (k := 3) sm T.F_are_rules s_are_rules fun cdv A outer s H E c => ?_
  exact (ls_cons (ls_if (lt_not (lt_val (le_callB call_isiW (by rfl) T.b_isinstance (by rfl) (la_cons (le_var (pv 0)) (la_cons (le_tup (la_cons (le_tyc (by rfl) T.b_list (by rfl)) (la_cons (le_tyc (by rfl) T.b_tuple (by rfl)) la_nil))) la_nil))))) (ls_one (ls_ret le_bl)) ls_nil)
    (ls_cons (ls_if (lt_not (lt_val (le_callB (call_allW c) (by rfl) T.b_all (by rfl) (la_cons (le_lc (own := [("rule", 4)]) c (li_any (le_var (pv 0))) (by kernel_rfl) (by decide) (fun s H C cl fp => pg_name (by exact c.nd) rfl (by first | exact Or.inl rfl | exact Or.inr rfl)) (fun s H C cl fp c => lts_nil) (fun s H C cl fp c => (le_call c ((L_is_rule sm T).mono (by decide)) (by rfl) T.m_is_rule T.k_is_rule T.B_is_rule (la_cons (le_var (pv 4)) (la_cons (le_var (pv 1)) (la_cons (le_var (pv 2)) (la_cons (le_var (pv 3)) la_nil))))))) la_nil)))) (ls_one (ls_ret le_bl)) ls_nil)
    (ls_one (ls_ret (le_cmp (op_eqX c) (by rfl) (le_len0 (own := [("rule", 4)]) (g := (.n 4)) (t := dYes) (el := (dSl (dVar 4) dNoPart (dPart (dC (.int 3))))) c (by rfl) T.b_len (li_any (le_var (pv 0))) (by kernel_rfl) (fun s H C cl fp => pg_name (by exact c.nd) rfl (by first | exact Or.inl rfl | exact Or.inr rfl)) (fun s H C cl fp c => lts_nil) (fun s H C cl fp c => (le_sl (le_var (pv 4)) lo_none (lo_some le_int)))) (le_callB call_lenAW (by rfl) T.b_len (by rfl) (la_cons (le_var (pv 0)) la_nil)))))))
theorem s_Gate___init__ : FnScope ["self", "states", "doors", "closet", "rules", "door", "state", "kind", "rule"] ["self", "states", "doors", "closet", "rules"] (defScope (inClass (top 25) 1)) := ⟨rfl, rfl, rfl, by decide +kernel, rfl, by decide +kernel, by decide +kernel⟩
theorem L_Gate___init__ (sm : ∃ o, base.get? sysModules = some o) (T : Txt Z mg) : LF P w Z.K mg base 5 T.a_Gate___init__ T.c_Gate___init__ ["self", "states", "doors", "closet", "rules"] (f_Gate___init__ Z) := by
  refine lf_def (k := 4) sm T.F_Gate___init__ s_Gate___init__ fun cdv A outer s H E c => ?_
  exact (ls_cons (ls_if (lt_w (lw_or (lt_not (lt_val (le_call c ((L_is_integer sm T).mono (by decide)) (by rfl) T.m_is_integer T.k_is_integer T.B_is_integer (la_cons (le_var (pv 1)) la_nil)))) (lw_or1 (lt_not (lt_chain (op_leD c) (op_leD c) le_int (le_var (pv 1)) (le_const (w := (.int 64)) (by rfl) T.g_MOST_STATES)))))) (ls_one ls_never) ls_nil)
    (ls_cons (ls_if (lt_w (lw_or (lt_not (lt_val (le_call c ((L_are_names sm T).mono (by decide)) (by rfl) T.m_are_names T.k_are_names T.B_are_names (la_cons (le_var (pv 2)) la_nil)))) (lw_or1 (lt_cmp (op_eqX c) (by rfl) (le_callB call_lenAW (by rfl) T.b_len (by rfl) (la_cons (le_var (pv 2)) la_nil)) le_int)))) (ls_one ls_never) ls_nil)
    (ls_cons (ls_if (lt_not (lt_val (le_call c ((L_are_names sm T).mono (by decide)) (by rfl) T.m_are_names T.k_are_names T.B_are_names (la_cons (le_var (pv 3)) la_nil)))) (ls_one ls_never) ls_nil)
    (ls_cons (ls_if (lt_not (lt_val (le_call c ((L_are_rules sm T).mono (by decide)) (by rfl) T.m_are_rules T.k_are_rules T.B_are_rules (la_cons (le_var (pv 4)) (la_cons (le_var (pv 1)) (la_cons (le_var (pv 2)) (la_cons (le_var (pv 3)) la_nil))))))) (ls_one ls_never) ls_nil)
    (ls_cons (ls_asg (le_tup (la_cons (le_var (pv 1)) (la_cons (le_callB (call_sortedW c) (by rfl) T.b_sorted (by rfl) (la_cons (le_var (pv 2)) la_nil)) (la_cons (le_callB (call_sortedW c) (by rfl) T.b_sorted (by rfl) (la_cons (le_var (pv 3)) la_nil)) la_nil)))) (lg_tup c.calm (lgs_cons (lg_fld (Wx := W0) (fAt_ok T.s_Gate_its_states) (le_var (pv 0))) (lgs_cons (lg_fld (Wx := W0) (fAt_ok T.s_Gate_its_doors) (le_var (pv 0))) (lgs_cons (lg_fld (Wx := W0) (fAt_ok T.s_Gate_its_closet) (le_var (pv 0))) lgs_nil)))))
    (ls_cons (ls_fld (fAt_ok T.s_Gate_its_rules) (le_var (pv 0)) (le_dc0 (own := [("rule", 8)]) (g := (.n 8)) (t := dYes) (dk := (dSl (dVar 8) dNoPart (dPart (dC (.int 3))))) (dv := (dVar 8)) c (li_any (le_callB (call_sortedW c) (by rfl) T.b_sorted (by rfl) (la_cons (le_var (pv 4)) la_nil))) (by kernel_rfl) (fun s H C cl fp => pg_name (by exact c.nd) rfl (by first | exact Or.inl rfl | exact Or.inr rfl)) (fun s H C cl fp c => lts_nil) (fun s H C cl fp c => (le_sl (le_var (pv 8)) lo_none (lo_some le_int))) (fun s H C cl fp c => (le_var (pv 8)))))
    (ls_cons (ls_fld (fAt_ok T.s_Gate_its_kinds) (le_var (pv 0)) le_dnew)
    (ls_one (ls_for c.po c.calm (li_any (le_fld (fAt_ok T.s_Gate_its_rules) (le_var (pv 0)))) (pg_tup (by exact c.calm) (pgs_cons (pg_name (i := 5) (by exact c.nd) rfl (by first | exact Or.inl rfl | exact Or.inr rfl)) (pgs_cons (pg_name (i := 6) (by exact c.nd) rfl (by first | exact Or.inl rfl | exact Or.inr rfl)) (pgs_cons (pg_name (i := 7) (by exact c.nd) rfl (by first | exact Or.inl rfl | exact Or.inr rfl)) pgs_nil)))) (ls_one (ls_expr (le_meth PySem.F.plainAttrs_list PySem.F.slot_list_append PySem.F.type_list_append mt_appendW (le_meth PySem.F.plainAttrs_dict PySem.F.slot_dict_setdefault PySem.F.type_dict_setdefault (mt_setdefaultW c) (le_fld (fAt_ok T.s_Gate_its_kinds) (le_var (pv 0))) (la_cons (le_tup (la_cons (le_var (pv 5)) (la_cons (le_var (pv 6)) la_nil))) (la_cons (le_lst la_nil) la_nil))) (la_cons (le_var (pv 7)) la_nil)))))))))))))
theorem s_Gate___eq__ : FnScope ["self", "other", "mine"] ["self", "other"] (defScope (inClass (top 25) 2)) := ⟨rfl, rfl, rfl, by decide +kernel, rfl, by decide +kernel, by decide +kernel⟩
theorem L_Gate___eq__ (sm : ∃ o, base.get? sysModules = some o) (T : Txt Z mg) : LF P w Z.K mg base 1 T.a_Gate___eq__ T.c_Gate___eq__ ["self", "other"] (f_Gate___eq__ Z) := by
  refine lf_def (k := 0) sm T.F_Gate___eq__ s_Gate___eq__ fun cdv A outer s H E c => ?_
  exact (ls_cons (ls_if (lt_not (lt_val (le_callB call_isiW (by rfl) T.b_isinstance (by rfl) (la_cons (le_var (pv 1)) (la_cons (le_const (w := .obj Z.C_Gate) (v := .ref Z.C_Gate) (by rfl) ⟨_, T.mg_Gate, rfl⟩) la_nil))))) (ls_one (ls_ret le_bl)) ls_nil)
    (ls_cons (ls_asg (le_tup (la_cons (le_fld (fAt_ok T.s_Gate_its_states) (le_var (pv 0))) (la_cons (le_fld (fAt_ok T.s_Gate_its_doors) (le_var (pv 0))) (la_cons (le_fld (fAt_ok T.s_Gate_its_closet) (le_var (pv 0))) (la_cons (le_fld (fAt_ok T.s_Gate_its_rules) (le_var (pv 0))) la_nil))))) (lg_name (pg_name (i := 2) c.nd rfl (by first | exact Or.inl rfl | exact Or.inr rfl))))
    (ls_one (ls_ret (le_cmp (op_eqX c) (by rfl) (le_var (pv 2)) (le_tup (la_cons (le_fld (fAt_ok T.s_Gate_its_states) (le_var (pv 1))) (la_cons (le_fld (fAt_ok T.s_Gate_its_doors) (le_var (pv 1))) (la_cons (le_fld (fAt_ok T.s_Gate_its_closet) (le_var (pv 1))) (la_cons (le_fld (fAt_ok T.s_Gate_its_rules) (le_var (pv 1))) la_nil))))))))))
theorem s_Gate_states : FnScope ["self"] ["self"] (defScope (inClass (top 25) 3)) := ⟨rfl, rfl, rfl, by decide +kernel, rfl, by decide +kernel, by decide +kernel⟩
theorem L_Gate_states (sm : ∃ o, base.get? sysModules = some o) (T : Txt Z mg) : LF P w Z.K mg base 1 T.a_Gate_states T.c_Gate_states ["self"] (f_Gate_states Z) := by
  refine lf_def (k := 0) sm T.F_Gate_states s_Gate_states fun cdv A outer s H E c => ?_
  exact (ls_one (ls_ret (le_fld (fAt_ok T.s_Gate_its_states) (le_var (pv 0)))))
theorem s_Gate_doors : FnScope ["self"] ["self"] (defScope (inClass (top 25) 4)) := ⟨rfl, rfl, rfl, by decide +kernel, rfl, by decide +kernel, by decide +kernel⟩
theorem L_Gate_doors (sm : ∃ o, base.get? sysModules = some o) (T : Txt Z mg) : LF P w Z.K mg base 1 T.a_Gate_doors T.c_Gate_doors ["self"] (f_Gate_doors Z) := by
  refine lf_def (k := 0) sm T.F_Gate_doors s_Gate_doors fun cdv A outer s H E c => ?_
  exact (ls_one (ls_ret (le_callTy call_listW (by rfl) T.b_list (by rfl) (la_cons (le_fld (fAt_ok T.s_Gate_its_doors) (le_var (pv 0))) la_nil))))
theorem s_Gate_closet : FnScope ["self"] ["self"] (defScope (inClass (top 25) 5)) := ⟨rfl, rfl, rfl, by decide +kernel, rfl, by decide +kernel, by decide +kernel⟩
theorem L_Gate_closet (sm : ∃ o, base.get? sysModules = some o) (T : Txt Z mg) : LF P w Z.K mg base 1 T.a_Gate_closet T.c_Gate_closet ["self"] (f_Gate_closet Z) := by
  refine lf_def (k := 0) sm T.F_Gate_closet s_Gate_closet fun cdv A outer s H E c => ?_
  exact (ls_one (ls_ret (le_callTy call_listW (by rfl) T.b_list (by rfl) (la_cons (le_fld (fAt_ok T.s_Gate_its_closet) (le_var (pv 0))) la_nil))))
theorem s_Gate_kind_of : FnScope ["self", "given"] ["self", "given"] (defScope (inClass (top 25) 7)) := ⟨rfl, rfl, rfl, by decide +kernel, rfl, by decide +kernel, by decide +kernel⟩
theorem L_Gate_kind_of (sm : ∃ o, base.get? sysModules = some o) (T : Txt Z mg) : LF P w Z.K mg base 1 T.a_Gate_kind_of T.c_Gate_kind_of ["self", "given"] (f_Gate_kind_of Z) := by
  refine lf_def (k := 0) sm T.F_Gate_kind_of s_Gate_kind_of fun cdv A outer s H E c => ?_
  exact (ls_one (ls_ret (le_if (lt_w (lw_or (lt_cmp (op_eqX c) (by rfl) (le_var (pv 1)) (le_const (w := (.str "")) (by rfl) T.g_NOTHING)) (lw_or1 (lt_cmp (op_mem c) (by rfl) (le_var (pv 1)) (le_fld (fAt_ok T.s_Gate_its_closet) (le_var (pv 0))))))) (le_var (pv 1)) (le_const (w := (.str "?")) (by rfl) T.g_OTHER))))
theorem s_Gate_call : FnScope ["self", "state", "kept", "door", "given", "rule", "stands", "told", "word", "name"] ["self", "state", "kept", "door", "given"] (defScope (inClass (top 25) 9)) := ⟨rfl, rfl, rfl, by decide +kernel, rfl, by decide +kernel, by decide +kernel⟩
theorem L_Gate_call (sm : ∃ o, base.get? sysModules = some o) (T : Txt Z mg) : LF P w Z.K mg base 2 T.a_Gate_call T.c_Gate_call ["self", "state", "kept", "door", "given"] (f_Gate_call Z) := by
  refine lf_def (k := 1) sm T.F_Gate_call s_Gate_call fun cdv A outer s H E c => ?_
  exact (ls_cons (ls_asg (le_meth PySem.F.plainAttrs_dict PySem.F.slot_dict_get PySem.F.type_dict_get (mt_getDW c) (le_fld (fAt_ok T.s_Gate_its_rules) (le_var (pv 0))) (la_cons (le_tup (la_cons (le_var (pv 3)) (la_cons (le_var (pv 1)) (la_cons (le_mcall c T.M_Gate_kind_of ((L_Gate_kind_of sm T).mono (by decide)) T.B_Gate_kind_of (le_var (pv 0)) (la_cons (le_var (pv 4)) la_nil)) la_nil)))) la_nil)) (lg_name (pg_name (i := 5) c.nd rfl (by first | exact Or.inl rfl | exact Or.inr rfl))))
    (ls_cons (ls_if (lt_cmp op_isW (by rfl) (le_var (pv 5)) le_non) (ls_one (ls_ret (le_tup (la_cons (le_var (pv 1)) (la_cons (le_var (pv 2)) (la_cons (le_lst la_nil) la_nil)))))) ls_nil)
    (ls_cons (ls_asg (le_disp (lp_cons (le_const (w := (.str "+given")) (by rfl) T.g_GIVEN) (le_var (pv 4)) (lp_cons (le_const (w := (.str "+kept")) (by rfl) T.g_KEPT) (le_var (pv 2)) lp_nil))) (lg_name (pg_name (i := 6) c.nd rfl (by first | exact Or.inl rfl | exact Or.inr rfl))))
    (ls_cons (ls_setLc (i := 7) (own := [("word", 8)]) c rfl rfl (by rfl) (li_any (le_item c (le_var (pv 5)) le_int)) (by kernel_rfl) (by decide) (fun s H C cl fp => pg_name (by exact c.nd) rfl (by first | exact Or.inl rfl | exact Or.inr rfl)) (fun s H C cl fp c => lts_nil) (fun s H C cl fp c => (le_meth PySem.F.plainAttrs_dict PySem.F.slot_dict_get PySem.F.type_dict_get (mt_getDW c) (le_var (pv 6)) (la_cons (le_var (pv 8)) (la_cons (le_var (pv 8)) la_nil)))))
    (ls_one (ls_ret (le_tup (la_cons (le_item c (le_var (pv 5)) le_int) (la_cons (le_if (lt_val (le_item c (le_var (pv 5)) le_int)) (le_var (pv 4)) (le_var (pv 2))) (la_cons (le_lc (own := [("name", 9)]) c (li_any (le_var (pv 7))) (by kernel_rfl) (by decide) (fun s H C cl fp => pg_name (by exact c.nd) rfl (by first | exact Or.inl rfl | exact Or.inr rfl)) (fun s H C cl fp c => (lts_one (lt_cmp (op_neX c) (by rfl) (le_var (pv 9)) (le_const (w := (.str "")) (by rfl) T.g_NOTHING)))) (fun s H C cl fp c => (le_var (pv 9)))) la_nil))))))))))
theorem s__law_bag : FnScope ["_law_script", "_law_cell"] ["_law_script"] (defScope (top 27)) := ⟨rfl, rfl, rfl, by decide +kernel, rfl, by decide +kernel, by decide +kernel⟩
theorem L__law_bag (sm : ∃ o, base.get? sysModules = some o) (T : Txt Z mg) : LF P w Z.K mg base 1 T.a__law_bag T.c__law_bag ["_law_script"] (f__law_bag Z) := by
  refine lf_def (k := 0) sm T.F__law_bag s__law_bag fun cdv A outer s H E c => ?_
  exact (ls_one (ls_ret (le_lst (la_cons le_int (la_cons le_int (la_cons le_int (la_cons (le_lc (own := [("_law_cell", 1)]) c (li_any (le_sl (le_var (pv 0)) lo_none (lo_some le_int))) (by kernel_rfl) (by decide) (fun s H C cl fp => pg_name (by exact c.nd) rfl (by first | exact Or.inl rfl | exact Or.inr rfl)) (fun s H C cl fp c => lts_nil) (fun s H C cl fp c => (le_callB call_absW (by rfl) T.b_abs (by rfl) (la_cons (le_var (pv 1)) la_nil)))) la_nil)))))))
theorem s__law_take : FnScope ["_law_bag_here", "_law_many", "_law_cell", "_law_mixed", "_law_drawn", "_law_begin", "_law_second"] ["_law_bag_here", "_law_many"] (defScope (top 28)) := ⟨rfl, rfl, rfl, by decide +kernel, rfl, by decide +kernel, by decide +kernel⟩
theorem L__law_take (sm : ∃ o, base.get? sysModules = some o) (T : Txt Z mg) : LF P w Z.K mg base 1 T.a__law_take T.c__law_take ["_law_bag_here", "_law_many"] (f__law_take Z) := by
  refine lf_def (k := 0) sm T.F__law_take s__law_take fun cdv A outer s H E c => ?_
  exact (ls_cons (ls_if (lt_cmp (op_eqX c) (by rfl) (le_item c (le_var (pv 0)) le_int) le_int) (ls_cons (ls_asg le_int (lg_name (pg_name (i := 2) c.nd rfl (by first | exact Or.inl rfl | exact Or.inr rfl))))
    (ls_cons (ls_if (lt_cmp (op_ltD c) (by rfl) (le_item c (le_var (pv 0)) le_int) (le_callB call_lenAW (by rfl) T.b_len (by rfl) (la_cons (le_item c (le_var (pv 0)) le_int) la_nil))) (ls_one (ls_asg (le_item c (le_item c (le_var (pv 0)) le_int) (le_item c (le_var (pv 0)) le_int)) (lg_name (pg_name (i := 2) c.nd rfl (by first | exact Or.inl rfl | exact Or.inr rfl))))) ls_nil)
    (ls_cons (ls_augS c (le_var (pv 0)) le_int le_int ip_addI)
    (ls_cons (ls_if (lt_cmp (op_geD c) (by rfl) (le_var (pv 2)) (le_bin op_powW le_int le_int)) (ls_one (ls_set c (le_var (pv 0)) le_int (le_var (pv 2)))) ls_nil)
    (ls_cons (ls_asg (le_bin op_addW (le_bin op_addW (le_bin op_mulW (le_item c (le_var (pv 0)) le_int) le_int) (le_bin op_modW (le_callTy call_intW (by rfl) T.b_int (by rfl) (la_cons (le_var (pv 2)) la_nil)) le_int)) (le_bin op_mulW le_int (le_item c (le_var (pv 0)) le_int))) (lg_name (pg_name (i := 3) c.nd rfl (by first | exact Or.inl rfl | exact Or.inr rfl))))
    (ls_one (ls_set c (le_var (pv 0)) le_int (le_bin op_modW (le_callTy call_intW (by rfl) T.b_int (by rfl) (la_cons (le_var (pv 3)) la_nil)) le_int)))))))) ls_nil)
    (ls_cons (ls_if (lt_cmp (op_gtD c) (by rfl) (le_item c (le_var (pv 0)) le_int) le_int) (ls_cons (ls_asg (le_bin op_modW (le_callTy call_intW (by rfl) T.b_int (by rfl) (la_cons (le_item c (le_var (pv 0)) le_int) la_nil)) (le_var (pv 1))) (lg_name (pg_name (i := 4) c.nd rfl (by first | exact Or.inl rfl | exact Or.inr rfl))))
    (ls_cons (ls_set c (le_var (pv 0)) le_int (le_bin op_fdivW (le_item c (le_var (pv 0)) le_int) (le_var (pv 1))))
    (ls_one (ls_ret (le_var (pv 4)))))) ls_nil)
    (ls_cons (ls_asg (le_bin op_modW (le_callTy call_intW (by rfl) T.b_int (by rfl) (la_cons (le_bin op_mulW (le_bin op_addW (le_item c (le_var (pv 0)) le_int) le_int) le_int) la_nil)) le_int) (lg_name (pg_name (i := 5) c.nd rfl (by first | exact Or.inl rfl | exact Or.inr rfl))))
    (ls_cons (ls_asg (le_bin op_modW (le_callTy call_intW (by rfl) T.b_int (by rfl) (la_cons (le_bin op_mulW (le_bin op_modW (le_callTy call_intW (by rfl) T.b_int (by rfl) (la_cons (le_bin op_mulW (le_var (pv 5)) (le_var (pv 5))) la_nil)) le_int) le_int) la_nil)) le_int) (lg_name (pg_name (i := 6) c.nd rfl (by first | exact Or.inl rfl | exact Or.inr rfl))))
    (ls_one (ls_ret (le_bin op_modW (le_callTy call_intW (by rfl) T.b_int (by rfl) (la_cons (le_bin op_fdivW (le_var (pv 6)) le_int) la_nil)) (le_var (pv 1)))))))))
theorem s__law_one : FnScope ["_law_bag_here", "_law_things"] ["_law_bag_here", "_law_things"] (defScope (top 29)) := ⟨rfl, rfl, rfl, by decide +kernel, rfl, by decide +kernel, by decide +kernel⟩
theorem L__law_one (sm : ∃ o, base.get? sysModules = some o) (T : Txt Z mg) : LF P w Z.K mg base 2 T.a__law_one T.c__law_one ["_law_bag_here", "_law_things"] (f__law_one Z) := by
  refine lf_def (k := 1) sm T.F__law_one s__law_one fun cdv A outer s H E c => ?_
  exact (ls_one (ls_ret (le_item c (le_var (pv 1)) (le_call c ((L__law_take sm T).mono (by decide)) (by rfl) T.m__law_take T.k__law_take T.B__law_take (la_cons (le_var (pv 0)) (la_cons (le_callB call_lenAW (by rfl) T.b_len (by rfl) (la_cons (le_var (pv 1)) la_nil)) la_nil))))))
theorem s__law_alike : FnScope ["_law_found", "_law_due"] ["_law_found", "_law_due"] (defScope (top 30)) := ⟨rfl, rfl, rfl, by decide +kernel, rfl, by decide +kernel, by decide +kernel⟩
theorem L__law_alike (sm : ∃ o, base.get? sysModules = some o) (T : Txt Z mg) : LF P w Z.K mg base 1 T.a__law_alike T.c__law_alike ["_law_found", "_law_due"] (f__law_alike Z) := by
  refine lf_def (k := 0) sm T.F__law_alike s__law_alike fun cdv A outer s H E c => ?_
  exact (ls_one (ls_ret (le_and (le_cmp (op_eqX c) (by rfl) (le_var (pv 0)) (le_var (pv 1))) (le_one (le_cmp (op_eqX c) (by rfl) (le_callB (call_reprW c) (by rfl) T.b_repr (by rfl) (la_cons (le_var (pv 0)) la_nil)) (le_callB (call_reprW c) (by rfl) T.b_repr (by rfl) (la_cons (le_var (pv 1)) la_nil)))))))
theorem s__law_is_whole : FnScope ["_law_thing"] ["_law_thing"] (defScope (top 31)) := ⟨rfl, rfl, rfl, by decide +kernel, rfl, by decide +kernel, by decide +kernel⟩
theorem L__law_is_whole (sm : ∃ o, base.get? sysModules = some o) (T : Txt Z mg) : LF P w Z.K mg base 1 T.a__law_is_whole T.c__law_is_whole ["_law_thing"] (f__law_is_whole Z) := by
  refine lf_def (k := 0) sm T.F__law_is_whole s__law_is_whole fun cdv A outer s H E c => ?_
  exact (ls_one (ls_ret (le_and (le_callB call_isiW (by rfl) T.b_isinstance (by rfl) (la_cons (le_var (pv 0)) (la_cons (le_tyc (by rfl) T.b_int (by rfl)) la_nil))) (le_one (le_not (le_callB call_isiW (by rfl) T.b_isinstance (by rfl) (la_cons (le_var (pv 0)) (la_cons (le_tyc (by rfl) T.b_bool (by rfl)) la_nil))))))))
theorem s__law_is_name : FnScope ["_law_thing", "_law_sign"] ["_law_thing"] (defScope (top 32)) := ⟨rfl, rfl, rfl, by decide +kernel, rfl, by decide +kernel, by decide +kernel⟩
theorem L__law_is_name (sm : ∃ o, base.get? sysModules = some o) (T : Txt Z mg) : LF P w Z.K mg base 1 T.a__law_is_name T.c__law_is_name ["_law_thing"] (f__law_is_name Z) := by
  refine lf_def (k := 0) sm T.F__law_is_name s__law_is_name fun cdv A outer s H E c => ?_
  exact (ls_cons (ls_if (lt_w (lw_or (lt_not (lt_val (le_callB call_isiW (by rfl) T.b_isinstance (by rfl) (la_cons (le_var (pv 0)) (la_cons (le_tyc (by rfl) T.b_str (by rfl)) la_nil))))) (lw_or1 (lt_not (lt_chain (op_leD c) (op_leD c) le_int (le_callB call_lenAW (by rfl) T.b_len (by rfl) (la_cons (le_var (pv 0)) la_nil)) le_int))))) (ls_one (ls_ret le_bl)) ls_nil)
    (ls_one (ls_ret (le_cmp (op_eqX c) (by rfl) (le_lc (own := [("_law_sign", 1)]) c (li_any (le_var (pv 0))) (by kernel_rfl) (by decide) (fun s H C cl fp => pg_name (by exact c.nd) rfl (by first | exact Or.inl rfl | exact Or.inr rfl)) (fun s H C cl fp c => (lts_one (lt_cmp (op_notMem c) (by rfl) (le_var (pv 1)) le_str))) (fun s H C cl fp c => (le_var (pv 1)))) (le_lst la_nil)))))
theorem s__law_are_names : FnScope ["_law_thing", "_law_one_here"] ["_law_thing"] (defScope (top 33)) := ⟨rfl, rfl, rfl, by decide +kernel, rfl, by decide +kernel, by decide +kernel⟩
theorem L__law_are_names (sm : ∃ o, base.get? sysModules = some o) (T : Txt Z mg) : LF P w Z.K mg base 2 T.a__law_are_names T.c__law_are_names ["_law_thing"] (f__law_are_names Z) := by
  refine lf_def (k := 1) sm T.F__law_are_names s__law_are_names fun cdv A outer s H E c => ?_
  exact (ls_cons (ls_if (lt_w (lw_or (lt_not (lt_val (le_callB call_isiW (by rfl) T.b_isinstance (by rfl) (la_cons (le_var (pv 0)) (la_cons (le_tup (la_cons (le_tyc (by rfl) T.b_list (by rfl)) (la_cons (le_tyc (by rfl) T.b_tuple (by rfl)) la_nil))) la_nil))))) (lw_or1 (lt_cmp (op_neX c) (by rfl) (le_lc (own := [("_law_one_here", 1)]) c (li_any (le_var (pv 0))) (by kernel_rfl) (by decide) (fun s H C cl fp => pg_name (by exact c.nd) rfl (by first | exact Or.inl rfl | exact Or.inr rfl)) (fun s H C cl fp c => (lts_one (lt_not (lt_val (le_call c ((L__law_is_name sm T).mono (by decide)) (by rfl) T.m__law_is_name T.k__law_is_name T.B__law_is_name (la_cons (le_var (pv 1)) la_nil)))))) (fun s H C cl fp c => (le_var (pv 1)))) (le_lst la_nil))))) (ls_one (ls_ret le_bl)) ls_nil)
    (ls_one (ls_ret (le_cmp (op_eqX c) (by rfl) (le_callB call_lenAW (by rfl) T.b_len (by rfl) (la_cons (le_callTy (call_dictPW c.calm) (by rfl) T.b_dict (by rfl) (la_cons (le_lc (own := [("_law_one_here", 1)]) c (li_any (le_var (pv 0))) (by kernel_rfl) (by decide) (fun s H C cl fp => pg_name (by exact c.nd) rfl (by first | exact Or.inl rfl | exact Or.inr rfl)) (fun s H C cl fp c => lts_nil) (fun s H C cl fp c => (le_tup (la_cons (le_var (pv 1)) (la_cons le_bl la_nil))))) la_nil)) la_nil)) (le_callB call_lenAW (by rfl) T.b_len (by rfl) (la_cons (le_var (pv 0)) la_nil))))))
theorem s__law_odd : FnScope ["_law_bag_here", "_law_deep", "_law_k", "_law_odd_here"] ["_law_bag_here"] (defScope (top 34)) := ⟨rfl, rfl, rfl, by decide +kernel, rfl, by decide +kernel, by decide +kernel⟩
theorem L__law_odd (sm : ∃ o, base.get? sysModules = some o) (T : Txt Z mg) : LF P w Z.K mg base 3 T.a__law_odd T.c__law_odd ["_law_bag_here"] (f__law_odd Z) := by
  refine lf_def (k := 2) sm T.F__law_odd s__law_odd fun cdv A outer s H E c => ?_
  exact (ls_cons (ls_asg (le_call c ((L__law_one sm T).mono (by decide)) (by rfl) T.m__law_one T.k__law_one T.B__law_one (la_cons (le_var (pv 0)) (la_cons (le_lst (la_cons (le_lst la_nil) (la_cons le_dnew (la_cons (le_tup la_nil) (la_cons le_str la_nil))))) la_nil))) (lg_name (pg_name (i := 1) c.nd rfl (by first | exact Or.inl rfl | exact Or.inr rfl))))
    (ls_cons (ls_for c.po c.calm (li_range1 (by rfl) T.b_range (la_cons le_int la_nil)) (pg_name (by exact c.nd) rfl (by first | exact Or.inl rfl | exact Or.inr rfl)) (ls_one (ls_asg (le_if (lt_cmp (op_eqX c) (by rfl) (le_call c ((L__law_take sm T).mono (by decide)) (by rfl) T.m__law_take T.k__law_take T.B__law_take (la_cons (le_var (pv 0)) (la_cons le_int la_nil))) le_int) (le_lst (la_cons (le_var (pv 1)) la_nil)) (le_tup (la_cons (le_var (pv 1)) la_nil))) (lg_name (pg_name (i := 1) c.nd rfl (by first | exact Or.inl rfl | exact Or.inr rfl))))))
    (ls_cons (ls_asg (le_lst (la_cons le_non (la_cons le_bl (la_cons le_bl (la_cons le_int (la_cons le_int (la_cons (le_neg le_int) (la_cons le_int (la_cons le_int (la_cons (le_bin op_powW le_int le_int) (la_cons (le_neg (le_bin op_powW le_int le_int)) (la_cons le_str (la_cons le_str (la_cons le_str (la_cons le_str (la_cons le_str (la_cons le_str (la_cons le_str la_nil)))))))))))))))))) (lg_name (pg_name (i := 3) c.nd rfl (by first | exact Or.inl rfl | exact Or.inr rfl))))
    (ls_cons (ls_asg (le_bin op_addW (le_var (pv 3)) (le_lst (la_cons le_str (la_cons le_str (la_cons (le_lst la_nil) (la_cons (le_tup la_nil) (la_cons le_dnew (la_cons (le_lst (la_cons le_int la_nil)) (la_cons (le_tup (la_cons le_int la_nil)) (la_cons (le_lst (la_cons le_str la_nil)) (la_cons (le_tup (la_cons le_str la_nil)) (la_cons (le_lst (la_cons (le_lst (la_cons le_str la_nil)) la_nil)) (la_cons (le_tup (la_cons (le_tup (la_cons le_str la_nil)) la_nil)) (la_cons (le_disp (lp_cons le_str le_int lp_nil)) (la_cons (le_disp (lp_cons le_int le_str lp_nil)) (la_cons (le_var (pv 1)) la_nil)))))))))))))))) (lg_name (pg_name (i := 3) c.nd rfl (by first | exact Or.inl rfl | exact Or.inr rfl))))
    (ls_cons (ls_asg (le_bin op_addW (le_var (pv 3)) (le_lst (la_cons (le_tup (la_cons le_str (la_cons le_int (la_cons le_str (la_cons le_int (la_cons le_bl (la_cons (le_tup la_nil) la_nil))))))) (la_cons (le_tup (la_cons le_str (la_cons le_str la_nil))) (la_cons (le_tup (la_cons (le_tup (la_cons le_str (la_cons le_str la_nil))) la_nil)) (la_cons (le_lst (la_cons (le_tup (la_cons le_str (la_cons le_str la_nil))) la_nil)) (la_cons (le_tup (la_cons le_str (la_cons le_str (la_cons le_str (la_cons le_str la_nil))))) la_nil))))))) (lg_name (pg_name (i := 3) c.nd rfl (by first | exact Or.inl rfl | exact Or.inr rfl))))
    (ls_one (ls_ret (le_call c ((L__law_one sm T).mono (by decide)) (by rfl) T.m__law_one T.k__law_one T.B__law_one (la_cons (le_var (pv 0)) (la_cons (le_bin op_addW (le_var (pv 3)) (le_lst (la_cons (le_tup (la_cons le_str (la_cons le_str (la_cons le_str (la_cons le_str la_nil))))) (la_cons (le_tup (la_cons le_str (la_cons le_str la_nil))) (la_cons (le_bin op_mulW (le_lst (la_cons le_int la_nil)) le_int) (la_cons (le_lst (la_cons le_str (la_cons le_str la_nil))) (la_cons (le_tup (la_cons le_str (la_cons le_non la_nil))) la_nil))))))) la_nil))))))))))
theorem s__law_is_deed : FnScope ["_law_thing", "_law_one_here"] ["_law_thing"] (defScope (top 35)) := ⟨rfl, rfl, rfl, by decide +kernel, rfl, by decide +kernel, by decide +kernel⟩
theorem L__law_is_deed (sm : ∃ o, base.get? sysModules = some o) (T : Txt Z mg) : LF P w Z.K mg base 2 T.a__law_is_deed T.c__law_is_deed ["_law_thing"] (f__law_is_deed Z) := by
  refine lf_def (k := 1) sm T.F__law_is_deed s__law_is_deed fun cdv A outer s H E c => ?_
  exact (ls_cons (ls_if (lt_w (lw_or (lt_not (lt_val (le_callB call_isiW (by rfl) T.b_isinstance (by rfl) (la_cons (le_var (pv 0)) (la_cons (le_tyc (by rfl) T.b_tuple (by rfl)) la_nil))))) (lw_or (lt_cmp (op_eqX c) (by rfl) (le_var (pv 0)) (le_tup la_nil)) (lw_or1 (lt_cmp (op_neX c) (by rfl) (le_lc (own := [("_law_one_here", 1)]) c (li_any (le_var (pv 0))) (by kernel_rfl) (by decide) (fun s H C cl fp => pg_name (by exact c.nd) rfl (by first | exact Or.inl rfl | exact Or.inr rfl)) (fun s H C cl fp c => (lts_one (lt_not (lt_val (le_callB call_isiW (by rfl) T.b_isinstance (by rfl) (la_cons (le_var (pv 1)) (la_cons (le_tyc (by rfl) T.b_str (by rfl)) la_nil))))))) (fun s H C cl fp c => (le_var (pv 1)))) (le_lst la_nil)))))) (ls_one (ls_ret le_bl)) ls_nil)
    (ls_cons (ls_if (lt_cmp (op_eqX c) (by rfl) (le_item c (le_var (pv 0)) le_int) le_str) (ls_one (ls_ret (le_and (le_cmp (op_eqX c) (by rfl) (le_callB call_lenAW (by rfl) T.b_len (by rfl) (la_cons (le_var (pv 0)) la_nil)) le_int) (le_one (le_call c ((L__law_is_name sm T).mono (by decide)) (by rfl) T.m__law_is_name T.k__law_is_name T.B__law_is_name (la_cons (le_item c (le_var (pv 0)) le_int) la_nil)))))) ls_nil)
    (ls_cons (ls_if (lt_w (lw_or (lt_cmp (op_neX c) (by rfl) (le_callB call_lenAW (by rfl) T.b_len (by rfl) (la_cons (le_var (pv 0)) la_nil)) le_int) (lw_or (lt_not (lt_val (le_call c ((L__law_is_name sm T).mono (by decide)) (by rfl) T.m__law_is_name T.k__law_is_name T.B__law_is_name (la_cons (le_item c (le_var (pv 0)) le_int) la_nil)))) (lw_or1 (lt_not (lt_val (le_call c ((L__law_is_name sm T).mono (by decide)) (by rfl) T.m__law_is_name T.k__law_is_name T.B__law_is_name (la_cons (le_item c (le_var (pv 0)) le_int) la_nil)))))))) (ls_one (ls_ret le_bl)) ls_nil)
    (ls_cons (ls_if (lt_cmp (op_eqX c) (by rfl) (le_item c (le_var (pv 0)) le_int) le_str) (ls_one (ls_ret (le_or (le_cmp (op_eqX c) (by rfl) (le_item c (le_var (pv 0)) le_int) le_str) (le_one (le_call c ((L__law_is_name sm T).mono (by decide)) (by rfl) T.m__law_is_name T.k__law_is_name T.B__law_is_name (la_cons (le_item c (le_var (pv 0)) le_int) la_nil)))))) ls_nil)
    (ls_one (ls_ret (le_and (le_cmp (op_eqX c) (by rfl) (le_item c (le_var (pv 0)) le_int) le_str) (le_and (le_call c ((L__law_is_name sm T).mono (by decide)) (by rfl) T.m__law_is_name T.k__law_is_name T.B__law_is_name (la_cons (le_item c (le_var (pv 0)) le_int) la_nil)) (le_one (le_cmp (op_neX c) (by rfl) (le_item c (le_var (pv 0)) le_int) (le_item c (le_var (pv 0)) le_int)))))))))))
theorem s__law_is_wish : FnScope ["_law_thing", "_law_one_here", "_law_k"] ["_law_thing"] (defScope (top 36)) := ⟨rfl, rfl, rfl, by decide +kernel, rfl, by decide +kernel, by decide +kernel⟩
theorem L__law_is_wish (sm : ∃ o, base.get? sysModules = some o) (T : Txt Z mg) : LF P w Z.K mg base 2 T.a__law_is_wish T.c__law_is_wish ["_law_thing"] (f__law_is_wish Z) := by
  refine lf_def (k := 1) sm T.F__law_is_wish s__law_is_wish fun cdv A outer s H E c => ?_
  exact (ls_cons (ls_if (lt_w (lw_or (lt_not (lt_val (le_callB call_isiW (by rfl) T.b_isinstance (by rfl) (la_cons (le_var (pv 0)) (la_cons (le_tyc (by rfl) T.b_tuple (by rfl)) la_nil))))) (lw_or1 (lt_cmp (op_eqX c) (by rfl) (le_var (pv 0)) (le_tup la_nil))))) (ls_one (ls_ret le_bl)) ls_nil)
    (ls_cons (ls_for c.po c.calm (li_any (le_var (pv 0))) (pg_name (by exact c.nd) rfl (by first | exact Or.inl rfl | exact Or.inr rfl)) (ls_one (ls_if (lt_w (lw_or (lt_not (lt_val (le_callB call_isiW (by rfl) T.b_isinstance (by rfl) (la_cons (le_var (pv 1)) (la_cons (le_tyc (by rfl) T.b_tuple (by rfl)) la_nil))))) (lw_or (lt_cmp (op_neX c) (by rfl) (le_callB call_lenAW (by rfl) T.b_len (by rfl) (la_cons (le_var (pv 1)) la_nil)) le_int) (lw_or (lt_not (lt_val (le_call c ((L__law_is_name sm T).mono (by decide)) (by rfl) T.m__law_is_name T.k__law_is_name T.B__law_is_name (la_cons (le_item c (le_var (pv 1)) le_int) la_nil)))) (lw_or1 (lt_not (lt_val (le_call c ((L__law_is_name sm T).mono (by decide)) (by rfl) T.m__law_is_name T.k__law_is_name T.B__law_is_name (la_cons (le_item c (le_var (pv 1)) le_int) la_nil))))))))) (ls_one (ls_ret le_bl)) ls_nil)))
    (ls_one (ls_ret (le_cmp (op_eqX c) (by rfl) (le_lc (own := [("_law_k", 2)]) c (li_range1 (by rfl) T.b_range (la_cons (le_bin op_subW (le_callB call_lenAW (by rfl) T.b_len (by rfl) (la_cons (le_var (pv 0)) la_nil)) le_int) la_nil)) (by kernel_rfl) (by decide) (fun s H C cl fp => pg_name (by exact c.nd) rfl (by first | exact Or.inl rfl | exact Or.inr rfl)) (fun s H C cl fp c => (lts_one (lt_cmp (op_geD c) (by rfl) (le_item c (le_var (pv 0)) (le_var (pv 2))) (le_item c (le_var (pv 0)) (le_bin op_addW (le_var (pv 2)) le_int))))) (fun s H C cl fp c => (le_var (pv 2)))) (le_lst la_nil))))))
theorem s__law_some_name : FnScope ["_law_bag_here", "_law_some"] ["_law_bag_here"] (defScope (top 37)) := ⟨rfl, rfl, rfl, by decide +kernel, rfl, by decide +kernel, by decide +kernel⟩
theorem L__law_some_name (sm : ∃ o, base.get? sysModules = some o) (T : Txt Z mg) : LF P w Z.K mg base 3 T.a__law_some_name T.c__law_some_name ["_law_bag_here"] (f__law_some_name Z) := by
  refine lf_def (k := 2) sm T.F__law_some_name s__law_some_name fun cdv A outer s H E c => ?_
  exact (ls_cons (ls_asg (le_lst (la_cons le_str (la_cons le_str (la_cons le_str (la_cons le_str (la_cons le_str (la_cons le_str (la_cons le_str (la_cons le_str (la_cons le_str (la_cons le_str (la_cons le_str (la_cons le_str (la_cons le_str (la_cons le_str (la_cons le_str la_nil)))))))))))))))) (lg_name (pg_name (i := 1) c.nd rfl (by first | exact Or.inl rfl | exact Or.inr rfl))))
    (ls_one (ls_ret (le_call c ((L__law_one sm T).mono (by decide)) (by rfl) T.m__law_one T.k__law_one T.B__law_one (la_cons (le_var (pv 0)) (la_cons (le_var (pv 1)) la_nil))))))
theorem s__law_drawn_thing : FnScope ["_law_bag_here", "_law_way", "_law_some", "_law_rows", "_law_word", "_law_k"] ["_law_bag_here"] (defScope (top 38)) := ⟨rfl, rfl, rfl, by decide +kernel, rfl, by decide +kernel, by decide +kernel⟩
theorem L__law_drawn_thing (sm : ∃ o, base.get? sysModules = some o) (T : Txt Z mg) : LF P w Z.K mg base 4 T.a__law_drawn_thing T.c__law_drawn_thing ["_law_bag_here"] (f__law_drawn_thing Z) := by
  refine lf_def (k := 3) sm T.F__law_drawn_thing s__law_drawn_thing fun cdv A outer s H E c => ?_
  exact (ls_cons (ls_asg (le_call c ((L__law_take sm T).mono (by decide)) (by rfl) T.m__law_take T.k__law_take T.B__law_take (la_cons (le_var (pv 0)) (la_cons le_int la_nil))) (lg_name (pg_name (i := 1) c.nd rfl (by first | exact Or.inl rfl | exact Or.inr rfl))))
    (ls_cons (ls_setLc (i := 2) (own := [("_law_k", 5)]) c rfl rfl (by rfl) (li_range1 (by rfl) T.b_range (la_cons (le_call c ((L__law_take sm T).mono (by decide)) (by rfl) T.m__law_take T.k__law_take T.B__law_take (la_cons (le_var (pv 0)) (la_cons le_int la_nil))) la_nil)) (by kernel_rfl) (by decide) (fun s H C cl fp => pg_name (by exact c.nd) rfl (by first | exact Or.inl rfl | exact Or.inr rfl)) (fun s H C cl fp c => lts_nil) (fun s H C cl fp c => (le_call c ((L__law_some_name sm T).mono (by decide)) (by rfl) T.m__law_some_name T.k__law_some_name T.B__law_some_name (la_cons (le_var (pv 0)) la_nil))))
    (ls_cons (ls_if (lt_cmp (op_ltD c) (by rfl) (le_var (pv 1)) le_int) (ls_one (ls_ret (le_if (lt_cmp (op_eqX c) (by rfl) (le_var (pv 1)) le_int) (le_var (pv 2)) (le_callTy call_tupleW (by rfl) T.b_tuple (by rfl) (la_cons (le_var (pv 2)) la_nil))))) ls_nil)
    (ls_cons (ls_if (lt_cmp (op_ltD c) (by rfl) (le_var (pv 1)) le_int) (ls_cons (ls_setLc (i := 3) (own := [("_law_k", 5)]) c rfl rfl (by rfl) (li_range1 (by rfl) T.b_range (la_cons (le_call c ((L__law_take sm T).mono (by decide)) (by rfl) T.m__law_take T.k__law_take T.B__law_take (la_cons (le_var (pv 0)) (la_cons le_int la_nil))) la_nil)) (by kernel_rfl) (by decide) (fun s H C cl fp => pg_name (by exact c.nd) rfl (by first | exact Or.inl rfl | exact Or.inr rfl)) (fun s H C cl fp c => lts_nil) (fun s H C cl fp c => (le_tup (la_cons (le_call c ((L__law_some_name sm T).mono (by decide)) (by rfl) T.m__law_some_name T.k__law_some_name T.B__law_some_name (la_cons (le_var (pv 0)) la_nil)) (la_cons (le_call c ((L__law_some_name sm T).mono (by decide)) (by rfl) T.m__law_some_name T.k__law_some_name T.B__law_some_name (la_cons (le_var (pv 0)) la_nil)) la_nil)))))
    (ls_one (ls_ret (le_callTy call_tupleW (by rfl) T.b_tuple (by rfl) (la_cons (le_if (lt_cmp (op_eqX c) (by rfl) (le_var (pv 1)) le_int) (le_callB (call_sortedW c) (by rfl) T.b_sorted (by rfl) (la_cons (le_var (pv 3)) la_nil)) (le_var (pv 3))) la_nil))))) ls_nil)
    (ls_cons (ls_asg (le_call c ((L__law_one sm T).mono (by decide)) (by rfl) T.m__law_one T.k__law_one T.B__law_one (la_cons (le_var (pv 0)) (la_cons (le_lst (la_cons le_str (la_cons le_str (la_cons le_str (la_cons le_str (la_cons le_str (la_cons le_int la_nil))))))) la_nil))) (lg_name (pg_name (i := 4) c.nd rfl (by first | exact Or.inl rfl | exact Or.inr rfl))))
    (ls_one (ls_ret (le_callTy call_tupleW (by rfl) T.b_tuple (by rfl) (la_cons (le_bin op_addW (le_lst (la_cons (le_var (pv 4)) la_nil)) (le_sl (le_bin op_addW (le_var (pv 2)) (le_lst (la_cons le_str (la_cons le_str (la_cons le_str la_nil))))) lo_none (lo_some (le_call c ((L__law_one sm T).mono (by decide)) (by rfl) T.m__law_one T.k__law_one T.B__law_one (la_cons (le_var (pv 0)) (la_cons (le_lst (la_cons le_int (la_cons le_int (la_cons le_int (la_cons le_int (la_cons le_int (la_cons le_int la_nil))))))) la_nil)))))) la_nil)))))))))
theorem s__law_near_one : FnScope ["_law_bag_here", "_law_rows", "_law_some"] ["_law_bag_here"] (defScope (top 39)) := ⟨rfl, rfl, rfl, by decide +kernel, rfl, by decide +kernel, by decide +kernel⟩
theorem L__law_near_one (sm : ∃ o, base.get? sysModules = some o) (T : Txt Z mg) : LF P w Z.K mg base 3 T.a__law_near_one T.c__law_near_one ["_law_bag_here"] (f__law_near_one Z) := by
  refine lf_def (k := 2) sm T.F__law_near_one s__law_near_one fun cdv A outer s H E c => ?_
  exact (ls_cons (ls_asg (le_sl (le_callB (call_sortedW c) (by rfl) T.b_sorted (by rfl) (la_cons (le_lst (la_cons (le_tup (la_cons le_str (la_cons le_str la_nil))) (la_cons (le_tup (la_cons le_str (la_cons le_str la_nil))) (la_cons (le_tup (la_cons le_str (la_cons le_str la_nil))) (la_cons (le_tup (la_cons le_str (la_cons le_str la_nil))) (la_cons (le_tup (la_cons le_str (la_cons le_str la_nil))) la_nil)))))) la_nil)) lo_none (lo_some (le_bin op_addW le_int (le_call c ((L__law_take sm T).mono (by decide)) (by rfl) T.m__law_take T.k__law_take T.B__law_take (la_cons (le_var (pv 0)) (la_cons le_int la_nil)))))) (lg_name (pg_name (i := 1) c.nd rfl (by first | exact Or.inl rfl | exact Or.inr rfl))))
    (ls_cons (ls_asg (le_lst (la_cons (le_tup (la_cons le_str (la_cons le_str (la_cons le_str (la_cons le_str la_nil))))) (la_cons (le_tup (la_cons le_str (la_cons le_str (la_cons le_str (la_cons le_str la_nil))))) (la_cons (le_tup (la_cons le_str (la_cons le_str (la_cons le_str (la_cons le_str la_nil))))) la_nil)))) (lg_name (pg_name (i := 2) c.nd rfl (by first | exact Or.inl rfl | exact Or.inr rfl))))
    (ls_cons (ls_asg (le_bin op_addW (le_var (pv 2)) (le_lst (la_cons (le_tup (la_cons le_str (la_cons le_str (la_cons le_str (la_cons le_str la_nil))))) (la_cons (le_tup (la_cons (le_tup (la_cons le_str (la_cons le_str la_nil))) la_nil)) (la_cons (le_tup (la_cons (le_tup (la_cons le_str (la_cons le_str la_nil))) la_nil)) (la_cons (le_tup (la_cons le_str (la_cons le_str la_nil))) (la_cons (le_callTy call_tupleW (by rfl) T.b_tuple (by rfl) (la_cons (le_var (pv 1)) la_nil)) (la_cons (le_callTy call_tupleW (by rfl) T.b_tuple (by rfl) (la_cons (le_var (pv 1)) la_nil)) la_nil)))))))) (lg_name (pg_name (i := 2) c.nd rfl (by first | exact Or.inl rfl | exact Or.inr rfl))))
    (ls_cons (ls_asg (le_bin op_addW (le_var (pv 2)) (le_lst (la_cons (le_tup (la_cons le_str (la_cons le_str (la_cons le_str (la_cons le_non la_nil))))) (la_cons (le_tup (la_cons le_str (la_cons le_str (la_cons le_str (la_cons le_str la_nil))))) (la_cons (le_tup (la_cons le_str (la_cons le_str (la_cons le_str (la_cons le_str la_nil))))) (la_cons (le_tup (la_cons le_str (la_cons le_str (la_cons le_str (la_cons le_str la_nil))))) la_nil)))))) (lg_name (pg_name (i := 2) c.nd rfl (by first | exact Or.inl rfl | exact Or.inr rfl))))
    (ls_cons (ls_asg (le_bin op_addW (le_var (pv 2)) (le_lst (la_cons (le_tup (la_cons le_str (la_cons le_str la_nil))) (la_cons (le_tup (la_cons le_str la_nil)) (la_cons (le_tup (la_cons le_str (la_cons le_str (la_cons le_str la_nil)))) (la_cons (le_tup (la_cons le_str (la_cons le_str la_nil))) (la_cons (le_tup (la_cons (le_lst (la_cons le_str (la_cons le_str la_nil))) la_nil)) la_nil))))))) (lg_name (pg_name (i := 2) c.nd rfl (by first | exact Or.inl rfl | exact Or.inr rfl))))
    (ls_cons (ls_asg (le_bin op_addW (le_var (pv 2)) (le_lst (la_cons (le_tup (la_cons (le_tup (la_cons le_str (la_cons (le_lst (la_cons le_str la_nil)) la_nil))) la_nil)) (la_cons (le_tup (la_cons (le_tup (la_cons le_str (la_cons le_non la_nil))) (la_cons (le_tup (la_cons le_str (la_cons le_str la_nil))) la_nil))) (la_cons (le_tup (la_cons (le_tup (la_cons (le_lst (la_cons le_str la_nil)) (la_cons le_str la_nil))) la_nil)) (la_cons (le_tup (la_cons le_str (la_cons le_str (la_cons (le_lst (la_cons le_str la_nil)) (la_cons le_str la_nil))))) la_nil)))))) (lg_name (pg_name (i := 2) c.nd rfl (by first | exact Or.inl rfl | exact Or.inr rfl))))
    (ls_one (ls_ret (le_call c ((L__law_one sm T).mono (by decide)) (by rfl) T.m__law_one T.k__law_one T.B__law_one (la_cons (le_var (pv 0)) (la_cons (le_bin op_addW (le_var (pv 2)) (le_lst (la_cons (le_tup (la_cons (le_tup (la_cons le_str (la_cons le_str la_nil))) (la_cons (le_lst (la_cons le_str (la_cons le_str la_nil))) la_nil))) (la_cons (le_tup (la_cons (le_tup (la_cons le_str (la_cons le_str la_nil))) (la_cons (le_tup (la_cons le_str (la_cons le_str la_nil))) la_nil))) la_nil)))) la_nil)))))))))))
theorem s__law_bent : FnScope ["_law_bag_here", "_law_thing", "_law_at", "_law_found", "_law_way", "_law_some"] ["_law_bag_here", "_law_thing"] (defScope (top 40)) := ⟨rfl, rfl, rfl, by decide +kernel, rfl, by decide +kernel, by decide +kernel⟩
theorem L__law_bent (sm : ∃ o, base.get? sysModules = some o) (T : Txt Z mg) : LF P w Z.K mg base 4 T.a__law_bent T.c__law_bent ["_law_bag_here", "_law_thing"] (f__law_bent Z) := by
  refine lf_def (k := 3) sm T.F__law_bent s__law_bent fun cdv A outer s H E c => ?_
  exact (ls_cons (ls_if (lt_w (lw_or (lt_not (lt_val (le_callB call_isiW (by rfl) T.b_isinstance (by rfl) (la_cons (le_var (pv 1)) (la_cons (le_tup (la_cons (le_tyc (by rfl) T.b_list (by rfl)) (la_cons (le_tyc (by rfl) T.b_tuple (by rfl)) la_nil))) la_nil))))) (lw_or1 (lt_cmp (op_eqX c) (by rfl) (le_callB call_lenAW (by rfl) T.b_len (by rfl) (la_cons (le_var (pv 1)) la_nil)) le_int)))) (ls_one (ls_ret (le_call c ((L__law_odd sm T).mono (by decide)) (by rfl) T.m__law_odd T.k__law_odd T.B__law_odd (la_cons (le_var (pv 0)) la_nil)))) ls_nil)
    (ls_cons (ls_par2 (i := 2) (j := 3) c rfl rfl (by decide) rfl rfl (la_cons (le_call c ((L__law_take sm T).mono (by decide)) (by rfl) T.m__law_take T.k__law_take T.B__law_take (la_cons (le_var (pv 0)) (la_cons (le_callB call_lenAW (by rfl) T.b_len (by rfl) (la_cons (le_var (pv 1)) la_nil)) la_nil))) (la_cons (le_callTy call_listW (by rfl) T.b_list (by rfl) (la_cons (le_var (pv 1)) la_nil)) la_nil)) (by rfl))
    (ls_cons (ls_asg (le_call c ((L__law_take sm T).mono (by decide)) (by rfl) T.m__law_take T.k__law_take T.B__law_take (la_cons (le_var (pv 0)) (la_cons le_int la_nil))) (lg_name (pg_name (i := 4) c.nd rfl (by first | exact Or.inl rfl | exact Or.inr rfl))))
    (ls_cons (ls_if (lt_cmp (op_eqX c) (by rfl) (le_var (pv 4)) le_int) (ls_cons (ls_asg (le_lst (la_cons le_non (la_cons le_bl (la_cons le_int (la_cons (le_lst (la_cons le_str la_nil)) (la_cons (le_tup (la_cons le_str (la_cons le_str la_nil))) (la_cons le_str (la_cons le_str (la_cons (le_call c ((L__law_odd sm T).mono (by decide)) (by rfl) T.m__law_odd T.k__law_odd T.B__law_odd (la_cons (le_var (pv 0)) la_nil)) la_nil))))))))) (lg_name (pg_name (i := 5) c.nd rfl (by first | exact Or.inl rfl | exact Or.inr rfl))))
    (ls_one (ls_set c (le_var (pv 3)) (le_var (pv 2)) (le_if (lt_w (lw_and (lt_val (le_callB call_isiW (by rfl) T.b_isinstance (by rfl) (la_cons (le_item c (le_var (pv 3)) (le_var (pv 2))) (la_cons (le_tyc (by rfl) T.b_tuple (by rfl)) la_nil)))) (lw_and1 (lt_cmp (op_eqX c) (by rfl) (le_call c ((L__law_take sm T).mono (by decide)) (by rfl) T.m__law_take T.k__law_take T.B__law_take (la_cons (le_var (pv 0)) (la_cons le_int la_nil))) le_int)))) (le_callTy call_listW (by rfl) T.b_list (by rfl) (la_cons (le_item c (le_var (pv 3)) (le_var (pv 2))) la_nil)) (le_call c ((L__law_one sm T).mono (by decide)) (by rfl) T.m__law_one T.k__law_one T.B__law_one (la_cons (le_var (pv 0)) (la_cons (le_var (pv 5)) la_nil))))))) ls_nil)
    (ls_cons (ls_if (lt_cmp (op_eqX c) (by rfl) (le_var (pv 4)) le_int) (ls_one (ls_expr (le_meth PySem.F.plainAttrs_list PySem.F.slot_list_pop PySem.F.type_list_pop mt_popAtW (le_var (pv 3)) (la_cons (le_var (pv 2)) la_nil)))) ls_nil)
    (ls_cons (ls_if (lt_cmp (op_eqX c) (by rfl) (le_var (pv 4)) le_int) (ls_one (ls_expr (le_meth PySem.F.plainAttrs_list PySem.F.slot_list_insert PySem.F.type_list_insert mt_insertW (le_var (pv 3)) (la_cons (le_var (pv 2)) (la_cons (le_item c (le_var (pv 3)) (le_var (pv 2))) la_nil))))) ls_nil)
    (ls_one (ls_ret (le_if (lt_w (lw_or (lt_w (lw_and (lt_val (le_callB call_isiW (by rfl) T.b_isinstance (by rfl) (la_cons (le_var (pv 1)) (la_cons (le_tyc (by rfl) T.b_tuple (by rfl)) la_nil)))) (lw_and1 (lt_cmp (op_eqX c) (by rfl) (le_var (pv 4)) le_int)))) (lw_or1 (lt_val (le_callB call_isiW (by rfl) T.b_isinstance (by rfl) (la_cons (le_var (pv 1)) (la_cons (le_tyc (by rfl) T.b_list (by rfl)) la_nil))))))) (le_var (pv 3)) (le_callTy call_tupleW (by rfl) T.b_tuple (by rfl) (la_cons (le_var (pv 3)) la_nil)))))))))))
theorem s_law : FnScope ["_law_script", "_law_bag_here", "_law_turn", "_law_thing", "_law_some", "_law_one_here", "_law_said", "_law_found", "_law_due", "_law_gate"] ["_law_script"] (defScope (top 41)) := ⟨rfl, rfl, rfl, by decide +kernel, rfl, by decide +kernel, by decide +kernel⟩
theorem L_law (sm : ∃ o, base.get? sysModules = some o) (T : Txt Z mg) : LF P w Z.K mg base 7 T.a_law T.c_law ["_law_script"] (f_law Z) := by
  refine lf_def (k := 6) sm T.F_law s_law fun cdv A outer s H E c => ?_
  exact (ls_cons (ls_asg (le_call c ((L__law_bag sm T).mono (by decide)) (by rfl) T.m__law_bag T.k__law_bag T.B__law_bag (la_cons (le_var (pv 0)) la_nil)) (lg_name (pg_name (i := 1) c.nd rfl (by first | exact Or.inl rfl | exact Or.inr rfl))))
    (ls_cons (ls_for c.po c.calm (li_range1 (by rfl) T.b_range (la_cons le_int la_nil)) (pg_name (by exact c.nd) rfl (by first | exact Or.inl rfl | exact Or.inr rfl)) (ls_cons (ls_asg (le_call c ((L__law_drawn_thing sm T).mono (by decide)) (by rfl) T.m__law_drawn_thing T.k__law_drawn_thing T.B__law_drawn_thing (la_cons (le_var (pv 1)) la_nil)) (lg_name (pg_name (i := 3) c.nd rfl (by first | exact Or.inl rfl | exact Or.inr rfl))))
    (ls_cons (ls_asg (le_lst (la_cons (le_var (pv 3)) (la_cons (le_call c ((L__law_bent sm T).mono (by decide)) (by rfl) T.m__law_bent T.k__law_bent T.B__law_bent (la_cons (le_var (pv 1)) (la_cons (le_var (pv 3)) la_nil))) (la_cons (le_call c ((L__law_odd sm T).mono (by decide)) (by rfl) T.m__law_odd T.k__law_odd T.B__law_odd (la_cons (le_var (pv 1)) la_nil)) (la_cons (le_call c ((L__law_some_name sm T).mono (by decide)) (by rfl) T.m__law_some_name T.k__law_some_name T.B__law_some_name (la_cons (le_var (pv 1)) la_nil)) (la_cons (le_bin op_subW (le_call c ((L__law_take sm T).mono (by decide)) (by rfl) T.m__law_take T.k__law_take T.B__law_take (la_cons (le_var (pv 1)) (la_cons le_int la_nil))) le_int) la_nil)))))) (lg_name (pg_name (i := 4) c.nd rfl (by first | exact Or.inl rfl | exact Or.inr rfl))))
    (ls_one (ls_for c.po c.calm (li_any (le_bin op_addW (le_var (pv 4)) (le_lst (la_cons (le_call c ((L__law_near_one sm T).mono (by decide)) (by rfl) T.m__law_near_one T.k__law_near_one T.B__law_near_one (la_cons (le_var (pv 1)) la_nil)) (la_cons (le_call c ((L__law_bent sm T).mono (by decide)) (by rfl) T.m__law_bent T.k__law_bent T.B__law_bent (la_cons (le_var (pv 1)) (la_cons (le_call c ((L__law_near_one sm T).mono (by decide)) (by rfl) T.m__law_near_one T.k__law_near_one T.B__law_near_one (la_cons (le_var (pv 1)) la_nil)) la_nil))) la_nil))))) (pg_name (by exact c.nd) rfl (by first | exact Or.inl rfl | exact Or.inr rfl)) (ls_cons (ls_asg (le_callB (call_reprW c) (by rfl) T.b_repr (by rfl) (la_cons (le_var (pv 5)) la_nil)) (lg_name (pg_name (i := 6) c.nd rfl (by first | exact Or.inl rfl | exact Or.inr rfl))))
    (ls_cons (ls_asg (le_lst (la_cons (le_call c ((L_is_integer sm T).mono (by decide)) (by rfl) T.m_is_integer T.k_is_integer T.B_is_integer (la_cons (le_var (pv 5)) la_nil)) (la_cons (le_call c ((L_is_name sm T).mono (by decide)) (by rfl) T.m_is_name T.k_is_name T.B_is_name (la_cons (le_var (pv 5)) la_nil)) (la_cons (le_call c ((L_are_names sm T).mono (by decide)) (by rfl) T.m_are_names T.k_are_names T.B_are_names (la_cons (le_var (pv 5)) la_nil)) (la_cons (le_call c ((L_is_wish sm T).mono (by decide)) (by rfl) T.m_is_wish T.k_is_wish T.B_is_wish (la_cons (le_var (pv 5)) la_nil)) (la_cons (le_call c ((L_is_deed sm T).mono (by decide)) (by rfl) T.m_is_deed T.k_is_deed T.B_is_deed (la_cons (le_var (pv 5)) la_nil)) la_nil)))))) (lg_name (pg_name (i := 7) c.nd rfl (by first | exact Or.inl rfl | exact Or.inr rfl))))
    (ls_cons (ls_asg (le_lst (la_cons (le_call c ((L__law_is_whole sm T).mono (by decide)) (by rfl) T.m__law_is_whole T.k__law_is_whole T.B__law_is_whole (la_cons (le_var (pv 5)) la_nil)) (la_cons (le_call c ((L__law_is_name sm T).mono (by decide)) (by rfl) T.m__law_is_name T.k__law_is_name T.B__law_is_name (la_cons (le_var (pv 5)) la_nil)) (la_cons (le_call c ((L__law_are_names sm T).mono (by decide)) (by rfl) T.m__law_are_names T.k__law_are_names T.B__law_are_names (la_cons (le_var (pv 5)) la_nil)) (la_cons (le_call c ((L__law_is_wish sm T).mono (by decide)) (by rfl) T.m__law_is_wish T.k__law_is_wish T.B__law_is_wish (la_cons (le_var (pv 5)) la_nil)) (la_cons (le_call c ((L__law_is_deed sm T).mono (by decide)) (by rfl) T.m__law_is_deed T.k__law_is_deed T.B__law_is_deed (la_cons (le_var (pv 5)) la_nil)) la_nil)))))) (lg_name (pg_name (i := 8) c.nd rfl (by first | exact Or.inl rfl | exact Or.inr rfl))))
    (ls_one (ls_if (lt_w (lw_or (lt_not (lt_val (le_call c ((L__law_alike sm T).mono (by decide)) (by rfl) T.m__law_alike T.k__law_alike T.B__law_alike (la_cons (le_var (pv 7)) (la_cons (le_var (pv 8)) la_nil))))) (lw_or1 (lt_cmp (op_neX c) (by rfl) (le_callB (call_reprW c) (by rfl) T.b_repr (by rfl) (la_cons (le_var (pv 5)) la_nil)) (le_var (pv 6)))))) (ls_one (ls_ret le_bl)) ls_nil))))))))))
    (ls_cons (ls_asg (le_make c T.M_Gate ⟨T.cl_Gate, T.is_Gate⟩ ((L_Gate___init__ sm T).mono (by decide)) (by rfl) T.mg_Gate T.B_Gate___init__ (la_cons le_int (la_cons (le_lst (la_cons le_str la_nil)) (la_cons (le_lst la_nil) (la_cons (le_lst la_nil) la_nil))))) (lg_name (pg_name (i := 9) c.nd rfl (by first | exact Or.inl rfl | exact Or.inr rfl))))
    (ls_cons (ls_for c.po c.calm (li_any (le_tup (la_cons (le_var (pv 9)) (la_cons (le_lst (la_cons (le_var (pv 9)) la_nil)) (la_cons (le_tup (la_cons (le_var (pv 9)) la_nil)) (la_cons (le_tup (la_cons le_str (la_cons (le_var (pv 9)) la_nil))) (la_cons (le_tup (la_cons (le_tup (la_cons le_str (la_cons (le_var (pv 9)) la_nil))) la_nil)) (la_cons (le_tup (la_cons le_str (la_cons (le_var (pv 9)) (la_cons le_str (la_cons le_str la_nil))))) la_nil)))))))) (pg_name (by exact c.nd) rfl (by first | exact Or.inl rfl | exact Or.inr rfl)) (ls_cons (ls_asg (le_lst (la_cons (le_call c ((L_is_integer sm T).mono (by decide)) (by rfl) T.m_is_integer T.k_is_integer T.B_is_integer (la_cons (le_var (pv 3)) la_nil)) (la_cons (le_call c ((L_is_name sm T).mono (by decide)) (by rfl) T.m_is_name T.k_is_name T.B_is_name (la_cons (le_var (pv 3)) la_nil)) (la_cons (le_call c ((L_are_names sm T).mono (by decide)) (by rfl) T.m_are_names T.k_are_names T.B_are_names (la_cons (le_var (pv 3)) la_nil)) (la_cons (le_call c ((L_is_wish sm T).mono (by decide)) (by rfl) T.m_is_wish T.k_is_wish T.B_is_wish (la_cons (le_var (pv 3)) la_nil)) (la_cons (le_call c ((L_is_deed sm T).mono (by decide)) (by rfl) T.m_is_deed T.k_is_deed T.B_is_deed (la_cons (le_var (pv 3)) la_nil)) la_nil)))))) (lg_name (pg_name (i := 7) c.nd rfl (by first | exact Or.inl rfl | exact Or.inr rfl))))
    (ls_one (ls_if (lt_not (lt_val (le_call c ((L__law_alike sm T).mono (by decide)) (by rfl) T.m__law_alike T.k__law_alike T.B__law_alike (la_cons (le_var (pv 7)) (la_cons (le_bin op_mulW (le_lst (la_cons le_bl la_nil)) le_int) la_nil))))) (ls_one (ls_ret le_bl)) ls_nil))))
    (ls_one (ls_ret (le_and (le_cmp op_isW (by rfl) (le_call c ((L_are_names sm T).mono (by decide)) (by rfl) T.m_are_names T.k_are_names T.B_are_names (la_cons (le_lst la_nil) la_nil)) le_bl) (le_and (le_cmp op_isW (by rfl) (le_call c ((L_are_names sm T).mono (by decide)) (by rfl) T.m_are_names T.k_are_names T.B_are_names (la_cons (le_tup la_nil) la_nil)) le_bl) (le_one (le_cmp op_isW (by rfl) (le_call c ((L_is_wish sm T).mono (by decide)) (by rfl) T.m_is_wish T.k_is_wish T.B_is_wish (la_cons (le_tup la_nil) la_nil)) le_bl))))))))))
end
end K11
end
section
set_option Elab.async false
set_option backward.match.sparseCases false
set_option linter.all false
set_option maxRecDepth 100000
set_option maxHeartbeats 4000100
namespace K11
open PySem L2 Dn
/-! ## what the defs tell of any value -/
section
variable {Z : Adr} {mg : Str → Option Value} {G : Gh} {σ : Dn.Loc}
/-- of a known type -/
def tyOk (Z : Adr) (G : Gh) : W → Bool
  | .non => true
  | .bl _ => true
  | .int _ => true
  | .str x => PyData.strOk x && decide (x.length ≤ 16777216)
  | .tup ws => decide (ws.length < 4000)
  | .ref n => match G[n]? with
    | some (.lst ws) => decide (ws.length < 4000)
    | some (.dct _ _) => true
    | some (.ins C _) => decide (C = Z.C_Gate)
    | _ => false
  | _ => false
def kids (w : W) (G : Gh) : Option (List W) := match w with
  | .tup ws => some ws
  | .ref n => match G[n]? with
    | some (.lst ws) => some ws
    | _ => none
  | _ => none
def okV (Z : Adr) (G : Gh) : Nat → W → Bool
  | 0, w => tyOk Z G w
  | n + 1, w => tyOk Z G w && match kids w G with
    | some ws => ws.all (okV Z G n)
    | none => true
theorem tyOk.gr {G' : Gh} (g : Gr G G') {w : W} (h : tyOk Z G w = true) : tyOk Z G' w = true := by
  cases w with
  | ref n =>
    simp only [tyOk] at h ⊢
    cases e : G[n]? with
    | none => rw [e] at h; exact nomatch h
    | some o => rw [e] at h; rw [g.get e]; exact h
  | _ => exact h
theorem kids.gr {G' : Gh} (g : Gr G G') {w : W} (h : tyOk Z G w = true) : kids w G' = kids w G := by
  cases w with
  | ref n =>
    simp only [tyOk] at h
    simp only [kids]
    cases e : G[n]? with
    | none => rw [e] at h; exact nomatch h
    | some o => rw [g.get e]
  | _ => rfl
theorem okV.ty {n : Nat} {w : W} (h : okV Z G n w = true) : tyOk Z G w = true := by
  cases n with
  | zero => exact h
  | succ n => unfold okV at h; rw [Bool.and_eq_true] at h; exact h.1
theorem okV.gr {G' : Gh} (g : Gr G G') : ∀ (n : Nat) {w : W}, okV Z G n w = true → okV Z G' n w = true
  | 0, w, h => tyOk.gr g h
  | n + 1, w, h => by
    have ht := okV.ty h
    unfold okV at h ⊢
    rw [Bool.and_eq_true] at h ⊢
    refine ⟨tyOk.gr g ht, ?_⟩
    rw [kids.gr g ht]
    cases e : kids w G with
    | none => rfl
    | some ws =>
      have h2 := h.2
      rw [e] at h2
      exact List.all_eq_true.mpr fun x hx => okV.gr g n (List.all_eq_true.mp h2 x hx)
theorem okV.kid {n : Nat} {w : W} (h : okV Z G (n + 1) w = true) {ws : List W} (e : kids w G = some ws) {x : W} (hx : x ∈ ws) : okV Z G n x = true := by
  unfold okV at h
  rw [Bool.and_eq_true, e] at h
  exact List.all_eq_true.mp h.2 x hx
def isStr : W → Bool
  | .str _ => true
  | _ => false
def isInt : W → Bool
  | .int _ => true
  | _ => false
def isTup : W → Bool
  | .tup _ => true
  | _ => false
def isBl : W → Bool
  | .bl _ => true
  | _ => false
def isIB : W → Bool
  | .int _ => true
  | .bl _ => true
  | _ => false
/-! isinstance -/
theorem isi_int (T : Txt Z mg) {w : W} (h : tyOk Z G w = true) : isiW Z.K [w, .ty "int"] G = .ok (.bl (isIB w)) G := by
  cases w with
  | ref n =>
    simp only [tyOk] at h
    cases e : G[n]? with
    | none => rw [e] at h; exact nomatch h
    | some o =>
      rw [e] at h
      cases o with
      | lst ws => simp [isiW, isiQ, tyOfW, e, clsOfW, isIB]
      | dct l ws => simp [isiW, isiQ, tyOfW, e, clsOfW, isIB]
      | ins C ws =>
        have hC : C = Z.C_Gate := by simpa using h
        subst hC
        simp [isiW, isiQ, tyOfW, e, clsOfW, T.i_Gate_int, isIB]
      | rsv => cases h
  | rol ws => cases h
  | ty n => cases h
  | obj a => cases h
  | _ => simp [isiW, isiQ, tyOfW, clsOfW, isIB]
theorem isi_bool (T : Txt Z mg) {w : W} (h : tyOk Z G w = true) : isiW Z.K [w, .ty "bool"] G = .ok (.bl (isBl w)) G := by
  cases w with
  | ref n =>
    simp only [tyOk] at h
    cases e : G[n]? with
    | none => rw [e] at h; exact nomatch h
    | some o =>
      rw [e] at h
      cases o with
      | lst ws => simp [isiW, isiQ, tyOfW, e, clsOfW, isBl]
      | dct l ws => simp [isiW, isiQ, tyOfW, e, clsOfW, isBl]
      | ins C ws =>
        have hC : C = Z.C_Gate := by simpa using h
        subst hC
        simp [isiW, isiQ, tyOfW, e, clsOfW, T.i_Gate_bool, isBl]
      | rsv => cases h
  | rol ws => cases h
  | ty n => cases h
  | obj a => cases h
  | _ => simp [isiW, isiQ, tyOfW, clsOfW, isBl]
theorem isi_str (T : Txt Z mg) {w : W} (h : tyOk Z G w = true) : isiW Z.K [w, .ty "str"] G = .ok (.bl (isStr w)) G := by
  cases w with
  | ref n =>
    simp only [tyOk] at h
    cases e : G[n]? with
    | none => rw [e] at h; exact nomatch h
    | some o =>
      rw [e] at h
      cases o with
      | lst ws => simp [isiW, isiQ, tyOfW, e, clsOfW, isStr]
      | dct l ws => simp [isiW, isiQ, tyOfW, e, clsOfW, isStr]
      | ins C ws =>
        have hC : C = Z.C_Gate := by simpa using h
        subst hC
        simp [isiW, isiQ, tyOfW, e, clsOfW, T.i_Gate_str, isStr]
      | rsv => cases h
  | rol ws => cases h
  | ty n => cases h
  | obj a => cases h
  | _ => simp [isiW, isiQ, tyOfW, clsOfW, isStr]
theorem isi_tup (T : Txt Z mg) {w : W} (h : tyOk Z G w = true) : isiW Z.K [w, .ty "tuple"] G = .ok (.bl (isTup w)) G := by
  cases w with
  | ref n =>
    simp only [tyOk] at h
    cases e : G[n]? with
    | none => rw [e] at h; exact nomatch h
    | some o =>
      rw [e] at h
      cases o with
      | lst ws => simp [isiW, isiQ, tyOfW, e, clsOfW, isTup]
      | dct l ws => simp [isiW, isiQ, tyOfW, e, clsOfW, isTup]
      | ins C ws =>
        have hC : C = Z.C_Gate := by simpa using h
        subst hC
        simp [isiW, isiQ, tyOfW, e, clsOfW, T.i_Gate_tuple, isTup]
      | rsv => cases h
  | rol ws => cases h
  | ty n => cases h
  | obj a => cases h
  | _ => simp [isiW, isiQ, tyOfW, clsOfW, isTup]
theorem isi_seq (T : Txt Z mg) {w : W} (h : tyOk Z G w = true) : isiW Z.K [w, .tup [.ty "list", .ty "tuple"]] G = .ok (.bl (kids w G).isSome) G := by
  cases w with
  | ref n =>
    simp only [tyOk] at h
    cases e : G[n]? with
    | none => rw [e] at h; exact nomatch h
    | some o =>
      rw [e] at h
      cases o with
      | lst ws => simp [isiW, isiQ, tyOfW, e, clsOfW, clsOfWs, kids, PySem.W.kitAny]
      | dct l ws => simp [isiW, isiQ, tyOfW, e, clsOfW, clsOfWs, kids, PySem.W.kitAny]
      | ins C ws =>
        have hC : C = Z.C_Gate := by simpa using h
        subst hC
        simp [isiW, isiQ, tyOfW, e, clsOfW, clsOfWs, kids, PySem.W.kitAny, T.i_Gate_tuple, T.i_Gate_list]
      | rsv => cases h
  | rol ws => cases h
  | ty n => cases h
  | obj a => cases h
  | _ => simp [isiW, isiQ, tyOfW, clsOfW, clsOfWs, kids, PySem.W.kitAny]
theorem pu_of {F : DF} {ws : List W} {w : W} (h : F ws G = .ok w G) : Pu (F ws) G w := ⟨G, h, .refl⟩
/-- isinstance of what stands in a slot -/
theorem pu_isi {i : Nat} {w c : W} {b : Bool} {dc : DE} (hv : σ[i]? = some (some w)) (hc : ∀ G', Pu (dc σ) G' c) (h : ∀ G', Gr G G' → isiW Z.K [w, c] G' = .ok (.bl b) G') : Pu (dCallB (isiW Z.K) (dCons (dVar i) (dCons dc dNil)) σ) G (.bl b) :=
  Pu.callB (Pu.cons (Pu.var hv) fun G' _ => Pu.cons (hc G') fun G' _ => Pu.nil) fun G' g => pu_of (h G' g)
def wholeB : W → Bool
  | .int _ => true
  | _ => false
theorem is_integer_ok (T : Txt Z mg) {w : W} (h : tyOk Z G w = true) : Pu (f_is_integer Z [w]) G (.bl (wholeB w)) := by
  refine Pu.def1 rfl (Rt.ret ?_)
  have := Pu.dAndV (pu_isi (σ := slots 1 [w]) (i := 0) (dc := dC (.ty "int")) rfl (fun G' => Pu.c) fun G' g => isi_int T (tyOk.gr g h))
    (fun _ G' g => Pu.dNotV (pu_isi (σ := slots 1 [w]) (i := 0) (dc := dC (.ty "bool")) rfl (fun G' => Pu.c) fun G2 g2 => isi_bool T (tyOk.gr (g.trans g2) h)))
  have e : wholeB w = (isIB w && !isBl w) := by cases w <;> rfl
  rw [e]
  exact this
theorem law_is_whole_ok (T : Txt Z mg) {w : W} (h : tyOk Z G w = true) : Pu (f__law_is_whole Z [w]) G (.bl (wholeB w)) := by
  refine Pu.def1 rfl (Rt.ret ?_)
  have := Pu.dAndV (pu_isi (σ := slots 1 [w]) (i := 0) (dc := dC (.ty "int")) rfl (fun G' => Pu.c) fun G' g => isi_int T (tyOk.gr g h))
    (fun _ G' g => Pu.dNotV (pu_isi (σ := slots 1 [w]) (i := 0) (dc := dC (.ty "bool")) rfl (fun G' => Pu.c) fun G2 g2 => isi_bool T (tyOk.gr (g.trans g2) h)))
  have e : wholeB w = (isIB w && !isBl w) := by cases w <;> rfl
  rw [e]
  exact this
/-! names -/
def letter (c : Nat) : Bool := inS ⟨#[c]⟩ "abcdefghijklmnopqrstuvwxyz"
def nameS (x : Str) : Bool := decide (0 < x.length) && decide (x.length ≤ 8) && x.cps.toList.all letter
def nameB : W → Bool
  | .str x => nameS x
  | _ => false
theorem is_name_ok (T : Txt Z mg) {w : W} (h : tyOk Z G w = true) : Pu (f_is_name Z [w]) G (.bl (nameB w)) := by
  refine Pu.def1 rfl ?_
  have hi := fun {G' : Gh} (g : Gr G G') => pu_isi (Z := Z) (G := G') (σ := slots 2 [w]) (i := 0) (dc := dC (.ty "str")) rfl (fun G' => Pu.c) fun G2 g2 => isi_str T (tyOk.gr (g.trans g2) h)
  cases w with
  | str x =>
    have hx : x.length ≤ 16777216 := by simp only [tyOk, Bool.and_eq_true, decide_eq_true_eq] at h; exact h.2
    have hc := fun {G' : Gh} (g : Gr G G') => pu_chain (G := G') (σ := slots 2 [.str x]) (f := ltD) (f' := leD) (da := dC (.int 0)) (db := dCallB lenAW (dCons (dVar 0) dNil)) (dc := dC (.int 8)) Pu.c (fun G' _ => Pu.callB (Pu.cons (Pu.var rfl) fun _ _ => Pu.nil) fun _ _ => pu_lenS hx) (fun G' _ => pu_ltI 0 x.length) (fun _ _ _ => Pu.c) (fun _ _ _ => pu_leI x.length 8)
    have e1 : (decide ((0 : Int) < x.length) && decide ((x.length : Int) ≤ 8)) = (decide (0 < x.length) && decide (x.length ≤ 8)) := by
      congr 1 <;> simp <;> omega
    have t := Pu.dOr (G := G) (Pu.dNot (Pu.dB (hi .refl))) (fun _ G' g => Pu.dNot (Pu.dB (hc g)))
    rw [e1] at t
    refine Rt.guard (r := .non) t (fun hb G' g => ?_) fun hb G' g => Rt.ret ?_
    · have : nameB (.str x) = false := by
        simp only [isStr, Bool.not_true, Bool.false_or, Bool.not_eq_true'] at hb
        simp only [nameB, nameS, hb, Bool.false_and]
      rw [this]; exact Pu.c
    · have e2 : nameB (.str x) = (x.cps.toList.map fun c => W.str ⟨#[c]⟩).all fun w => match w with | .str y => inS y "abcdefghijklmnopqrstuvwxyz" | _ => false := by
        simp only [isStr, Bool.not_true, Bool.false_or, Bool.not_eq_false'] at hb
        simp only [nameB, nameS, hb, Bool.true_and, List.all_map]
        rfl
      rw [e2]
      refine pu_allLc _ (fun w => (wipeD (slots 2 [.str x]) [1]).set 1 (some w)) (Fix.str (Pu.var rfl)) (fun w hw => rfl) (by rw [List.length_map, Array.length_toList]; exact hx) fun w hw G2 g2 => ?_
      obtain ⟨c, hc, rfl⟩ := List.mem_map.mp hw
      exact Pu.d2 (Pu.var rfl) (fun _ _ => Pu.c) fun _ _ => pu_memS
  | _ =>
    all_goals
      refine Rt.guard (r := .non) (b := true) ?_ (fun _ _ _ => Pu.c) (fun z => by cases z)
      exact Pu.dOr (c := true) (Pu.dNot (Pu.dB (hi .refl))) (fun z => by simp [isStr] at z)
theorem law_is_name_ok (T : Txt Z mg) {w : W} (h : tyOk Z G w = true) : Pu (f__law_is_name Z [w]) G (.bl (nameB w)) := by
  refine Pu.def1 rfl ?_
  have hi := fun {G' : Gh} (g : Gr G G') => pu_isi (Z := Z) (G := G') (σ := slots 2 [w]) (i := 0) (dc := dC (.ty "str")) rfl (fun G' => Pu.c) fun G2 g2 => isi_str T (tyOk.gr (g.trans g2) h)
  cases w with
  | str x =>
    have hx : x.length ≤ 16777216 := by simp only [tyOk, Bool.and_eq_true, decide_eq_true_eq] at h; exact h.2
    have hc := fun {G' : Gh} (g : Gr G G') => pu_chain (G := G') (σ := slots 2 [.str x]) (f := leD) (f' := leD) (da := dC (.int 1)) (db := dCallB lenAW (dCons (dVar 0) dNil)) (dc := dC (.int 8)) Pu.c (fun G' _ => Pu.callB (Pu.cons (Pu.var rfl) fun _ _ => Pu.nil) fun _ _ => pu_lenS hx) (fun G' _ => pu_leI 1 x.length) (fun _ _ _ => Pu.c) (fun _ _ _ => pu_leI x.length 8)
    have e1 : (decide ((1 : Int) ≤ x.length) && decide ((x.length : Int) ≤ 8)) = (decide (0 < x.length) && decide (x.length ≤ 8)) := by
      congr 1 <;> simp <;> omega
    have t := Pu.dOr (G := G) (Pu.dNot (Pu.dB (hi .refl))) (fun _ G' g => Pu.dNot (Pu.dB (hc g)))
    rw [e1] at t
    refine Rt.guard (r := .non) t (fun hb G' g => ?_) fun hb G' g => Rt.ret ?_
    · have : nameB (.str x) = false := by
        simp only [isStr, Bool.not_true, Bool.false_or, Bool.not_eq_true'] at hb
        simp only [nameB, nameS, hb, Bool.false_and]
      rw [this]; exact Pu.c
    · have e2 : nameB (.str x) = !(x.cps.toList.map fun c => W.str ⟨#[c]⟩).any fun w => match w with | .str y => !inS y "abcdefghijklmnopqrstuvwxyz" | _ => false := by
        simp only [isStr, Bool.not_true, Bool.false_or, Bool.not_eq_false'] at hb
        simp only [nameB, nameS, hb, Bool.true_and, List.any_map, List.all_eq_not_any_not]
        rfl
      rw [e2]
      refine pu_lcEq _ id (fun w => (wipeD (slots 2 [.str x]) [1]).set 1 (some w)) (Fix.str (Pu.var rfl)) (fun w hw => rfl) (by rw [List.length_map, Array.length_toList]; exact hx) (fun w hw G2 g2 => ?_) fun w hw hp G2 g2 => Pu.var rfl
      obtain ⟨c, hc, rfl⟩ := List.mem_map.mp hw
      exact Pu.dB (Pu.d2 (Pu.var rfl) (fun _ _ => Pu.c) fun _ _ => pu_notMemS)
  | _ =>
    all_goals
      refine Rt.guard (r := .non) (b := true) ?_ (fun _ _ _ => Pu.c) (fun z => by cases z)
      exact Pu.dOr (c := true) (Pu.dNot (Pu.dB (hi .refl))) (fun z => by simp [isStr] at z)
/-! rows of names -/
def seqOf (w : W) (G : Gh) : Option (List W) := kids w G
theorem fix_kids {i : Nat} {w : W} {ws : List W} (hv : σ[i]? = some (some w)) (e : kids w G = some ws) : Fix (iAny (dVar i)) σ G ws := by
  unfold kids at e
  split at e
  · cases e; exact Fix.tup (Pu.var hv)
  · split at e
    · rename_i n ws' g
      cases e
      exact Fix.lst (Pu.var hv) g
    · cases e
  · cases e
theorem seqW_kids {w : W} {ws : List W} (e : kids w G = some ws) : seqW w G = some ws := by
  unfold kids at e
  split at e
  · cases e; rfl
  · split at e
    · rename_i n ws' g
      cases e
      unfold seqW
      simp only [g]
    · cases e
  · cases e
theorem len_kids {w : W} {ws : List W} (e : kids w G = some ws) : lenAW [w] G = .ok (.int ws.length) G := by
  unfold kids at e
  split at e
  · cases e; rfl
  · split at e
    · rename_i n ws' g
      cases e
      simp only [lenAW, dctQ, g, lenW, lenQ]
    · cases e
  · cases e
theorem kids_len {w : W} {ws : List W} (h : tyOk Z G w = true) (e : kids w G = some ws) : ws.length < 4000 := by
  unfold kids at e
  split at e
  · cases e; simpa [tyOk] using h
  · split at e
    · rename_i n ws' g
      cases e
      simpa [tyOk, g] using h
    · cases e
  · cases e
theorem name_str {w : W} (h : nameB w = true) : ∃ x, w = .str x ∧ x.length ≤ 8 := by
  cases w with
  | str x =>
    simp only [nameB, nameS, Bool.and_eq_true, decide_eq_true_eq] at h
    exact ⟨x, rfl, h.1.2⟩
  | _ => cases h
theorem names_fit {ws : List W} (h : ws.all nameB = true) (hl : ws.length < 4000) : setFit ws = true := by
  unfold setFit flatFit
  have : allFlat ws = true := List.all_eq_true.mpr fun w hw => by
    obtain ⟨x, rfl, _⟩ := name_str (List.all_eq_true.mp h w hw)
    rfl
  simp [this, hl]
def namesB (w : W) (G : Gh) : Bool := match kids w G with
  | some ws => ws.all nameB && ((dedW ws).length == ws.length)
  | none => false
theorem int_beq (a b : Nat) : ((a : Int) == (b : Int)) = (a == b) := by
  by_cases h : a = b
  · subst h; simp
  · have h' : ¬ ((a : Int) = b) := by omega
    rw [beq_eq_false_iff_ne.mpr h', beq_eq_false_iff_ne.mpr h]
theorem are_names_ok (T : Txt Z mg) {w : W} (h : okV Z G 1 w = true) : Pu (f_are_names Z [w]) G (.bl (namesB w G)) := by
  refine Pu.def1 rfl ?_
  have ht := okV.ty h
  have hi := pu_isi (Z := Z) (G := G) (σ := slots 2 [w]) (i := 0) (dc := dTup (dCons (dC (.ty "list")) (dCons (dC (.ty "tuple")) dNil))) rfl (fun G' => Pu.tup (Pu.cons Pu.c fun _ _ => Pu.cons Pu.c fun _ _ => Pu.nil)) (b := (kids w G).isSome) fun G2 g2 => by
    rw [isi_seq T (tyOk.gr g2 ht), kids.gr g2 ht]
  cases e : kids w G with
  | none =>
    rw [e] at hi
    have : namesB w G = false := by unfold namesB; rw [e]
    rw [this]
    refine Rt.guard (r := .non) (b := true) ?_ (fun _ _ _ => Pu.c) (fun z => by cases z)
    exact Pu.dOr (c := true) (Pu.dNot (Pu.dB hi)) (fun z => by simp at z)
  | some ws =>
    rw [e] at hi
    have hl := kids_len ht e
    refine Rt.guard (r := .non) (Pu.dOr (G := G) (Pu.dNot (Pu.dB hi)) (fun _ G' g => Pu.dNot (Pu.dB (pu_allLc (G := G') nameB (fun w' => (wipeD (slots 2 [w]) [1]).set 1 (some w')) (fix_kids rfl (by rw [kids.gr g ht]; exact e)) (fun w' _ => rfl) (by omega)
      (fun w' hw G2 g2 => Pu.call (Pu.cons (Pu.var rfl) fun _ _ => Pu.nil) fun G3 g3 => is_name_ok T (tyOk.gr ((g.trans g2).trans g3) (okV.ty (okV.kid h e hw)))))))) (fun hb G' g => ?_) fun hb G' g => Rt.ret ?_
    · have : namesB w G = false := by
        unfold namesB; rw [e]
        simp only [Option.isSome_some, Bool.not_true, Bool.false_or, Bool.not_eq_true'] at hb
        simp only [hb, Bool.false_and]
      rw [this]; exact Pu.c
    · have hb : ws.all nameB = true := by simpa using hb
      have : namesB w G = ((dedW ws).length == ws.length) := by unfold namesB; rw [e]; simp only [hb, Bool.true_and]
      rw [this, ← int_beq]
      have e2 := kids.gr (Z := Z) g ht
      rw [e] at e2
      refine Pu.d2 (w := .int (dedW ws).length) (v := .int ws.length) (Pu.bnd (Pu.var rfl) fun G2 g2 => ?_) (fun G2 g2 => Pu.callB (Pu.cons (Pu.var rfl) fun _ _ => Pu.nil) fun G3 g3 => pu_of (len_kids ?_)) fun _ _ => pu_eqI _ _
      · refine ⟨G2, ?_, .refl⟩
        unfold lenSetW
        rw [seqW_kids (w := w) (ws := ws) (by rw [kids.gr (Z := Z) (g.trans g2) ht]; exact e), ]
        simp only [names_fit hb hl, if_true]
      · rw [kids.gr (Z := Z) ((g.trans g2).trans g3) ht]; exact e
end
end K11
end
section
set_option Elab.async false
set_option backward.match.sparseCases false
set_option linter.all false
set_option maxRecDepth 100000
set_option maxHeartbeats 4000100
namespace K11
open PySem L2 Dn
section
variable {Z : Adr} {mg : Str → Option Value} {G : Gh} {σ : Dn.Loc}
/-! dict of names -/
theorem key_str {w : W} (h : nameB w = true) : ∃ k, keyW w = some k ∧ (flatKey w).isSome = true := by
  obtain ⟨x, rfl, _⟩ := name_str h
  exact ⟨_, rfl, rfl⟩
theorem dput_len (kvs : List (W × W)) (k v : W) : (dput kvs k v).map (·.1) = if kvs.any (fun p => sameKey p.1 k) = true then kvs.map (·.1) else kvs.map (·.1) ++ [k] := by
  have e : (dfind kvs k).isSome = kvs.any (fun p => sameKey p.1 k) := by
    unfold dfind
    rw [Option.isSome_map]
    cases q : kvs.any (fun p => sameKey p.1 k) with
    | true => exact List.find?_isSome.mpr (List.any_eq_true.mp q)
    | false =>
      have z : kvs.find? (fun p => sameKey p.1 k) = none := List.find?_eq_none.mpr fun x hx h => by
        have := List.any_eq_false.mp q x hx
        exact this h
      rw [z]; rfl
  unfold dput
  rw [e]
  split
  · rw [List.map_map]
    apply List.map_congr_left; intro p _
    show (if sameKey p.1 k = true then (p.1, v) else p).1 = p.1
    split <;> rfl
  · rw [List.map_append]; rfl
theorem merge_keys (v : W) : ∀ (ws : List W) (kvs : List (W × W)) (acc : List W), kvs.map (·.1) = acc.reverse → ((ws.map fun w => (w, v)).foldl (fun acc kv => dput acc kv.1 kv.2) kvs).map (·.1) = (ws.foldl (Dn.stepF keyW) acc).reverse
  | [], kvs, acc, h => h
  | w :: ws, kvs, acc, h => by
    rw [List.map_cons, List.foldl_cons, List.foldl_cons]
    refine merge_keys v ws _ _ ?_
    rw [dput_len, h]
    have e : kvs.any (fun p => sameKey p.1 w) = decide (keyW w ∈ acc.map keyW) := by
      rw [show kvs.any (fun p => sameKey p.1 w) = (kvs.map (·.1)).any (fun k => sameKey k w) from by rw [List.any_map]; rfl, h]
      rw [List.any_reverse]
      by_cases q : keyW w ∈ acc.map keyW
      · obtain ⟨a, ha, ea⟩ := List.mem_map.mp q
        rw [decide_eq_true q]
        exact List.any_eq_true.mpr ⟨a, ha, by unfold sameKey; exact decide_eq_true ea⟩
      · rw [decide_eq_false q]
        refine List.any_eq_false.mpr fun a ha z => q ?_
        unfold sameKey at z
        exact List.mem_map.mpr ⟨a, ha, of_decide_eq_true z⟩
    rw [e]
    unfold Dn.stepF
    by_cases q : keyW w ∈ acc.map keyW
    · rw [if_pos (by simpa using q), if_pos q]
    · rw [if_neg (by simpa using q), if_neg q, List.reverse_cons]
theorem pairs_map (v : W) (ws : List W) : pairsW (ws.map fun w => W.tup [w, v]) = some (ws.map fun w => (w, v)) := by
  induction ws with
  | nil => rfl
  | cons w ws ih => rw [List.map_cons]; simp only [pairsW, pairW, ih, List.map_cons]
theorem law_are_names_ok (T : Txt Z mg) {w : W} (h : okV Z G 1 w = true) : Pu (f__law_are_names Z [w]) G (.bl (namesB w G)) := by
  refine Pu.def1 rfl ?_
  have ht := okV.ty h
  have hi := pu_isi (Z := Z) (G := G) (σ := slots 2 [w]) (i := 0) (dc := dTup (dCons (dC (.ty "list")) (dCons (dC (.ty "tuple")) dNil))) rfl (fun G' => Pu.tup (Pu.cons Pu.c fun _ _ => Pu.cons Pu.c fun _ _ => Pu.nil)) (b := (kids w G).isSome) fun G2 g2 => by
    rw [isi_seq T (tyOk.gr g2 ht), kids.gr g2 ht]
  cases e : kids w G with
  | none =>
    rw [e] at hi
    have : namesB w G = false := by unfold namesB; rw [e]
    rw [this]
    refine Rt.guard (r := .non) (b := true) ?_ (fun _ _ _ => Pu.c) (fun z => by cases z)
    exact Pu.dOr (c := true) (Pu.dNot (Pu.dB hi)) (fun z => by simp at z)
  | some ws =>
    rw [e] at hi
    have hl := kids_len ht e
    refine Rt.guard (r := .non) (Pu.dOr (G := G) (Pu.dNot (Pu.dB hi)) (fun _ G' g => Pu.dB (pu_lcNe (G := G') (fun w' => !nameB w') id (fun w' => (wipeD (slots 2 [w]) [1]).set 1 (some w')) (fix_kids rfl (by rw [kids.gr g ht]; exact e)) (fun w' _ => rfl) (by omega)
      (fun w' hw G2 g2 => Pu.dNot (Pu.dB (Pu.call (Pu.cons (Pu.var rfl) fun _ _ => Pu.nil) fun G3 g3 => law_is_name_ok T (tyOk.gr ((g.trans g2).trans g3) (okV.ty (okV.kid h e hw)))))) fun w' hw hp G2 g2 => Pu.var rfl))) (fun hb G' g => ?_) fun hb G' g => Rt.ret ?_
    · have : namesB w G = false := by
        unfold namesB; rw [e]
        simp only [Option.isSome_some, Bool.not_true, Bool.false_or] at hb
        have : ws.all nameB = false := by rw [List.all_eq_not_any_not, hb]; rfl
        simp only [this, Bool.false_and]
      rw [this]; exact Pu.c
    · have hb : ws.all nameB = true := by
        simp only [Option.isSome_some, Bool.not_true, Bool.false_or] at hb
        rw [List.all_eq_not_any_not, hb]; rfl
      have : namesB w G = ((dedW ws).length == ws.length) := by unfold namesB; rw [e]; simp only [hb, Bool.true_and]
      rw [this, ← int_beq]
      -- the list of pairs, the dict
      obtain ⟨n, G1, e1, g1, a1⟩ := lc_ok (t := dYes) (e := dTup (dCons (dVar 1) (dCons (dC (.bl true)) dNil))) (fun _ => true) (fun w' => .tup [w', .bl true]) (fun w' => (wipeD (slots 2 [w]) [1]).set 1 (some w')) (fix_kids (G := G') (σ := slots 2 [w]) (i := 0) rfl (by rw [kids.gr g ht]; exact e)) (g := .n 1) (vs := [1]) (fun w' _ => rfl) (by omega) (fun _ _ _ _ => Pu.ret) (fun w' _ _ G2 g2 => Pu.tup (Pu.cons (Pu.var rfl) fun _ _ => Pu.cons Pu.c fun _ _ => Pu.nil) (by simp))
      rw [List.filter_eq_self.mpr (fun _ _ => rfl)] at a1
      have fl : ((ws.map fun w => (w, W.bl true)).all fun p => (flatKey p.1).isSome) = true := by
        rw [List.all_map]
        exact List.all_eq_true.mpr fun x hx => (key_str (List.all_eq_true.mp hb x hx)).choose_spec.2
      have len : (mergeW [] (ws.map fun w => (w, W.bl true))).length = (dedW ws).length := by
        have z := merge_keys (.bl true) ws [] [] rfl
        have z2 := congrArg List.length z
        rw [List.length_map, List.length_reverse] at z2
        exact z2
      refine Pu.d2 (w := .int (dedW ws).length) (v := .int ws.length) ?_ (fun G2 g2 => Pu.callB (Pu.cons (Pu.var rfl) fun _ _ => Pu.nil) fun G3 g3 => pu_of (len_kids (w := w) ?_)) fun _ _ => pu_eqI _ _
      · refine ⟨G1 ++ [.dct false (mergeW [] (ws.map fun w => (w, W.bl true)))], ?_, g1.trans .one⟩
        simp only [dCallB, bnd, dCons, e1, dNil, Dn.ret, noX, dictPW, a1, pairs_map, fl, if_true, lenAW, dctQ, List.getElem?_append_right (Nat.le_refl _), Nat.sub_self, List.getElem?_cons_zero, len]
      · rw [kids.gr (Z := Z) ((g.trans g2).trans g3) ht]; exact e
/-! items -/
theorem kid_at {ws : List W} {i : Nat} {x : W} {n : Nat} (h : okV Z G (n + 1) (.tup ws) = true) (e : ws[i]? = some x) : okV Z G n x = true := okV.kid h (ws := ws) rfl (List.mem_of_getElem? e)
theorem pu_item {i : Nat} {ws : List W} {j : Nat} {x : W} (hv : σ[i]? = some (some (.tup ws))) (e : ws[j]? = some x) : Pu (d2 (fun x y => noX (itemW x y)) (dVar i) (dC (.int j)) σ) G x :=
  Pu.d2 (Pu.var hv) (fun _ _ => Pu.c) fun _ _ => pu_itemT e
theorem pu_len {i : Nat} {ws : List W} (hv : σ[i]? = some (some (.tup ws))) : Pu (dCallB lenAW (dCons (dVar i) dNil) σ) G (.int ws.length) := Pu.callB (Pu.cons (Pu.var hv) fun _ _ => Pu.nil) fun _ _ => pu_lenT
theorem pu_name (T : Txt Z mg) {i : Nat} {ws : List W} {j : Nat} {x : W} (hv : σ[i]? = some (some (.tup ws))) (e : ws[j]? = some x) (h : tyOk Z G x = true) : Pu (dCall (f_is_name Z) (dCons (d2 (fun x y => noX (itemW x y)) (dVar i) (dC (.int j))) dNil) σ) G (.bl (nameB x)) :=
  Pu.call (Pu.cons (pu_item hv e) fun _ _ => Pu.nil) fun G' g => is_name_ok T (tyOk.gr g h)
theorem pu_lname (T : Txt Z mg) {i : Nat} {ws : List W} {j : Nat} {x : W} (hv : σ[i]? = some (some (.tup ws))) (e : ws[j]? = some x) (h : tyOk Z G x = true) : Pu (dCall (f__law_is_name Z) (dCons (d2 (fun x y => noX (itemW x y)) (dVar i) (dC (.int j))) dNil) σ) G (.bl (nameB x)) :=
  Pu.call (Pu.cons (pu_item hv e) fun _ _ => Pu.nil) fun G' g => law_is_name_ok T (tyOk.gr g h)
def pairB : W → Bool
  | .tup [a, b] => nameB a && nameB b
  | _ => false
theorem is_pair_ok (T : Txt Z mg) {w : W} (h : okV Z G 1 w = true) : Pu (f_is_pair Z [w]) G (.bl (pairB w)) := by
  refine Pu.def1 rfl (Rt.ret ?_)
  have ht := okV.ty h
  have hi := pu_isi (Z := Z) (G := G) (σ := slots 1 [w]) (i := 0) (dc := dC (.ty "tuple")) rfl (fun G' => Pu.c) fun G2 g2 => isi_tup T (tyOk.gr g2 ht)
  cases w with
  | tup ws =>
    have two : pairB (.tup ws) = (true && (((ws.length : Int) == 2) && (match ws with | a :: b :: _ => nameB a && nameB b | _ => false))) := by
      match ws with
      | [] => rfl
      | [_] => rfl
      | [a, b] => simp [pairB]
      | a :: b :: c :: r => 
        have : ((a :: b :: c :: r).length : Int) ≠ 2 := by simp only [List.length_cons]; omega
        rw [beq_eq_false_iff_ne.mpr this]; rfl
    rw [two]
    refine Pu.dAndV hi fun _ G1 g1 => Pu.dAndV (Pu.d2 (pu_len rfl) (fun _ _ => Pu.c) fun _ _ => pu_eqI _ 2) fun h2 G2 g2 => ?_
    match ws, h2 with
    | [a, b], _ =>
      refine Pu.dAndV (pu_name T (ws := [a, b]) (j := 0) rfl rfl (tyOk.gr (g1.trans g2) (okV.ty (kid_at (i := 0) h rfl)))) fun _ G3 g3 => pu_name T (ws := [a, b]) (j := 1) rfl rfl (tyOk.gr ((g1.trans g2).trans g3) (okV.ty (kid_at (i := 1) h rfl)))
    | [], h2 => simp at h2
    | [_], h2 => simp at h2
    | _ :: _ :: _ :: _, h2 => simp only [List.length_cons, beq_iff_eq] at h2; omega
  | _ => all_goals exact Pu.dAndV (c := false) hi fun z => by simp [isTup] at z
/-! deeds -/
theorem ok_strOk {x : Str} (h : tyOk Z G (.str x) = true) : PyData.strOk x = true := by simp only [tyOk, Bool.and_eq_true] at h; exact h.1
def eqSB (w : W) (y : Str) : Bool := match w with
  | .str x => x == y
  | _ => false
theorem pu_itemEqS {i j : Nat} {ws : List W} {x y : Str} (hv : σ[i]? = some (some (.tup ws))) (e : ws[j]? = some (.str x)) (h : PyData.strOk x = true) (hy : PyData.strOk y = true) : Pu (d2 (fun x y => noX (eqX x y)) (d2 (fun x y => noX (itemW x y)) (dVar i) (dC (.int j))) (dC (.str y)) σ) G (.bl (x == y)) :=
  Pu.d2 (pu_item hv e) (fun _ _ => Pu.c) fun _ _ => pu_eqS h hy
theorem pu_isiItem (T : Txt Z mg) {i j : Nat} {ws : List W} {x : W} (hv : σ[i]? = some (some (.tup ws))) (e : ws[j]? = some x) (h : tyOk Z G x = true) : Pu (dCallB (isiW Z.K) (dCons (d2 (fun x y => noX (itemW x y)) (dVar i) (dC (.int j))) (dCons (dC (.ty "str")) dNil)) σ) G (.bl (isStr x)) :=
  Pu.callB (Pu.cons (pu_item hv e) fun _ _ => Pu.cons Pu.c fun _ _ => Pu.nil) fun G' g => pu_of (isi_str T (tyOk.gr g h))
def callB : List W → Bool
  | [_, a, b, c] => nameB a && nameB b && (nameB c || eqSB c "")
  | _ => false
theorem is_call_ok (T : Txt Z mg) {ws : List W} (h : okV Z G 1 (.tup ws) = true) : Pu (f_is_call Z [.tup ws]) G (.bl (callB ws)) := by
  refine Pu.def1 rfl ?_
  have hl : Pu (dB (d2 (fun x y => noX (neX x y)) (dCallB lenAW (dCons (dVar 0) dNil)) (dC (.int 4))) (slots 1 [.tup ws])) G (!((ws.length : Int) == 4)) := Pu.dB (Pu.d2 (pu_len rfl) (fun _ _ => Pu.c) fun _ _ => pu_neI _ 4)
  by_cases h4 : ws.length = 4
  · match ws, h4 with
    | [a, b, c, d], _ =>
      have k1 := okV.ty (kid_at (i := 1) h rfl)
      have k2 := okV.ty (kid_at (i := 2) h rfl)
      have k3 := okV.ty (kid_at (i := 3) h rfl)
      refine Rt.guard (r := .non) (Pu.dOr hl fun _ G1 g1 => Pu.dOr (Pu.dNot (Pu.dB (pu_name T (ws := [a, b, c, d]) (j := 1) rfl rfl (tyOk.gr g1 k1)))) fun _ G2 g2 => Pu.dNot (Pu.dB (pu_name T (ws := [a, b, c, d]) (j := 2) rfl rfl (tyOk.gr (g1.trans g2) k2)))) (fun hb G' g => ?_) fun hb G' g => Rt.ret ?_
      · have : callB [a, b, c, d] = false := by
          simp only [List.length_cons, List.length_nil] at hb
          unfold callB
          cases n1 : nameB b <;> cases n2 : nameB c <;> simp [n1, n2] at hb ⊢
        rw [this]; exact Pu.c
      · have : callB [a, b, c, d] = (nameB d || (isStr d && eqSB d "")) := by
          have e1 : nameB b = true ∧ nameB c = true := by
            cases n1 : nameB b <;> cases n2 : nameB c <;> simp [n1, n2] at hb ⊢
          simp only [callB, e1.1, e1.2]
          cases d <;> simp [isStr, eqSB]
        rw [this]
        refine Pu.dOrV (pu_name T (ws := [a, b, c, d]) (j := 3) rfl rfl (tyOk.gr g k3)) fun _ G1 g1 => Pu.dAndV (pu_isiItem T (ws := [a, b, c, d]) (j := 3) rfl rfl (tyOk.gr (g.trans g1) k3)) fun hs G2 g2 => ?_
        cases d with
        | str x => exact pu_itemEqS (ws := [a, b, c, .str x]) (j := 3) rfl rfl (ok_strOk k3) (by decide +kernel)
        | _ => cases hs
  · have e : ((ws.length : Int) == 4) = false := beq_eq_false_iff_ne.mpr (by omega)
    have : callB ws = false := by
      unfold callB
      split
      · exact absurd rfl h4
      · rfl
    rw [this]
    rw [e] at hl
    exact Rt.guard (r := .non) (b := true) (Pu.dOr (c := true) hl fun z => by cases z) (fun _ _ _ => Pu.c) (fun z => by cases z)
def sameS : W → W → Bool
  | .str u, .str v => u == v
  | _, _ => false
def unlikeHd (b : W) : List W → Bool
  | c :: _ => !sameS b c
  | _ => false
def oneName : List W → Bool
  | [a] => nameB a
  | _ => false
def deedB : W → Bool
  | .tup (.str x :: r) => if x = "call" then callB (.str x :: r) else if x = "hand" then (match r with | [a, b, c] => nameB a && nameB b && nameB c && !sameS a b | _ => false) else x == "throw" && oneName r
  | _ => false
theorem cut1 (a : W) (r : List W) : cutW (a :: r) (some 1) none = r := by
  have e : HT.sIx (a :: r).length 0 (some 1) = 1 := by
    rw [show (some (1 : Int)) = some ((1 : Nat) : Int) from rfl, HT.sIx_nat, List.length_cons]
    omega
  unfold cutW
  rw [e]
  show ((a :: r).drop 1).take ((a :: r).length - 1) = r
  simp
theorem is_deed_ok (T : Txt Z mg) {w : W} (h : okV Z G 1 w = true) : Pu (f_is_deed Z [w]) G (.bl (deedB w)) := by
  refine Pu.def1 rfl ?_
  have ht := okV.ty h
  have hi := pu_isi (Z := Z) (G := G) (σ := slots 2 [w]) (i := 0) (dc := dC (.ty "tuple")) rfl (fun G' => Pu.c) fun G2 g2 => isi_tup T (tyOk.gr g2 ht)
  cases w with
  | tup ws =>
    have hl := fun {G1 : Gh} => Pu.dB (pu_len (G := G1) (σ := slots 2 [.tup ws]) (i := 0) (ws := ws) rfl |> fun p => Pu.d2 p (fun _ _ => Pu.c (w := .int 2)) fun _ _ => pu_ltI _ 2)
    match ws with
    | [] =>
      refine Rt.guard (r := .non) (b := true) ?_ (fun _ _ _ => Pu.c) (fun z => by cases z)
      exact Pu.dOr (c := true) (Pu.dNot (Pu.dB hi)) fun _ G1 g1 => Pu.dOr (b := true) (c := true) hl fun z => by cases z
    | [a] =>
      have : deedB (.tup [a]) = false := by
        cases a with
        | str x => simp only [deedB, callB, oneName, Bool.and_false]; split; rfl; split <;> rfl
        | _ => rfl
      rw [this]
      refine Rt.guard (r := .non) (b := true) ?_ (fun _ _ _ => Pu.c) (fun z => by cases z)
      exact Pu.dOr (c := true) (Pu.dNot (Pu.dB hi)) fun _ G1 g1 => Pu.dOr (b := true) (c := true) hl fun z => by cases z
    | a :: b :: r =>
      have e2 : decide (((a :: b :: r).length : Int) < 2) = false := by simp only [List.length_cons, decide_eq_false_iff_not]; omega
      rw [e2] at hl
      have ka := okV.ty (kid_at (i := 0) h rfl)
      have kb := okV.ty (kid_at (i := 1) h rfl)
      refine Rt.guard (r := .non) (Pu.dOr (Pu.dNot (Pu.dB hi)) fun _ G1 g1 => Pu.dOr hl fun _ G2 g2 => Pu.dNot (Pu.dB (pu_isiItem T (ws := a :: b :: r) (j := 0) rfl rfl (tyOk.gr (g1.trans g2) ka)))) (fun hb G' g => ?_) fun hb G' g => ?_
      · have : deedB (.tup (a :: b :: r)) = false := by
          cases a with
          | str x => simp [isTup, isStr] at hb
          | _ => rfl
        rw [this]; exact Pu.c
      · cases a with
        | str x =>
          have hx := ok_strOk ka
          refine Rt.guard (r := .non) (Pu.dB (pu_itemEqS (ws := .str x :: b :: r) (j := 0) rfl rfl hx (by decide +kernel))) (fun hc G1 g1 => ?_) fun hc G1 g1 => ?_
          · have hc : x = "call" := by simpa using hc
            have : deedB (.tup (.str x :: b :: r)) = callB (.str x :: b :: r) := by simp only [deedB]; rw [if_pos hc]
            rw [this]
            exact Pu.call (Pu.cons (Pu.var rfl) fun _ _ => Pu.nil) fun G2 g2 => is_call_ok T (okV.gr ((g.trans g1).trans g2) 1 h)
          have hc : ¬ x = "call" := by simpa using hc
          refine Rt.guard (r := .non) (Pu.dB (pu_itemEqS (ws := .str x :: b :: r) (j := 0) rfl rfl hx (by decide +kernel))) (fun hd G2 g2 => ?_) fun hd G2 g2 => Rt.ret ?_
          · have hd : x = "hand" := by simpa using hd
            have gg := (g.trans g1).trans g2
            have : deedB (.tup (.str x :: b :: r)) = ((((.str x :: b :: r : List W).length : Int) == 4) && ((b :: r).all nameB && unlikeHd b r)) := by
              simp only [deedB]
              rw [if_neg hc, if_pos hd]
              match r with
              | [] => rfl
              | [c] => rfl
              | [c, d] => simp [Bool.and_assoc, unlikeHd]
              | c :: d :: e :: t =>
                have : ¬ ((.str x :: b :: c :: d :: e :: t : List W).length : Int) = 4 := by simp only [List.length_cons]; omega
                rw [beq_eq_false_iff_ne.mpr this]; rfl
            rw [this]
            refine Pu.dAndV (Pu.d2 (pu_len rfl) (fun _ _ => Pu.c) fun _ _ => pu_eqI _ 4) fun h4 G3 g3 => Pu.dAndV ?_ fun hn G4 g4 => ?_
            · refine pu_allLc nameB (fun w' => (wipeD (slots 2 [.tup (.str x :: b :: r)]) [1]).set 1 (some w')) (Fix.tup ?_) (fun w' _ => rfl) (by have := kids_len ht (ws := .str x :: b :: r) rfl; simp only [List.length_cons] at this ⊢; omega) fun w' hw G4 g4 => Pu.call (Pu.cons (Pu.var rfl) fun _ _ => Pu.nil) fun G5 g5 => is_name_ok T (tyOk.gr ((((gg.trans g3)).trans g4).trans g5) (okV.ty (okV.kid h (ws := .str x :: b :: r) rfl (List.mem_cons_of_mem _ hw))))
              refine Pu.bnd (Pu.var rfl) fun G4 g4 => Pu.bnd (a := some 1) (Pu.bnd Pu.c fun G5 g5 => ⟨G5, rfl, .refl⟩) fun G5 g5 => Pu.bnd (a := none) Pu.ret fun G6 g6 => Pu.noX ⟨G6, ?_, .refl⟩
              show slW (.tup (.str x :: b :: r)) (some 1) none G6 = .ok (.tup (b :: r)) G6
              show Out.ok (W.tup (cutW (.str x :: b :: r) (some 1) none)) G6 = _
              rw [cut1]
            · match r, h4 with
              | [c, d], _ =>
                have hn := List.all_eq_true.mp hn
                obtain ⟨u, rfl, _⟩ := name_str (hn b (by simp))
                obtain ⟨v, rfl, _⟩ := name_str (hn c (by simp))
                have kc := okV.ty (kid_at (i := 2) h rfl)
                exact Pu.d2 (pu_item (ws := [.str x, .str u, .str v, d]) (j := 1) rfl rfl) (fun _ _ => pu_item (ws := [.str x, .str u, .str v, d]) (j := 2) rfl rfl) fun _ _ => pu_neS (ok_strOk kb) (ok_strOk kc)
              | [], h4 => simp at h4
              | [c], h4 => simp at h4
              | _ :: _ :: _ :: _, h4 => simp only [List.length_cons, beq_iff_eq] at h4; omega
          · have hd : ¬ x = "hand" := by simpa using hd
            have gg := (g.trans g1).trans g2
            have : deedB (.tup (.str x :: b :: r)) = ((x == "throw") && ((((.str x :: b :: r : List W).length : Int) == 2) && nameB b)) := by
              simp only [deedB]
              rw [if_neg hc, if_neg hd]
              match r with
              | [] => simp [oneName]
              | c :: t =>
                have : ¬ ((.str x :: b :: c :: t : List W).length : Int) = 2 := by simp only [List.length_cons]; omega
                rw [beq_eq_false_iff_ne.mpr this]; rfl
            rw [this]
            exact Pu.dAndV (pu_itemEqS (ws := .str x :: b :: r) (j := 0) rfl rfl hx (by decide +kernel)) fun _ G3 g3 => Pu.dAndV (Pu.d2 (pu_len rfl) (fun _ _ => Pu.c) fun _ _ => pu_eqI _ 2) fun _ G4 g4 => pu_name T (ws := .str x :: b :: r) (j := 1) rfl rfl (tyOk.gr ((gg.trans g3).trans g4) kb)
        | _ => all_goals simp [isTup, isStr] at hb
  | _ =>
    all_goals
      refine Rt.guard (r := .non) (b := true) ?_ (fun _ _ _ => Pu.c) (fun z => by cases z)
      exact Pu.dOr (c := true) (Pu.dNot (Pu.dB hi)) (fun z => by simp [isTup] at z)
end
end K11
end
section
set_option Elab.async false
set_option backward.match.sparseCases false
set_option linter.all false
set_option maxRecDepth 100000
set_option maxHeartbeats 4000100
namespace K11
open PySem L2 Dn
section
variable {Z : Adr} {mg : Str → Option Value} {G : Gh} {σ : Dn.Loc}
theorem pu_isEmpty {i : Nat} {ws : List W} (hv : σ[i]? = some (some (.tup ws))) : Pu (d2 (fun x y => noX (eqX x y)) (dVar i) (dTup dNil) σ) G (.bl ws.isEmpty) :=
  Pu.d2 (Pu.var hv) (fun _ _ => Pu.tup Pu.nil) fun G' _ => ⟨G', by simp [eqX, emptyQ], .refl⟩
theorem deed_str {ws : List W} (h : deedB (.tup ws) = true) : ws.any (fun w => !isStr w) = false := by
  have nm : ∀ {w : W}, nameB w = true → isStr w = true := fun h => by obtain ⟨x, rfl, _⟩ := name_str h; rfl
  have xs : ∀ {x : Str}, isStr (.str x) = true := fun {x} => rfl
  match ws with
  | [] => rfl
  | a :: r =>
    cases a with
    | str x =>
      simp only [deedB] at h
      split at h
      · match r, h with
        | [a, b, c], h =>
          simp only [callB, Bool.and_eq_true, Bool.or_eq_true] at h
          have h3 : isStr c = true := h.2.elim nm fun z => by cases c <;> first | rfl | (simp [eqSB] at z)
          simp [nm h.1.1, nm h.1.2, h3, xs]
        | [], h => simp [callB] at h
        | [_], h => simp [callB] at h
        | [_, _], h => simp [callB] at h
        | _ :: _ :: _ :: _ :: _, h => simp [callB] at h
      · split at h
        · match r, h with
          | [a, b, c], h =>
            simp only [Bool.and_eq_true_iff] at h
            simp [nm h.1.1.1, nm h.1.1.2, nm h.1.2, xs]
        · match r, h with
          | [a], h =>
            simp only [oneName, Bool.and_eq_true] at h
            simp [nm h.2, xs]
          | [], h => simp [oneName] at h
          | _ :: _ :: _, h => simp [oneName] at h
    | _ => cases h
theorem law_is_deed_ok (T : Txt Z mg) {w : W} (h : okV Z G 1 w = true) : Pu (f__law_is_deed Z [w]) G (.bl (deedB w)) := by
  refine Pu.def1 rfl ?_
  have ht := okV.ty h
  have hi := pu_isi (Z := Z) (G := G) (σ := slots 2 [w]) (i := 0) (dc := dC (.ty "tuple")) rfl (fun G' => Pu.c) fun G2 g2 => isi_tup T (tyOk.gr g2 ht)
  cases w with
  | tup ws =>
    have hlen := kids_len ht (ws := ws) rfl
    refine Rt.guard (r := .non) (Pu.dOr (Pu.dNot (Pu.dB hi)) fun _ G1 g1 => Pu.dOr (Pu.dB (pu_isEmpty (ws := ws) rfl)) fun _ G2 g2 => Pu.dB (pu_lcNe (fun w' => !isStr w') id (fun w' => (wipeD (slots 2 [.tup ws]) [1]).set 1 (some w')) (Fix.tup (Pu.var rfl)) (fun w' _ => rfl) (by omega)
      (fun w' hw G3 g3 => Pu.dNot (Pu.dB (Pu.callB (Pu.cons (Pu.var rfl) fun _ _ => Pu.cons Pu.c fun _ _ => Pu.nil) fun G4 g4 => pu_of (isi_str T (tyOk.gr (((g1.trans g2).trans g3).trans g4) (okV.ty (okV.kid h (ws := ws) rfl hw))))))) fun w' _ _ _ _ => Pu.var rfl)) (fun hb G' g => ?_) fun hb G' g => ?_
    · have : deedB (.tup ws) = false := by
        cases q : deedB (.tup ws) with
        | false => rfl
        | true =>
          rw [deed_str q] at hb
          cases ws with
          | nil => cases q
          | cons a r => simp [isTup] at hb
      rw [this]; exact Pu.c
    · simp only [isTup, Bool.not_true, Bool.false_or, Bool.or_eq_false_iff] at hb
      obtain ⟨hne, hall⟩ := hb
      have allS : ∀ {i : Nat} {w : W}, ws[i]? = some w → ∃ x, w = .str x ∧ PyData.strOk x = true := fun {i w} e => by
        have m := List.mem_of_getElem? e
        have z := List.any_eq_false.mp hall w m
        have k := okV.ty (okV.kid h (ws := ws) rfl m)
        cases w with
        | str x => exact ⟨x, rfl, ok_strOk k⟩
        | _ => simp [isStr] at z
      match ws, hne with
      | a :: r, _ =>
      obtain ⟨x, rfl, hx⟩ := allS (i := 0) rfl
      refine Rt.guard (r := .non) (Pu.dB (pu_itemEqS (ws := .str x :: r) (j := 0) rfl rfl hx (by decide +kernel))) (fun hc G1 g1 => ?_) fun hc G1 g1 => ?_
      · have hc : x = "throw" := by simpa using hc
        have : deedB (.tup (.str x :: r)) = ((((.str x :: r : List W).length : Int) == 2) && oneName r) := by
          subst hc
          have n1 : ¬ (("throw" : Str) = "call") := by decide +kernel
          have n2 : ¬ (("throw" : Str) = "hand") := by decide +kernel
          simp only [deedB, if_neg n1, if_neg n2, beq_self_eq_true, Bool.true_and]
          match r with
          | [] => rfl
          | [a] => rfl
          | a :: b :: t =>
            have : ¬ ((.str "throw" :: a :: b :: t : List W).length : Int) = 2 := by simp only [List.length_cons]; omega
            rw [beq_eq_false_iff_ne.mpr this]; rfl
        rw [this]
        refine Pu.dAndV (Pu.d2 (pu_len rfl) (fun _ _ => Pu.c) fun _ _ => pu_eqI _ 2) fun h2 G2 g2 => ?_
        match r, h2 with
        | [b], _ => exact pu_lname T (ws := [.str x, b]) (j := 1) rfl rfl (tyOk.gr ((g.trans g1).trans g2) (okV.ty (kid_at (i := 1) h rfl)))
        | [], h2 => simp at h2
        | _ :: _ :: _, h2 => simp only [List.length_cons, beq_iff_eq] at h2; omega
      have hc : ¬ x = "throw" := by simpa using hc
      have hl : ∀ {G2 : Gh}, Pu (dB (d2 (fun x y => noX (neX x y)) (dCallB lenAW (dCons (dVar 0) dNil)) (dC (.int 4))) (slots 2 [.tup (.str x :: r)])) G2 (!(((.str x :: r : List W).length : Int) == 4)) := Pu.dB (Pu.d2 (pu_len rfl) (fun _ _ => Pu.c) fun _ _ => pu_neI _ 4)
      by_cases h4 : r.length = 3
      · match r, h4 with
        | [b, c, d], _ =>
        obtain ⟨xb, rfl, hxb⟩ := allS (i := 1) rfl
        obtain ⟨xc, rfl, hxc⟩ := allS (i := 2) rfl
        obtain ⟨xd, rfl, hxd⟩ := allS (i := 3) rfl
        have k1 := okV.ty (kid_at (i := 1) h rfl)
        have k2 := okV.ty (kid_at (i := 2) h rfl)
        have k3 := okV.ty (kid_at (i := 3) h rfl)
        have gg := g.trans g1
        refine Rt.guard (r := .non) (Pu.dOr hl fun _ G2 g2 => Pu.dOr (Pu.dNot (Pu.dB (pu_lname T (ws := [.str x, .str xb, .str xc, .str xd]) (j := 1) rfl rfl (tyOk.gr (gg.trans g2) k1)))) fun _ G3 g3 => Pu.dNot (Pu.dB (pu_lname T (ws := [.str x, .str xb, .str xc, .str xd]) (j := 2) rfl rfl (tyOk.gr ((gg.trans g2).trans g3) k2)))) (fun hb G2 g2 => ?_) fun hb G2 g2 => ?_
        · have : deedB (.tup [.str x, .str xb, .str xc, .str xd]) = false := by
            simp only [deedB, callB, oneName]
            cases n1 : nameB (.str xb) <;> cases n2 : nameB (.str xc) <;> simp [n1, n2] at hb ⊢
          rw [this]; exact Pu.c
        have en : nameB (.str xb) = true ∧ nameB (.str xc) = true := by
          cases n1 : nameB (.str xb) <;> cases n2 : nameB (.str xc) <;> simp [n1, n2] at hb ⊢
        refine Rt.guard (r := .non) (Pu.dB (pu_itemEqS (ws := [.str x, .str xb, .str xc, .str xd]) (j := 0) rfl rfl hx (by decide +kernel))) (fun hd G3 g3 => ?_) fun hd G3 g3 => Rt.ret ?_
        · have hd : x = "call" := by simpa using hd
          have : deedB (.tup [.str x, .str xb, .str xc, .str xd]) = ((xd == "") || nameB (.str xd)) := by
            simp only [deedB, if_pos hd, callB, en.1, en.2, eqSB, Bool.true_and, Bool.or_comm]
          rw [this]
          exact Pu.dOrV (pu_itemEqS (ws := [.str x, .str xb, .str xc, .str xd]) (j := 3) rfl rfl hxd (by decide +kernel)) fun _ G4 g4 => pu_lname T (ws := [.str x, .str xb, .str xc, .str xd]) (j := 3) rfl rfl (tyOk.gr (((gg.trans g2).trans g3).trans g4) k3)
        · have hd : ¬ x = "call" := by simpa using hd
          have : deedB (.tup [.str x, .str xb, .str xc, .str xd]) = ((x == "hand") && (nameB (.str xd) && !(xb == xc))) := by
            simp only [deedB, if_neg hd, en.1, en.2, sameS, oneName, Bool.true_and, Bool.and_false]
            by_cases hh : x = "hand"
            · simp [hh]
            · simp [hh]
          rw [this]
          exact Pu.dAndV (pu_itemEqS (ws := [.str x, .str xb, .str xc, .str xd]) (j := 0) rfl rfl hx (by decide +kernel)) fun _ G4 g4 => Pu.dAndV (pu_lname T (ws := [.str x, .str xb, .str xc, .str xd]) (j := 3) rfl rfl (tyOk.gr (((gg.trans g2).trans g3).trans g4) k3)) fun _ G5 g5 =>
            Pu.d2 (pu_item (ws := [.str x, .str xb, .str xc, .str xd]) (j := 1) rfl rfl) (fun _ _ => pu_item (ws := [.str x, .str xb, .str xc, .str xd]) (j := 2) rfl rfl) fun _ _ => pu_neS hxb hxc
      · have e : (((.str x :: r : List W).length : Int) == 4) = false := beq_eq_false_iff_ne.mpr (by simp only [List.length_cons]; omega)
        have : deedB (.tup (.str x :: r)) = false := by
          have hr : ∀ a b c, r ≠ [a, b, c] := fun a b c z => h4 (by rw [z]; rfl)
          have c0 : callB (.str x :: r) = false := by
            unfold callB
            split
            · rename_i z
              cases z
              exact absurd rfl (hr _ _ _)
            · rfl
          simp only [deedB, c0]
          have c2 : (x == "throw") = false := by simpa using hc
          rw [c2]
          split
          · rfl
          · split
            · match r, hr with
              | [a, b, c], hr => exact absurd rfl (hr a b c)
              | [], _ => rfl
              | [_], _ => rfl
              | [_, _], _ => rfl
              | _ :: _ :: _ :: _ :: _, _ => rfl
            · rfl
        rw [this]
        rw [e] at hl
        exact Rt.guard (r := .non) (b := true) (Pu.dOr (c := true) hl fun z => by cases z) (fun _ _ _ => Pu.c) (fun z => by cases z)
  | _ =>
    all_goals
      refine Rt.guard (r := .non) (b := true) ?_ (fun _ _ _ => Pu.c) (fun z => by cases z)
      exact Pu.dOr (c := true) (Pu.dNot (Pu.dB hi)) (fun z => by simp [isTup] at z)
end
end K11
end
section
set_option Elab.async false
set_option backward.match.sparseCases false
set_option linter.all false
set_option maxRecDepth 100000
set_option maxHeartbeats 4000100
namespace K11
open PySem L2 Dn
/-! wishes: pairs of texts in order -/
def encP : W → PyData
  | .tup [.str a, .str b] => .tuple [.str a, .str b]
  | _ => .none
def Pr (w : W) : Prop := ∃ a b, w = .tup [.str a, .str b] ∧ PyData.strOk a = true ∧ PyData.strOk b = true
theorem Pr.dat {w : W} (h : Pr w) (rec : Nat → Option PyData) : datV rec w = some (encP w) := by
  obtain ⟨a, b, rfl, _⟩ := h
  simp [datV, datVs, encP]
theorem Pr.key {w : W} (h : Pr w) : (tupKey w).isSome = true := by
  obtain ⟨a, b, rfl, _⟩ := h
  rfl
theorem enc_toks (a b : Str) : PySem.W.keyToks (encP (.tup [.str a, .str b])) = [.inl 1, .inr a.cps.toList, .inl 1, .inr b.cps.toList, .inl 0] := by
  simp [encP, PySem.W.keyToks, PySem.W.keyToksAll]
theorem enc_inj {v w : W} (hv : Pr v) (hw : Pr w) (h : PySem.W.keyToks (encP v) = PySem.W.keyToks (encP w)) : v = w := by
  obtain ⟨a, b, rfl, _⟩ := hv
  obtain ⟨c, d, rfl, _⟩ := hw
  rw [enc_toks, enc_toks] at h
  simp only [List.cons.injEq, Sum.inr.injEq, true_and, and_true] at h
  rw [PySem.W.str_of_cps h.1, PySem.W.str_of_cps h.2]
theorem enc_tot {v w : W} (hv : Pr v) (hw : Pr w) (h1 : PySem.W.dataLt (encP v) (encP w) = false) (h2 : PySem.W.dataLt (encP w) (encP v) = false) : v = w :=
  enc_inj hv hw (PyProof.Rows.lex_total _ _ h1 h2)
theorem enc_key {v w : W} (hv : Pr v) (hw : Pr w) : keyW v = keyW w ↔ v = w := by
  refine ⟨fun h => ?_, fun h => by rw [h]⟩
  obtain ⟨a, b, rfl, _⟩ := hv
  obtain ⟨c, d, rfl, _⟩ := hw
  simp only [keyW, keyWs, Option.map_some, Option.some.injEq, NestedKey.tup.injEq, List.cons.injEq, NestedKey.text.injEq, and_true] at h
  rw [h.1, h.2]
theorem enc_alike {v w : W} (hv : Pr v) (hw : Pr w) : PySem.W.alike (encP v) (encP w) = true := by
  obtain ⟨a, b, rfl, _⟩ := hv
  obtain ⟨c, d, rfl, _⟩ := hw
  simp [encP, PySem.W.alike, PySem.W.alikeAll]
theorem enc_eqv {v w : W} (hv : Pr v) (hw : Pr w) : PyData.eqv (encP v) (encP w) = true ↔ v = w := by
  obtain ⟨a, b, rfl, _⟩ := hv
  obtain ⟨c, d, rfl, _⟩ := hw
  simp only [encP, PyData.eqv, PyData.eqvAll, Bool.and_true, Bool.and_eq_true, beq_iff_eq, W.tup.injEq, List.cons.injEq, W.str.injEq, and_true]
theorem enc_shaped {w : W} (h : Pr w) : PyData.canLay0 (encP w) = true ∧ (encP w).depth = 1 ∧ notNon (encP w) = true := by
  obtain ⟨a, b, rfl, ha, hb⟩ := h
  simp [encP, PyData.canLay0, PyData.canLayAll0, ha, hb, PyData.depth, PyData.depthAll, notNon]
def ltP (v w : W) : Bool := PySem.W.dataLt (encP v) (encP w)
theorem ltP_irr (v : W) : ltP v v = false := PyProof.Rows.lex_irrefl _
theorem ltP_trans {u v w : W} (h : ltP u v = true) (h' : ltP v w = true) : ltP u w = true := PyProof.Rows.lex_trans _ _ _ h h'
/-- strictly ascending -/
def ascW : List W → Bool
  | a :: b :: r => ltP a b && ascW (b :: r)
  | _ => true
theorem asc_pair : ∀ {ws : List W}, ascW ws = true → ws.Pairwise fun a b => ltP a b = true
  | [], _ => .nil
  | [a], _ => List.pairwise_singleton _ _
  | a :: b :: r, h => by
    simp only [ascW, Bool.and_eq_true] at h
    have ih := asc_pair h.2
    refine List.Pairwise.cons (fun c hc => ?_) ih
    obtain rfl | hc := List.mem_cons.mp hc
    · exact h.1
    · exact ltP_trans h.1 ((List.pairwise_cons.mp ih).1 c hc)
theorem asc_of : ∀ {ws : List W}, (ws.Pairwise fun a b => ltP a b = true) → ascW ws = true
  | [], _ => rfl
  | [a], _ => rfl
  | a :: b :: r, h => by
    have h' := List.pairwise_cons.1 h
    simp only [ascW, Bool.and_eq_true]
    exact ⟨h'.1 b List.mem_cons_self, asc_of h'.2⟩
def pz (w : W) : W × PyData := (w, encP w)
theorem datEach_P {G : Gh} : ∀ {ws : List W}, (∀ w ∈ ws, Pr w) → datEach G ws = some (ws.map pz)
  | [], _ => rfl
  | w :: ws, h => by
    unfold datEach
    have e : datW G w = some (encP w) := (h w List.mem_cons_self).dat _
    rw [e, datEach_P fun x hx => h x (List.mem_cons_of_mem _ hx)]
    rfl
theorem le_P (a b : W × PyData) : PySem.W.dataLe false (·.2) a b = !PySem.W.dataLt b.2 a.2 := rfl
theorem sortD_P (ws : List W) : sortD (ws.map pz) = ws.mergeSort fun a b => !ltP b a := by
  unfold sortD
  rw [← List.map_mergeSort (r := fun a b => !ltP b a) (s := PySem.W.dataLe false (·.2)) (f := pz) (fun a _ b _ => rfl), List.map_map]
  exact List.map_id _
theorem ded_mem {ws : List W} {w : W} (h : w ∈ dedW ws) : w ∈ ws := firsts_sub _ h
theorem ded_nodup {ws : List W} (h : ∀ w ∈ ws, Pr w) : (dedW ws).Nodup := by
  have z := firsts_nd keyW ws
  exact (List.pairwise_map.mp z).imp fun h e => h (by rw [e])
theorem ded_of_nodup : ∀ {ws : List W} (acc : List W), (∀ w ∈ ws, keyW w ∉ acc.map keyW) → (ws.map keyW).Nodup → ws.foldl (Dn.stepF keyW) acc = ws.reverse ++ acc
  | [], acc, _, _ => rfl
  | w :: ws, acc, h, n => by
    rw [List.foldl_cons]
    have n' := List.nodup_cons.mp n
    have e : Dn.stepF keyW acc w = w :: acc := by
      unfold Dn.stepF
      rw [if_neg (h w List.mem_cons_self)]
    rw [e, ded_of_nodup (w :: acc) (fun x hx hm => ?_) n'.2]
    · rw [List.reverse_cons, List.append_assoc]; rfl
    · rw [List.map_cons] at hm
      obtain z | z := List.mem_cons.mp hm
      · exact n'.1 (List.mem_map.mpr ⟨x, hx, z⟩)
      · exact h x (List.mem_cons_of_mem _ hx) z
theorem le_tr (a b c : W) (h : (!ltP b a) = true) (h' : (!ltP c b) = true) : (!ltP c a) = true := by
  have h1 : ltP b a = false := by simpa using h
  have h2 : ltP c b = false := by simpa using h'
  cases q : ltP c a with
  | false => rfl
  | true =>
    rcases PyProof.Rows.lex_negTrans _ (PySem.W.keyToks (encP b)) _ q with z | z
    · exact absurd (show ltP c b = true from z) (by rw [h2]; decide)
    · exact absurd (show ltP b a = true from z) (by rw [h1]; decide)
theorem le_tot (a b : W) : ((!ltP b a) || (!ltP a b)) = true := by
  cases q : ltP b a with
  | false => rfl
  | true =>
    cases q2 : ltP a b with
    | false => rfl
    | true => have := ltP_trans q q2; rw [ltP_irr] at this; cases this
/-- sorted(set(ws)) is ws just where ws ascends -/
theorem sort_asc {ws : List W} (h : ∀ w ∈ ws, Pr w) : (ws = (dedW ws).mergeSort fun a b => !ltP b a) ↔ ascW ws = true := by
  have srt := List.pairwise_mergeSort (le := fun a b => !ltP b a) (fun a b c => le_tr a b c) (fun a b => le_tot a b) (dedW ws)
  have prm := List.mergeSort_perm (dedW ws) (fun a b => !ltP b a)
  constructor
  · intro e
    refine asc_of ?_
    have nd : ws.Nodup := by
      rw [e]
      exact prm.nodup_iff.mpr (ded_nodup h)
    rw [← e] at srt
    refine (srt.and nd).imp_of_mem fun {a b} ha hb hab => ?_
    have h1 : ltP b a = false := by simpa using hab.1
    cases q : ltP a b with
    | true => rfl
    | false => exact absurd (enc_tot (h a ha) (h b hb) q h1) hab.2
  · intro a
    have pw := asc_pair a
    have nd : (ws.map keyW).Nodup := by
      refine List.pairwise_map.mpr (pw.imp_of_mem fun {a b} ha hb hab e => ?_)
      rw [(enc_key (h a ha) (h b hb)).mp e, ltP_irr] at hab
      cases hab
    have e : dedW ws = ws.reverse := by
      show ws.foldl (Dn.stepF keyW) [] = _
      rw [ded_of_nodup [] (fun w _ hm => by cases hm) nd, List.append_nil]
    rw [e] at prm srt ⊢
    have pw2 : ws.Pairwise fun a b => (!ltP b a) = true := pw.imp fun {a b} hab => by
      cases q : ltP b a with
      | false => rfl
      | true => have := ltP_trans hab q; rw [ltP_irr] at this; cases this
    refine (List.Perm.eq_of_pairwise (le := fun a b => (!ltP b a) = true) (fun a b ha hb h1 h2 => ?_) pw2 srt ?_)
    · exact enc_tot (h a ha) (h b (by simpa using prm.mem_iff.mp hb)) (by simpa [ltP] using h2) (by simpa [ltP] using h1)
    · exact ((prm.trans (List.reverse_perm ws))).symm
end K11
end
section
set_option linter.all false
set_option Elab.async false
set_option maxRecDepth 100000
set_option maxHeartbeats 4000100
namespace K11
open PySem L2 Dn
section
variable {M : Nat → Bool} {b : Nat} {G0 G : Gh} {f S k : Nat} {σ : Dn.Loc} {d : DE} {Z : Adr}
theorem ea_take (K : Msk M b G0) {j n : Nat} (hσ : σ[j]? = some (some (.ref b))) (hd : EA M b G0 (d σ) fun w _ => w = .int n) (h0 : 0 < n := by decide) (hn : n < 1073741824 := by decide) : EA M b G0 (dCall (f__law_take Z) (dCons (dVar j) (dCons d dNil)) σ) (isNat n) :=
  EA.callV hσ hd fun w G st B e => by
    subst e
    exact take_ok Z K.1 B h0 hn
theorem ea_takeC (K : Msk M b G0) {j n : Nat} (hσ : σ[j]? = some (some (.ref b))) (h0 : 0 < n := by decide) (hn : n < 1073741824 := by decide) : EA M b G0 (dCall (f__law_take Z) (dCons (dVar j) (dCons (dC (.int n)) dNil)) σ) (isNat n) := ea_take K hσ (EA.ok fun G st => ⟨rfl, rfl⟩) h0 hn
theorem one_ok (K : Msk M b G0) {n : Nat} {ws : List W} (st0 : Stp M G0 G) (g : G[n]? = some (.lst ws)) (hm : M n = false) (h0 : 0 < ws.length) (h1 : ws.length < 1073741824) (B : Bag b G) : EV M b (f__law_one Z [.ref b, .ref n]) G fun w _ => w ∈ ws := by
  refine EV.def1 rfl (RV.ret ?_)
  have hd : EA M b G (dCallB lenAW (dCons (dVar 1) dNil) [some (.ref b), some (.ref n)]) fun w _ => w = .int ws.length := EA.cb1 (EA.var (P := fun w G' => w = .ref n ∧ G'[n]? = some (.lst ws)) rfl fun G' st => ⟨rfl, st.get g hm⟩) fun w G' st B e => by
    obtain ⟨rfl, g'⟩ := e
    exact EV.ok B (by simp [lenAW, dctQ, lenW, lenQ, g']) rfl
  have K' : Msk M b G := K.le st0.1
  refine EA.op (P1 := fun w G' => w = .ref n ∧ G'[n]? = some (.lst ws)) (P2 := isNat ws.length) (EA.var rfl fun G' st => ⟨rfl, st.get g hm⟩) (fun w G1 G2 p st => ⟨p.1, st.get p.2 hm⟩) (ea_take K' rfl hd h0 h1) (fun x y G' st B p1 p2 => ?_) G .refl B
  obtain ⟨rfl, g'⟩ := p1
  obtain ⟨v, hv, rfl⟩ := p2
  exact EV.ok B (item_lst g' (List.getElem?_eq_getElem hv)) (List.getElem_mem hv)
theorem ea_one (K : Msk M b G0) {j : Nat} (hσ : σ[j]? = some (some (.ref b))) (hd : EA M b G0 (d σ) (LL M f S k)) (h0 : 0 < k := by decide) (hn : k < 1073741824 := by decide) : EA M b G0 (dCall (f__law_one Z) (dCons (dVar j) (dCons d dNil)) σ) fun w G => GV M G f S w :=
  EA.callV hσ hd fun w G st B ⟨n, ws, e, hm, g, l, a⟩ => by
    subst e
    exact (one_ok K st g hm (by omega) (by omega) B).mono fun w G' st' _ p => (a w p).stp st'
theorem ea_oneC (K : Msk M b G0) {A : W → Prop} {ds : DA} {ws : List W} {j : Nat} (hσ : σ[j]? = some (some (.ref b))) (hd : ∀ G, ds σ G = .ok ws G) (h0 : 0 < ws.length) (hn : ws.length ≤ 1000) (hA : ∀ w ∈ ws, A w) : EA M b G0 (dCall (f__law_one Z) (dCons (dVar j) (dCons (dLst ds) dNil)) σ) fun w _ => A w :=
  EA.callV hσ (P := fun w G => ∃ n, w = .ref n ∧ M n = false ∧ G[n]? = some (.lst ws)) (fun G st B => ⟨.ref G.length, G ++ [.lst ws], by unfold dLst Dn.bnd; rw [hd]; exact if_pos (by omega), Gr.one.stp, B.gr .one, G.length, rfl, (K.le st.1).new (Nat.le_refl _), by simp⟩) fun w G st B ⟨n, e, hm, g⟩ => by
    subst e
    exact (one_ok K st g hm h0 (by omega) B).mono fun w G' st' _ p => hA w p
/-! ### a name -/
def nameL : List W := [.str "a", .str "b", .str "ab", .str "ann", .str "zzzzzzzz", .str "cup", .str "call", .str "", .str "A", .str "aB", .str "Ab", .str "ninelette", .str "a1", .str "a b", .str "?"]
theorem name_all : ∀ w ∈ nameL, strB w = true := by
  intro w hw
  have : nameL.all strB = true := by decide +kernel
  exact List.all_eq_true.mp this w hw
theorem some_name_ok (K : Msk M b G0) : EA M b G0 (f__law_some_name Z [.ref b]) fun w _ => strB w = true := by
  refine EA.def1 rfl ?_
  show RA M b G0 (d__law_some_name Z) [some (.ref b), none] _
  unfold d__law_some_name
  refine RA.asg (P := fun w G => ∃ n, w = .ref n ∧ M n = false ∧ G[n]? = some (.lst nameL)) (fun G st B => ⟨.ref G.length, G ++ [.lst nameL], rfl, Gr.one.stp, B.gr .one, G.length, rfl, (K.le st.1).new (Nat.le_refl _), by simp⟩) fun w G st ⟨n, e, hm, g⟩ => ?_
  subst e
  refine RA.ret ?_
  show EA M b G (dCall (f__law_one Z) (dCons (dVar 0) (dCons (dVar 1) dNil)) [some (.ref b), some (.ref n)]) _
  refine EA.callV rfl (P := fun w G' => w = .ref n ∧ G'[n]? = some (.lst nameL)) (EA.var rfl fun G' st => ⟨rfl, st.get g hm⟩) fun w G' st' B ⟨e, g'⟩ => ?_
  subst e
  exact (one_ok (K.le st.1) st' g' hm (by decide) (by decide) B).mono fun w _ _ _ p => name_all w p
theorem ea_name (K : Msk M b G0) {j : Nat} (hσ : σ[j]? = some (some (.ref b))) : EA M b G0 (dCall (f__law_some_name Z) (dCons (dVar j) dNil) σ) fun w _ => strB w = true :=
  EA.call1 (P := fun w _ => w = .ref b) (EA.var hσ fun _ _ => rfl) fun w G st B e => by
    subst e
    exact some_name_ok K G st B
/-! ### a thing -/
theorem Pr_of {w : W} (h : pairStr w = true) : Pr w := by
  unfold pairStr at h
  split at h
  · rename_i x y
    simp only [Bool.and_eq_true, okStr] at h
    exact ⟨x, y, rfl, h.1.1.1, h.2.1.1⟩
  · cases h
theorem pair_of {x y : W} (hx : strB x = true) (hy : strB y = true) : pairStr (.tup [x, y]) = true := by
  cases x with
  | str x =>
    cases y with
    | str y => unfold pairStr; rw [Bool.and_eq_true]; exact ⟨hx, hy⟩
    | _ => cases hy
  | _ => cases hx
end
end K11
end
section
set_option Elab.async false
set_option backward.match.sparseCases false
set_option linter.all false
set_option maxRecDepth 100000
set_option maxHeartbeats 4000100
namespace K11
open PySem L2 Dn
section
variable {Z : Adr} {mg : Str → Option Value} {G : Gh} {σ : Dn.Loc}
theorem pair_Pr {w : W} (h : okV Z G 1 w = true) (p : pairB w = true) : Pr w := by
  cases w with
  | tup ws =>
    match ws, p with
    | [a, b], p =>
      simp only [pairB, Bool.and_eq_true] at p
      obtain ⟨x, rfl, _⟩ := name_str p.1
      obtain ⟨y, rfl, _⟩ := name_str p.2
      exact ⟨x, y, rfl, ok_strOk (okV.ty (kid_at (i := 0) h rfl)), ok_strOk (okV.ty (kid_at (i := 1) h rfl))⟩
  | _ => cases p
def wishB : W → Bool
  | .tup ws => !ws.isEmpty && ws.all pairB && ascW ws
  | _ => false
theorem eqvAll_P : ∀ {vs ws : List W}, (∀ w ∈ vs, Pr w) → (∀ w ∈ ws, Pr w) → (PyData.eqvAll (vs.map encP) (ws.map encP) = true ↔ vs = ws)
  | [], [], _, _ => by simp [PyData.eqvAll]
  | [], _ :: _, _, _ => by simp [PyData.eqvAll]
  | _ :: _, [], _, _ => by simp [PyData.eqvAll]
  | v :: vs, w :: ws, h1, h2 => by
    simp only [List.map_cons, PyData.eqvAll, Bool.and_eq_true, List.cons.injEq]
    rw [enc_eqv (h1 v List.mem_cons_self) (h2 w List.mem_cons_self), eqvAll_P (fun x hx => h1 x (List.mem_cons_of_mem _ hx)) fun x hx => h2 x (List.mem_cons_of_mem _ hx)]
theorem lay_P : ∀ {ws : List W}, (∀ w ∈ ws, Pr w) → PyData.canLayAll0 (ws.map encP) = true ∧ PyData.depthAll (ws.map encP) ≤ 1
  | [], _ => by simp [PyData.canLayAll0, PyData.depthAll]
  | w :: ws, h => by
    obtain ⟨a, b⟩ := lay_P fun x hx => h x (List.mem_cons_of_mem _ hx)
    obtain ⟨c, d, _⟩ := enc_shaped (h w List.mem_cons_self)
    simp [PyData.canLayAll0, PyData.depthAll, a, c, d]
    omega
theorem shaped_P {ws : List W} (h : ∀ w ∈ ws, Pr w) : SeqAt.shaped (.list (ws.map encP)) = true := by
  obtain ⟨a, b⟩ := lay_P h
  simp [SeqAt.shaped, PyData.canLay0, PyData.depth, a]
  omega
theorem datVs_P (rec : Nat → Option PyData) : ∀ {ws : List W}, (∀ w ∈ ws, Pr w) → datVs rec ws = some (ws.map encP)
  | [], _ => rfl
  | w :: ws, h => by
    unfold datVs
    rw [(h w List.mem_cons_self).dat, datVs_P rec fun x hx => h x (List.mem_cons_of_mem _ hx)]
    rfl
theorem datW_P {ws : List W} (h : ∀ w ∈ ws, Pr w) {n : Nat} (e : G[n]? = some (.lst ws)) : datW G (.ref n) = some (.list (ws.map encP)) := by
  show (match G[n]? with | some o => datO (datR G 69) o | none => none) = _
  rw [e]
  show (datVs (datR G 69) ws).map PyData.list = _
  rw [datVs_P _ h]
  rfl
theorem sort_fit {ws : List W} (h : ∀ w ∈ ws, Pr w) : sortable ((ws.map pz).map (·.2)) = true := by
  have e : (ws.map pz).map (·.2) = ws.map encP := by rw [List.map_map]; rfl
  rw [e]
  have al : (ws.map encP).all (fun d => (ws.map encP).all fun e => PySem.W.alike d e) = true := by
    refine List.all_eq_true.mpr fun d hd => List.all_eq_true.mpr fun e he => ?_
    obtain ⟨v, hv, rfl⟩ := List.mem_map.mp hd
    obtain ⟨w, hw, rfl⟩ := List.mem_map.mp he
    exact enc_alike (h v hv) (h w hw)
  have tp : (ws.map encP).all (fun d => match d with | .tuple (_ :: _) => true | _ => false) = true := by
    refine List.all_eq_true.mpr fun d hd => ?_
    obtain ⟨v, hv, rfl⟩ := List.mem_map.mp hd
    obtain ⟨a, b, rfl, _⟩ := h v hv
    rfl
  have dp : (ws.map encP).all (fun d => decide (d.depth ≤ 64)) = true := by
    refine List.all_eq_true.mpr fun d hd => ?_
    obtain ⟨v, hv, rfl⟩ := List.mem_map.mp hd
    simp [(enc_shaped (h v hv)).2.1]
  unfold sortable
  rw [al, dp, Bool.true_and, Bool.and_true, Bool.or_eq_true]
  exact .inl tp
theorem apart_P : ∀ {ws : List W}, (∀ w ∈ ws, Pr w) → ws.Nodup → apartD (ws.map encP) = true
  | [], _, _ => rfl
  | w :: ws, h, n => by
    have n' := List.nodup_cons.mp n
    rw [List.map_cons]
    unfold apartD
    rw [Bool.and_eq_true]
    refine ⟨List.all_eq_true.mpr fun d hd => ?_, apart_P (fun x hx => h x (List.mem_cons_of_mem _ hx)) n'.2⟩
    obtain ⟨v, hv, rfl⟩ := List.mem_map.mp hd
    cases q : PySem.W.dataLt (encP w) (encP v) with
    | true => rfl
    | false =>
      cases q2 : PySem.W.dataLt (encP v) (encP w) with
      | true => rfl
      | false =>
        have e := enc_tot (h w List.mem_cons_self) (h v (List.mem_cons_of_mem _ hv)) q q2
        subst e
        exact absurd hv n'.1
theorem tups_fit {ws : List W} (h : ∀ w ∈ ws, Pr w) (hl : ws.length < 64) : tupFit ws = true := by
  unfold tupFit
  have : allTups ws = true := List.all_eq_true.mpr fun w hw => (h w hw).key
  simp [this, hl]
theorem is_wish_ok (T : Txt Z mg) {w : W} (h : okV Z G 2 w = true) (few : ∀ ws, w = .tup ws → ws.all pairB = true → ws.length < 64) : Pu (f_is_wish Z [w]) G (.bl (wishB w)) := by
  refine Pu.def1 rfl ?_
  have ht := okV.ty h
  have hi := pu_isi (Z := Z) (G := G) (σ := slots 2 [w]) (i := 0) (dc := dC (.ty "tuple")) rfl (fun G' => Pu.c) fun G2 g2 => isi_tup T (tyOk.gr g2 ht)
  cases w with
  | tup ws =>
    have hlen := kids_len ht (ws := ws) rfl
    refine Rt.guard (r := .non) (Pu.dOr (Pu.dNot (Pu.dB hi)) fun _ G1 g1 => Pu.dOr (Pu.dB (pu_isEmpty (ws := ws) rfl)) fun _ G2 g2 => Pu.dNot (Pu.dB (pu_allLc pairB (fun w' => (wipeD (slots 2 [.tup ws]) [1]).set 1 (some w')) (Fix.tup (Pu.var rfl)) (fun w' _ => rfl) (by omega)
      fun w' hw G3 g3 => Pu.call (Pu.cons (Pu.var rfl) fun _ _ => Pu.nil) fun G4 g4 => is_pair_ok T (okV.gr (((g1.trans g2).trans g3).trans g4) 1 (okV.kid h (ws := ws) rfl hw))))) (fun hb G' g => ?_) fun hb G' g => Rt.ret ?_
    · have : wishB (.tup ws) = false := by
        unfold wishB
        cases q1 : ws.isEmpty <;> cases q2 : ws.all pairB <;> simp [q1, q2, isTup] at hb ⊢
      rw [this]; exact Pu.c
    · simp only [isTup, Bool.not_true, Bool.false_or, Bool.or_eq_false_iff, Bool.not_eq_false'] at hb
      obtain ⟨hne, hall⟩ := hb
      have prs : ∀ w ∈ ws, Pr w := fun x hx => pair_Pr (okV.kid h (ws := ws) rfl hx) (List.all_eq_true.mp hall x hx)
      have small := few ws rfl hall
      have e0 : wishB (.tup ws) = ascW ws := by simp only [wishB, hne, hall, Bool.not_false, Bool.true_and]
      rw [e0]
      -- the two lists
      have pd : ∀ w ∈ dedW ws, Pr w := fun x hx => prs x (ded_mem hx)
      have ap : apartD (((dedW ws).map pz).map (·.2)) = true := by
        rw [List.map_map]
        exact apart_P pd (ded_nodup prs)
      let L := (dedW ws).mergeSort fun a b => !ltP b a
      have prm := List.mergeSort_perm (dedW ws) (fun a b => !ltP b a)
      have pl : ∀ w ∈ L, Pr w := fun x hx => pd x (prm.mem_iff.mp hx)
      have ne1 : ws ≠ [] := by intro z; rw [z] at hne; cases hne
      have b1 : ((G' ++ [GO.lst ws]) ++ [GO.lst L])[G'.length]? = some (.lst ws) := by simp
      have b2 : ((G' ++ [GO.lst ws]) ++ [GO.lst L])[(G' ++ [GO.lst ws]).length]? = some (.lst L) := by
        simp [List.getElem?_append_right (Nat.le_refl _)]
      have ne2 : L ≠ [] := by
        intro z
        have z2 : dedW ws = [] := by
          have := prm.length_eq
          rw [show (dedW ws).mergeSort (fun a b => !ltP b a) = L from rfl, z] at this
          exact List.length_eq_zero_iff.mp this.symm
        cases ws with
        | nil => exact ne1 rfl
        | cons a r =>
          have m : keyW a ∈ (dedW (a :: r)).map keyW := (firsts_mem keyW (a :: r) (keyW a)).mpr (by simp)
          rw [z2] at m
          cases m
      have em : emptyQ (.ref G'.length) (.ref (G' ++ [GO.lst ws]).length) ((G' ++ [GO.lst ws]) ++ [GO.lst L]) = none := by
        unfold emptyQ
        dsimp only
        rw [b1, b2]
        cases q1 : ws with
        | nil => exact absurd q1 ne1
        | cons a r => cases q2 : L with
          | nil => exact absurd q2 ne2
          | cons b t => rfl
      have ev : PyData.eqvAll (ws.map encP) (L.map encP) = ascW ws := by
        rw [Bool.eq_iff_iff, eqvAll_P prs pl]
        exact sort_asc prs
      refine ⟨(G' ++ [GO.lst ws]) ++ [GO.lst L], ?_, (Gr.one).trans .one⟩
      have s1 : dCallB listW (dCons (dVar 0) dNil) (slots 2 [.tup ws]) G' = .ok (.ref G'.length) (G' ++ [.lst ws]) := rfl
      have s2 : dSortSet (dVar 0) (slots 2 [.tup ws]) (G' ++ [.lst ws]) = .ok (.ref (G' ++ [GO.lst ws]).length) ((G' ++ [GO.lst ws]) ++ [GO.lst L]) := by
        show sortSetW (.tup ws) (G' ++ [.lst ws]) = _
        unfold sortSetW
        simp only [seqW]
        rw [datEach_P pd]
        dsimp only
        rw [if_pos ⟨tups_fit prs small, sort_fit pd, ap⟩, sortD_P]
      have s3 : eqX (.ref G'.length) (.ref (G' ++ [GO.lst ws]).length) ((G' ++ [GO.lst ws]) ++ [GO.lst L]) = .ok (.bl (ascW ws)) ((G' ++ [GO.lst ws]) ++ [GO.lst L]) := by
        unfold eqX
        rw [em]
        dsimp only
        unfold eqW
        rw [datW_P prs b1, datW_P pl b2]
        dsimp only
        rw [if_pos ⟨shaped_P prs, shaped_P pl⟩]
        show Out.ok (W.bl (PyData.eqv (.list _) (.list _))) _ = _
        rw [show PyData.eqv (.list (ws.map encP)) (.list (L.map encP)) = PyData.eqvAll (ws.map encP) (L.map encP) from by simp only [PyData.eqv], ev]
      unfold Dn.d2 bnd
      rw [s1]
      dsimp only
      rw [s2]
      dsimp only
      unfold noX
      rw [s3]
  | _ =>
    all_goals
      refine Rt.guard (r := .non) (b := true) ?_ (fun _ _ _ => Pu.c) (fun z => by cases z)
      exact Pu.dOr (c := true) (Pu.dNot (Pu.dB hi)) (fun z => by simp [isTup] at z)
theorem asc_range : ∀ (ws : List W), ascW ws = (List.range (ws.length - 1)).all fun k => match ws[k]?, ws[k + 1]? with | some a, some b => ltP a b | _, _ => true
  | [] => rfl
  | [a] => rfl
  | a :: b :: r => by
    have ih := asc_range (b :: r)
    simp only [ascW, ih, List.length_cons, Nat.add_sub_cancel]
    rw [show r.length + 1 = (r.length) + 1 from rfl, List.range_succ_eq_map (n := r.length), List.all_cons, List.all_map]
    rfl
theorem pu_geP {v w : W} (hv : Pr v) (hw : Pr w) : Pu (geD v w) G (.bl (!ltP v w)) := by
  refine ⟨G, ?_, .refl⟩
  unfold geD ordQ
  rw [show datW G v = some (encP v) from hv.dat _, show datW G w = some (encP w) from hw.dat _]
  dsimp only
  obtain ⟨_, d, n⟩ := enc_shaped hv
  rw [if_pos ⟨enc_alike hv hw, n, by omega⟩]
  rfl
theorem law_is_wish_ok (T : Txt Z mg) {w : W} (h : okV Z G 2 w = true) : Pu (f__law_is_wish Z [w]) G (.bl (wishB w)) := by
  refine Pu.def1 rfl ?_
  have ht := okV.ty h
  have hi := pu_isi (Z := Z) (G := G) (σ := slots 3 [w]) (i := 0) (dc := dC (.ty "tuple")) rfl (fun G' => Pu.c) fun G2 g2 => isi_tup T (tyOk.gr g2 ht)
  cases w with
  | tup ws =>
    have hlen := kids_len ht (ws := ws) rfl
    refine Rt.guard (r := .non) (Pu.dOr (Pu.dNot (Pu.dB hi)) fun _ G1 g1 => Pu.dB (pu_isEmpty (ws := ws) rfl)) (fun hb G' g => ?_) fun hb G' g => ?_
    · have : wishB (.tup ws) = false := by
        simp only [isTup, Bool.not_true, Bool.false_or] at hb
        simp only [wishB, hb, Bool.not_true, Bool.false_and]
      rw [this]; exact Pu.c
    simp only [isTup, Bool.not_true, Bool.false_or] at hb
    have loop := for_ret (G := G') (σ := slots 3 [.tup ws]) (g := .n 1) (body := (sIf (dOr (dNot (dB (dCallB (isiW Z.K) (dCons (dVar 1) (dCons (dC (.ty "tuple")) dNil))))) (dOr (dB (d2 (fun x y => noX (neX x y)) (dCallB lenAW (dCons (dVar 1) dNil)) (dC (.int 2)))) (dOr (dNot (dB (dCall (f__law_is_name Z) (dCons (d2 (fun x y => noX (itemW x y)) (dVar 1) (dC (.int 0))) dNil)))) (dNot (dB (dCall (f__law_is_name Z) (dCons (d2 (fun x y => noX (itemW x y)) (dVar 1) (dC (.int 1))) dNil))))))) (sRet (dC (.bl false))) sNext))
      (S := fun σ => ∃ o, σ = [some (.tup ws), o, none]) (σ1 := fun x => [some (.tup ws), some x, none]) (c := fun x => !pairB x) (r := .bl false) (ws := ws) (Fix.tup (Pu.var (i := 0) rfl)) ⟨none, rfl⟩ (fun σ ⟨o, e⟩ x _ => by rw [e]; rfl) (fun x _ => ⟨_, rfl⟩)
    have tst : ∀ x ∈ ws, ∀ G2, Gr G' G2 → ∃ q, Pu ((dOr (dNot (dB (dCallB (isiW Z.K) (dCons (dVar 1) (dCons (dC (.ty "tuple")) dNil))))) (dOr (dB (d2 (fun x y => noX (neX x y)) (dCallB lenAW (dCons (dVar 1) dNil)) (dC (.int 2)))) (dOr (dNot (dB (dCall (f__law_is_name Z) (dCons (d2 (fun x y => noX (itemW x y)) (dVar 1) (dC (.int 0))) dNil)))) (dNot (dB (dCall (f__law_is_name Z) (dCons (d2 (fun x y => noX (itemW x y)) (dVar 1) (dC (.int 1))) dNil)))))))
        [some (.tup ws), some x, none]) G2 q ∧ q = !pairB x := by
      intro x hx G2 g2
      have kx := okV.gr (g.trans g2) 1 (okV.kid h (ws := ws) rfl hx)
      have hi2 := pu_isi (Z := Z) (G := G2) (σ := [some (.tup ws), some x, none]) (i := 1) (dc := dC (.ty "tuple")) rfl (fun G' => Pu.c) fun G3 g3 => isi_tup T (tyOk.gr g3 (okV.ty kx))
      cases x with
      | tup us =>
        have hl : ∀ {G3 : Gh}, Pu (dB (d2 (fun x y => noX (neX x y)) (dCallB lenAW (dCons (dVar 1) dNil)) (dC (.int 2))) [some (.tup ws), some (.tup us), none]) G3 (!((us.length : Int) == 2)) := Pu.dB (Pu.d2 (pu_len rfl) (fun _ _ => Pu.c) fun _ _ => pu_neI _ 2)
        by_cases h2 : us.length = 2
        · match us, h2 with
          | [a, b], _ =>
          refine ⟨_, Pu.dOr (Pu.dNot (Pu.dB hi2)) fun _ G3 g3 => Pu.dOr hl fun _ G4 g4 => Pu.dOr (Pu.dNot (Pu.dB (pu_lname T (ws := [a, b]) (j := 0) rfl rfl (tyOk.gr (g3.trans g4) (okV.ty (kid_at (i := 0) kx rfl)))))) fun _ G5 g5 => Pu.dNot (Pu.dB (pu_lname T (ws := [a, b]) (j := 1) rfl rfl (tyOk.gr ((g3.trans g4).trans g5) (okV.ty (kid_at (i := 1) kx rfl))))), ?_⟩
          simp [isTup, pairB]
        · have e : ((us.length : Int) == 2) = false := beq_eq_false_iff_ne.mpr (by omega)
          rw [e] at hl
          refine ⟨true, Pu.dOr (c := true) (Pu.dNot (Pu.dB hi2)) (fun _ G3 g3 => Pu.dOr (b := true) (c := true) hl (fun z => by cases z)), ?_⟩
          have : pairB (.tup us) = false := by
            match us, h2 with
            | [a, b], h2 => exact absurd rfl h2
            | [], _ => rfl
            | [_], _ => rfl
            | _ :: _ :: _ :: _, _ => rfl
          rw [this]; rfl
      | _ => all_goals exact ⟨_, Pu.dOr (c := true) (Pu.dNot (Pu.dB hi2)) (fun z => by simp [isTup] at z), rfl⟩
    obtain ⟨k1, k2⟩ := loop (fun x hx hc G2 g2 => by
        obtain ⟨q, p, e⟩ := tst x hx G2 g2
        rw [hc] at e; subst e
        exact Rt.ifT p fun _ _ => Rt.ret Pu.c) (fun x hx hc G2 g2 => by
        obtain ⟨q, p, e⟩ := tst x hx G2 g2
        rw [hc] at e; subst e
        exact Nx.ifF p fun _ _ => Nx.next)
    cases q : ws.any fun x => !pairB x with
    | true =>
      have : wishB (.tup ws) = false := by
        have : ws.all pairB = false := by rw [List.all_eq_not_any_not, q]; rfl
        simp only [wishB, this, Bool.and_false, Bool.false_and]
      rw [this]
      exact Rt.seq1 (k1 q)
    | false =>
      have hall : ws.all pairB = true := by rw [List.all_eq_not_any_not, q]; rfl
      have prs : ∀ w ∈ ws, Pr w := fun x hx => pair_Pr (okV.kid h (ws := ws) rfl hx) (List.all_eq_true.mp hall x hx)
      obtain ⟨σ', ⟨o, rfl⟩, nx⟩ := k2 q
      refine Rt.seq2 nx fun G2 g2 => Rt.ret ?_
      have e0 : wishB (.tup ws) = !((List.range (ws.length - 1)).map fun k : Nat => W.int (k : Int)).any fun w => match w with | .int k => !(match ws[k.toNat]?, ws[k.toNat + 1]? with | some a, some b => ltP a b | _, _ => true) | _ => false := by
        simp only [wishB, hb, hall, Bool.not_false, Bool.true_and, asc_range, List.any_map, List.all_eq_not_any_not]
        rfl
      rw [e0]
      have e1 : ((ws.length : Int) - 1).toNat = ws.length - 1 := by omega
      have fx := Fix.range (G := G2) (σ := [some (.tup ws), o, none]) (d := dCons (d2 (fun x y => noX (subW x y)) (dCallB lenAW (dCons (dVar 0) dNil)) (dC (.int 1))) dNil) (j := (ws.length : Int) - 1) (Pu.cons (Pu.d2 (pu_len (ws := ws) rfl) (fun _ _ => Pu.c) fun G' _ => ⟨G', rfl, .refl⟩) fun _ _ => Pu.nil) (by omega) (by omega)
      rw [e1] at fx
      refine pu_lcEq _ id (fun w' => [some (.tup ws), o, some w']) fx (fun w' _ => rfl) (by simp; omega) (fun w' hw G3 g3 => ?_) fun w' hw hp G3 g3 => Pu.var rfl
      obtain ⟨k, hk, rfl⟩ := List.mem_map.mp hw
      have hk : k < ws.length - 1 := List.mem_range.mp hk
      have a1 : ws[k]? = some ws[k] := List.getElem?_eq_getElem (by omega)
      have a2 : ws[k + 1]? = some ws[k + 1] := List.getElem?_eq_getElem (by omega)
      simp only [Int.toNat_natCast, a1, a2]
      refine Pu.dB (Pu.d2 (Pu.d2 (Pu.var (i := 0) rfl) (fun _ _ => Pu.var (i := 2) rfl) fun _ _ => pu_itemT a1) (fun _ _ => Pu.d2 (Pu.var (i := 0) rfl) (fun _ _ => Pu.d2 (Pu.var (i := 2) rfl) (fun _ _ => Pu.c) fun G' _ => ⟨G', rfl, .refl⟩) fun _ _ => pu_itemT (i := k + 1) a2) fun _ _ => pu_geP (prs _ (List.getElem_mem _)) (prs _ (List.getElem_mem _)))
  | _ =>
    all_goals
      refine Rt.guard (r := .non) (b := true) ?_ (fun _ _ _ => Pu.c) (fun z => by cases z)
      exact Pu.dOr (c := true) (Pu.dNot (Pu.dB hi)) (fun z => by simp [isTup] at z)
end
end K11
end
section
set_option linter.all false
set_option Elab.async false
set_option maxRecDepth 100000
set_option maxHeartbeats 4000100
namespace K11
open PySem L2 Dn
section
variable {M : Nat → Bool} {b : Nat} {G0 G : Gh} {f S k : Nat} {σ : Dn.Loc} {d : DE} {Z : Adr}
theorem sorted_ok {n : Nat} {ws : List W} (g : G[n]? = some (.lst ws)) (hP : ∀ w ∈ ws, pairStr w = true) (hl : ws.length ≤ 1000) : sortedW [.ref n] G = .ok (.ref G.length) (G ++ [.lst (ws.mergeSort fun a b => !ltP b a)]) := by
  have hp : ∀ w ∈ ws, Pr w := fun w hw => Pr_of (hP w hw)
  unfold sortedW
  dsimp only
  rw [g]
  dsimp only
  unfold sortedL
  rw [datEach_P hp]
  dsimp only
  rw [if_pos ⟨sort_fit hp, by omega⟩, sortD_P]
theorem ea_sorted (K : Msk M b G0) (h : EA M b G0 (d σ) (LPu M (fun w => pairStr w = true) k)) (hk : k ≤ 1000 := by decide) : EA M b G0 (dCallB sortedW (dCons d dNil) σ) (LPu M (fun w => pairStr w = true) k) := EA.cb1 h fun w G st B ⟨n, ws, e, hm, g, l, a⟩ => by
  subst e
  have pm := List.mergeSort_perm ws (fun a b => !ltP b a)
  exact ⟨.ref G.length, _, sorted_ok g a (by omega), Gr.one.stp, B.gr .one, G.length, ws.mergeSort fun a b => !ltP b a, rfl, (K.le st.1).new (Nat.le_refl _), by simp, by rw [pm.length_eq]; exact l, fun w hw => a w (pm.mem_iff.mp hw)⟩
theorem ea_pair {e : DE} (h1 : EA M b G0 (d σ) fun w _ => strB w = true) (h2 : EA M b G0 (e σ) fun w _ => strB w = true) : EA M b G0 (dTup (dCons d (dCons e dNil)) σ) fun w _ => pairStr w = true := fun G st B => by
  obtain ⟨x, G1, e1, st1, B1, p1⟩ := h1 G st B
  obtain ⟨y, G2, e2, st2, B2, p2⟩ := h2 G1 (st.trans st1) B1
  refine ⟨.tup [x, y], G2, ?_, st1.trans st2, B2, pair_of p1 p2⟩
  unfold dTup dCons dNil Dn.bnd
  rw [e1]; dsimp only
  rw [e2]
  rfl
def atomsB (ws : List W) : Bool := ws.all atomB
theorem thing_ok (K : Msk M b G0) : EA M b G0 (f__law_drawn_thing Z [.ref b]) fun w G => GV M G 3 40 w := by
  refine EA.def1 rfl ?_
  show RA M b G0 (d__law_drawn_thing Z) [some (.ref b), none, none, none, none, none] _
  unfold d__law_drawn_thing
  refine RA.asg (ea_takeC K rfl) fun way G1 st1 ⟨v, hv, e⟩ => ?_
  subst e
  have K1 := K.le st1.1
  refine RA.asg (P := LPu M (fun w => strB w = true) 5) (EA.lcR K1 (by simp [wipeD]) (by decide) (EA.mono (EA.arg1 (ea_takeC (n := 5) K1 rfl)) fun ws _ _ _ ⟨w, e, v, hv, e2⟩ => ⟨v, by omega, by rw [e, e2]⟩) fun k => ea_name K1 rfl) fun some2 G2 st2 h2 => ?_
  have K2 := K1.le st2.1
  refine RA.gd (T := fun _ _ => True) (EA.test (EA.ltI (EA.varI rfl ⟨_, rfl⟩) EA.int)) (fun G3 st3 _ => ?_) (fun G3 st3 _ => ?_)
  · have h3 := h2.stp st3
    refine RA.ret (EA.if (T := fun _ _ => True) (EA.test (EA.eqI (EA.varI rfl ⟨_, rfl⟩) EA.int)) fun c G4 st4 _ => ?_)
    have h4 := h3.stp st4
    have v2 : EA M b G4 (dVar 2 [some (.ref b), some (.int v), some some2, none, none, none]) (LPu M (fun w => strB w = true) 5) := EA.var rfl fun G st => h4.stp st
    cases c with
    | true => exact v2.mono fun w G _ _ p => p.gv (f := 0) (S := 1) fun w M G h => atomB.gv (strB.atom h)
    | false => exact EA.tupP (f := 0) (S := 1) v2 fun w M G h => atomB.gv (strB.atom h)
  · have h3 := h2.stp st3
    have K3 := K2.le st3.1
    refine RA.gd (T := fun _ _ => True) (EA.test (EA.ltI (EA.varI rfl ⟨_, rfl⟩) EA.int)) (fun G4 st4 _ => ?_) (fun G4 st4 _ => ?_)
    · have K4 := K3.le st4.1
      refine RA.asg (P := LPu M (fun w => pairStr w = true) 4) (EA.lcR K4 (by simp [wipeD]) (by decide) (EA.mono (EA.arg1 (ea_takeC (n := 4) K4 rfl)) fun ws _ _ _ ⟨w, e, v, hv, e2⟩ => ⟨v, by omega, by rw [e, e2]⟩) fun k => ea_pair (ea_name K4 rfl) (ea_name K4 rfl)) fun rows G5 st5 h5 => ?_
      refine RA.ret (EA.tupP (f := 1) (S := 3) (k := 4) (A := fun w => pairStr w = true) (EA.if (T := fun _ _ => True) (EA.test (EA.eqI (EA.varI rfl ⟨_, rfl⟩) EA.int)) fun c G6 st6 _ => ?_) fun w M G h => pairStr.gv h)
      have K6 := (K4.le st5.1).le st6.1
      have v3 : EA M b G6 (dVar 3 [some (.ref b), some (.int v), some some2, some rows, none, none]) (LPu M (fun w => pairStr w = true) 4) := EA.var rfl fun G st => (h5.stp st6).stp st
      cases c with
      | true => exact ea_sorted K6 v3
      | false => exact v3
    · have K4 := K3.le st4.1
      have h4 := h3.stp st4
      refine RA.asg (P := fun w _ => atomB w = true) (ea_oneC K4 (ws := [.str "call", .str "hand", .str "throw", .str "step", .str "CALL", .int 0]) (A := fun w => atomB w = true) rfl (fun _ => rfl) (by decide) (by decide) (fun w hw => List.all_eq_true.mp (show atomsB [.str "call", .str "hand", .str "throw", .str "step", .str "CALL", .int 0] = true by decide +kernel) w hw)) fun word G5 st5 h5 => ?_
      have K5 := K4.le st5.1
      have v2 : EA M b G5 (dVar 2 [some (.ref b), some (.int v), some some2, none, some word, none]) (LPu M (fun w => strB w = true) 5) := EA.var rfl fun G st => (h4.stp st5).stp st
      refine RA.ret (EA.tupP (f := 0) (S := 1) (k := 9) (A := fun w => atomB w = true) (EA.addP K5 (k := 1) (k' := 8) (EA.lstP K5 (EA.ok (a := [word]) fun G st => ⟨rfl, Nat.le_refl _, fun w hw => by rw [List.mem_singleton.mp hw]; exact h5⟩)) (EA.mono (EA.cutP K5 (EA.addP K5 (k := 5) (k' := 3) v2 (EA.lstP K5 (EA.ok (a := [.str "ann", .str "bob", .str "cup"]) fun G st => ⟨rfl, Nat.le_refl _, fun w hw => List.all_eq_true.mp (show [W.str "ann", .str "bob", .str "cup"].all strB = true by decide +kernel) w hw⟩))) ?_) fun w G _ _ p => p.kind (fun w h => strB.atom h) (Nat.le_refl _))) fun w M G h => atomB.gv h)
      exact EA.mono (ea_oneC K5 (ws := [.int 1, .int 3, .int 3, .int 3, .int 2, .int 4]) (A := fun w => ∃ i, w = .int i) rfl (fun _ => rfl) (by decide) (by decide) (by simp)) fun w G _ _ p => p
end
end K11
end
section
set_option linter.all false
set_option Elab.async false
set_option maxRecDepth 100000
set_option maxHeartbeats 4000100
namespace K11
open PySem L2 Dn
section
variable {M : Nat → Bool} {b : Nat} {G0 G : Gh} {f S k : Nat} {σ : Dn.Loc} {d : DE} {Z : Adr}
theorem rept_zero : ∀ n : Nat, (rept [W.int 0] n).length = n ∧ ∀ w ∈ rept [W.int 0] n, w = .int 0
  | 0 => ⟨rfl, fun w h => by cases h⟩
  | n + 1 => by
    obtain ⟨l, a⟩ := rept_zero n
    refine ⟨by unfold rept; rw [List.length_append, l]; simp; omega, fun w h => ?_⟩
    unfold rept at h
    obtain h | h := List.mem_append.mp h
    · exact List.mem_singleton.mp h
    · exact a w h
theorem ea_zeros (K : Msk M b G0) (hf : 1 ≤ f := by decide) (hs : 901 ≤ S := by decide) : EA M b G0 (d2 (fun x y => noX (mulW x y)) (dLst (dCons (dC (.int 0)) dNil)) (dC (.int 900)) σ) fun w G => GV M G f S w :=
  EA.op (P1 := LPu M (fun w => w = .int 0) 1) (P2 := fun w _ => w = .int 900) (EA.lstP K (EA.ok (a := [.int 0]) fun G st => ⟨rfl, Nat.le_refl _, fun w h => List.mem_singleton.mp h⟩)) (fun _ _ _ p st => p.stp st) (EA.ok fun G st => ⟨rfl, rfl⟩) fun x y G st B ⟨n, ws, e, hm, g, l, a⟩ e2 => by
    subst e; subst e2
    have ms : ∀ us : List W, (∀ w ∈ us, w = .int 0) → ∀ n, ∀ w ∈ rept us n, w = .int 0 := fun us h n => by
      induction n with
      | zero => intro w h; cases h
      | succ n ih =>
        intro w hw
        unfold rept at hw
        obtain hw | hw := List.mem_append.mp hw
        · exact h w hw
        · exact ih w hw
    have ml : ∀ us : List W, us.length ≤ 1 → ∀ n, (rept us n).length ≤ n := fun us h n => by
      induction n with
      | zero => exact Nat.le_refl _
      | succ n ih => unfold rept; rw [List.length_append]; omega
    have h0 := ms ws a 900
    have h1 := ml ws l 900
    refine ⟨.ref G.length, G ++ [.lst (rept ws 900)], ?_, Gr.one.stp, B.gr .one, ?_⟩
    · unfold mulW
      dsimp only
      rw [g]
      exact if_pos ⟨by decide, by decide, by have : (900 : Int).toNat = 900 := rfl; rw [this]; omega⟩
    · have e : (G ++ [GO.lst (rept ws 900)])[G.length]? = some (.lst (rept ws 900)) := by simp
      refine (GV.lst (f := 0) (s := 900) e ((K.le st.1).new (Nat.le_refl _)) ?_ ?_).mono hf hs
      · exact (GVs.each (S := 1) fun w hw => by rw [h0 w hw]; exact atomB.gv (by decide +kernel)).mono (Nat.le_refl _) (by omega)
      · unfold wide
        rw [Bool.or_eq_true, Bool.and_eq_true]
        refine .inr ⟨List.all_eq_true.mpr fun w hw => by rw [h0 w hw]; rfl, decide_eq_true (by omega)⟩
theorem EA.atom {w : W} (h : atomB w = true) (hs : 1 ≤ S := by decide) : EA M b G0 (dC w σ) fun w G => GV M G f S w := EA.ok fun G st => ⟨rfl, (atomB.gv h).mono (Nat.le_refl _) hs⟩
theorem EA.exA {w : W} (e : ∀ G, d σ G = .ok w G) (h : atomB w = true) (hs : 1 ≤ S := by decide) : EA M b G0 (d σ) fun w G => GV M G f S w := EA.ok fun G st => ⟨e G, (atomB.gv h).mono (Nat.le_refl _) hs⟩

def rows5 : List W := [.tup [.str "a", .str "b"], .tup [.str "a", .str "cup"], .tup [.str "b", .str "a"], .tup [.str "cup", .str "z"], .tup [.str "x", .str "x"]]
theorem rows5_ok : ∀ w ∈ rows5, pairStr w = true := fun w hw => List.all_eq_true.mp (show rows5.all pairStr = true by decide +kernel) w hw
theorem near_ok (K0 : Msk M b G0) : EA M b G0 (f__law_near_one Z [.ref b]) fun w G => GV M G 3 40 w := by
  refine EA.def1 rfl ?_
  show RA M b G0 (d__law_near_one Z) [some (.ref b), none, none] _
  unfold d__law_near_one
  refine RA.asg (P := LPu M (fun w => pairStr w = true) 5) (EA.cutP K0 (ea_sorted K0 (EA.lstP K0 (EA.ok (a := rows5) fun G st => ⟨rfl, Nat.le_refl _, rows5_ok⟩))) (EA.addI EA.int (EA.nat (ea_takeC (n := 5) K0 rfl)))) fun rows G1 st1 h1 => ?_
  have K := K0.le st1.1
  refine RA.asg (P := LL M 3 16 3) (EA.lst K (f := 3) (S := 16) (k := 3) (EA.cons (EA.tup (f := 0) (S := 1) (k := 4) (EA.cons (EA.atom (by decide +kernel)) (EA.cons (EA.atom (by decide +kernel)) (EA.cons (EA.atom (by decide +kernel)) (EA.cons (EA.atom (by decide +kernel)) EA.nil))))) (EA.cons (EA.tup (f := 0) (S := 1) (k := 4) (EA.cons (EA.atom (by decide +kernel)) (EA.cons (EA.atom (by decide +kernel)) (EA.cons (EA.atom (by decide +kernel)) (EA.cons (EA.atom (by decide +kernel)) EA.nil))))) (EA.cons (EA.tup (f := 0) (S := 1) (k := 4) (EA.cons (EA.atom (by decide +kernel)) (EA.cons (EA.atom (by decide +kernel)) (EA.cons (EA.atom (by decide +kernel)) (EA.cons (EA.atom (by decide +kernel)) EA.nil))))) EA.nil)))) fun w2 G2 st2 h2 => ?_
  replace K := K.le st2.1
  refine RA.asg (P := LL M 3 16 9) (EA.add K (k := 3) (k' := 6) (EA.var rfl fun _ st => h2.stp st) (EA.lst K (f := 3) (S := 16) (k := 6) (EA.cons (EA.tup (f := 0) (S := 1) (k := 4) (EA.cons (EA.atom (by decide +kernel)) (EA.cons (EA.atom (by decide +kernel)) (EA.cons (EA.atom (by decide +kernel)) (EA.cons (EA.atom (by decide +kernel)) EA.nil))))) (EA.cons (EA.tup (f := 1) (S := 3) (k := 1) (EA.cons (EA.tup (f := 0) (S := 1) (k := 2) (EA.cons (EA.atom (by decide +kernel)) (EA.cons (EA.atom (by decide +kernel)) EA.nil))) EA.nil)) (EA.cons (EA.tup (f := 1) (S := 3) (k := 1) (EA.cons (EA.tup (f := 0) (S := 1) (k := 2) (EA.cons (EA.atom (by decide +kernel)) (EA.cons (EA.atom (by decide +kernel)) EA.nil))) EA.nil)) (EA.cons (EA.tup (f := 0) (S := 1) (k := 2) (EA.cons (EA.atom (by decide +kernel)) (EA.cons (EA.atom (by decide +kernel)) EA.nil))) (EA.cons (EA.up (f := 2) (S := 16) (EA.tupP (f := 1) (S := 3) (k := 5) (A := fun w => pairStr w = true) (EA.var rfl fun _ st => (h1.stp (st2)).stp st) fun w M G h => pairStr.gv h)) (EA.cons (EA.up (f := 2) (S := 16) (EA.tupP (f := 1) (S := 3) (k := 5) (A := fun w => pairStr w = true) (EA.var rfl fun _ st => (h1.stp (st2)).stp st) fun w M G h => pairStr.gv h)) EA.nil)))))))) fun w3 G3 st3 h3 => ?_
  replace K := K.le st3.1
  refine RA.asg (P := LL M 3 16 13) (EA.add K (k := 9) (k' := 4) (EA.var rfl fun _ st => h3.stp st) (EA.lst K (f := 3) (S := 16) (k := 4) (EA.cons (EA.tup (f := 0) (S := 1) (k := 4) (EA.cons (EA.atom (by decide +kernel)) (EA.cons (EA.atom (by decide +kernel)) (EA.cons (EA.atom (by decide +kernel)) (EA.cons (EA.atom (by decide +kernel)) EA.nil))))) (EA.cons (EA.tup (f := 0) (S := 1) (k := 4) (EA.cons (EA.atom (by decide +kernel)) (EA.cons (EA.atom (by decide +kernel)) (EA.cons (EA.atom (by decide +kernel)) (EA.cons (EA.atom (by decide +kernel)) EA.nil))))) (EA.cons (EA.tup (f := 0) (S := 1) (k := 4) (EA.cons (EA.atom (by decide +kernel)) (EA.cons (EA.atom (by decide +kernel)) (EA.cons (EA.atom (by decide +kernel)) (EA.cons (EA.atom (by decide +kernel)) EA.nil))))) (EA.cons (EA.tup (f := 0) (S := 1) (k := 4) (EA.cons (EA.atom (by decide +kernel)) (EA.cons (EA.atom (by decide +kernel)) (EA.cons (EA.atom (by decide +kernel)) (EA.cons (EA.atom (by decide +kernel)) EA.nil))))) EA.nil)))))) fun w4 G4 st4 h4 => ?_
  replace K := K.le st4.1
  refine RA.asg (P := LL M 3 16 18) (EA.add K (k := 13) (k' := 5) (EA.var rfl fun _ st => h4.stp st) (EA.lst K (f := 3) (S := 16) (k := 5) (EA.cons (EA.tup (f := 0) (S := 1) (k := 2) (EA.cons (EA.atom (by decide +kernel)) (EA.cons (EA.atom (by decide +kernel)) EA.nil))) (EA.cons (EA.tup (f := 0) (S := 1) (k := 1) (EA.cons (EA.atom (by decide +kernel)) EA.nil)) (EA.cons (EA.tup (f := 0) (S := 1) (k := 3) (EA.cons (EA.atom (by decide +kernel)) (EA.cons (EA.atom (by decide +kernel)) (EA.cons (EA.atom (by decide +kernel)) EA.nil)))) (EA.cons (EA.tup (f := 0) (S := 1) (k := 2) (EA.cons (EA.atom (by decide +kernel)) (EA.cons (EA.atom (by decide +kernel)) EA.nil))) (EA.cons (EA.tup (f := 1) (S := 3) (k := 1) (EA.cons (EA.gv (f := 0) (S := 1) (k := 2) (EA.lst K (EA.cons (EA.atom (by decide +kernel)) (EA.cons (EA.atom (by decide +kernel)) EA.nil)))) EA.nil)) EA.nil))))))) fun w5 G5 st5 h5 => ?_
  replace K := K.le st5.1
  refine RA.asg (P := LL M 3 16 22) (EA.add K (k := 18) (k' := 4) (EA.var rfl fun _ st => h5.stp st) (EA.lst K (f := 3) (S := 16) (k := 4) (EA.cons (EA.tup (f := 2) (S := 5) (k := 1) (EA.cons (EA.tup (f := 1) (S := 2) (k := 2) (EA.cons (EA.atom (by decide +kernel)) (EA.cons (EA.gv (f := 0) (S := 1) (k := 1) (EA.lst K (EA.cons (EA.atom (by decide +kernel)) EA.nil))) EA.nil))) EA.nil)) (EA.cons (EA.tup (f := 1) (S := 3) (k := 2) (EA.cons (EA.tup (f := 0) (S := 1) (k := 2) (EA.cons (EA.atom (by decide +kernel)) (EA.cons (EA.atom (by decide +kernel)) EA.nil))) (EA.cons (EA.tup (f := 0) (S := 1) (k := 2) (EA.cons (EA.atom (by decide +kernel)) (EA.cons (EA.atom (by decide +kernel)) EA.nil))) EA.nil))) (EA.cons (EA.tup (f := 2) (S := 5) (k := 1) (EA.cons (EA.tup (f := 1) (S := 2) (k := 2) (EA.cons (EA.gv (f := 0) (S := 1) (k := 1) (EA.lst K (EA.cons (EA.atom (by decide +kernel)) EA.nil))) (EA.cons (EA.atom (by decide +kernel)) EA.nil))) EA.nil)) (EA.cons (EA.tup (f := 1) (S := 2) (k := 4) (EA.cons (EA.atom (by decide +kernel)) (EA.cons (EA.atom (by decide +kernel)) (EA.cons (EA.gv (f := 0) (S := 1) (k := 1) (EA.lst K (EA.cons (EA.atom (by decide +kernel)) EA.nil))) (EA.cons (EA.atom (by decide +kernel)) EA.nil))))) EA.nil)))))) fun w6 G6 st6 h6 => ?_
  replace K := K.le st6.1
  exact RA.ret (EA.up (f := 3) (S := 16) (ea_one K rfl (k := 24) (EA.add K (k := 22) (k' := 2) (EA.var rfl fun _ st => h6.stp st) (EA.lst K (f := 3) (S := 16) (k := 2) (EA.cons (EA.tup (f := 1) (S := 3) (k := 2) (EA.cons (EA.tup (f := 0) (S := 1) (k := 2) (EA.cons (EA.atom (by decide +kernel)) (EA.cons (EA.atom (by decide +kernel)) EA.nil))) (EA.cons (EA.gv (f := 0) (S := 1) (k := 2) (EA.lst K (EA.cons (EA.atom (by decide +kernel)) (EA.cons (EA.atom (by decide +kernel)) EA.nil)))) EA.nil))) (EA.cons (EA.tup (f := 1) (S := 3) (k := 2) (EA.cons (EA.tup (f := 0) (S := 1) (k := 2) (EA.cons (EA.atom (by decide +kernel)) (EA.cons (EA.atom (by decide +kernel)) EA.nil))) (EA.cons (EA.tup (f := 0) (S := 1) (k := 2) (EA.cons (EA.atom (by decide +kernel)) (EA.cons (EA.atom (by decide +kernel)) EA.nil))) EA.nil))) EA.nil))))))

def OddR (M : Nat → Bool) (b k : Nat) (σ : Dn.Loc) (G : Gh) : Prop := ∃ w x, σ = [some (.ref b), some w, x, none] ∧ GV M G (k + 1) (k + 1) w
theorem odd_ok (K0 : Msk M b G0) : EA M b G0 (f__law_odd Z [.ref b]) fun w G => GV M G 6 1000 w := by
  refine EA.def1 rfl ?_
  show RA M b G0 (d__law_odd Z) [some (.ref b), none, none, none] _
  unfold d__law_odd
  have K := K0
  refine RA.asg (P := fun w G => GV M G 1 1 w) (ea_one K rfl (k := 4) (EA.lst K (f := 1) (S := 1) (k := 4) (EA.cons (EA.gv (f := 0) (S := 1) (k := 0) (EA.lst K EA.nil)) (EA.cons (EA.dnew K) (EA.cons (EA.tup (f := 0) (S := 1) (k := 0) EA.nil) (EA.cons (EA.atom (by decide +kernel)) EA.nil)))))) fun deep G1 st1 h1 => ?_
  have K1 := K0.le st1.1
  refine RA.nx (R := fun σ G => OddR M b 5 σ G) (NA.range (R := OddR M b) (by decide) (fun G st => ⟨deep, none, rfl, h1.stp st⟩) (fun k σ G ⟨w, x, e, _⟩ => by rw [e]; simp) fun k σ G hk ⟨w, x, e, h⟩ st => ?_) fun σ2 G2 st2 ⟨deep2, x, e, h2⟩ => ?_
  · subst e
    have K2 := K1.le st.1
    refine NA.asg (P := fun w G => GV M G (k + 2) (k + 2) w) (EA.if (T := fun _ _ => True) (EA.test (EA.eqI (EA.nat (ea_takeC (n := 2) K2 rfl)) EA.int)) fun c G3 st3 _ => ?_) fun w' G3 st3 h3 => ⟨w', some (.int k), rfl, h3⟩
    have K := K2.le st3.1
    have v : EA M b G3 (dVar 1 [some (.ref b), some w, some (.int k), none]) fun w G => GV M G (k + 1) (k + 1) w := EA.var rfl fun G st => (h.stp st3).stp st
    cases c with
    | true => exact EA.gv (f := k + 1) (S := k + 1) (k := 1) (EA.lst K (EA.cons v EA.nil)) (by decide) (Nat.le_refl _) (by omega)
    | false => exact EA.tup (f := k + 1) (S := k + 1) (k := 1) (EA.cons v EA.nil) (by decide) (Nat.le_refl _) (by omega)
  subst e
  replace K := K1.le st2.1
  refine RA.asg (P := LL M 6 1000 17) (EA.lst K (f := 6) (S := 1000) (k := 17) (EA.cons (EA.atom (by decide +kernel)) (EA.cons (EA.atom (by decide +kernel)) (EA.cons (EA.atom (by decide +kernel)) (EA.cons (EA.atom (by decide +kernel)) (EA.cons (EA.atom (by decide +kernel)) (EA.cons (EA.exA (fun _ => rfl) (by decide +kernel)) (EA.cons (EA.atom (by decide +kernel)) (EA.cons (EA.atom (by decide +kernel)) (EA.cons (EA.exA (fun _ => rfl) (by decide +kernel)) (EA.cons (EA.exA (fun _ => rfl) (by decide +kernel)) (EA.cons (EA.atom (by decide +kernel)) (EA.cons (EA.atom (by decide +kernel)) (EA.cons (EA.atom (by decide +kernel)) (EA.cons (EA.atom (by decide +kernel)) (EA.cons (EA.atom (by decide +kernel)) (EA.cons (EA.atom (by decide +kernel)) (EA.cons (EA.atom (by decide +kernel)) EA.nil)))))))))))))))))) fun w3 G3 st3 h3 => ?_
  replace K := K.le st3.1
  refine RA.asg (P := LL M 6 1000 31) (EA.add K (k := 17) (k' := 14) (EA.var rfl fun _ st => h3.stp st) (EA.lst K (f := 6) (S := 1000) (k := 14) (EA.cons (EA.atom (by decide +kernel)) (EA.cons (EA.atom (by decide +kernel)) (EA.cons (EA.gv (f := 0) (S := 1) (k := 0) (EA.lst K EA.nil)) (EA.cons (EA.tup (f := 0) (S := 1) (k := 0) EA.nil) (EA.cons (EA.dnew K) (EA.cons (EA.gv (f := 0) (S := 1) (k := 1) (EA.lst K (EA.cons (EA.atom (by decide +kernel)) EA.nil))) (EA.cons (EA.tup (f := 0) (S := 1) (k := 1) (EA.cons (EA.atom (by decide +kernel)) EA.nil)) (EA.cons (EA.gv (f := 0) (S := 1) (k := 1) (EA.lst K (EA.cons (EA.atom (by decide +kernel)) EA.nil))) (EA.cons (EA.tup (f := 0) (S := 1) (k := 1) (EA.cons (EA.atom (by decide +kernel)) EA.nil)) (EA.cons (EA.gv (f := 1) (S := 2) (k := 1) (EA.lst K (EA.cons (EA.gv (f := 0) (S := 1) (k := 1) (EA.lst K (EA.cons (EA.atom (by decide +kernel)) EA.nil))) EA.nil))) (EA.cons (EA.tup (f := 1) (S := 2) (k := 1) (EA.cons (EA.tup (f := 0) (S := 1) (k := 1) (EA.cons (EA.atom (by decide +kernel)) EA.nil)) EA.nil)) (EA.cons (EA.disp1 K (if_pos (by decide +kernel)) (if_pos (by decide +kernel)) (by decide +kernel)) (EA.cons (EA.disp1 K (if_pos (by decide +kernel)) (if_pos (by decide +kernel)) (by decide +kernel)) (EA.cons (EA.up (f := 6) (S := 6) (EA.var rfl fun _ st => (h2.stp (st3)).stp st)) EA.nil)))))))))))))))) fun w4 G4 st4 h4 => ?_
  replace K := K.le st4.1
  refine RA.asg (P := LL M 6 1000 36) (EA.add K (k := 31) (k' := 5) (EA.var rfl fun _ st => h4.stp st) (EA.lst K (f := 6) (S := 1000) (k := 5) (EA.cons (EA.tup (f := 1) (S := 1) (k := 6) (EA.cons (EA.atom (by decide +kernel)) (EA.cons (EA.atom (by decide +kernel)) (EA.cons (EA.atom (by decide +kernel)) (EA.cons (EA.atom (by decide +kernel)) (EA.cons (EA.atom (by decide +kernel)) (EA.cons (EA.tup (f := 0) (S := 1) (k := 0) EA.nil) EA.nil))))))) (EA.cons (EA.tup (f := 0) (S := 1) (k := 2) (EA.cons (EA.atom (by decide +kernel)) (EA.cons (EA.atom (by decide +kernel)) EA.nil))) (EA.cons (EA.tup (f := 1) (S := 3) (k := 1) (EA.cons (EA.tup (f := 0) (S := 1) (k := 2) (EA.cons (EA.atom (by decide +kernel)) (EA.cons (EA.atom (by decide +kernel)) EA.nil))) EA.nil)) (EA.cons (EA.gv (f := 1) (S := 3) (k := 1) (EA.lst K (EA.cons (EA.tup (f := 0) (S := 1) (k := 2) (EA.cons (EA.atom (by decide +kernel)) (EA.cons (EA.atom (by decide +kernel)) EA.nil))) EA.nil))) (EA.cons (EA.tup (f := 0) (S := 1) (k := 4) (EA.cons (EA.atom (by decide +kernel)) (EA.cons (EA.atom (by decide +kernel)) (EA.cons (EA.atom (by decide +kernel)) (EA.cons (EA.atom (by decide +kernel)) EA.nil))))) EA.nil))))))) fun w5 G5 st5 h5 => ?_
  replace K := K.le st5.1
  exact RA.ret (ea_one K rfl (k := 41) (EA.add K (k := 36) (k' := 5) (EA.var rfl fun _ st => h5.stp st) (EA.lst K (f := 6) (S := 1000) (k := 5) (EA.cons (EA.tup (f := 0) (S := 1) (k := 4) (EA.cons (EA.atom (by decide +kernel)) (EA.cons (EA.atom (by decide +kernel)) (EA.cons (EA.atom (by decide +kernel)) (EA.cons (EA.atom (by decide +kernel)) EA.nil))))) (EA.cons (EA.tup (f := 0) (S := 1) (k := 2) (EA.cons (EA.atom (by decide +kernel)) (EA.cons (EA.atom (by decide +kernel)) EA.nil))) (EA.cons (ea_zeros K) (EA.cons (EA.gv (f := 0) (S := 1) (k := 2) (EA.lst K (EA.cons (EA.atom (by decide +kernel)) (EA.cons (EA.atom (by decide +kernel)) EA.nil)))) (EA.cons (EA.tup (f := 0) (S := 1) (k := 2) (EA.cons (EA.atom (by decide +kernel)) (EA.cons (EA.atom (by decide +kernel)) EA.nil))) EA.nil))))))))

end
end K11
end
section
set_option linter.all false
set_option Elab.async false
set_option maxRecDepth 100000
set_option maxHeartbeats 4000100
namespace K11
open PySem L2 Dn
section
variable {M M' : Nat → Bool} {b : Nat} {G0 G G' : Gh} {f S k s : Nat} {σ : Dn.Loc} {d : DE} {Z : Adr} {mg : Str → Option Value} {w : W} {ws : List W}
theorem wide_len (h : wide ws = true) : ws.length < 1000 := by
  unfold wide at h
  rw [Bool.or_eq_true, Bool.and_eq_true, decide_eq_true_eq, decide_eq_true_eq] at h
  omega
theorem okStr_ty {x : Str} (h : okStr x = true) : (PyData.strOk x && decide (x.length ≤ 16777216)) = true := by
  unfold okStr at h
  rw [Bool.and_eq_true, Bool.and_eq_true, decide_eq_true_eq] at h
  rw [Bool.and_eq_true, decide_eq_true_eq]
  exact ⟨h.1.1, by omega⟩
theorem gv_ty (h : GV M G f s w) : tyOk Z G w = true := by
  obtain ⟨n, e, _⟩ := h
  cases w with
  | non => rfl
  | bl _ => rfl
  | int _ => rfl
  | str x =>
    by_cases hx : okStr x = true
    · exact okStr_ty hx
    · cases f <;> · unfold szV at e; rw [if_neg hx] at e; cases e
  | tup us =>
    cases f with
    | zero => cases e
    | succ f =>
      unfold szV at e
      by_cases hw : wide us = true
      · have := wide_len hw
        apply decide_eq_true; omega
      · rw [if_neg hw] at e; cases e
  | ref i =>
    cases f with
    | zero => cases e
    | succ f =>
      unfold szV at e
      by_cases hm : M i = true
      · rw [if_pos hm] at e; cases e
      · rw [if_neg hm] at e
        simp only [tyOk]
        cases e2 : G[i]? with
        | none => rw [e2] at e; cases e
        | some o =>
          rw [e2] at e
          cases o with
          | lst us =>
            dsimp only at e ⊢
            by_cases hw : wide us = true
            · have := wide_len hw
              apply decide_eq_true; omega
            · rw [if_neg hw] at e; cases e
          | dct _ _ => rfl
          | ins _ _ => cases e
          | rsv => cases e
  | rol _ => cases f <;> cases e
  | ty _ => cases f <;> cases e
  | obj _ => cases f <;> cases e
theorem gv_kids (h : GV M G f s w) (e : kids w G = some ws) : ∃ f', f = f' + 1 ∧ wide ws = true ∧ GVs M G f' s ws := by
  obtain ⟨n, e1, l⟩ := h
  cases w with
  | tup us =>
    cases e
    cases f with
    | zero => cases e1
    | succ f =>
      unfold szV at e1
      by_cases hw : wide ws = true
      · rw [if_pos hw] at e1
        rcases Option.map_eq_some_iff.mp e1 with ⟨a, e2, rfl⟩
        exact ⟨f, rfl, hw, a, e2, by omega⟩
      · rw [if_neg hw] at e1; cases e1
  | ref i =>
    simp only [kids] at e
    cases f with
    | zero => cases e1
    | succ f =>
      unfold szV at e1
      by_cases hm : M i = true
      · rw [if_pos hm] at e1; cases e1
      · rw [if_neg hm] at e1
        cases e2 : G[i]? with
        | none => rw [e2] at e; cases e
        | some o =>
          rw [e2] at e e1
          cases o with
          | lst us =>
            dsimp only at e e1
            cases e
            by_cases hw : wide ws = true
            · rw [if_pos hw] at e1
              rcases Option.map_eq_some_iff.mp e1 with ⟨a, e2, rfl⟩
              exact ⟨f, rfl, hw, a, e2, by omega⟩
            · rw [if_neg hw] at e1; cases e1
          | dct _ _ => cases e
          | ins _ _ => cases e
          | rsv => cases e
  | _ => cases e
theorem gv_stay (h : GV M G f s w) (st : Stp M G G') : kids w G' = kids w G := by
  obtain ⟨n, e1, l⟩ := h
  cases w with
  | ref i =>
    cases f with
    | zero => cases e1
    | succ f =>
      unfold szV at e1
      by_cases hm : M i = true
      · rw [if_pos hm] at e1; cases e1
      · rw [if_neg hm] at e1
        have hm' : M i = false := by simpa using hm
        simp only [kids]
        cases e2 : G[i]? with
        | none => rw [e2] at e1; cases e1
        | some o => rw [st.get e2 hm']
  | _ => rfl
theorem gv_ok : ∀ (k : Nat) {f s : Nat} {w : W}, GV M G f s w → okV Z G k w = true
  | 0, _, _, _, h => gv_ty h
  | k + 1, f, s, w, h => by
    unfold okV
    rw [Bool.and_eq_true]
    refine ⟨gv_ty h, ?_⟩
    cases e : kids w G with
    | none => rfl
    | some ws =>
      obtain ⟨f', rfl, _, hs⟩ := gv_kids h e
      exact List.all_eq_true.mpr fun x hx => gv_ok k (hs.mem hx)
theorem gv_few (h : GV M G f s w) : ∀ ws, w = .tup ws → ws.all pairB = true → ws.length < 64 := by
  rintro ws rfl hp
  obtain ⟨f', rfl, hw, _⟩ := gv_kids h (ws := ws) rfl
  unfold wide at hw
  rw [Bool.or_eq_true, Bool.and_eq_true, decide_eq_true_eq] at hw
  rcases hw with hw | ⟨hw, _⟩
  · exact hw
  · cases ws with
    | nil => simp
    | cons x r =>
      have h1 := List.all_eq_true.mp hp x List.mem_cons_self
      have h2 := List.all_eq_true.mp hw x List.mem_cons_self
      cases x <;> first | (cases h2; done) | (cases h1; done)
theorem Stp.weak (hm : ∀ i, M i = true → M' i = true) (st : Stp M G G') : Stp M' G G' := ⟨st.1, fun i hi e => st.2 i hi (by
  cases h : M i with
  | false => rfl
  | true => rw [hm i h] at e; cases e)⟩
theorem GV.weak (hm : ∀ i, M i = true → M' i = true) (h : GV M' G f s w) : GV M G f s w := let ⟨n, e, l⟩ := h; ⟨n, szV_less (fun i hi => by
  cases h : M i with
  | false => rfl
  | true => rw [hm i h] at hi; cases hi) f e, l⟩
/-! ### repr -/
theorem repr_ok (h : GV M G f s w) (hf : f ≤ 70) (hs : s ≤ 200000) : ∃ x, PyData.strOk x = true ∧ ∀ G', Gr G G' → reprW [w] G' = .ok (.str x) G' := by
  obtain ⟨n, e, l⟩ := h
  obtain ⟨d, h1, h2, h3, h4, h5⟩ := szV_dat f 70 hf e
  refine ⟨d.shown, h5, fun G' g => ?_⟩
  have : datW G' w = some d := (szV_same (M := M) g.stp f 70 e).trans h1
  unfold reprW
  dsimp only
  rw [this]
  dsimp only
  rw [if_pos ⟨h2, by omega, by omega⟩]
end
end K11
end
section
set_option linter.all false
set_option Elab.async false
set_option maxRecDepth 100000
set_option maxHeartbeats 4000100
namespace K11
open PySem L2 Dn
section
variable {M M' : Nat → Bool} {b : Nat} {G0 G G' : Gh} {f S k s : Nat} {σ : Dn.Loc} {d : DE} {Z : Adr} {mg : Str → Option Value} {w : W} {ws us : List W}
/-- the things that may come in one's place -/
def dSome (Z : Adr) : DE := dLst (dCons (dC .non) (dCons (dC (.bl true)) (dCons (dC (.int 0)) (dCons (dLst (dCons (dC (.str "a")) dNil)) (dCons (dTup (dCons (dC (.str "a")) (dCons (dC (.str "b")) dNil))) (dCons (dC (.str "a")) (dCons (dC (.str "")) (dCons (dCall (f__law_odd Z) (dCons (dVar 0) dNil)) dNil))))))))
theorem some_ok (K : Msk M b G0) (hσ : σ[0]? = some (some (.ref b))) : EA M b G0 (dSome Z σ) (LL M 6 1000 8) :=
  EA.lst K (EA.cons (EA.atom (by decide +kernel)) (EA.cons (EA.atom (by decide +kernel)) (EA.cons (EA.atom (by decide +kernel)) (EA.cons (EA.gv (f := 0) (S := 1) (k := 1) (EA.lst K (EA.cons (EA.atom (by decide +kernel)) EA.nil))) (EA.cons (EA.tup (f := 0) (S := 1) (k := 2) (EA.cons (EA.atom (by decide +kernel)) (EA.cons (EA.atom (by decide +kernel)) EA.nil))) (EA.cons (EA.atom (by decide +kernel)) (EA.cons (EA.atom (by decide +kernel))
    (EA.cons (EA.call1 (P := fun w _ => w = .ref b) (EA.var hσ fun _ _ => rfl) fun w G st B e => by subst e; exact odd_ok K G st B) EA.nil))))))))
/-- what comes at the place -/
def dVal (Z : Adr) : DE := dIf (dAnd (dB (dCallB (isiW Z.K) (dCons (d2 (fun x y => noX (itemW x y)) (dVar 3) (dVar 2)) (dCons (dC (.ty "tuple")) dNil)))) (dB (d2 (fun x y => noX (eqX x y)) (dCall (f__law_take Z) (dCons (dVar 0) (dCons (dC (.int 2)) dNil))) (dC (.int 0))))) (dCallB listW (dCons (d2 (fun x y => noX (itemW x y)) (dVar 3) (dVar 2)) dNil)) (dCall (f__law_one Z) (dCons (dVar 0) (dCons (dVar 5) dNil)))
theorem val_ok (T : Txt Z mg) (K : Msk M b G0) (K' : Msk M' b G0) (wk : ∀ i, M i = true → M' i = true) {n v m : Nat} {x4 : Option W} {x : W} {us5 : List W} (hm : M n = false) (g : G0[n]? = some (.lst us)) (hx : us[v]? = some x) (gx : GV M' G0 3 40 x) (hm5 : M' m = false) (g5 : G0[m]? = some (.lst us5)) (l5 : us5.length = 8) (a5 : ∀ w ∈ us5, GV M' G0 6 1000 w) :
    EA M b G0 (dVal Z [some (.ref b), some w, some (.int v), some (.ref n), x4, some (.ref m)]) fun y G => GV M' G 6 1000 y := by
  have hm5' : M m = false := by
    cases h : M m with
    | false => rfl
    | true => rw [wk m h] at hm5; cases hm5
  have item : ∀ G, Stp M G0 G → Ex (d2 (fun x y => noX (itemW x y)) (dVar 3) (dVar 2)) [some (.ref b), some w, some (.int v), some (.ref n), x4, some (.ref m)] G x := fun G st => Ex.d2 Ex.var Ex.var (item_lst (st.get g hm) hx)
  have gx' : ∀ G, Stp M G0 G → GV M' G 3 40 x := fun G st => gx.stp (Stp.weak wk st)
  refine EA.if (T := fun c _ => c = true → isTup x = true) ?_ fun c G1 st1 hc => ?_
  · refine EA.bnd (P := fun c _ => c = isTup x) (EA.ok fun G st => ⟨?_, rfl⟩) fun c G1 st1 hc => ?_
    · have e : Ex (dCallB (isiW Z.K) (dCons (d2 (fun x y => noX (itemW x y)) (dVar 3) (dVar 2)) (dCons (dC (.ty "tuple")) dNil))) [some (.ref b), some w, some (.int v), some (.ref n), x4, some (.ref m)] G (.bl (isTup x)) := by
        have h1 := item G st
        unfold Ex at h1 ⊢
        unfold dCallB dCons dNil dC Dn.bnd Dn.ret
        rw [h1]
        dsimp only
        unfold noX
        rw [isi_tup T (gv_ty (gx' G st))]
      exact ExT e
    · subst hc
      cases e : isTup x with
      | false => exact EA.ret fun _ _ z => by cases z
      | true => exact EA.mono (EA.test (EA.eqI (EA.nat (ea_takeC (n := 2) (K.le st1.1) rfl)) EA.int)) fun _ _ _ _ _ _ => rfl
  · cases c with
    | true =>
      have ht := hc rfl
      cases x with
      | tup xs =>
        refine EA.cb1 (P := fun y _ => y = .tup xs) (EA.ok fun G st => ⟨item G (st1.trans st), rfl⟩) fun y G st B e => ?_
        subst e
        have st' := st1.trans st
        have h := gx' G st'
        obtain ⟨f', ef, hw, hs⟩ := gv_kids h (ws := xs) rfl
        cases ef
        have hl := hs.len
        exact ⟨.ref G.length, G ++ [.lst xs], rfl, Gr.one.stp, B.gr .one, (GV.lst (by simp) ((K'.le st'.1).new (Nat.le_refl _)) (hs.stp Gr.one.stp) hw).mono (by omega) (by omega)⟩
      | _ => cases ht
    | false =>
      refine EA.callV rfl (P := fun w G' => w = .ref m ∧ G'[m]? = some (.lst us5)) (EA.var rfl fun G' st => ⟨rfl, (st1.trans st).get g5 hm5'⟩) fun w G' st' B ⟨e, g'⟩ => ?_
      subst e
      exact (one_ok (K.le st1.1) st' g' hm5' (by omega) (by omega) B).mono fun w G2 st2 _ p => (a5 w p).stp (Stp.weak wk ((st1.trans st').trans st2))
end
end K11
end
section
set_option linter.all false
set_option Elab.async false
set_option maxRecDepth 100000
set_option maxHeartbeats 4000100
namespace K11
open PySem L2 Dn
section
variable {M M' : Nat → Bool} {b n : Nat} {G0 G G' G2 : Gh} {f S k s v v5 : Nat} {σ : Dn.Loc} {d : DE} {Z : Adr} {mg : Str → Option Value} {w : W} {ws us : List W}
def isLst (w : W) (G : Gh) : Bool := match w with
  | .ref n => match G[n]? with
    | some (.lst _) => true
    | _ => false
  | _ => false
theorem isi_lst (T : Txt Z mg) {w : W} (h : tyOk Z G w = true) : isiW Z.K [w, .ty "list"] G = .ok (.bl (isLst w G)) G := by
  cases w with
  | ref n =>
    simp only [tyOk] at h
    cases e : G[n]? with
    | none => rw [e] at h; exact nomatch h
    | some o =>
      rw [e] at h
      cases o with
      | lst ws => simp [isiW, isiQ, tyOfW, e, clsOfW, isLst]
      | dct l ws => simp [isiW, isiQ, tyOfW, e, clsOfW, isLst]
      | ins C ws =>
        have hC : C = Z.C_Gate := by simpa using h
        subst hC
        simp [isiW, isiQ, tyOfW, e, clsOfW, T.i_Gate_list, isLst]
      | rsv => cases h
  | rol ws => cases h
  | ty n => cases h
  | obj a => cases h
  | _ => simp [isiW, isiQ, tyOfW, clsOfW, isLst]
/-- what stands while one is bent -/
structure Iv (M : Nat → Bool) (b n : Nat) (G2 G : Gh) (us : List W) : Prop where
  g : G[n]? = some (.lst us)
  l : us.length ≤ 41
  a : ∀ x ∈ us, GV (mor M n) G 6 1000 x
  B : Bag b G
  st : Stp M G2 G
abbrev loc6 (b : Nat) (w : W) (v n v5 : Nat) (x5 : Option W) : Dn.Loc := [some (.ref b), some w, some (.int v), some (.ref n), some (.int v5), x5]
theorem wk_mor : ∀ i, M i = true → mor M n i = true := fun i h => by unfold mor; rw [h]; rfl
theorem mor_n : mor M n n = true := by unfold mor; simp
theorem ex_eq4 {x5 : Option W} (j : Nat) : Ex (d2 (fun x y => noX (eqX x y)) (dVar 4) (dC (.int j))) (loc6 b w v n v5 x5) G (.bl (decide (v5 = j))) := Ex.d2 Ex.var Ex.c (by rw [eqIv]; exact congrArg (fun z => Out.ok (W.bl z) G) (by by_cases h : v5 = j <;> simp [h]; omega))
/-- a store at n is not seen -/
theorem Iv.put (K : Msk M b G2) (hn : n = G2.length) (I : Iv M b n G2 G us) {G1 : Gh} {us' : List W} (st : Stp M G G1) (B1 : Bag b G1) (hl : us'.length ≤ 41) (ha : ∀ x ∈ us', GV (mor M n) G1 6 1000 x) : Iv M b n G2 (G1.set n (.lst us')) us' := by
  have hm : M n = false := K.new (by omega)
  have g1 := st.get I.g hm
  have hb : b < n := hn ▸ K.2 b K.1
  refine ⟨List.getElem?_set_self (List.getElem?_eq_some_iff.mp g1).1, hl, fun x hx => (ha x hx).stp (Stp.set mor_n), B1.put hb, ?_⟩
  have s2 := I.st.trans st
  refine ⟨by rw [List.length_set]; exact s2.1, fun i hi e => ?_⟩
  rw [List.getElem?_set_ne (by omega)]
  exact s2.2 i hi e
theorem meth_of {T : String} {f : DM} {o : DE} {a : DA} {x r : W} {ws : List W} (ho : Ex o σ G x) (ha : a σ G = .ok ws G) (t : tyW T x G = true) (h : f x ws G = .ok r G') : sExpr (dMeth T f o a) σ G = .nx σ G' := by
  unfold Ex at ho
  unfold sExpr sOf dMeth Dn.bnd
  rw [ho]; dsimp only
  rw [if_pos t, ha]; dsimp only
  unfold noX
  rw [h]
  rfl
theorem exA1 {x : W} (h : Ex d σ G x) : dCons d dNil σ G = .ok [x] G := by
  unfold Ex at h
  unfold dCons dNil Dn.bnd
  rw [h]
  rfl
theorem exA2 {e : DE} {x y : W} (h : Ex d σ G x) (h' : Ex e σ G y) : dCons d (dCons e dNil) σ G = .ok [x, y] G := by
  have := exA1 h'
  unfold Ex at h
  rw [show dCons d (dCons e dNil) σ = Dn.bnd (d σ) fun w => Dn.bnd (dCons e dNil σ) fun ws => Dn.ret (w :: ws) from rfl]
  unfold Dn.bnd
  rw [h]; dsimp only
  rw [this]
  rfl
def st4 (Z : Adr) : DS := sIf (dB (d2 (fun x y => noX (eqX x y)) (dVar 4) (dC (.int 0)))) (sSeq (sAsg (dSome Z) (gV 5)) (sSet (dVar 3) (dVar 2) (dVal Z))) sNext
theorem st4_ok (T : Txt Z mg) (K : Msk M b G2) (hn : n = G2.length) (I : Iv M b n G2 G us) (hv : v < us.length) (small : ∀ x ∈ us, GV (mor M n) G 3 40 x) : ∃ x5 G' us', st4 Z (loc6 b w v n v5 none) G = .nx (loc6 b w v n v5 x5) G' ∧ Iv M b n G2 G' us' ∧ us'.length = us.length := by
  have hm : M n = false := K.new (by omega)
  have hn2 : n < G.length := (List.getElem?_eq_some_iff.mp I.g).1
  have KG : Msk M b G := K.le I.st.1
  have KG' : Msk (mor M n) b G := KG.more hn2
  unfold st4
  by_cases h0 : v5 = 0
  · obtain ⟨w5, G5, e5, s5, B5, ⟨p5, p5', s5'⟩⟩ := EV.both (some_ok (Z := Z) (σ := loc6 b w v n v5 none) KG rfl G .refl I.B) (some_ok (Z := Z) (σ := loc6 b w v n v5 none) KG' rfl G .refl I.B)
    obtain ⟨m, us5, rfl, hm5, g5, l5, a5⟩ := p5'
    have hx : us[v]? = some us[v] := List.getElem?_eq_getElem hv
    obtain ⟨y, G6, e6, s6, B6, p6⟩ := val_ok (w := w) (x4 := some (.int v5)) T (KG.le s5.1) (KG'.le s5.1) wk_mor hm (s5.get I.g hm) hx ((small _ (List.getElem_mem hv)).stp (Stp.weak wk_mor s5)) hm5 g5 l5 a5 G5 .refl B5
    have s56 := s5.trans s6
    refine ⟨some (.ref m), G6.set n (.lst (us.set v y)), us.set v y, ?_, I.put K hn s56 B6 (by rw [List.length_set]; exact I.l) (fun x hx => ?_), List.length_set⟩
    · rw [run_ifT (by have := ex_eq4 (b := b) (w := w) (v := v) (n := n) (v5 := v5) (x5 := none) (G := G) 0; rwa [decide_eq_true h0] at this)]
      have q : sAsg (dSome Z) (gV 5) (loc6 b w v n v5 none) G = .nx (loc6 b w v n v5 (some (.ref m))) G5 := by
        unfold sAsg sOf
        rw [e5]
        rfl
      rw [run_seq q]
      have o : setW (.ref n) (.int v) y G6 = some (G6.set n (.lst (us.set v y))) := set_lst (s56.get I.g hm) hv
      unfold sSet sOf
      rw [e6]
      show (match setW (.ref n) (.int v) y G6 with
        | some G' => SO.nx (loc6 b w v n v5 (some (.ref m))) G'
        | none => .stuck) = _
      rw [o]
    · rcases List.mem_or_eq_of_mem_set hx with hx | rfl
      · exact (I.a x hx).stp (Stp.weak wk_mor s56)
      · exact p6
  · exact ⟨none, G, us, by rw [run_ifF (by have := ex_eq4 (b := b) (w := w) (v := v) (n := n) (v5 := v5) (x5 := none) (G := G) 0; rwa [decide_eq_false h0] at this)] <;> rfl, I, rfl⟩
def st5 : DS := sIf (dB (d2 (fun x y => noX (eqX x y)) (dVar 4) (dC (.int 1)))) (sExpr (dMeth "list" popAtW (dVar 3) (dCons (dVar 2) dNil))) sNext
theorem st5_ok (K : Msk M b G2) (hn : n = G2.length) (I : Iv M b n G2 G us) (hv : v < us.length) (x5 : Option W) (hl : us.length ≤ 40) : ∃ G' us', st5 (loc6 b w v n v5 x5) G = .nx (loc6 b w v n v5 x5) G' ∧ Iv M b n G2 G' us' ∧ us'.length ≤ 40 ∧ (v5 = 1 ∨ v < us'.length) := by
  unfold st5
  by_cases h0 : v5 = 1
  · refine ⟨G.set n (.lst (us.eraseIdx v)), us.eraseIdx v, ?_, I.put K hn .refl I.B (by have := List.length_eraseIdx_le us v; omega) (fun x hx => I.a x (List.mem_of_mem_eraseIdx hx)), by have := List.length_eraseIdx_le us v; omega, .inl h0⟩
    rw [run_ifT (by have := ex_eq4 (b := b) (w := w) (v := v) (n := n) (v5 := v5) (x5 := x5) (G := G) 1; rwa [decide_eq_true h0] at this)]
    have p : popAtW (.ref n) [.int v] G = .ok us[v] (G.set n (.lst (us.eraseIdx v))) := by
      unfold popAtW
      simp only [I.g]
      rw [if_pos (by constructor <;> omega), Int.toNat_natCast, List.getElem?_eq_getElem hv]
    have t : tyW "list" (.ref n) G = true := by simp [tyW, I.g]
    exact meth_of (σ := loc6 b w v n v5 x5) (x := .ref n) (ws := [.int v]) (Ex.var rfl) (exA1 (Ex.var rfl)) t p
  · exact ⟨G, us, by rw [run_ifF (by have := ex_eq4 (b := b) (w := w) (v := v) (n := n) (v5 := v5) (x5 := x5) (G := G) 1; rwa [decide_eq_false h0] at this)] <;> rfl, I, hl, .inr hv⟩
def st6 : DS := sIf (dB (d2 (fun x y => noX (eqX x y)) (dVar 4) (dC (.int 2)))) (sExpr (dMeth "list" insertW (dVar 3) (dCons (dVar 2) (dCons (d2 (fun x y => noX (itemW x y)) (dVar 3) (dVar 2)) dNil)))) sNext
theorem st6_ok (K : Msk M b G2) (hn : n = G2.length) (I : Iv M b n G2 G us) (hv : v5 = 1 ∨ v < us.length) (x5 : Option W) (hl : us.length ≤ 40) : ∃ G' us', st6 (loc6 b w v n v5 x5) G = .nx (loc6 b w v n v5 x5) G' ∧ Iv M b n G2 G' us' := by
  unfold st6
  by_cases h0 : v5 = 2
  · have hv : v < us.length := hv.resolve_left (by omega)
    refine ⟨G.set n (.lst (us.take v ++ [us[v]] ++ us.drop v)), us.take v ++ [us[v]] ++ us.drop v, ?_, I.put K hn .refl I.B (by simp; omega) (fun x hx => I.a x ?_)⟩
    · rw [run_ifT (by have := ex_eq4 (b := b) (w := w) (v := v) (n := n) (v5 := v5) (x5 := x5) (G := G) 2; rwa [decide_eq_true h0] at this)]
      have p : insertW (.ref n) [.int v, us[v]] G = .ok .non (G.set n (.lst (us.take v ++ [us[v]] ++ us.drop v))) := by
        unfold insertW
        simp only [I.g]
        rw [if_pos (by refine ⟨?_, ?_, ?_⟩ <;> omega), Int.toNat_natCast]
      have t : tyW "list" (.ref n) G = true := by simp [tyW, I.g]
      have it : Ex (d2 (fun x y => noX (itemW x y)) (dVar 3) (dVar 2)) (loc6 b w v n v5 x5) G us[v] := Ex.d2 Ex.var Ex.var (item_lst I.g (List.getElem?_eq_getElem hv))
      exact meth_of (σ := loc6 b w v n v5 x5) (x := .ref n) (ws := [.int v, us[v]]) (Ex.var rfl) (exA2 (Ex.var rfl) it) t p
    · simp only [List.mem_append, List.mem_singleton] at hx
      rcases hx with (hx | rfl) | hx
      · exact List.mem_of_mem_take hx
      · exact List.getElem_mem hv
      · exact List.mem_of_mem_drop hx
  · exact ⟨G, us, by rw [run_ifF (by have := ex_eq4 (b := b) (w := w) (v := v) (n := n) (v5 := v5) (x5 := x5) (G := G) 2; rwa [decide_eq_false h0] at this)] <;> rfl, I⟩
end
end K11
end
section
set_option linter.all false
set_option Elab.async false
set_option maxRecDepth 100000
set_option maxHeartbeats 4000100
namespace K11
open PySem L2 Dn
section
variable {M M' : Nat → Bool} {b n : Nat} {G0 G G' G2 : Gh} {f S k s v v5 : Nat} {σ : Dn.Loc} {d : DE} {Z : Adr} {mg : Str → Option Value} {w : W} {ws us : List W}
def dLast (Z : Adr) : DE := dIf (dOr (dAnd (dB (dCallB (isiW Z.K) (dCons (dVar 1) (dCons (dC (.ty "tuple")) dNil)))) (dB (d2 (fun x y => noX (eqX x y)) (dVar 4) (dC (.int 3))))) (dB (dCallB (isiW Z.K) (dCons (dVar 1) (dCons (dC (.ty "list")) dNil))))) (dVar 3) (dCallB tupleW (dCons (dVar 3) dNil))
theorem last_ok (T : Txt Z mg) (hw : tyOk Z G w = true) (g : G[n]? = some (.lst us)) (x5 : Option W) : dLast Z (loc6 b w v n v5 x5) G = .ok (.ref n) G ∨ dLast Z (loc6 b w v n v5 x5) G = .ok (.tup us) G := by
  have t1 : dB (dCallB (isiW Z.K) (dCons (dVar 1) (dCons (dC (.ty "tuple")) dNil))) (loc6 b w v n v5 x5) G = .ok (isTup w) G := by
    have := isi_tup T hw
    refine ExT ?_
    show noX (isiW Z.K [w, .ty "tuple"]) G = _
    unfold noX
    rw [this]
  have t2 : dB (dCallB (isiW Z.K) (dCons (dVar 1) (dCons (dC (.ty "list")) dNil))) (loc6 b w v n v5 x5) G = .ok (isLst w G) G := by
    have := isi_lst T hw
    refine ExT ?_
    show noX (isiW Z.K [w, .ty "list"]) G = _
    unfold noX
    rw [this]
  have t3 : dB (d2 (fun x y => noX (eqX x y)) (dVar 4) (dC (.int 3))) (loc6 b w v n v5 x5) G = .ok (decide (v5 = 3)) G := ExT (ex_eq4 3)
  have tst : ∃ c, dOr (dAnd (dB (dCallB (isiW Z.K) (dCons (dVar 1) (dCons (dC (.ty "tuple")) dNil)))) (dB (d2 (fun x y => noX (eqX x y)) (dVar 4) (dC (.int 3))))) (dB (dCallB (isiW Z.K) (dCons (dVar 1) (dCons (dC (.ty "list")) dNil)))) (loc6 b w v n v5 x5) G = .ok c G := by
    unfold dOr dAnd Dn.bnd
    rw [t1]; dsimp only
    cases isTup w with
    | true =>
      rw [if_pos rfl, t3]; dsimp only
      cases decide (v5 = 3) with
      | true => exact ⟨true, by rw [if_pos rfl] <;> rfl⟩
      | false => exact ⟨_, by rw [if_neg (by decide), t2]⟩
    | false =>
      rw [if_neg (by decide)]
      show ∃ c, (if false = true then Dn.ret true else dB (dCallB (isiW Z.K) (dCons (dVar 1) (dCons (dC (.ty "list")) dNil))) (loc6 b w v n v5 x5)) G = .ok c G
      exact ⟨_, by rw [if_neg (by decide), t2]⟩
  obtain ⟨c, ec⟩ := tst
  unfold dLast dIf Dn.bnd
  rw [ec]; dsimp only
  cases c with
  | true => exact .inl rfl
  | false =>
    refine .inr ?_
    rw [if_neg (by decide)]
    show noX (tupleW [.ref n]) G = _
    simp [noX, tupleW, seqW, g]
theorem cons1_of {x : W} (h : d σ G = .ok x G') : dCons d dNil σ G = .ok [x] G' := by
  unfold dCons dNil Dn.bnd
  rw [h]
  rfl
theorem callB1_of {F : DF} {x y : W} (h : Ex d σ G x) (h' : F [x] G = .ok y G') : dCallB F (dCons d dNil) σ G = .ok y G' := by
  have := exA1 h
  unfold dCallB Dn.bnd
  rw [this]; dsimp only
  unfold noX
  rw [h']
theorem kids_pos {ws : List W} (e : (decide ((ws.length : Int) = 0)) = false) : 0 < ws.length := by
  have := of_decide_eq_false e
  omega
theorem bent_ok (T : Txt Z mg) (K : Msk M b G0) (hw : GV M G0 3 40 w) : EA M b G0 (f__law_bent Z [.ref b, w]) fun y G => GV M G 8 50000 y := by
  refine EA.def1 rfl ?_
  show RA M b G0 (d__law_bent Z) [some (.ref b), some w, none, none, none, none] _
  unfold d__law_bent
  refine RA.gd (T := fun c G' => c = false → ∃ ws, kids w G' = some ws ∧ 0 < ws.length) ?_ (fun G1 st1 _ => ?_) fun G1 st1 h1 G2 st2 B2 => ?_
  · intro G st B
    have hg := hw.stp st
    have ht : tyOk Z G w = true := gv_ty hg
    have hi := pu_isi (Z := Z) (G := G) (σ := [some (.ref b), some w, none, none, none, none]) (i := 1) (dc := dTup (dCons (dC (.ty "list")) (dCons (dC (.ty "tuple")) dNil))) rfl (fun G' => Pu.tup (Pu.cons Pu.c fun _ _ => Pu.cons Pu.c fun _ _ => Pu.nil)) (b := (kids w G).isSome) fun G2 g2 => by
      rw [isi_seq T (tyOk.gr g2 ht), kids.gr g2 ht]
    cases e : kids w G with
    | none =>
      rw [e] at hi
      exact EV.pu B (Pu.dOr (c := true) (Pu.dNot (Pu.dB hi)) (fun z => by simp at z)) fun G' g z => by simp at z
    | some ws =>
      rw [e] at hi
      refine EV.pu B (Pu.dOr (c := ((ws.length : Int) == 0)) (Pu.dNot (Pu.dB hi)) fun _ G' g => Pu.dB (Pu.d2 (Pu.callB (Pu.cons (Pu.var rfl) fun _ _ => Pu.nil) fun G2 g2 => pu_of (len_kids (by rw [kids.gr (g.trans g2) ht]; exact e))) (fun _ _ => Pu.c) fun G2 g2 => pu_eqI _ _)) fun G' g z => ⟨ws, by rw [kids.gr g ht]; exact e, ?_⟩
      simp only [Option.isSome_some, Bool.not_true, Bool.false_or, beq_eq_false_iff_ne] at z
      omega
  · refine RA.ret (EA.call1 (P := fun w _ => w = .ref b) (EA.var rfl fun _ _ => rfl) fun x G st B e => ?_)
    subst e
    exact (odd_ok (K.le st1.1) G st B).mono fun y G _ _ p => p.mono
  · have hw1 := hw.stp st1
    have hw2 := hw1.stp st2
    obtain ⟨ws, hk1, hpos⟩ := h1 rfl
    have hk2 : kids w G2 = some ws := by rw [gv_stay hw1 st2]; exact hk1
    have K2 : Msk M b G2 := (K.le st1.1).le st2.1
    -- where
    have hl40 : ws.length ≤ 40 := by
      obtain ⟨f', _, _, hs⟩ := gv_kids hw2 hk2
      exact hs.len
    obtain ⟨_, G3, e3, st3, B3, v, hv, rfl⟩ := ea_take (Z := Z) (σ := [some (.ref b), some w, none, none, none, none]) (j := 0) (n := ws.length) (d := dCallB lenAW (dCons (dVar 1) dNil)) K2 rfl (EA.cb1 (EA.var (P := fun x G' => x = w ∧ kids w G' = some ws) rfl fun G' st => ⟨rfl, by rw [gv_stay hw2 st]; exact hk2⟩) fun x G' st B e => by
      obtain ⟨rfl, e⟩ := e
      exact EV.ok B (len_kids e) rfl) hpos (by omega) G2 .refl B2
    have hw3 := hw2.stp st3
    have hk3 : kids w G3 = some ws := by rw [gv_stay hw2 st3]; exact hk2
    have K3 := K2.le st3.1
    let n := G3.length
    have hm : M n = false := K3.new (Nat.le_refl _)
    have B4 : Bag b (G3 ++ [.lst ws]) := B3.gr .one
    have g4 : (G3 ++ [GO.lst ws])[n]? = some (.lst ws) := by show (G3 ++ [GO.lst ws])[G3.length]? = _; simp
    have el : ∀ x ∈ ws, GV (mor M n) (G3 ++ [GO.lst ws]) 3 40 x := fun x hx => by
      obtain ⟨f', ef, _, hs⟩ := gv_kids hw3 hk3
      have := (hs.mem hx).more (n0 := n) (List.getElem?_eq_none (Nat.le_refl _))
      exact (this.stp Gr.one.stp).mono
    have q3 : sPar [2, 3] (dCons (dCall (f__law_take Z) (dCons (dVar 0) (dCons (dCallB lenAW (dCons (dVar 1) dNil)) dNil))) (dCons (dCallB listW (dCons (dVar 1) dNil)) dNil)) [some (.ref b), some w, none, none, none, none] G2 = .nx [some (.ref b), some w, some (.int v), some (.ref n), none, none] (G3 ++ [.lst ws]) := by
      have a2 : dCons (dCallB listW (dCons (dVar 1) dNil)) dNil [some (.ref b), some w, none, none, none, none] G3 = .ok [.ref n] (G3 ++ [.lst ws]) := by
        have : listW [w] G3 = .ok (.ref n) (G3 ++ [.lst ws]) := by unfold listW; dsimp only; rw [seqW_kids hk3]
        exact cons1_of (callB1_of (Ex.var rfl) this)
      unfold sPar
      have a3 : dCons (dCall (f__law_take Z) (dCons (dVar 0) (dCons (dCallB lenAW (dCons (dVar 1) dNil)) dNil))) (dCons (dCallB listW (dCons (dVar 1) dNil)) dNil) [some (.ref b), some w, none, none, none, none] G2 = .ok [.int v, .ref n] (G3 ++ [.lst ws]) := by
        rw [show dCons (dCall (f__law_take Z) (dCons (dVar 0) (dCons (dCallB lenAW (dCons (dVar 1) dNil)) dNil))) (dCons (dCallB listW (dCons (dVar 1) dNil)) dNil) [some (.ref b), some w, none, none, none, none] = Dn.bnd (dCall (f__law_take Z) (dCons (dVar 0) (dCons (dCallB lenAW (dCons (dVar 1) dNil)) dNil)) [some (.ref b), some w, none, none, none, none]) fun x => Dn.bnd (dCons (dCallB listW (dCons (dVar 1) dNil)) dNil [some (.ref b), some w, none, none, none, none]) fun ws => Dn.ret (x :: ws) from rfl]
        unfold Dn.bnd
        rw [e3]; dsimp only
        rw [a2]
        rfl
      rw [a3]
      rfl
    -- which way
    obtain ⟨_, G5, e5, st5', B5, v5, hv5, rfl⟩ := ea_takeC (Z := Z) (σ := [some (.ref b), some w, some (.int v), some (.ref n), none, none]) (j := 0) (n := 5) (K3.le ((Gr.one (o := .lst ws)).len)) rfl (by decide) (by decide) _ .refl B4
    have s45 : Stp M G3 G5 := Gr.one.stp.trans st5'
    have I5 : Iv M b n G3 G5 ws := ⟨st5'.get g4 hm, by omega, fun x hx => ((el x hx).stp (Stp.weak wk_mor st5')).mono, B5, s45⟩
    obtain ⟨x5, G6, us6, q6, I6, l6⟩ := st4_ok (w := w) (v5 := v5) T K3 rfl I5 hv fun x hx => (el x hx).stp (Stp.weak wk_mor st5')
    obtain ⟨G7, us7, q7, I7, l7, c7⟩ := st5_ok (w := w) (v := v) (v5 := v5) K3 rfl I6 (by omega) x5 (by omega)
    obtain ⟨G8, us8, q8, I8⟩ := st6_ok (w := w) K3 rfl I7 c7 x5 l7
    have hw8 : tyOk Z G8 w = true := gv_ty (hw3.stp I8.st)
    have fin : ∃ y, dLast Z (loc6 b w v n v5 x5) G8 = .ok y G8 ∧ GV M G8 8 50000 y := by
      have ua : ∀ x ∈ us8, GV M G8 6 1000 x := fun x hx => (I8.a x hx).less
      have ul := I8.l
      have gs := GVs.each ua
      rcases last_ok (b := b) (v := v) (v5 := v5) T hw8 I8.g x5 with e | e
      · exact ⟨_, e, (GV.lst I8.g hm gs (wide_few (by omega))).mono (by decide) (by omega)⟩
      · exact ⟨_, e, (GV.tup gs (wide_few (by omega))).mono (by decide) (by omega)⟩
    obtain ⟨y, ey, gy⟩ := fin
    refine ⟨y, G8, ?_, st3.trans I8.st, I8.B, gy⟩
    rw [run_seq q3]
    have q5 : sAsg (dCall (f__law_take Z) (dCons (dVar 0) (dCons (dC (.int 5)) dNil))) (gV 4) [some (.ref b), some w, some (.int v), some (.ref n), none, none] (G3 ++ [.lst ws]) = .nx (loc6 b w v n v5 none) G5 := by
      unfold sAsg sOf
      rw [show (5 : Int) = ((5 : Nat) : Int) from rfl, e5]
      rfl
    rw [run_seq q5]
    refine (run_seq q6).trans ((run_seq q7).trans ((run_seq q8).trans ?_))
    unfold sRet sOf
    show (match dLast Z (loc6 b w v n v5 x5) G8 with
      | .ok w1 G' => SO.rt w1 G'
      | .exc x G' => .ex x (loc6 b w v n v5 x5) G'
      | .stuck => .stuck) = _
    rw [ey]
end
end K11
end
section
set_option linter.all false
set_option Elab.async false
set_option maxRecDepth 100000
set_option maxHeartbeats 4000100
namespace K11
open PySem L2 Dn
section
variable {M M' : Nat → Bool} {b n m : Nat} {G0 G G' G2 : Gh} {f S k s v v5 : Nat} {σ : Dn.Loc} {d : DE} {Z : Adr} {mg : Str → Option Value} {w : W} {ws us : List W}
def five (w : W) (G : Gh) : List Bool := [wholeB w, nameB w, namesB w G, wishB w, deedB w]
def dFive (Z : Adr) (j : Nat) : DA := dCons (dCall (f_is_integer Z) (dCons (dVar j) dNil)) (dCons (dCall (f_is_name Z) (dCons (dVar j) dNil)) (dCons (dCall (f_are_names Z) (dCons (dVar j) dNil)) (dCons (dCall (f_is_wish Z) (dCons (dVar j) dNil)) (dCons (dCall (f_is_deed Z) (dCons (dVar j) dNil)) dNil))))
def dDue (Z : Adr) (j : Nat) : DA := dCons (dCall (f__law_is_whole Z) (dCons (dVar j) dNil)) (dCons (dCall (f__law_is_name Z) (dCons (dVar j) dNil)) (dCons (dCall (f__law_are_names Z) (dCons (dVar j) dNil)) (dCons (dCall (f__law_is_wish Z) (dCons (dVar j) dNil)) (dCons (dCall (f__law_is_deed Z) (dCons (dVar j) dNil)) dNil))))
def Few (w : W) : Prop := ∀ ws, w = .tup ws → ws.all pairB = true → ws.length < 64
theorem namesB.gr (g : Gr G G') (h : tyOk Z G w = true) : namesB w G' = namesB w G := by unfold namesB; rw [kids.gr g h]
theorem five_ok (T : Txt Z mg) {j : Nat} (hσ : σ[j]? = some (some w)) (h : okV Z G 2 w = true) (few : Few w) : Pu (dFive Z j σ) G ((five w G).map .bl) := by
  have h1 : ∀ G', Gr G G' → okV Z G' 1 w = true := fun G' g => okV.gr g 1 (by
    unfold okV at h ⊢
    rw [Bool.and_eq_true] at h ⊢
    refine ⟨h.1, ?_⟩
    cases e : kids w G with
    | none => rfl
    | some ws =>
      have := h.2
      rw [e] at this
      exact List.all_eq_true.mpr fun x hx => okV.ty (List.all_eq_true.mp this x hx))
  have ht : ∀ G', Gr G G' → tyOk Z G' w = true := fun G' g => okV.ty (h1 G' g)
  refine Pu.cons (Pu.call (Pu.cons (Pu.var hσ) fun _ _ => Pu.nil) fun G1 g1 => is_integer_ok T (ht _ g1)) fun G1 g1 => ?_
  refine Pu.cons (Pu.call (Pu.cons (Pu.var hσ) fun _ _ => Pu.nil) fun G2 g2 => is_name_ok T (ht _ (g1.trans g2))) fun G2 g2 => ?_
  refine Pu.cons (Pu.call (Pu.cons (Pu.var hσ) fun _ _ => Pu.nil) fun G3 g3 => by
    rw [← namesB.gr ((g1.trans g2).trans g3) (ht _ .refl)]; exact are_names_ok T (h1 _ ((g1.trans g2).trans g3))) fun G3 g3 => ?_
  refine Pu.cons (Pu.call (Pu.cons (Pu.var hσ) fun _ _ => Pu.nil) fun G4 g4 => is_wish_ok T (okV.gr (((g1.trans g2).trans g3).trans g4) 2 h) few) fun G4 g4 => ?_
  exact Pu.cons (Pu.call (Pu.cons (Pu.var hσ) fun _ _ => Pu.nil) fun G5 g5 => is_deed_ok T (h1 _ ((((g1.trans g2).trans g3).trans g4).trans g5))) fun G5 g5 => Pu.nil
theorem due_ok (T : Txt Z mg) {j : Nat} (hσ : σ[j]? = some (some w)) (h : okV Z G 2 w = true) : Pu (dDue Z j σ) G ((five w G).map .bl) := by
  have h1 : ∀ G', Gr G G' → okV Z G' 1 w = true := fun G' g => okV.gr g 1 (by
    unfold okV at h ⊢
    rw [Bool.and_eq_true] at h ⊢
    refine ⟨h.1, ?_⟩
    cases e : kids w G with
    | none => rfl
    | some ws =>
      have := h.2
      rw [e] at this
      exact List.all_eq_true.mpr fun x hx => okV.ty (List.all_eq_true.mp this x hx))
  have ht : ∀ G', Gr G G' → tyOk Z G' w = true := fun G' g => okV.ty (h1 G' g)
  refine Pu.cons (Pu.call (Pu.cons (Pu.var hσ) fun _ _ => Pu.nil) fun G1 g1 => law_is_whole_ok T (ht _ g1)) fun G1 g1 => ?_
  refine Pu.cons (Pu.call (Pu.cons (Pu.var hσ) fun _ _ => Pu.nil) fun G2 g2 => law_is_name_ok T (ht _ (g1.trans g2))) fun G2 g2 => ?_
  refine Pu.cons (Pu.call (Pu.cons (Pu.var hσ) fun _ _ => Pu.nil) fun G3 g3 => by
    rw [← namesB.gr ((g1.trans g2).trans g3) (ht _ .refl)]; exact law_are_names_ok T (h1 _ ((g1.trans g2).trans g3))) fun G3 g3 => ?_
  refine Pu.cons (Pu.call (Pu.cons (Pu.var hσ) fun _ _ => Pu.nil) fun G4 g4 => law_is_wish_ok T (okV.gr (((g1.trans g2).trans g3).trans g4) 2 h)) fun G4 g4 => ?_
  exact Pu.cons (Pu.call (Pu.cons (Pu.var hσ) fun _ _ => Pu.nil) fun G5 g5 => law_is_deed_ok T (h1 _ ((((g1.trans g2).trans g3).trans g4).trans g5))) fun G5 g5 => Pu.nil
theorem pu_of2 {F : Dn.M W} {r : W} (h : F G = .ok r G) : Pu F G r := ⟨G, h, .refl⟩
theorem alike_ok {bs : List Bool} (h : G[n]? = some (.lst (bs.map .bl))) (h' : G[m]? = some (.lst (bs.map .bl))) (hb : bs ≠ []) (hl : bs.length ≤ 1000) : Pu (f__law_alike Z [.ref n, .ref m]) G (.bl true) := by
  refine Pu.def1 rfl (Rt.ret ?_)
  have r1 : ∀ G', Gr G G' → Pu (reprW [.ref n]) G' (.str (PyData.shown (.list (bs.map .bool)))) := fun G' g => pu_of (repr_bls (g.get h) hl).1
  have r2 : ∀ G', Gr G G' → Pu (reprW [.ref m]) G' (.str (PyData.shown (.list (bs.map .bool)))) := fun G' g => pu_of (repr_bls (g.get h') hl).1
  have so := (repr_bls h hl).2
  refine Pu.dAndV (b := true) (c := true) (Pu.d2 (Pu.var rfl) (fun _ _ => Pu.var rfl) fun G' g => pu_of2 (eq_bls (g.get h) (g.get h') hb)) fun _ G' g => ?_
  refine Pu.d2 (Pu.callB (Pu.cons (Pu.var rfl) fun _ _ => Pu.nil) fun G2 g2 => r1 _ (g.trans g2)) (fun G2 g2 => Pu.callB (Pu.cons (Pu.var rfl) fun _ _ => Pu.nil) fun G3 g3 => r2 _ ((g.trans g2).trans g3)) fun G3 g3 => ?_
  have := pu_eqS (G := G3) so so
  rwa [show (PyData.shown (.list (bs.map .bool)) == PyData.shown (.list (bs.map .bool))) = true from by simp] at this
end
end K11
end
section
set_option linter.all false
set_option Elab.async false
set_option maxRecDepth 100000
set_option maxHeartbeats 4000100
namespace K11
open PySem L2 Dn
section
variable {M M' : Nat → Bool} {b n m : Nat} {G0 G G' G1 G2 : Gh} {f S k s v v5 : Nat} {σ : Dn.Loc} {d : DE} {Z : Adr} {mg : Str → Option Value} {w : W} {ws us : List W}
def S10 (b : Nat) (σ : Dn.Loc) : Prop := ∃ a0 a2 a3 a4 a5 a6 a7 a8 a9, σ = [a0, some (W.ref b), a2, a3, a4, a5, a6, a7, a8, a9]
def inner (Z : Adr) : DS := (sSeq (sAsg (dCallB reprW (dCons (dVar 5) dNil)) (gV 6))
    (sSeq (sAsg (dLst (dFive Z 5)) (gV 7))
    (sSeq (sAsg (dLst (dDue Z 5)) (gV 8))
    (sIf (dOr (dNot (dB (dCall (f__law_alike Z) (dCons (dVar 7) (dCons (dVar 8) dNil))))) (dB (d2 (fun x y => noX (neX x y)) (dCallB reprW (dCons (dVar 5) dNil)) (dVar 6)))) (sRet (dC (.bl false))) sNext))))
theorem inner_ok (T : Txt Z mg) (h : GV M G 8 50000 w) {a0 a2 a3 a4 a6 a7 a8 a9 : Option W} : ∃ σ2, Nx (inner Z) [a0, some (W.ref b), a2, a3, a4, some w, a6, a7, a8, a9] G σ2 ∧ S10 b σ2 := by
  obtain ⟨x, hx, hr⟩ := repr_ok h (by decide) (by decide)
  have hk := gv_ok (Z := Z) 2 h
  have q6 : sAsg (dCallB reprW (dCons (dVar 5) dNil)) (gV 6) [a0, some (W.ref b), a2, a3, a4, some w, a6, a7, a8, a9] G = .nx [a0, some (W.ref b), a2, a3, a4, some w, some (.str x), a7, a8, a9] G := run_asg (callB1_of (Ex.var rfl) (hr G .refl))
  obtain ⟨n, G7, e7, g7, l7⟩ := lstE (σ := [a0, some (W.ref b), a2, a3, a4, some w, some (.str x), a7, a8, a9]) (five_ok (G := G) (j := 5) T rfl hk (gv_few h)) (by simp [five])
  have q7 : sAsg (dLst (dFive Z 5)) (gV 7) [a0, some (W.ref b), a2, a3, a4, some w, some (.str x), a7, a8, a9] G = .nx [a0, some (W.ref b), a2, a3, a4, some w, some (.str x), some (.ref n), a8, a9] G7 := by
    unfold sAsg sOf
    rw [e7] <;> rfl
  have hk7 := okV.gr g7 2 hk
  obtain ⟨m, G8, e8, g8, l8⟩ := lstE (σ := [a0, some (W.ref b), a2, a3, a4, some w, some (.str x), some (.ref n), a8, a9]) (due_ok (G := G7) (j := 5) T rfl hk7) (by simp [five])
  have q8 : sAsg (dLst (dDue Z 5)) (gV 8) [a0, some (W.ref b), a2, a3, a4, some w, some (.str x), some (.ref n), a8, a9] G7 = .nx [a0, some (W.ref b), a2, a3, a4, some w, some (.str x), some (.ref n), some (.ref m), a9] G8 := by
    unfold sAsg sOf
    rw [e8] <;> rfl
  have same : five w G7 = five w G := by unfold five; rw [namesB.gr g7 (okV.ty hk)]
  rw [same] at l8
  have g78 := g7.trans g8
  have tst : Pu (dOr (dNot (dB (dCall (f__law_alike Z) (dCons (dVar 7) (dCons (dVar 8) dNil))))) (dB (d2 (fun x y => noX (neX x y)) (dCallB reprW (dCons (dVar 5) dNil)) (dVar 6))) [a0, some (W.ref b), a2, a3, a4, some w, some (.str x), some (.ref n), some (.ref m), a9]) G8 false := by
    refine Pu.dOr (b := false) (c := false) (Pu.dNot (b := true) (Pu.dB (Pu.call (Pu.cons (Pu.var rfl) fun _ _ => Pu.cons (Pu.var rfl) fun _ _ => Pu.nil) fun G9 g9 => alike_ok (g9.get (g8.get l7)) (g9.get l8) (by simp [five]) (by simp [five])))) fun _ G9 g9 => Pu.dB ?_
    refine Pu.d2 (Pu.callB (Pu.cons (Pu.var rfl) fun _ _ => Pu.nil) fun G2 g2 => pu_of (hr _ ((g78.trans g9).trans g2))) (fun _ _ => Pu.var rfl) fun G3 g3 => ?_
    have := pu_neS (G := G3) hx hx
    rwa [show (!(x == x)) = false from by simp] at this
  obtain ⟨G9, e9, g9⟩ := Nx.ifF (s := sRet (dC (.bl false))) (s' := sNext) tst fun G' g => Nx.next
  refine ⟨[a0, some (W.ref b), a2, a3, a4, some w, some (.str x), some (.ref n), some (.ref m), a9], ⟨G9, ?_, g78.trans g9⟩, ⟨_, _, _, _, _, _, _, _, _, rfl⟩⟩
  unfold inner
  rw [run_seq q6, run_seq q7, run_seq q8]
  exact e9
theorem small_int : ∀ v : Nat, v < 99 → atomB (.int ((v : Int) - 50)) = true := by
  have : (List.range 99).all (fun v => atomB (.int ((v : Int) - 50))) = true := by decide +kernel
  intro v hv
  exact List.all_eq_true.mp this v (List.mem_range.mpr hv)
theorem ea_bent (T : Txt Z mg) (K : Msk M b G0) (hσ : σ[1]? = some (some (.ref b))) (hd : EA M b G0 (d σ) fun w G => GV M G 3 40 w) : EA M b G0 (dCall (f__law_bent Z) (dCons (dVar 1) (dCons d dNil)) σ) fun y G => GV M G 8 50000 y :=
  EA.callV hσ hd fun w G st B h => bent_ok T (K.le st.1) h G .refl B
theorem ea_near (K : Msk M b G0) (hσ : σ[1]? = some (some (.ref b))) : EA M b G0 (dCall (f__law_near_one Z) (dCons (dVar 1) dNil) σ) fun y G => GV M G 3 40 y :=
  EA.call1 (P := fun w _ => w = .ref b) (EA.var hσ fun _ _ => rfl) fun w G st B e => by
    subst e
    exact near_ok K G st B
theorem ea_odd (K : Msk M b G0) (hσ : σ[1]? = some (some (.ref b))) : EA M b G0 (dCall (f__law_odd Z) (dCons (dVar 1) dNil) σ) fun y G => GV M G 6 1000 y :=
  EA.call1 (P := fun w _ => w = .ref b) (EA.var hσ fun _ _ => rfl) fun w G st B e => by
    subst e
    exact odd_ok K G st B
theorem ea_thing (K : Msk M b G0) (hσ : σ[1]? = some (some (.ref b))) : EA M b G0 (dCall (f__law_drawn_thing Z) (dCons (dVar 1) dNil) σ) fun y G => GV M G 3 40 y :=
  EA.call1 (P := fun w _ => w = .ref b) (EA.var hσ fun _ _ => rfl) fun w G st B e => by
    subst e
    exact thing_ok K G st B
def turn (Z : Adr) : DS := (sSeq (sAsg (dCall (f__law_drawn_thing Z) (dCons (dVar 1) dNil)) (gV 3))
    (sSeq (sAsg (dLst (dCons (dVar 3) (dCons (dCall (f__law_bent Z) (dCons (dVar 1) (dCons (dVar 3) dNil))) (dCons (dCall (f__law_odd Z) (dCons (dVar 1) dNil)) (dCons (dCall (f__law_some_name Z) (dCons (dVar 1) dNil)) (dCons (d2 (fun x y => noX (subW x y)) (dCall (f__law_take Z) (dCons (dVar 1) (dCons (dC (.int 99)) dNil))) (dC (.int 50))) dNil)))))) (gV 4))
    (sFor (iAny (d2 (fun x y => noX (addW x y)) (dVar 4) (dLst (dCons (dCall (f__law_near_one Z) (dCons (dVar 1) dNil)) (dCons (dCall (f__law_bent Z) (dCons (dVar 1) (dCons (dCall (f__law_near_one Z) (dCons (dVar 1) dNil)) dNil))) dNil))))) (.n 5) (inner Z))))
theorem turn_ok (T : Txt Z mg) (K : Msk M b G0) (s0 : S10 b σ) : NA M b G0 (turn Z) σ fun σ' _ => S10 b σ' := by
  obtain ⟨a0, a2, a3, a4, a5, a6, a7, a8, a9, rfl⟩ := s0
  unfold turn
  refine NA.nx (R := fun σ' G => ∃ w, σ' = [a0, some (W.ref b), a2, some w, a4, a5, a6, a7, a8, a9] ∧ GV M G 3 40 w) (NA.asg (ea_thing K rfl) fun w G st h => ⟨w, rfl, h⟩) fun σ1 G1 st1 ⟨w, e, h1⟩ => ?_
  subst e
  have K1 := K.le st1.1
  have v3 : EA M b G1 (dVar 3 [a0, some (W.ref b), a2, some w, a4, a5, a6, a7, a8, a9]) fun w G => GV M G 3 40 w := EA.var rfl fun G st => h1.stp st
  refine NA.nx (R := fun σ' G => ∃ w4, σ' = [a0, some (W.ref b), a2, some w, some w4, a5, a6, a7, a8, a9] ∧ LL M 8 50000 5 w4 G) (NA.asg (EA.lst K1 (EA.cons (EA.up v3) (EA.cons (ea_bent T K1 rfl v3) (EA.cons (EA.up (ea_odd K1 rfl)) (EA.cons (EA.mono (ea_name K1 rfl) fun w G _ _ p => (atomB.gv (f := 0) (strB.atom p)).mono (by decide) (by decide)) (EA.cons ?_ EA.nil)))))) fun w4 G st h => ⟨w4, rfl, h⟩) fun σ2 G2 st2 ⟨w4, e, h2⟩ => ?_
  · refine EA.op (P1 := isNat 99) (P2 := fun w _ => w = .int 50) (ea_takeC (n := 99) K1 rfl) (fun _ _ _ p _ => p) (EA.ok fun G st => ⟨rfl, rfl⟩) fun x y G st B ⟨v, hv, e⟩ e2 => ?_
    subst e; subst e2
    exact EV.ok B rfl ((atomB.gv (f := 0) (small_int v hv)).mono (by decide) (by decide))
  · subst e
    have K2 := K1.le st2.1
    intro G st B
    obtain ⟨w7, G7, e7, st7, B7, n, ws, rfl, hm, g7, l7, a7'⟩ := EA.add (σ := [a0, some (W.ref b), a2, some w, some w4, a5, a6, a7, a8, a9]) (d := dVar 4) (e := dLst (dCons (dCall (f__law_near_one Z) (dCons (dVar 1) dNil)) (dCons (dCall (f__law_bent Z) (dCons (dVar 1) (dCons (dCall (f__law_near_one Z) (dCons (dVar 1) dNil)) dNil))) dNil))) (f := 8) (S := 50000) (k := 5) (k' := 2) K2 (EA.var rfl fun G st => h2.stp st) (EA.lst K2 (EA.cons (EA.up (ea_near K2 rfl)) (EA.cons (ea_bent T K2 rfl (ea_near K2 rfl)) EA.nil))) (by decide) G st B
    obtain ⟨σ', G', ef, s', gr⟩ := for_nx (g := .n 5) (body := inner Z) (S := S10 b) (ws := ws) e7 (src_lst g7) ⟨_, _, _, _, _, _, _, _, _, rfl⟩ (fun σ ⟨b0, b2, b3, b4, b5, b6, b7, b8, b9, e⟩ w hw => by
      subst e
      exact ⟨_, rfl, fun G' g => inner_ok T ((a7' w hw).stp g.stp)⟩)
    exact ⟨σ', G', ef, st7.trans gr.stp, B7.gr gr, s'⟩
def turns (Z : Adr) : DS := sFor (iR1 (dCons (dC (.int 20)) dNil)) (.n 2) (turn Z)
theorem turns_ok (T : Txt Z mg) (K : Msk M b G0) (s0 : S10 b σ) : NA M b G0 (turns Z) σ fun σ' _ => S10 b σ' :=
  NA.range (R := fun _ σ _ => S10 b σ) (n := 20) (i := 2) (by decide) (fun _ _ => s0) (fun k σ G ⟨a0, a2, a3, a4, a5, a6, a7, a8, a9, e⟩ => by rw [e]; simp) fun k σ G hk s st => turn_ok T (K.le st.1) (by
    obtain ⟨a0, a2, a3, a4, a5, a6, a7, a8, a9, rfl⟩ := s
    exact ⟨_, _, _, _, _, _, _, _, _, rfl⟩)
end
end K11
end
section
set_option linter.all false
set_option Elab.async false
set_option maxRecDepth 100000
set_option maxHeartbeats 4000100
namespace K11
open PySem L2 Dn
section
variable {G G' G1 G2 : Gh} {σ : Dn.Loc} {d : DE} {Z : Adr} {mg : Str → Option Value} {w : W} {ws us : List W}
theorem src_ok {s : Src} {x : W} {G1 : Gh} (h : d σ G = .ok x G1) (h' : srcAny x G1 = .ok s G2) : iAny d σ G = .ok s G2 := by
  unfold iAny Dn.bnd
  rw [h]
  exact h'
/-- no rules -/
theorem are_rules_nil (T : Txt Z mg) {r : Nat} (h : G[r]? = some (.lst [])) (a c : W) (e : W) : Pu (f_are_rules Z [.ref r, a, c, e]) G (.bl true) := by
  have ht : tyOk Z G (.ref r) = true := by simp only [tyOk, h]; rfl
  have hk : kids (.ref r) G = some [] := by simp only [kids, h]
  refine Pu.def1 rfl ?_
  show Rt (d_are_rules Z) [some (.ref r), some a, some c, some e, none] G _
  unfold d_are_rules
  have hi := pu_isi (Z := Z) (G := G) (σ := [some (.ref r), some a, some c, some e, none]) (i := 0) (dc := dTup (dCons (dC (.ty "list")) (dCons (dC (.ty "tuple")) dNil))) rfl (fun G' => Pu.tup (Pu.cons Pu.c fun _ _ => Pu.cons Pu.c fun _ _ => Pu.nil)) (b := true) fun G2 g2 => by
    rw [isi_seq T (tyOk.gr g2 ht), kids.gr g2 ht, hk] <;> rfl
  refine Rt.guard (r := .non) (Pu.dNot (b := true) (Pu.dB hi)) (fun z => by cases z) fun _ G1 g1 => ?_
  refine Rt.guard (r := .non) (Pu.dNot (b := true) (Pu.dB (pu_allLc (ws := []) (fun _ => true) (fun w' => (wipeD [some (.ref r), some a, some c, some e, none] [4]).set 4 (some w')) (Fix.lst (Pu.var rfl) (g1.get h)) (fun w' hw => by cases hw) (by decide) (fun w' hw => by cases hw)))) (fun z => by cases z) fun _ G2 g2 => Rt.ret ?_
  have g12 := g1.trans g2
  refine Pu.d2 (w := .int 0) (v := .int 0) ?_ (fun G3 g3 => Pu.callB (Pu.cons (Pu.var rfl) fun _ _ => Pu.nil) fun G4 g4 => pu_lenL (((g12.trans g3).trans g4).get h)) fun G4 g4 => pu_eqI 0 0
  have h2 := g12.get h
  refine ⟨G2, ?_, .refl⟩
  have es : iAny (dVar 0) [some (.ref r), some a, some c, some e, none] G2 = .ok ⟨1, getL r, none⟩ G2 := src_ok rfl (by simp only [srcAny, h2] <;> rfl)
  have none0 : getL r 0 G2 = some none := by
    unfold getL
    rw [h2]
    rfl
  unfold dLen0
  rw [es]
  dsimp only
  rw [if_pos rfl, none0]
theorem sorted_nil {n : Nat} (h : G[n]? = some (.lst [])) : sortedW [.ref n] G = .ok (.ref G.length) (G ++ [.lst []]) := by
  unfold sortedW
  dsimp only
  rw [h]
  have e : datEach G [] = some [] := rfl
  unfold sortedL
  dsimp only
  rw [e]
  dsimp only
  rw [if_pos ⟨by decide +kernel, by decide⟩]
  unfold sortD
  rw [List.mergeSort_nil]
  rfl
theorem sorted_a {n : Nat} (h : G[n]? = some (.lst [.str "a"])) : sortedW [.ref n] G = .ok (.ref G.length) (G ++ [.lst [.str "a"]]) := by
  unfold sortedW
  dsimp only
  rw [h]
  have e : datEach G [.str "a"] = some [(.str "a", .str "a")] := rfl
  unfold sortedL
  dsimp only
  rw [e]
  dsimp only
  rw [if_pos ⟨by decide +kernel, by decide⟩]
  unfold sortD
  rw [List.mergeSort_singleton]
  rfl
theorem fld_put {s i : Nat} {C : Addr} {xs : List (Option W)} {v : W} (h : G[s]? = some (.ins C xs)) : setFld (fAt C i) (.ref s) v G = some (G.set s (.ins C (putSW i v xs))) := by
  have e : insQ (.ref s) G = some (s, C, xs) := by simp only [insQ, h]
  unfold setFld
  rw [e]
  dsimp only
  rw [show fAt C i C = some i from if_pos rfl]
  rfl
def ini5 (C : Addr) : DS := sAsg (dTup (dCons (dVar 1) (dCons (dCallB sortedW (dCons (dVar 2) dNil)) (dCons (dCallB sortedW (dCons (dVar 3) dNil)) dNil)))) (gTupD [(gFld (fAt C 4) (dVar 0)), (gFld (fAt C 1) (dVar 0)), (gFld (fAt C 0) (dVar 0))])
theorem ini5_ok {C : Addr} {s dn cn rn : Nat} {x5 x6 x7 x8 : Option W} (hs : G[s]? = some (.ins C [])) (hd : G[dn]? = some (.lst [.str "a"])) (hc : G[cn]? = some (.lst [])) : ∃ G' xs, ini5 C [some (.ref s), some (.int 1), some (.ref dn), some (.ref cn), some (.ref rn), x5, x6, x7, x8] G = .nx [some (.ref s), some (.int 1), some (.ref dn), some (.ref cn), some (.ref rn), x5, x6, x7, x8] G' ∧ G'[s]? = some (.ins C xs) ∧ G.length ≤ G'.length ∧ (∀ i, i < G.length → i ≠ s → G'[i]? = G[i]?) := by
  let σ : Dn.Loc := [some (.ref s), some (.int 1), some (.ref dn), some (.ref cn), some (.ref rn), x5, x6, x7, x8]
  let G1 : Gh := G ++ [.lst [.str "a"]]
  let G2 : Gh := G1 ++ [.lst []]
  have g1 : Gr G G1 := .one
  have g2 : Gr G G2 := g1.trans .one
  have e1 : dCallB sortedW (dCons (dVar 2) dNil) σ G = .ok (.ref G.length) G1 := callB1_of (Ex.var rfl) (sorted_a hd)
  have e2 : dCallB sortedW (dCons (dVar 3) dNil) σ G1 = .ok (.ref G1.length) G2 := callB1_of (Ex.var rfl) (sorted_nil (g1.get hc))
  have a2 : dCons (dCallB sortedW (dCons (dVar 3) dNil)) dNil σ G1 = .ok [.ref G1.length] G2 := cons1_of e2
  have consN : ∀ {d : DE} {ds : DA} {x : W} {us : List W} {Ga Gb Gc : Gh}, d σ Ga = .ok x Gb → ds σ Gb = .ok us Gc → dCons d ds σ Ga = .ok (x :: us) Gc := fun {d ds x us Ga Gb Gc} h h' => by
    unfold dCons Dn.bnd
    rw [h]; dsimp only
    rw [h']
    rfl
  have a3 : dCons (dVar 1) (dCons (dCallB sortedW (dCons (dVar 2) dNil)) (dCons (dCallB sortedW (dCons (dVar 3) dNil)) dNil)) σ G = .ok [.int 1, .ref G.length, .ref G1.length] G2 := consN (show dVar 1 σ G = .ok (.int 1) G from rfl) (consN e1 a2)
  have et : dTup (dCons (dVar 1) (dCons (dCallB sortedW (dCons (dVar 2) dNil)) (dCons (dCallB sortedW (dCons (dVar 3) dNil)) dNil))) σ G = .ok (.tup [.int 1, .ref G.length, .ref G1.length]) G2 := by
    unfold dTup Dn.bnd
    rw [a3]
    rfl
  have hs2 := g2.get hs
  have sl : s < G2.length := (List.getElem?_eq_some_iff.mp hs2).1
  have put : ∀ {Ga : Gh} {i : Nat} {xs : List (Option W)} {v : W}, Ga[s]? = some (.ins C xs) → gFld (fAt C i) (dVar 0) v σ Ga = .nx σ (Ga.set s (.ins C (putSW i v xs))) := fun {Ga i xs v} h => by
    unfold gFld
    rw [show dVar 0 σ Ga = .ok (.ref s) Ga from rfl]
    dsimp only
    rw [fld_put h]
  have p1 := put (i := 4) (v := .int 1) hs2
  have hs3 : (G2.set s (.ins C (putSW 4 (.int 1) [])))[s]? = some (.ins C (putSW 4 (.int 1) [])) := List.getElem?_set_self sl
  have p2 := put (i := 1) (v := .ref G.length) hs3
  have hs4 : ((G2.set s (.ins C (putSW 4 (.int 1) []))).set s (.ins C (putSW 1 (.ref G.length) (putSW 4 (.int 1) []))))[s]? = some (.ins C (putSW 1 (.ref G.length) (putSW 4 (.int 1) []))) := List.getElem?_set_self (by rw [List.length_set]; exact sl)
  have p3 := put (i := 0) (v := .ref G1.length) hs4
  have all : gTupD [(gFld (fAt C 4) (dVar 0)), (gFld (fAt C 1) (dVar 0)), (gFld (fAt C 0) (dVar 0))] (.tup [.int 1, .ref G.length, .ref G1.length]) σ G2 = .nx σ (((G2.set s (.ins C (putSW 4 (.int 1) []))).set s (.ins C (putSW 1 (.ref G.length) (putSW 4 (.int 1) [])))).set s (.ins C (putSW 0 (.ref G1.length) (putSW 1 (.ref G.length) (putSW 4 (.int 1) []))))) := by
    unfold gTupD
    simp only [gAll, p1, p2, p3]
  have run : ini5 C σ G = .nx σ (((G2.set s (.ins C (putSW 4 (.int 1) []))).set s (.ins C (putSW 1 (.ref G.length) (putSW 4 (.int 1) [])))).set s (.ins C (putSW 0 (.ref G1.length) (putSW 1 (.ref G.length) (putSW 4 (.int 1) []))))) := by
    unfold ini5 sAsg sOf
    rw [et]
    dsimp only
    rw [all]
  have z3 : (((G2.set s (.ins C (putSW 4 (.int 1) []))).set s (.ins C (putSW 1 (.ref G.length) (putSW 4 (.int 1) [])))).set s (.ins C (putSW 0 (.ref G1.length) (putSW 1 (.ref G.length) (putSW 4 (.int 1) [])))))[s]? = some (.ins C (putSW 0 (.ref G1.length) (putSW 1 (.ref G.length) (putSW 4 (.int 1) [])))) := List.getElem?_set_self (by rw [List.length_set, List.length_set]; exact sl)
  refine ⟨_, _, run, z3, ?_, fun i hi ne => ?_⟩
  · rw [List.length_set, List.length_set, List.length_set]; exact g2.len
  · rw [List.getElem?_set_ne (Ne.symm ne), List.getElem?_set_ne (Ne.symm ne), List.getElem?_set_ne (Ne.symm ne)]
    obtain ⟨J, e⟩ := g2
    rw [e, List.getElem?_append_left hi]
end
end K11
end
section
set_option linter.all false
set_option Elab.async false
set_option maxRecDepth 100000
set_option maxHeartbeats 4000100
namespace K11
open PySem L2 Dn
section
variable {G G' G1 G2 : Gh} {σ : Dn.Loc} {d : DE} {Z : Adr} {mg : Str → Option Value} {w : W} {ws us : List W}
theorem put_self {i : Nat} {v : W} {xs : List (Option W)} : (putSW i v xs)[i]? = some (some v) := by
  unfold putSW
  exact List.getElem?_set_self (by rw [List.length_append, List.length_replicate]; omega)
theorem put_ne {i j : Nat} {v : W} {xs : List (Option W)} {y : Option W} (h : xs[j]? = some y) (ne : i ≠ j) : (putSW i v xs)[j]? = some y := by
  unfold putSW
  rw [List.getElem?_set_ne ne, List.getElem?_append_left (List.getElem?_eq_some_iff.mp h).1]
  exact h
theorem ini6_ok {C : Addr} {s r : Nat} {xs : List (Option W)} (h0 : σ[0]? = some (some (.ref s))) (h4 : σ[4]? = some (some (.ref r))) (hs : G[s]? = some (.ins C xs)) (hr : G[r]? = some (.lst [])) : ∃ G' D xs', sFldS (fAt C 3) (dVar 0) (dDc0 (iAny (dCallB sortedW (dCons (dVar 4) dNil)))) σ G = .nx σ G' ∧ G'[s]? = some (.ins C xs') ∧ xs'[3]? = some (some (.ref D)) ∧ G'[D]? = some (.dct false []) ∧ D ≠ s := by
  let G1 : Gh := G ++ [.lst []]
  let G2 : Gh := G1 ++ [.dct false []]
  have g1 : Gr G G1 := .one
  have g2 : Gr G G2 := g1.trans .one
  have e1 : dCallB sortedW (dCons (dVar 4) dNil) σ G = .ok (.ref G.length) G1 := callB1_of (by unfold Ex dVar; rw [h4]) (sorted_nil hr)
  have l1 : G1[G.length]? = some (.lst []) := by show (G ++ [GO.lst []])[G.length]? = _; simp
  have es : iAny (dCallB sortedW (dCons (dVar 4) dNil)) σ G = .ok ⟨1, getL G.length, none⟩ G1 := src_ok e1 (by simp only [srcAny, l1] <;> rfl)
  have none0 : getL G.length 0 G2 = some none := by
    unfold getL
    rw [show G2[G.length]? = some (.lst []) from Gr.get (G := G1) .one l1]
    rfl
  have ed : dDc0 (iAny (dCallB sortedW (dCons (dVar 4) dNil))) σ G = .ok (.ref G1.length) G2 := by
    unfold dDc0
    rw [es]
    dsimp only
    rw [if_pos rfl, show G1 ++ [GO.dct false []] = G2 from rfl, none0]
  have hs2 := g2.get hs
  have sl : s < G.length := (List.getElem?_eq_some_iff.mp hs).1
  have ll : G1.length = G.length + 1 := by show (G ++ [GO.lst []]).length = _; simp
  refine ⟨G2.set s (.ins C (putSW 3 (.ref G1.length) xs)), G1.length, putSW 3 (.ref G1.length) xs, ?_, List.getElem?_set_self (Nat.lt_of_lt_of_le sl g2.len), put_self, ?_, by omega⟩
  · unfold sFldS sOf
    rw [ed]; dsimp only
    rw [show dVar 0 σ G2 = .ok (.ref s) G2 by unfold dVar; rw [h0]]
    dsimp only
    rw [fld_put hs2]
  · rw [List.getElem?_set_ne (by omega)]
    show (G1 ++ [GO.dct false []])[G1.length]? = _
    simp
theorem ini7_ok {C : Addr} {s D : Nat} {xs : List (Option W)} (h0 : σ[0]? = some (some (.ref s))) (hs : G[s]? = some (.ins C xs)) (hx : xs[3]? = some (some (.ref D))) (hD : G[D]? = some (.dct false [])) (ne : D ≠ s) : ∃ G' xs', sFldS (fAt C 2) (dVar 0) dDnew σ G = .nx σ G' ∧ G'[s]? = some (.ins C xs') ∧ xs'[3]? = some (some (.ref D)) ∧ G'[D]? = some (.dct false []) := by
  let G1 : Gh := G ++ [.dct false []]
  have g1 : Gr G G1 := .one
  have hs1 := g1.get hs
  have sl : s < G1.length := (List.getElem?_eq_some_iff.mp hs1).1
  refine ⟨G1.set s (.ins C (putSW 2 (.ref G.length) xs)), putSW 2 (.ref G.length) xs, ?_, List.getElem?_set_self sl, put_ne hx (by decide), ?_⟩
  · unfold sFldS sOf
    rw [show dDnew σ G = .ok (.ref G.length) G1 from rfl]
    dsimp only
    rw [show dVar 0 σ G1 = .ok (.ref s) G1 by unfold dVar; rw [h0]]
    dsimp only
    rw [fld_put hs1]
  · rw [List.getElem?_set_ne (Ne.symm ne)]
    exact g1.get hD
theorem ini8_ok {C : Addr} {s D : Nat} {xs : List (Option W)} {g : Tgt} {body : DS} (h0 : σ[0]? = some (some (.ref s))) (hs : G[s]? = some (.ins C xs)) (hx : xs[3]? = some (some (.ref D))) (hD : G[D]? = some (.dct false [])) (ne : D ≠ s) : ∃ G', sFor (iAny (dFld (fAt C 3) (dVar 0))) g body σ G = .nx σ G' ∧ G'[s]? = some (.ins C xs) := by
  have dl : D < G.length := (List.getElem?_eq_some_iff.mp hD).1
  have ef : dFld (fAt C 3) (dVar 0) σ G = .ok (.ref D) G := by
    have ei : insQ (.ref s) G = some (s, C, xs) := by simp only [insQ, hs]
    have eq : slotQ (fAt C 3) (.ref s) G = some (.ref D) := by
      unfold slotQ
      rw [ei]
      dsimp only
      rw [show fAt C 3 C = some 3 from if_pos rfl]
      dsimp only
      rw [hx]
    unfold dFld Dn.bnd
    rw [show dVar 0 σ G = .ok (.ref s) G by unfold dVar; rw [h0]]
    dsimp only
    rw [eq]
  have es : iAny (dFld (fAt C 3) (dVar 0)) σ G = .ok ⟨1, getDk D, some D⟩ (G.set D (.dct true [])) := src_ok ef (by simp only [srcAny, hD, lockSrc] <;> rfl)
  have hD1 : (G.set D (.dct true []))[D]? = some (.dct true []) := List.getElem?_set_self dl
  have lp : loopI (getDk D) g body 1 0 σ (G.set D (.dct true [])) = .nx σ (G.set D (.dct true [])) := by
    unfold loopI
    have : getDk D 0 (G.set D (.dct true [])) = some none := by
      unfold getDk
      rw [hD1]
      rfl
    rw [this]
  refine ⟨(G.set D (.dct true [])).set D (.dct false []), ?_, ?_⟩
  · unfold sFor
    rw [es]
    dsimp only
    rw [if_pos (show lockFree (some D) G = true by simp only [lockFree, hD]), lp]
    simp only [finS, unlkG, hD1]
  · rw [List.getElem?_set_ne ne, List.getElem?_set_ne ne]
    exact hs
theorem ok_str {k : Nat} {x : Str} (h : (PyData.strOk x && decide (x.length ≤ 16777216)) = true) : okV Z G k (.str x) = true := by
  cases k with
  | zero => exact h
  | succ k => unfold okV; rw [Bool.and_eq_true]; exact ⟨h, rfl⟩
theorem ok_lst {n k : Nat} {us : List W} (h : G[n]? = some (.lst us)) (hl : us.length < 4000) (ha : ∀ x ∈ us, okV Z G k x = true) : okV Z G (k + 1) (.ref n) = true := by
  unfold okV
  rw [Bool.and_eq_true]
  refine ⟨by simp only [tyOk, h]; exact decide_eq_true hl, ?_⟩
  rw [show kids (.ref n) G = some us by simp only [kids, h]]
  exact List.all_eq_true.mpr ha
theorem ok_tup {k : Nat} {us : List W} (hl : us.length < 4000) (ha : ∀ x ∈ us, okV Z G k x = true) : okV Z G (k + 1) (.tup us) = true := by
  unfold okV
  rw [Bool.and_eq_true]
  exact ⟨decide_eq_true hl, List.all_eq_true.mpr ha⟩
theorem ok_ins {n k : Nat} {xs : List (Option W)} (h : G[n]? = some (.ins Z.C_Gate xs)) : okV Z G k (.ref n) = true := by
  have ht : tyOk Z G (.ref n) = true := by simp [tyOk, h]
  cases k with
  | zero => exact ht
  | succ k =>
    unfold okV
    rw [Bool.and_eq_true]
    refine ⟨ht, ?_⟩
    rw [show kids (.ref n) G = none by simp only [kids, h]]
theorem each1 {P : W → Prop} {x : W} (h : P x) : ∀ y ∈ [x], P y := fun y hy => by rw [List.mem_singleton.mp hy]; exact h
theorem eachC {P : W → Prop} {x : W} {us : List W} (h : P x) (h' : ∀ y ∈ us, P y) : ∀ y ∈ x :: us, P y := fun y hy => by
  obtain rfl | hy := List.mem_cons.mp hy
  · exact h
  · exact h' y hy
/-- the gate is made -/
theorem init_ok (T : Txt Z mg) {s dn cn rn : Nat} (hs : G[s]? = some (.ins Z.C_Gate [])) (hd : G[dn]? = some (.lst [.str "a"])) (hc : G[cn]? = some (.lst [])) (hr : G[rn]? = some (.lst [])) : ∃ G' xs, f_Gate___init__ Z [.ref s, .int 1, .ref dn, .ref cn, .ref rn] G = .ok .non G' ∧ G'[s]? = some (.ins Z.C_Gate xs) := by
  let σ : Dn.Loc := [some (.ref s), some (.int 1), some (.ref dn), some (.ref cn), some (.ref rn), none, none, none, none]
  have okd : ∀ G', Gr G G' → okV Z G' 1 (.ref dn) = true := fun G' g => ok_lst (g.get hd) (by simp) (each1 (ok_str (by decide +kernel)))
  have okc : ∀ G', Gr G G' → okV Z G' 1 (.ref cn) = true := fun G' g => ok_lst (g.get hc) (by simp) (fun x hx => by cases hx)
  have nd : ∀ G', Gr G G' → namesB (.ref dn) G' = true := fun G' g => by
    simp only [namesB, kids, g.get hd]; decide +kernel
  have nc : ∀ G', Gr G G' → namesB (.ref cn) G' = true := fun G' g => by
    simp only [namesB, kids, g.get hc]; decide +kernel
  have t1 : Pu (dOr (dNot (dB (dCall (f_is_integer Z) (dCons (dVar 1) dNil)))) (dNot (dB (dChain leD leD (dC (.int 1)) (dVar 1) (dC (.int 64))))) σ) G false := by
    refine Pu.dOr (b := false) (c := false) (Pu.dNot (b := true) (Pu.dB (Pu.call (Pu.cons (Pu.var rfl) fun _ _ => Pu.nil) fun G' g => is_integer_ok T rfl))) fun _ G' g => Pu.dNot (b := true) (Pu.dB ?_)
    exact pu_chain (b := true) (c := true) Pu.c (fun _ _ => Pu.var rfl) (fun _ _ => pu_leI 1 1) (fun _ _ _ => Pu.c) fun _ _ _ => pu_leI 1 64
  obtain ⟨G1, q1, g1⟩ := Nx.ifF (s := sNever) (s' := sNext) t1 fun G' g => Nx.next
  have t2 : Pu (dOr (dNot (dB (dCall (f_are_names Z) (dCons (dVar 2) dNil)))) (dB (d2 (fun x y => noX (eqX x y)) (dCallB lenAW (dCons (dVar 2) dNil)) (dC (.int 0)))) σ) G1 false := by
    refine Pu.dOr (b := false) (c := false) (Pu.dNot (b := true) (Pu.dB (Pu.call (Pu.cons (Pu.var rfl) fun _ _ => Pu.nil) fun G' g => by
      have := are_names_ok T (okd G' (g1.trans g))
      rwa [nd G' (g1.trans g)] at this))) fun _ G' g => Pu.dB ?_
    exact Pu.d2 (Pu.callB (Pu.cons (Pu.var rfl) fun _ _ => Pu.nil) fun G2 g2 => pu_lenL (((g1.trans g).trans g2).get hd)) (fun _ _ => Pu.c) fun _ _ => pu_eqI 1 0
  obtain ⟨G2, q2, g2⟩ := Nx.ifF (s := sNever) (s' := sNext) t2 fun G' g => Nx.next
  have g12 := g1.trans g2
  have t3 : Pu (dNot (dB (dCall (f_are_names Z) (dCons (dVar 3) dNil))) σ) G2 false := Pu.dNot (b := true) (Pu.dB (Pu.call (Pu.cons (Pu.var rfl) fun _ _ => Pu.nil) fun G' g => by
      have := are_names_ok T (okc G' (g12.trans g))
      rwa [nc G' (g12.trans g)] at this))
  obtain ⟨G3, q3, g3⟩ := Nx.ifF (s := sNever) (s' := sNext) t3 fun G' g => Nx.next
  have g13 := g12.trans g3
  have t4 : Pu (dNot (dB (dCall (f_are_rules Z) (dCons (dVar 4) (dCons (dVar 1) (dCons (dVar 2) (dCons (dVar 3) dNil)))))) σ) G3 false := Pu.dNot (b := true) (Pu.dB (Pu.call (Pu.cons (Pu.var rfl) fun _ _ => Pu.cons (Pu.var rfl) fun _ _ => Pu.cons (Pu.var rfl) fun _ _ => Pu.cons (Pu.var rfl) fun _ _ => Pu.nil) fun G' g => are_rules_nil T ((g13.trans g).get hr) _ _ _))
  obtain ⟨G4, q4, g4⟩ := Nx.ifF (s := sNever) (s' := sNext) t4 fun G' g => Nx.next
  have g14 := g13.trans g4
  obtain ⟨G5, xs5, q5, s5, l5, k5⟩ := ini5_ok (rn := rn) (x5 := none) (x6 := none) (x7 := none) (x8 := none) (g14.get hs) (g14.get hd) (g14.get hc)
  have rne : rn ≠ s := by
    rintro rfl
    rw [hs] at hr
    cases hr
  have r5 : G5[rn]? = some (.lst []) := by
    rw [k5 rn (List.getElem?_eq_some_iff.mp (g14.get hr)).1 rne]
    exact g14.get hr
  obtain ⟨G6, D, xs6, q6, s6, x6, d6, ne6⟩ := ini6_ok (σ := σ) rfl rfl s5 r5
  obtain ⟨G7, xs7, q7, s7, x7, d7⟩ := ini7_ok (σ := σ) rfl s6 x6 d6 ne6
  obtain ⟨G8, q8, s8⟩ := ini8_ok (σ := σ) (g := .t [5, 6, 7]) (body := (sExpr (dMeth "list" appendW (dMeth "dict" setdefaultW (dFld (fAt Z.C_Gate 2) (dVar 0)) (dCons (dTup (dCons (dVar 5) (dCons (dVar 6) dNil))) (dCons (dLst dNil) dNil))) (dCons (dVar 7) dNil)))) rfl s7 x7 d7 ne6
  refine ⟨G8, xs7, ?_, s8⟩
  have run : d_Gate___init__ Z σ G = .nx σ G8 := (run_seq q1).trans ((run_seq q2).trans ((run_seq q3).trans ((run_seq q4).trans ((run_seq q5).trans ((run_seq q6).trans ((run_seq q7).trans q8))))))
  unfold f_Gate___init__ defB
  rw [if_pos (show [W.ref s, W.int 1, W.ref dn, W.ref cn, W.ref rn].length = 5 from rfl)]
  unfold runB
  rw [show slots 9 [.ref s, .int 1, .ref dn, .ref cn, .ref rn] = σ from rfl, run]
theorem make_ok (T : Txt Z mg) : ∃ G' n xs, dMake Z.C_Gate (f_Gate___init__ Z) (dCons (dC (.int 1)) (dCons (dLst (dCons (dC (.str "a")) dNil)) (dCons (dLst dNil) (dCons (dLst dNil) dNil)))) σ G = .ok (.ref n) G' ∧ G'[n]? = some (.ins Z.C_Gate xs) := by
  let G1 : Gh := G ++ [.lst [.str "a"]]
  let G2 : Gh := G1 ++ [.lst []]
  let G3 : Gh := G2 ++ [.lst []]
  let G4 : Gh := G3 ++ [.ins Z.C_Gate []]
  have g4 : G4[G3.length]? = some (.ins Z.C_Gate []) := by show (G3 ++ [GO.ins Z.C_Gate []])[G3.length]? = _; simp
  have l1 : G1[G.length]? = some (.lst [.str "a"]) := by show (G ++ [GO.lst [.str "a"]])[G.length]? = _; simp
  have l2 : G2[G1.length]? = some (.lst []) := by show (G1 ++ [GO.lst []])[G1.length]? = _; simp
  have l3 : G3[G2.length]? = some (.lst []) := by show (G2 ++ [GO.lst []])[G2.length]? = _; simp
  have g34 : Gr G3 G4 := .one
  have g24 : Gr G2 G4 := Gr.trans .one g34
  have g14 : Gr G1 G4 := Gr.trans .one g24
  have args : dCons (dC (.int 1)) (dCons (dLst (dCons (dC (.str "a")) dNil)) (dCons (dLst dNil) (dCons (dLst dNil) dNil))) σ G = .ok [.int 1, .ref G.length, .ref G1.length, .ref G2.length] G3 := rfl
  obtain ⟨G', xs, e, hs⟩ := init_ok T g4 (g14.get l1) (g24.get l2) (g34.get l3)
  refine ⟨G', G3.length, xs, ?_, hs⟩
  unfold dMake Dn.bnd
  rw [args]
  dsimp only
  rw [show G3 ++ [GO.ins Z.C_Gate []] = G4 from rfl, e]
end
end K11
end
section
set_option linter.all false
set_option Elab.async false
set_option maxRecDepth 100000
set_option maxHeartbeats 4000100
namespace K11
open PySem L2 Dn
section
variable {b : Nat} {G G' G1 G2 : Gh} {σ : Dn.Loc} {d : DE} {Z : Adr} {mg : Str → Option Value} {w : W} {ws us : List W}
def dFalse : DE := d2 (fun x y => noX (mulW x y)) (dLst (dCons (dC (.bl false)) dNil)) (dC (.int 5))
def none5 : List Bool := [false, false, false, false, false]
theorem false_ok : ∃ m G', dFalse σ G = .ok (.ref m) G' ∧ Gr G G' ∧ G'[m]? = some (.lst (none5.map .bl)) := by
  let G1 : Gh := G ++ [.lst [.bl false]]
  have l1 : G1[G.length]? = some (.lst [.bl false]) := by show (G ++ [GO.lst [.bl false]])[G.length]? = _; simp
  have e1 : dLst (dCons (dC (.bl false)) dNil) σ G = .ok (.ref G.length) G1 := rfl
  have e2 : mulW (.ref G.length) (.int 5) G1 = .ok (.ref G1.length) (G1 ++ [.lst (none5.map .bl)]) := by
    unfold mulW
    dsimp only
    rw [l1]
    exact if_pos (by decide)
  refine ⟨G1.length, G1 ++ [.lst (none5.map .bl)], ?_, Gr.trans (G1 := G1) .one .one, by simp⟩
  unfold dFalse d2 Dn.bnd
  rw [e1]; dsimp only
  rw [show dC (.int 5) σ G1 = .ok (.int 5) G1 from rfl]
  dsimp only
  unfold noX
  rw [e2]
def inner2 (Z : Adr) : DS := (sSeq (sAsg (dLst (dFive Z 3)) (gV 7))
    (sIf (dNot (dB (dCall (f__law_alike Z) (dCons (dVar 7) (dCons dFalse dNil))))) (sRet (dC (.bl false))) sNext))
theorem inner2_ok (T : Txt Z mg) (hk : okV Z G 2 w = true) (few : Few w) (h5 : five w G = none5) {a0 a2 a4 a5 a6 a7 a8 a9 : Option W} : ∃ σ2, Nx (inner2 Z) [a0, some (W.ref b), a2, some w, a4, a5, a6, a7, a8, a9] G σ2 ∧ S10 b σ2 := by
  obtain ⟨n, G7, e7, g7, l7⟩ := lstE (σ := [a0, some (W.ref b), a2, some w, a4, a5, a6, a7, a8, a9]) (five_ok (G := G) (j := 3) T rfl hk few) (by simp [five])
  rw [h5] at l7
  have q7 : sAsg (dLst (dFive Z 3)) (gV 7) [a0, some (W.ref b), a2, some w, a4, a5, a6, a7, a8, a9] G = .nx [a0, some (W.ref b), a2, some w, a4, a5, a6, some (.ref n), a8, a9] G7 := by
    unfold sAsg sOf
    rw [e7] <;> rfl
  obtain ⟨m, G8, e8, g8, l8⟩ := false_ok (σ := [a0, some (W.ref b), a2, some w, a4, a5, a6, some (.ref n), a8, a9]) (G := G7)
  have args : dCons (dVar 7) (dCons dFalse dNil) [a0, some (W.ref b), a2, some w, a4, a5, a6, some (.ref n), a8, a9] G7 = .ok [.ref n, .ref m] G8 := by
    have a2' := cons1_of e8
    unfold dCons Dn.bnd at a2' ⊢
    rw [show dVar 7 [a0, some (W.ref b), a2, some w, a4, a5, a6, some (.ref n), a8, a9] G7 = .ok (.ref n) G7 from rfl]
    dsimp only
    rw [a2']
    rfl
  obtain ⟨G9, e9, g9⟩ := alike_ok (Z := Z) (g8.get l7) l8 (by simp [none5]) (by simp [none5])
  have ec : dCall (f__law_alike Z) (dCons (dVar 7) (dCons dFalse dNil)) [a0, some (W.ref b), a2, some w, a4, a5, a6, some (.ref n), a8, a9] G7 = .ok (.bl true) G9 := by
    unfold dCall Dn.bnd
    rw [args]
    exact e9
  have tst : Pu (dNot (dB (dCall (f__law_alike Z) (dCons (dVar 7) (dCons dFalse dNil)))) [a0, some (W.ref b), a2, some w, a4, a5, a6, some (.ref n), a8, a9]) G7 false := Pu.dNot (b := true) (Pu.dB ⟨G9, ec, g8.trans g9⟩)
  obtain ⟨G10, e10, g10⟩ := Nx.ifF (s := sRet (dC (.bl false))) (s' := sNext) tst fun G' g => Nx.next
  refine ⟨[a0, some (W.ref b), a2, some w, a4, a5, a6, some (.ref n), a8, a9], ⟨G10, ?_, g7.trans g10⟩, ⟨_, _, _, _, _, _, _, _, _, rfl⟩⟩
  unfold inner2
  rw [run_seq q7]
  exact e10
/-- the six things that hold the gate -/
structure Gat (Z : Adr) (G : Gh) (w : W) : Prop where
  ok : okV Z G 2 w = true
  few : Few w
  no : five w G = none5
theorem Gat.gr (g : Gr G G') (h : Gat Z G w) : Gat Z G' w := ⟨okV.gr g 2 h.ok, h.few, by
  have := h.no
  unfold five at this ⊢
  rw [namesB.gr g (okV.ty h.ok)]
  exact this⟩
theorem few_of {ws : List W} (h : ws.length < 64) : Few (.tup ws) := fun us e _ => by cases e; exact h
theorem gat1 {n : Nat} {xs : List (Option W)} (h : G[n]? = some (.ins Z.C_Gate xs)) : Gat Z G (.ref n) := ⟨ok_ins h, (fun ws e => by cases e), by
  unfold five
  rw [show namesB (.ref n) G = false by simp only [namesB, kids, h]]
  rfl⟩
theorem gat2 {n m : Nat} {xs : List (Option W)} (h : G[n]? = some (.ins Z.C_Gate xs)) (h' : G[m]? = some (.lst [.ref n])) : Gat Z G (.ref m) := ⟨ok_lst h' (by simp) (each1 (ok_ins h)), (fun ws e => by cases e), by
  unfold five
  rw [show namesB (.ref m) G = false by simp only [namesB, kids, h'] <;> rfl]
  rfl⟩
theorem gat3 {n : Nat} {xs : List (Option W)} (h : G[n]? = some (.ins Z.C_Gate xs)) : Gat Z G (.tup [.ref n]) := ⟨ok_tup (by simp) (each1 (ok_ins h)), few_of (by simp), by
  unfold five
  rw [show namesB (.tup [.ref n]) G = false from rfl]
  rfl⟩
theorem str_ok {x : Str} (h : (PyData.strOk x && decide (x.length ≤ 16777216)) = true) {k : Nat} : okV Z G k (.str x) = true := ok_str h
theorem gat4 {n : Nat} {xs : List (Option W)} (h : G[n]? = some (.ins Z.C_Gate xs)) : Gat Z G (.tup [.str "throw", .ref n]) := ⟨ok_tup (by simp) (eachC (ok_str (by decide +kernel)) (each1 (ok_ins h))), few_of (by simp), by
  unfold five
  rw [show namesB (.tup [.str "throw", .ref n]) G = false by simp only [namesB, kids, List.all_cons, show nameB (.ref n) = false from rfl, Bool.and_false, Bool.false_and],
    show wishB (.tup [.str "throw", .ref n]) = false from rfl, show deedB (.tup [.str "throw", .ref n]) = false by simp only [deedB, oneName]; rw [if_neg (by decide), if_neg (by decide)]; rfl]
  rfl⟩
theorem gat5 {n : Nat} {xs : List (Option W)} (h : G[n]? = some (.ins Z.C_Gate xs)) : Gat Z G (.tup [.tup [.str "a", .ref n]]) := ⟨ok_tup (by simp) (each1 (ok_tup (by simp) (eachC (ok_str (by decide +kernel)) (each1 (ok_ins h))))), few_of (by simp), by
  unfold five
  rw [show namesB (.tup [.tup [.str "a", .ref n]]) G = false from rfl]
  have : pairB (.tup [.str "a", .ref n]) = false := by simp only [pairB, show nameB (.ref n) = false from rfl, Bool.and_false]
  rw [show wishB (.tup [.tup [.str "a", .ref n]]) = false by simp only [wishB, List.all_cons, this, Bool.false_and, Bool.and_false]]
  rfl⟩
theorem gat6 {n : Nat} {xs : List (Option W)} (h : G[n]? = some (.ins Z.C_Gate xs)) : Gat Z G (.tup [.str "hand", .ref n, .str "a", .str "b"]) := ⟨ok_tup (by simp) (eachC (ok_str (by decide +kernel)) (eachC (ok_ins h) (eachC (ok_str (by decide +kernel)) (each1 (ok_str (by decide +kernel)))))), few_of (by simp), by
  unfold five
  rw [show namesB (.tup [.str "hand", .ref n, .str "a", .str "b"]) G = false by simp only [namesB, kids, List.all_cons, show nameB (.ref n) = false from rfl, Bool.and_false, Bool.false_and],
    show wishB (.tup [.str "hand", .ref n, .str "a", .str "b"]) = false from rfl, show deedB (.tup [.str "hand", .ref n, .str "a", .str "b"]) = false by simp only [deedB, show nameB (.ref n) = false from rfl, Bool.false_and]; rw [if_neg (by decide), if_pos (by decide)]]
  rfl⟩
end
end K11
end
section
set_option linter.all false
set_option Elab.async false
set_option maxRecDepth 100000
set_option maxHeartbeats 4000100
namespace K11
open PySem L2 Dn
section
variable {b : Nat} {G G' G1 G2 : Gh} {σ : Dn.Loc} {d : DE} {Z : Adr} {mg : Str → Option Value} {w : W} {ws us : List W}
theorem consC_of {x : W} {ds : DA} {us : List W} (h : ds σ G = .ok us G') : dCons (dC x) ds σ G = .ok (x :: us) G' := by
  unfold dCons Dn.bnd
  rw [show dC x σ G = .ok x G from rfl]
  dsimp only
  rw [h]
  rfl
def absI (i : Int) : Int := if i < 0 then -i else i
def absV : W → W
  | .int i => .int (absI i)
  | w => w
def dCells : DE := dLc (iAny (dSl (dVar 0) dNoPart (dPart (dC (.int 63))))) (.n 1) dYes (dCallB absW (dCons (dVar 1) dNil)) [1]
theorem cut_map (ns : List Int) (lo hi : Option Int) : ∃ ms : List Int, cutW (ns.map .int) lo hi = ms.map .int ∧ ms.length ≤ ns.length := by
  refine ⟨(ns.drop (HT.sIx ns.length 0 lo)).take (HT.sIx ns.length ns.length hi - HT.sIx ns.length 0 lo), ?_, by rw [List.length_take, List.length_drop]; omega⟩
  unfold cutW
  rw [List.length_map, List.map_take, List.map_drop]
theorem bag_ok (ns : List Int) (hn : ns.length ≤ 63) : ∃ b G, f__law_bag Z [.rol (ns.map .int)] [] = .ok (.ref b) G ∧ Bag b G ∧ b < G.length := by
  obtain ⟨ms, em, lm⟩ := cut_map ns none (some 63)
  let σ : Dn.Loc := [some (.rol (ns.map .int)), none]
  have e0 : dSl (dVar 0) dNoPart (dPart (dC (.int 63))) σ [] = .ok (.ref 0) [.lst (ms.map .int)] := by
    show noX (slW (.rol (ns.map .int)) none (some 63)) [] = _
    unfold noX slW
    dsimp only
    rw [em]
    rfl
  have es : iAny (dSl (dVar 0) dNoPart (dPart (dC (.int 63)))) σ [] = .ok ⟨(ms.map W.int).length + 1, getL 0, none⟩ [.lst (ms.map .int)] := src_ok e0 rfl
  have fx : Fix (iAny (dSl (dVar 0) dNoPart (dPart (dC (.int 63))))) σ [] (ms.map .int) := ⟨[.lst (ms.map .int)], getL 0, es, ⟨_, rfl⟩, fun i G' gr => by
    have : G'[0]? = some (.lst (ms.map .int)) := gr.get rfl
    unfold getL
    rw [this]⟩
  obtain ⟨c, G1, e1, g1, l1⟩ := lc_ok (t := dYes) (e := dCallB absW (dCons (dVar 1) dNil)) (g := .n 1) (vs := [1]) (fun _ => true) absV (fun w => (wipeD σ [1]).set 1 (some w)) fx (fun w _ => rfl) (by rw [List.length_map]; omega) (fun w _ G' _ => Pu.ret) fun w hw _ G' _ => by
    obtain ⟨i, _, rfl⟩ := List.mem_map.mp hw
    exact ⟨G', callB1_of (Ex.var rfl) rfl, .refl⟩
  have l2 : G1[c]? = some (.lst ((ms.map absI).map .int)) := by
    rw [l1, List.filter_eq_self.mpr (fun _ _ => rfl), List.map_map, List.map_map]
    rfl
  have cl : c < G1.length := (List.getElem?_eq_some_iff.mp l2).1
  have gb : Gr G1 (G1 ++ [.lst [.int 0, .int 1234567891, .int 0, .ref c]]) := .one
  refine ⟨G1.length, G1 ++ [.lst [.int 0, .int 1234567891, .int 0, .ref c]], ?_, ⟨0, 1234567891, 0, c, ms.map absI, by simp, cl, gb.get l2, by decide, fun x hx => ?_, by decide, by decide, by decide⟩, by simp⟩
  · have ed : dLst (dCons (dC (.int 0)) (dCons (dC (.int 1234567891)) (dCons (dC (.int 0)) (dCons dCells dNil)))) σ [] = .ok (.ref G1.length) (G1 ++ [.lst [.int 0, .int 1234567891, .int 0, .ref c]]) := by
      unfold dLst Dn.bnd
      rw [consC_of (consC_of (consC_of (cons1_of (show dCells σ [] = .ok (.ref c) G1 from e1))))]
      rfl
    unfold f__law_bag defB
    rw [if_pos (show [W.rol (ns.map .int)].length = 1 from rfl)]
    unfold runB
    have : d__law_bag Z σ [] = .rt (.ref G1.length) (G1 ++ [.lst [.int 0, .int 1234567891, .int 0, .ref c]]) := by
      show sRet (dLst (dCons (dC (.int 0)) (dCons (dC (.int 1234567891)) (dCons (dC (.int 0)) (dCons dCells dNil))))) σ [] = _
      unfold sRet sOf
      rw [ed]
    rw [show slots 2 [W.rol (ns.map .int)] = σ from rfl, this]
  · obtain ⟨i, _, rfl⟩ := List.mem_map.mp hx
    unfold absI
    split <;> omega
def dSix : DE := dTup (dCons (dVar 9) (dCons (dLst (dCons (dVar 9) dNil)) (dCons (dTup (dCons (dVar 9) dNil)) (dCons (dTup (dCons (dC (.str "throw")) (dCons (dVar 9) dNil))) (dCons (dTup (dCons (dTup (dCons (dC (.str "a")) (dCons (dVar 9) dNil))) dNil)) (dCons (dTup (dCons (dC (.str "hand")) (dCons (dVar 9) (dCons (dC (.str "a")) (dCons (dC (.str "b")) dNil))))) dNil))))))
def six (n m : Nat) : List W := [.ref n, .ref m, .tup [.ref n], .tup [.str "throw", .ref n], .tup [.tup [.str "a", .ref n]], .tup [.str "hand", .ref n, .str "a", .str "b"]]
theorem six_ok {n : Nat} (h : σ[9]? = some (some (.ref n))) : dSix σ G = .ok (.tup (six n G.length)) (G ++ [.lst [.ref n]]) := by
  have v : ∀ G, dVar 9 σ G = .ok (.ref n) G := fun G => by unfold dVar; rw [h]
  have consN : ∀ {d : DE} {ds : DA} {x : W} {us : List W} {Ga Gb Gc : Gh}, d σ Ga = .ok x Gb → ds σ Gb = .ok us Gc → dCons d ds σ Ga = .ok (x :: us) Gc := fun {d ds x us Ga Gb Gc} h h' => by
    unfold dCons Dn.bnd
    rw [h]; dsimp only
    rw [h']
    rfl
  have tupN : ∀ {ds : DA} {us : List W} {Ga Gb : Gh}, ds σ Ga = .ok us Gb → us.length ≤ 16777216 → dTup ds σ Ga = .ok (.tup us) Gb := fun {ds us Ga Gb} h hl => by
    unfold dTup Dn.bnd
    rw [h]
    dsimp only
    rw [if_pos hl]
    rfl
  have nil : ∀ G, dNil σ G = .ok [] G := fun _ => rfl
  have l : dLst (dCons (dVar 9) dNil) σ G = .ok (.ref G.length) (G ++ [.lst [.ref n]]) := by
    unfold dLst Dn.bnd
    rw [consN (v G) (nil G)]
    rfl
  have G3 := G ++ [GO.lst [.ref n]]
  exact tupN (consN (v _) (consN l (consN (tupN (consN (v _) (nil _)) (Nat.le_of_ble_eq_true rfl)) (consN (tupN (consC_of (consN (v _) (nil _))) (Nat.le_of_ble_eq_true rfl)) (consN (tupN (consN (tupN (consC_of (consN (v _) (nil _))) (Nat.le_of_ble_eq_true rfl)) (nil _)) (Nat.le_of_ble_eq_true rfl)) (consN (tupN (consC_of (consN (v _) (consC_of (consC_of (nil _))))) (Nat.le_of_ble_eq_true rfl)) (nil _))))))) (Nat.le_of_ble_eq_true rfl)
def dEnd (Z : Adr) : DE := dAndV (d2 (fun x y => noX (isW x y)) (dCall (f_are_names Z) (dCons (dLst dNil) dNil)) (dC (.bl true))) (dAndV (d2 (fun x y => noX (isW x y)) (dCall (f_are_names Z) (dCons (dTup dNil) dNil)) (dC (.bl true))) (d2 (fun x y => noX (isW x y)) (dCall (f_is_wish Z) (dCons (dTup dNil) dNil)) (dC (.bl false))))
theorem end_ok (T : Txt Z mg) : Pu (dEnd Z σ) G (.bl true) := by
  have is : ∀ (c : Bool) (G : Gh), Pu (isW (.bl c) (.bl c)) G (.bl true) := fun c G => ⟨G, by cases c <;> rfl, .refl⟩
  have okT : ∀ (k : Nat) (G : Gh), okV Z G k (.tup []) = true := fun k G => by
    cases k with
    | zero => rfl
    | succ k => rfl
  refine Pu.dAndV (b := true) (c := true) (Pu.d2 (w := .bl true) (v := .bl true) ?_ (fun _ _ => Pu.c) fun G' _ => is true G') fun _ G1 g1 => Pu.dAndV (b := true) (c := true) (Pu.d2 (w := .bl true) (v := .bl true) (Pu.call (Pu.cons (Pu.tup Pu.nil) fun _ _ => Pu.nil) fun G' g => ?_) (fun _ _ => Pu.c) fun G' _ => is true G') fun _ G2 g2 => Pu.d2 (w := .bl false) (v := .bl false) (Pu.call (Pu.cons (Pu.tup Pu.nil) fun _ _ => Pu.nil) fun G' g => ?_) (fun _ _ => Pu.c) fun G' _ => is false G'
  · have l : (G ++ [GO.lst []])[G.length]? = some (.lst []) := by simp
    have a : dCons (dLst dNil) dNil σ G = .ok [.ref G.length] (G ++ [.lst []]) := rfl
    obtain ⟨G', e, g⟩ := are_names_ok T (ok_lst (Z := Z) (k := 0) l (by simp) (fun x hx => by cases hx))
    rw [show namesB (.ref G.length) (G ++ [GO.lst []]) = true by simp only [namesB, kids, l] <;> rfl] at e
    refine ⟨G', ?_, Gr.one.trans g⟩
    unfold dCall Dn.bnd
    rw [a]
    exact e
  · exact are_names_ok T (okT 1 G')
  · exact is_wish_ok T (okT 2 G') (few_of (by simp))
theorem law_eq : d_law Z = sSeq (sAsg (dCall (f__law_bag Z) (dCons (dVar 0) dNil)) (gV 1)) (sSeq (turns Z) (sSeq (sAsg (dMake Z.C_Gate (f_Gate___init__ Z) (dCons (dC (.int 1)) (dCons (dLst (dCons (dC (.str "a")) dNil)) (dCons (dLst dNil) (dCons (dLst dNil) dNil))))) (gV 9)) (sSeq (sFor (iAny dSix) (.n 3) (inner2 Z)) (sRet (dEnd Z))))) := rfl
theorem law_true (T : Txt Z mg) (ns : List Int) (hn : ns.length ≤ 63) : ∃ G, f_law Z [.rol (ns.map .int)] [] = .ok (.bl true) G := by
  obtain ⟨b, G0, e0, B0, hb⟩ := bag_ok (Z := Z) ns hn
  let σ0 : Dn.Loc := [some (.rol (ns.map .int)), none, none, none, none, none, none, none, none, none]
  let σ1 : Dn.Loc := [some (.rol (ns.map .int)), some (.ref b), none, none, none, none, none, none, none, none]
  have q1 : sAsg (dCall (f__law_bag Z) (dCons (dVar 0) dNil)) (gV 1) σ0 [] = .nx σ1 G0 := by
    have : dCall (f__law_bag Z) (dCons (dVar 0) dNil) σ0 [] = .ok (.ref b) G0 := by
      unfold dCall Dn.bnd
      rw [show dCons (dVar 0) dNil σ0 [] = .ok [.rol (ns.map .int)] [] from rfl]
      exact e0
    unfold sAsg sOf
    rw [this] <;> rfl
  have K : Msk (fun i => decide (i = b)) b G0 := ⟨by simp, fun i hi => by rw [of_decide_eq_true hi]; exact hb⟩
  obtain ⟨_, G1, q2, st1, B1, a0, a2, a3, a4, a5, a6, a7, a8, a9, rfl⟩ := turns_ok (σ := σ1) T K ⟨_, _, _, _, _, _, _, _, _, rfl⟩ G0 .refl B0
  obtain ⟨G2, n, xs, e3, h3⟩ := make_ok (σ := [a0, some (W.ref b), a2, a3, a4, a5, a6, a7, a8, a9]) (G := G1) T
  have q3 : sAsg (dMake Z.C_Gate (f_Gate___init__ Z) (dCons (dC (.int 1)) (dCons (dLst (dCons (dC (.str "a")) dNil)) (dCons (dLst dNil) (dCons (dLst dNil) dNil))))) (gV 9) [a0, some (W.ref b), a2, a3, a4, a5, a6, a7, a8, a9] G1 = .nx [a0, some (W.ref b), a2, a3, a4, a5, a6, a7, a8, some (.ref n)] G2 := by
    unfold sAsg sOf
    rw [e3] <;> rfl
  have e4 : dSix [a0, some (W.ref b), a2, a3, a4, a5, a6, a7, a8, some (.ref n)] G2 = .ok (.tup (six n G2.length)) (G2 ++ [.lst [.ref n]]) := six_ok rfl
  have h4 : (G2 ++ [GO.lst [.ref n]])[n]? = some (.ins Z.C_Gate xs) := Gr.one.get h3
  have l4 : (G2 ++ [GO.lst [.ref n]])[G2.length]? = some (.lst [.ref n]) := by simp
  have gat : ∀ w ∈ six n G2.length, Gat Z (G2 ++ [GO.lst [.ref n]]) w := eachC (gat1 h4) (eachC (gat2 h4 l4) (eachC (gat3 h4) (eachC (gat4 h4) (eachC (gat5 h4) (each1 (gat6 h4))))))
  obtain ⟨σ5, G5, q5, _, g5⟩ := for_nx (g := .n 3) (body := inner2 Z) (S := S10 b) (ws := six n G2.length) e4 srcT ⟨_, _, _, _, _, _, _, _, _, rfl⟩ (fun σ ⟨b0, b2, b3, b4, b5, b6, b7, b8, b9, e⟩ w hw => by
    subst e
    exact ⟨_, rfl, fun G' g => by
      have h := (gat w hw).gr g
      exact inner2_ok T h.ok h.few h.no⟩)
  obtain ⟨G6, e6, _⟩ := end_ok (σ := σ5) (G := G5) T
  refine ⟨G6, ?_⟩
  have run : d_law Z σ0 [] = .rt (.bl true) G6 := by
    rw [law_eq]
    refine (run_seq q1).trans ((run_seq q2).trans ((run_seq q3).trans ((run_seq q5).trans ?_)))
    unfold sRet sOf
    rw [e6]
  unfold f_law defB
  rw [if_pos (show [W.rol (ns.map .int)].length = 1 from rfl)]
  unfold runB
  rw [show slots 10 [W.rol (ns.map .int)] = σ0 from rfl, run]
end
end K11
end
section
set_option Elab.async false
set_option backward.match.sparseCases false
set_option linter.all false
set_option maxRecDepth 100000
set_option maxHeartbeats 4000100
namespace K11
open PySem L2 Dn
theorem all_mk {l : PySem.W.OpenLaw} {w : World} {K : PySem.W.Frag} {h : Heap} {mg : Str → Option Value} {fa : Addr} (X : K.In h) (G : h.Ns mainGlobals mg) (hfa : mg "law" = some (.ref fa))
    {C_Gate : Addr} {v_GIVEN : Value} {v_KEPT : Value} {v_LETTERS : Value} {v_LONGEST : Value} {v_MOST_STATES : Value} {v_NOTHING : Value} {v_OTHER : Value} {dp_Gate_its_closet : Addr} {dp_Gate_its_doors : Addr} {dp_Gate_its_kinds : Addr} {dp_Gate_its_rules : Addr} {dp_Gate_its_states : Addr} {a_is_integer : Addr} {oc_is_integer : Value} {kV_is_integer : Value} {dc_is_integer : Value} {pm_is_integer : Value} {cd_is_integer : Value} {ct_is_integer : Value} {od_is_integer : Option Addr} {an_is_integer : Option Addr} {sl_is_integer : Array (Option Value)} {a_is_name : Addr} {oc_is_name : Value} {kV_is_name : Value} {dc_is_name : Value} {pm_is_name : Value} {cd_is_name : Value} {ct_is_name : Value} {od_is_name : Option Addr} {an_is_name : Option Addr} {sl_is_name : Array (Option Value)} {a_are_names : Addr} {oc_are_names : Value} {kV_are_names : Value} {dc_are_names : Value} {pm_are_names : Value} {cd_are_names : Value} {ct_are_names : Value} {od_are_names : Option Addr} {an_are_names : Option Addr} {sl_are_names : Array (Option Value)} {a_is_pair : Addr} {oc_is_pair : Value} {kV_is_pair : Value} {dc_is_pair : Value} {pm_is_pair : Value} {cd_is_pair : Value} {ct_is_pair : Value} {od_is_pair : Option Addr} {an_is_pair : Option Addr} {sl_is_pair : Array (Option Value)} {a_is_wish : Addr} {oc_is_wish : Value} {kV_is_wish : Value} {dc_is_wish : Value} {pm_is_wish : Value} {cd_is_wish : Value} {ct_is_wish : Value} {od_is_wish : Option Addr} {an_is_wish : Option Addr} {sl_is_wish : Array (Option Value)} {a_is_call : Addr} {oc_is_call : Value} {kV_is_call : Value} {dc_is_call : Value} {pm_is_call : Value} {cd_is_call : Value} {ct_is_call : Value} {od_is_call : Option Addr} {an_is_call : Option Addr} {sl_is_call : Array (Option Value)} {a_is_deed : Addr} {oc_is_deed : Value} {kV_is_deed : Value} {dc_is_deed : Value} {pm_is_deed : Value} {cd_is_deed : Value} {ct_is_deed : Value} {od_is_deed : Option Addr} {an_is_deed : Option Addr} {sl_is_deed : Array (Option Value)} {a_is_state : Addr} {oc_is_state : Value} {kV_is_state : Value} {dc_is_state : Value} {pm_is_state : Value} {cd_is_state : Value} {ct_is_state : Value} {od_is_state : Option Addr} {an_is_state : Option Addr} {sl_is_state : Array (Option Value)} {a_is_kind : Addr} {oc_is_kind : Value} {kV_is_kind : Value} {dc_is_kind : Value} {pm_is_kind : Value} {cd_is_kind : Value} {ct_is_kind : Value} {od_is_kind : Option Addr} {an_is_kind : Option Addr} {sl_is_kind : Array (Option Value)} {a_is_word : Addr} {oc_is_word : Value} {kV_is_word : Value} {dc_is_word : Value} {pm_is_word : Value} {cd_is_word : Value} {ct_is_word : Value} {od_is_word : Option Addr} {an_is_word : Option Addr} {sl_is_word : Array (Option Value)} {a_is_rule : Addr} {oc_is_rule : Value} {kV_is_rule : Value} {dc_is_rule : Value} {pm_is_rule : Value} {cd_is_rule : Value} {ct_is_rule : Value} {od_is_rule : Option Addr} {an_is_rule : Option Addr} {sl_is_rule : Array (Option Value)} {a_are_rules : Addr} {oc_are_rules : Value} {kV_are_rules : Value} {dc_are_rules : Value} {pm_are_rules : Value} {cd_are_rules : Value} {ct_are_rules : Value} {od_are_rules : Option Addr} {an_are_rules : Option Addr} {sl_are_rules : Array (Option Value)} {a_Gate___init__ : Addr} {oc_Gate___init__ : Value} {kV_Gate___init__ : Value} {dc_Gate___init__ : Value} {pm_Gate___init__ : Value} {cd_Gate___init__ : Value} {ct_Gate___init__ : Value} {od_Gate___init__ : Option Addr} {an_Gate___init__ : Option Addr} {sl_Gate___init__ : Array (Option Value)} {a_Gate___eq__ : Addr} {oc_Gate___eq__ : Value} {kV_Gate___eq__ : Value} {dc_Gate___eq__ : Value} {pm_Gate___eq__ : Value} {cd_Gate___eq__ : Value} {ct_Gate___eq__ : Value} {od_Gate___eq__ : Option Addr} {an_Gate___eq__ : Option Addr} {sl_Gate___eq__ : Array (Option Value)} {a_Gate_states : Addr} {pp_Gate_states : Addr} {pr_Gate_states : List Value} {oc_Gate_states : Value} {kV_Gate_states : Value} {dc_Gate_states : Value} {pm_Gate_states : Value} {cd_Gate_states : Value} {ct_Gate_states : Value} {od_Gate_states : Option Addr} {an_Gate_states : Option Addr} {sl_Gate_states : Array (Option Value)} {a_Gate_doors : Addr} {oc_Gate_doors : Value} {kV_Gate_doors : Value} {dc_Gate_doors : Value} {pm_Gate_doors : Value} {cd_Gate_doors : Value} {ct_Gate_doors : Value} {od_Gate_doors : Option Addr} {an_Gate_doors : Option Addr} {sl_Gate_doors : Array (Option Value)} {a_Gate_closet : Addr} {oc_Gate_closet : Value} {kV_Gate_closet : Value} {dc_Gate_closet : Value} {pm_Gate_closet : Value} {cd_Gate_closet : Value} {ct_Gate_closet : Value} {od_Gate_closet : Option Addr} {an_Gate_closet : Option Addr} {sl_Gate_closet : Array (Option Value)} {a_Gate_kind_of : Addr} {oc_Gate_kind_of : Value} {kV_Gate_kind_of : Value} {dc_Gate_kind_of : Value} {pm_Gate_kind_of : Value} {cd_Gate_kind_of : Value} {ct_Gate_kind_of : Value} {od_Gate_kind_of : Option Addr} {an_Gate_kind_of : Option Addr} {sl_Gate_kind_of : Array (Option Value)} {a_Gate_call : Addr} {oc_Gate_call : Value} {kV_Gate_call : Value} {dc_Gate_call : Value} {pm_Gate_call : Value} {cd_Gate_call : Value} {ct_Gate_call : Value} {od_Gate_call : Option Addr} {an_Gate_call : Option Addr} {sl_Gate_call : Array (Option Value)} {a__law_bag : Addr} {oc__law_bag : Value} {kV__law_bag : Value} {dc__law_bag : Value} {pm__law_bag : Value} {cd__law_bag : Value} {ct__law_bag : Value} {od__law_bag : Option Addr} {an__law_bag : Option Addr} {sl__law_bag : Array (Option Value)} {a__law_take : Addr} {oc__law_take : Value} {kV__law_take : Value} {dc__law_take : Value} {pm__law_take : Value} {cd__law_take : Value} {ct__law_take : Value} {od__law_take : Option Addr} {an__law_take : Option Addr} {sl__law_take : Array (Option Value)} {a__law_one : Addr} {oc__law_one : Value} {kV__law_one : Value} {dc__law_one : Value} {pm__law_one : Value} {cd__law_one : Value} {ct__law_one : Value} {od__law_one : Option Addr} {an__law_one : Option Addr} {sl__law_one : Array (Option Value)} {a__law_alike : Addr} {oc__law_alike : Value} {kV__law_alike : Value} {dc__law_alike : Value} {pm__law_alike : Value} {cd__law_alike : Value} {ct__law_alike : Value} {od__law_alike : Option Addr} {an__law_alike : Option Addr} {sl__law_alike : Array (Option Value)} {a__law_is_whole : Addr} {oc__law_is_whole : Value} {kV__law_is_whole : Value} {dc__law_is_whole : Value} {pm__law_is_whole : Value} {cd__law_is_whole : Value} {ct__law_is_whole : Value} {od__law_is_whole : Option Addr} {an__law_is_whole : Option Addr} {sl__law_is_whole : Array (Option Value)} {a__law_is_name : Addr} {oc__law_is_name : Value} {kV__law_is_name : Value} {dc__law_is_name : Value} {pm__law_is_name : Value} {cd__law_is_name : Value} {ct__law_is_name : Value} {od__law_is_name : Option Addr} {an__law_is_name : Option Addr} {sl__law_is_name : Array (Option Value)} {a__law_are_names : Addr} {oc__law_are_names : Value} {kV__law_are_names : Value} {dc__law_are_names : Value} {pm__law_are_names : Value} {cd__law_are_names : Value} {ct__law_are_names : Value} {od__law_are_names : Option Addr} {an__law_are_names : Option Addr} {sl__law_are_names : Array (Option Value)} {a__law_odd : Addr} {oc__law_odd : Value} {kV__law_odd : Value} {dc__law_odd : Value} {pm__law_odd : Value} {cd__law_odd : Value} {ct__law_odd : Value} {od__law_odd : Option Addr} {an__law_odd : Option Addr} {sl__law_odd : Array (Option Value)} {a__law_is_deed : Addr} {oc__law_is_deed : Value} {kV__law_is_deed : Value} {dc__law_is_deed : Value} {pm__law_is_deed : Value} {cd__law_is_deed : Value} {ct__law_is_deed : Value} {od__law_is_deed : Option Addr} {an__law_is_deed : Option Addr} {sl__law_is_deed : Array (Option Value)} {a__law_is_wish : Addr} {oc__law_is_wish : Value} {kV__law_is_wish : Value} {dc__law_is_wish : Value} {pm__law_is_wish : Value} {cd__law_is_wish : Value} {ct__law_is_wish : Value} {od__law_is_wish : Option Addr} {an__law_is_wish : Option Addr} {sl__law_is_wish : Array (Option Value)} {a__law_some_name : Addr} {oc__law_some_name : Value} {kV__law_some_name : Value} {dc__law_some_name : Value} {pm__law_some_name : Value} {cd__law_some_name : Value} {ct__law_some_name : Value} {od__law_some_name : Option Addr} {an__law_some_name : Option Addr} {sl__law_some_name : Array (Option Value)} {a__law_drawn_thing : Addr} {oc__law_drawn_thing : Value} {kV__law_drawn_thing : Value} {dc__law_drawn_thing : Value} {pm__law_drawn_thing : Value} {cd__law_drawn_thing : Value} {ct__law_drawn_thing : Value} {od__law_drawn_thing : Option Addr} {an__law_drawn_thing : Option Addr} {sl__law_drawn_thing : Array (Option Value)} {a__law_near_one : Addr} {oc__law_near_one : Value} {kV__law_near_one : Value} {dc__law_near_one : Value} {pm__law_near_one : Value} {cd__law_near_one : Value} {ct__law_near_one : Value} {od__law_near_one : Option Addr} {an__law_near_one : Option Addr} {sl__law_near_one : Array (Option Value)} {a__law_bent : Addr} {oc__law_bent : Value} {kV__law_bent : Value} {dc__law_bent : Value} {pm__law_bent : Value} {cd__law_bent : Value} {ct__law_bent : Value} {od__law_bent : Option Addr} {an__law_bent : Option Addr} {sl__law_bent : Array (Option Value)} {a_law : Addr} {oc_law : Value} {kV_law : Value} {dc_law : Value} {pm_law : Value} {cd_law : Value} {ct_law : Value} {od_law : Option Addr} {an_law : Option Addr} {sl_law : Array (Option Value)}
    (gC_Gate : PySem.W.nsIn K mainGlobals "Gate" = some (some (.ref C_Gate)))
    (b_abs : PySem.W.nsIn K mainGlobals "abs" = some none)
    (b_all : PySem.W.nsIn K mainGlobals "all" = some none)
    (b_bool : PySem.W.nsIn K mainGlobals "bool" = some none)
    (b_dict : PySem.W.nsIn K mainGlobals "dict" = some none)
    (b_int : PySem.W.nsIn K mainGlobals "int" = some none)
    (b_isinstance : PySem.W.nsIn K mainGlobals "isinstance" = some none)
    (b_len : PySem.W.nsIn K mainGlobals "len" = some none)
    (b_list : PySem.W.nsIn K mainGlobals "list" = some none)
    (b_range : PySem.W.nsIn K mainGlobals "range" = some none)
    (b_repr : PySem.W.nsIn K mainGlobals "repr" = some none)
    (b_set : PySem.W.nsIn K mainGlobals "set" = some none)
    (b_sorted : PySem.W.nsIn K mainGlobals "sorted" = some none)
    (b_str : PySem.W.nsIn K mainGlobals "str" = some none)
    (b_tuple : PySem.W.nsIn K mainGlobals "tuple" = some none)
    (g_GIVEN : PySem.W.nsIn K mainGlobals "GIVEN" = some (some v_GIVEN))
    (rg_GIVEN : RelV (.str "+given") v_GIVEN)
    (g_KEPT : PySem.W.nsIn K mainGlobals "KEPT" = some (some v_KEPT))
    (rg_KEPT : RelV (.str "+kept") v_KEPT)
    (g_LETTERS : PySem.W.nsIn K mainGlobals "LETTERS" = some (some v_LETTERS))
    (rg_LETTERS : RelV (.str "abcdefghijklmnopqrstuvwxyz") v_LETTERS)
    (g_LONGEST : PySem.W.nsIn K mainGlobals "LONGEST" = some (some v_LONGEST))
    (rg_LONGEST : RelV (.int 8) v_LONGEST)
    (g_MOST_STATES : PySem.W.nsIn K mainGlobals "MOST_STATES" = some (some v_MOST_STATES))
    (rg_MOST_STATES : RelV (.int 64) v_MOST_STATES)
    (g_NOTHING : PySem.W.nsIn K mainGlobals "NOTHING" = some (some v_NOTHING))
    (rg_NOTHING : RelV (.str "") v_NOTHING)
    (g_OTHER : PySem.W.nsIn K mainGlobals "OTHER" = some (some v_OTHER))
    (rg_OTHER : RelV (.str "?") v_OTHER)
    (ty_Gate : PySem.W.typeIn K (.ref C_Gate) = some (.type "type"))
    (pg_Gate : PySem.W.plainGet K C_Gate Str.empty = true)
    (ic_Gate : PySem.W.isClsIn K C_Gate = true)
    (po_Gate : PySem.W.plainOver K C_Gate = true)
    (sa_Gate : PySem.W.findIn K (.ref C_Gate) "__setattr__" = some (some (.builtin "object.__setattr__")))
    (ca_Gate : PySem.W.findIn K (.ref C_Gate) "__class__" = some (some (.builtin "object.__class__")))
    (cn_Gate : PySem.W.specialIn K (.builtin "object.__class__") "__get__" = some (some (.builtin "getset_descriptor.__get__")))
    (ct_Gate : PySem.W.takesIn K (.builtin "object.__class__") = some true)
    (cm_Gate : PySem.W.mroIn K C_Gate (.type "object") = some true)
    (i_Gate_int : PySem.W.subIn K (.ref C_Gate) (.type "int") = some false)
    (i_Gate_bool : PySem.W.subIn K (.ref C_Gate) (.type "bool") = some false)
    (i_Gate_str : PySem.W.subIn K (.ref C_Gate) (.type "str") = some false)
    (i_Gate_list : PySem.W.subIn K (.ref C_Gate) (.type "list") = some false)
    (i_Gate_tuple : PySem.W.subIn K (.ref C_Gate) (.type "tuple") = some false)
    (i_Gate_dict : PySem.W.subIn K (.ref C_Gate) (.type "dict") = some false)
    (j_Gate_NoneType : PySem.W.subIn K (.type "NoneType") (.ref C_Gate) = some false)
    (j_Gate_int : PySem.W.subIn K (.type "int") (.ref C_Gate) = some false)
    (j_Gate_bool : PySem.W.subIn K (.type "bool") (.ref C_Gate) = some false)
    (j_Gate_str : PySem.W.subIn K (.type "str") (.ref C_Gate) = some false)
    (j_Gate_list : PySem.W.subIn K (.type "list") (.ref C_Gate) = some false)
    (j_Gate_tuple : PySem.W.subIn K (.type "tuple") (.ref C_Gate) = some false)
    (j_Gate_dict : PySem.W.subIn K (.type "dict") (.ref C_Gate) = some false)
    (sa1_Gate_its_closet : PySem.W.findIn K (.ref C_Gate) "its_closet" = some (some (.ref dp_Gate_its_closet)))
    (sa2_Gate_its_closet : PySem.W.specialIn K (.ref dp_Gate_its_closet) "__get__" = some (some (.builtin "member_descriptor.__get__")))
    (sa3_Gate_its_closet : PySem.W.takesIn K (.ref dp_Gate_its_closet) = some true)
    (sa4_Gate_its_closet : PySem.W.typeIn K (.ref dp_Gate_its_closet) = some (.type "member_descriptor"))
    (sa5_Gate_its_closet : PySem.W.slotIn K dp_Gate_its_closet C_Gate = some 0)
    (sa1_Gate_its_doors : PySem.W.findIn K (.ref C_Gate) "its_doors" = some (some (.ref dp_Gate_its_doors)))
    (sa2_Gate_its_doors : PySem.W.specialIn K (.ref dp_Gate_its_doors) "__get__" = some (some (.builtin "member_descriptor.__get__")))
    (sa3_Gate_its_doors : PySem.W.takesIn K (.ref dp_Gate_its_doors) = some true)
    (sa4_Gate_its_doors : PySem.W.typeIn K (.ref dp_Gate_its_doors) = some (.type "member_descriptor"))
    (sa5_Gate_its_doors : PySem.W.slotIn K dp_Gate_its_doors C_Gate = some 1)
    (sa1_Gate_its_kinds : PySem.W.findIn K (.ref C_Gate) "its_kinds" = some (some (.ref dp_Gate_its_kinds)))
    (sa2_Gate_its_kinds : PySem.W.specialIn K (.ref dp_Gate_its_kinds) "__get__" = some (some (.builtin "member_descriptor.__get__")))
    (sa3_Gate_its_kinds : PySem.W.takesIn K (.ref dp_Gate_its_kinds) = some true)
    (sa4_Gate_its_kinds : PySem.W.typeIn K (.ref dp_Gate_its_kinds) = some (.type "member_descriptor"))
    (sa5_Gate_its_kinds : PySem.W.slotIn K dp_Gate_its_kinds C_Gate = some 2)
    (sa1_Gate_its_rules : PySem.W.findIn K (.ref C_Gate) "its_rules" = some (some (.ref dp_Gate_its_rules)))
    (sa2_Gate_its_rules : PySem.W.specialIn K (.ref dp_Gate_its_rules) "__get__" = some (some (.builtin "member_descriptor.__get__")))
    (sa3_Gate_its_rules : PySem.W.takesIn K (.ref dp_Gate_its_rules) = some true)
    (sa4_Gate_its_rules : PySem.W.typeIn K (.ref dp_Gate_its_rules) = some (.type "member_descriptor"))
    (sa5_Gate_its_rules : PySem.W.slotIn K dp_Gate_its_rules C_Gate = some 3)
    (sa1_Gate_its_states : PySem.W.findIn K (.ref C_Gate) "its_states" = some (some (.ref dp_Gate_its_states)))
    (sa2_Gate_its_states : PySem.W.specialIn K (.ref dp_Gate_its_states) "__get__" = some (some (.builtin "member_descriptor.__get__")))
    (sa3_Gate_its_states : PySem.W.takesIn K (.ref dp_Gate_its_states) = some true)
    (sa4_Gate_its_states : PySem.W.typeIn K (.ref dp_Gate_its_states) = some (.type "member_descriptor"))
    (sa5_Gate_its_states : PySem.W.slotIn K dp_Gate_its_states C_Gate = some 4)
    (n_is_integer : PySem.W.nsIn K mainGlobals "is_integer" = some (some (.ref a_is_integer)))
    (l_is_integer : K.lookup a_is_integer = some ⟨oc_is_integer, od_is_integer, .func (PySem.W.fnOf "is_integer" "is_integer" (defArgs (top 4)) (defBody (top 4)) (defScope (top 4)) .none kV_is_integer dc_is_integer pm_is_integer an_is_integer cd_is_integer ct_is_integer), sl_is_integer⟩)
    (c_is_integer : PySem.W.codeIn K cd_is_integer "is_integer" = true)
    (k_is_integer : PySem.W.keepIn K (.ref a_is_integer) = true)
    (n_is_name : PySem.W.nsIn K mainGlobals "is_name" = some (some (.ref a_is_name)))
    (l_is_name : K.lookup a_is_name = some ⟨oc_is_name, od_is_name, .func (PySem.W.fnOf "is_name" "is_name" (defArgs (top 5)) (defBody (top 5)) (defScope (top 5)) .none kV_is_name dc_is_name pm_is_name an_is_name cd_is_name ct_is_name), sl_is_name⟩)
    (c_is_name : PySem.W.codeIn K cd_is_name "is_name" = true)
    (k_is_name : PySem.W.keepIn K (.ref a_is_name) = true)
    (n_are_names : PySem.W.nsIn K mainGlobals "are_names" = some (some (.ref a_are_names)))
    (l_are_names : K.lookup a_are_names = some ⟨oc_are_names, od_are_names, .func (PySem.W.fnOf "are_names" "are_names" (defArgs (top 6)) (defBody (top 6)) (defScope (top 6)) .none kV_are_names dc_are_names pm_are_names an_are_names cd_are_names ct_are_names), sl_are_names⟩)
    (c_are_names : PySem.W.codeIn K cd_are_names "are_names" = true)
    (k_are_names : PySem.W.keepIn K (.ref a_are_names) = true)
    (n_is_pair : PySem.W.nsIn K mainGlobals "is_pair" = some (some (.ref a_is_pair)))
    (l_is_pair : K.lookup a_is_pair = some ⟨oc_is_pair, od_is_pair, .func (PySem.W.fnOf "is_pair" "is_pair" (defArgs (top 7)) (defBody (top 7)) (defScope (top 7)) .none kV_is_pair dc_is_pair pm_is_pair an_is_pair cd_is_pair ct_is_pair), sl_is_pair⟩)
    (c_is_pair : PySem.W.codeIn K cd_is_pair "is_pair" = true)
    (k_is_pair : PySem.W.keepIn K (.ref a_is_pair) = true)
    (n_is_wish : PySem.W.nsIn K mainGlobals "is_wish" = some (some (.ref a_is_wish)))
    (l_is_wish : K.lookup a_is_wish = some ⟨oc_is_wish, od_is_wish, .func (PySem.W.fnOf "is_wish" "is_wish" (defArgs (top 8)) (defBody (top 8)) (defScope (top 8)) .none kV_is_wish dc_is_wish pm_is_wish an_is_wish cd_is_wish ct_is_wish), sl_is_wish⟩)
    (c_is_wish : PySem.W.codeIn K cd_is_wish "is_wish" = true)
    (k_is_wish : PySem.W.keepIn K (.ref a_is_wish) = true)
    (n_is_call : PySem.W.nsIn K mainGlobals "is_call" = some (some (.ref a_is_call)))
    (l_is_call : K.lookup a_is_call = some ⟨oc_is_call, od_is_call, .func (PySem.W.fnOf "is_call" "is_call" (defArgs (top 9)) (defBody (top 9)) (defScope (top 9)) .none kV_is_call dc_is_call pm_is_call an_is_call cd_is_call ct_is_call), sl_is_call⟩)
    (c_is_call : PySem.W.codeIn K cd_is_call "is_call" = true)
    (k_is_call : PySem.W.keepIn K (.ref a_is_call) = true)
    (n_is_deed : PySem.W.nsIn K mainGlobals "is_deed" = some (some (.ref a_is_deed)))
    (l_is_deed : K.lookup a_is_deed = some ⟨oc_is_deed, od_is_deed, .func (PySem.W.fnOf "is_deed" "is_deed" (defArgs (top 10)) (defBody (top 10)) (defScope (top 10)) .none kV_is_deed dc_is_deed pm_is_deed an_is_deed cd_is_deed ct_is_deed), sl_is_deed⟩)
    (c_is_deed : PySem.W.codeIn K cd_is_deed "is_deed" = true)
    (k_is_deed : PySem.W.keepIn K (.ref a_is_deed) = true)
    (n_is_state : PySem.W.nsIn K mainGlobals "is_state" = some (some (.ref a_is_state)))
    (l_is_state : K.lookup a_is_state = some ⟨oc_is_state, od_is_state, .func (PySem.W.fnOf "is_state" "is_state" (defArgs (top 20)) (defBody (top 20)) (defScope (top 20)) .none kV_is_state dc_is_state pm_is_state an_is_state cd_is_state ct_is_state), sl_is_state⟩)
    (c_is_state : PySem.W.codeIn K cd_is_state "is_state" = true)
    (k_is_state : PySem.W.keepIn K (.ref a_is_state) = true)
    (n_is_kind : PySem.W.nsIn K mainGlobals "is_kind" = some (some (.ref a_is_kind)))
    (l_is_kind : K.lookup a_is_kind = some ⟨oc_is_kind, od_is_kind, .func (PySem.W.fnOf "is_kind" "is_kind" (defArgs (top 21)) (defBody (top 21)) (defScope (top 21)) .none kV_is_kind dc_is_kind pm_is_kind an_is_kind cd_is_kind ct_is_kind), sl_is_kind⟩)
    (c_is_kind : PySem.W.codeIn K cd_is_kind "is_kind" = true)
    (k_is_kind : PySem.W.keepIn K (.ref a_is_kind) = true)
    (n_is_word : PySem.W.nsIn K mainGlobals "is_word" = some (some (.ref a_is_word)))
    (l_is_word : K.lookup a_is_word = some ⟨oc_is_word, od_is_word, .func (PySem.W.fnOf "is_word" "is_word" (defArgs (top 22)) (defBody (top 22)) (defScope (top 22)) .none kV_is_word dc_is_word pm_is_word an_is_word cd_is_word ct_is_word), sl_is_word⟩)
    (c_is_word : PySem.W.codeIn K cd_is_word "is_word" = true)
    (k_is_word : PySem.W.keepIn K (.ref a_is_word) = true)
    (n_is_rule : PySem.W.nsIn K mainGlobals "is_rule" = some (some (.ref a_is_rule)))
    (l_is_rule : K.lookup a_is_rule = some ⟨oc_is_rule, od_is_rule, .func (PySem.W.fnOf "is_rule" "is_rule" (defArgs (top 23)) (defBody (top 23)) (defScope (top 23)) .none kV_is_rule dc_is_rule pm_is_rule an_is_rule cd_is_rule ct_is_rule), sl_is_rule⟩)
    (c_is_rule : PySem.W.codeIn K cd_is_rule "is_rule" = true)
    (k_is_rule : PySem.W.keepIn K (.ref a_is_rule) = true)
    (n_are_rules : PySem.W.nsIn K mainGlobals "are_rules" = some (some (.ref a_are_rules)))
    (l_are_rules : K.lookup a_are_rules = some ⟨oc_are_rules, od_are_rules, .func (PySem.W.fnOf "are_rules" "are_rules" (defArgs (top 24)) (defBody (top 24)) (defScope (top 24)) .none kV_are_rules dc_are_rules pm_are_rules an_are_rules cd_are_rules ct_are_rules), sl_are_rules⟩)
    (c_are_rules : PySem.W.codeIn K cd_are_rules "are_rules" = true)
    (k_are_rules : PySem.W.keepIn K (.ref a_are_rules) = true)
    (n_Gate___init__ : PySem.W.findIn K (.ref C_Gate) "__init__" = some (some (.ref a_Gate___init__)))
    (i_Gate___init__ : PySem.W.isFn K (.ref a_Gate___init__) = true)
    (mk_Gate___init__ : PySem.W.makesIn K C_Gate = true)
    (kc_Gate___init__ : PySem.W.keepIn K (.ref C_Gate) = true)
    (l_Gate___init__ : K.lookup a_Gate___init__ = some ⟨oc_Gate___init__, od_Gate___init__, .func (PySem.W.fnOf "__init__" "Gate.__init__" (defArgs (inClass (top 25) 1)) (defBody (inClass (top 25) 1)) (defScope (inClass (top 25) 1)) .none kV_Gate___init__ dc_Gate___init__ pm_Gate___init__ an_Gate___init__ cd_Gate___init__ ct_Gate___init__), sl_Gate___init__⟩)
    (c_Gate___init__ : PySem.W.codeIn K cd_Gate___init__ "Gate.__init__" = true)
    (k_Gate___init__ : PySem.W.keepIn K (.ref a_Gate___init__) = true)
    (n_Gate___eq__ : PySem.W.findIn K (.ref C_Gate) "__eq__" = some (some (.ref a_Gate___eq__)))
    (i_Gate___eq__ : PySem.W.isFn K (.ref a_Gate___eq__) = true)
    (l_Gate___eq__ : K.lookup a_Gate___eq__ = some ⟨oc_Gate___eq__, od_Gate___eq__, .func (PySem.W.fnOf "__eq__" "Gate.__eq__" (defArgs (inClass (top 25) 2)) (defBody (inClass (top 25) 2)) (defScope (inClass (top 25) 2)) .none kV_Gate___eq__ dc_Gate___eq__ pm_Gate___eq__ an_Gate___eq__ cd_Gate___eq__ ct_Gate___eq__), sl_Gate___eq__⟩)
    (c_Gate___eq__ : PySem.W.codeIn K cd_Gate___eq__ "Gate.__eq__" = true)
    (k_Gate___eq__ : PySem.W.keepIn K (.ref a_Gate___eq__) = true)
    (q1_Gate_states : PySem.W.findIn K (.ref C_Gate) "states" = some (some (.ref pp_Gate_states)))
    (q2_Gate_states : PySem.W.specialIn K (.ref pp_Gate_states) "__get__" = some (some (.builtin "property.__get__")))
    (q3_Gate_states : PySem.W.takesIn K (.ref pp_Gate_states) = some true)
    (q4_Gate_states : PySem.W.recIn K pp_Gate_states "property" = some (.ref a_Gate_states :: pr_Gate_states))
    (l_Gate_states : K.lookup a_Gate_states = some ⟨oc_Gate_states, od_Gate_states, .func (PySem.W.fnOf "states" "Gate.states" (defArgs (inClass (top 25) 3)) (defBody (inClass (top 25) 3)) (defScope (inClass (top 25) 3)) .none kV_Gate_states dc_Gate_states pm_Gate_states an_Gate_states cd_Gate_states ct_Gate_states), sl_Gate_states⟩)
    (c_Gate_states : PySem.W.codeIn K cd_Gate_states "Gate.states" = true)
    (k_Gate_states : PySem.W.keepIn K (.ref a_Gate_states) = true)
    (n_Gate_doors : PySem.W.findIn K (.ref C_Gate) "doors" = some (some (.ref a_Gate_doors)))
    (i_Gate_doors : PySem.W.isFn K (.ref a_Gate_doors) = true)
    (l_Gate_doors : K.lookup a_Gate_doors = some ⟨oc_Gate_doors, od_Gate_doors, .func (PySem.W.fnOf "doors" "Gate.doors" (defArgs (inClass (top 25) 4)) (defBody (inClass (top 25) 4)) (defScope (inClass (top 25) 4)) .none kV_Gate_doors dc_Gate_doors pm_Gate_doors an_Gate_doors cd_Gate_doors ct_Gate_doors), sl_Gate_doors⟩)
    (c_Gate_doors : PySem.W.codeIn K cd_Gate_doors "Gate.doors" = true)
    (k_Gate_doors : PySem.W.keepIn K (.ref a_Gate_doors) = true)
    (n_Gate_closet : PySem.W.findIn K (.ref C_Gate) "closet" = some (some (.ref a_Gate_closet)))
    (i_Gate_closet : PySem.W.isFn K (.ref a_Gate_closet) = true)
    (l_Gate_closet : K.lookup a_Gate_closet = some ⟨oc_Gate_closet, od_Gate_closet, .func (PySem.W.fnOf "closet" "Gate.closet" (defArgs (inClass (top 25) 5)) (defBody (inClass (top 25) 5)) (defScope (inClass (top 25) 5)) .none kV_Gate_closet dc_Gate_closet pm_Gate_closet an_Gate_closet cd_Gate_closet ct_Gate_closet), sl_Gate_closet⟩)
    (c_Gate_closet : PySem.W.codeIn K cd_Gate_closet "Gate.closet" = true)
    (k_Gate_closet : PySem.W.keepIn K (.ref a_Gate_closet) = true)
    (n_Gate_kind_of : PySem.W.findIn K (.ref C_Gate) "kind_of" = some (some (.ref a_Gate_kind_of)))
    (i_Gate_kind_of : PySem.W.isFn K (.ref a_Gate_kind_of) = true)
    (l_Gate_kind_of : K.lookup a_Gate_kind_of = some ⟨oc_Gate_kind_of, od_Gate_kind_of, .func (PySem.W.fnOf "kind_of" "Gate.kind_of" (defArgs (inClass (top 25) 7)) (defBody (inClass (top 25) 7)) (defScope (inClass (top 25) 7)) .none kV_Gate_kind_of dc_Gate_kind_of pm_Gate_kind_of an_Gate_kind_of cd_Gate_kind_of ct_Gate_kind_of), sl_Gate_kind_of⟩)
    (c_Gate_kind_of : PySem.W.codeIn K cd_Gate_kind_of "Gate.kind_of" = true)
    (k_Gate_kind_of : PySem.W.keepIn K (.ref a_Gate_kind_of) = true)
    (n_Gate_call : PySem.W.findIn K (.ref C_Gate) "call" = some (some (.ref a_Gate_call)))
    (i_Gate_call : PySem.W.isFn K (.ref a_Gate_call) = true)
    (l_Gate_call : K.lookup a_Gate_call = some ⟨oc_Gate_call, od_Gate_call, .func (PySem.W.fnOf "call" "Gate.call" (defArgs (inClass (top 25) 9)) (defBody (inClass (top 25) 9)) (defScope (inClass (top 25) 9)) .none kV_Gate_call dc_Gate_call pm_Gate_call an_Gate_call cd_Gate_call ct_Gate_call), sl_Gate_call⟩)
    (c_Gate_call : PySem.W.codeIn K cd_Gate_call "Gate.call" = true)
    (k_Gate_call : PySem.W.keepIn K (.ref a_Gate_call) = true)
    (n__law_bag : PySem.W.nsIn K mainGlobals "_law_bag" = some (some (.ref a__law_bag)))
    (l__law_bag : K.lookup a__law_bag = some ⟨oc__law_bag, od__law_bag, .func (PySem.W.fnOf "_law_bag" "_law_bag" (defArgs (top 27)) (defBody (top 27)) (defScope (top 27)) .none kV__law_bag dc__law_bag pm__law_bag an__law_bag cd__law_bag ct__law_bag), sl__law_bag⟩)
    (c__law_bag : PySem.W.codeIn K cd__law_bag "_law_bag" = true)
    (k__law_bag : PySem.W.keepIn K (.ref a__law_bag) = true)
    (n__law_take : PySem.W.nsIn K mainGlobals "_law_take" = some (some (.ref a__law_take)))
    (l__law_take : K.lookup a__law_take = some ⟨oc__law_take, od__law_take, .func (PySem.W.fnOf "_law_take" "_law_take" (defArgs (top 28)) (defBody (top 28)) (defScope (top 28)) .none kV__law_take dc__law_take pm__law_take an__law_take cd__law_take ct__law_take), sl__law_take⟩)
    (c__law_take : PySem.W.codeIn K cd__law_take "_law_take" = true)
    (k__law_take : PySem.W.keepIn K (.ref a__law_take) = true)
    (n__law_one : PySem.W.nsIn K mainGlobals "_law_one" = some (some (.ref a__law_one)))
    (l__law_one : K.lookup a__law_one = some ⟨oc__law_one, od__law_one, .func (PySem.W.fnOf "_law_one" "_law_one" (defArgs (top 29)) (defBody (top 29)) (defScope (top 29)) .none kV__law_one dc__law_one pm__law_one an__law_one cd__law_one ct__law_one), sl__law_one⟩)
    (c__law_one : PySem.W.codeIn K cd__law_one "_law_one" = true)
    (k__law_one : PySem.W.keepIn K (.ref a__law_one) = true)
    (n__law_alike : PySem.W.nsIn K mainGlobals "_law_alike" = some (some (.ref a__law_alike)))
    (l__law_alike : K.lookup a__law_alike = some ⟨oc__law_alike, od__law_alike, .func (PySem.W.fnOf "_law_alike" "_law_alike" (defArgs (top 30)) (defBody (top 30)) (defScope (top 30)) .none kV__law_alike dc__law_alike pm__law_alike an__law_alike cd__law_alike ct__law_alike), sl__law_alike⟩)
    (c__law_alike : PySem.W.codeIn K cd__law_alike "_law_alike" = true)
    (k__law_alike : PySem.W.keepIn K (.ref a__law_alike) = true)
    (n__law_is_whole : PySem.W.nsIn K mainGlobals "_law_is_whole" = some (some (.ref a__law_is_whole)))
    (l__law_is_whole : K.lookup a__law_is_whole = some ⟨oc__law_is_whole, od__law_is_whole, .func (PySem.W.fnOf "_law_is_whole" "_law_is_whole" (defArgs (top 31)) (defBody (top 31)) (defScope (top 31)) .none kV__law_is_whole dc__law_is_whole pm__law_is_whole an__law_is_whole cd__law_is_whole ct__law_is_whole), sl__law_is_whole⟩)
    (c__law_is_whole : PySem.W.codeIn K cd__law_is_whole "_law_is_whole" = true)
    (k__law_is_whole : PySem.W.keepIn K (.ref a__law_is_whole) = true)
    (n__law_is_name : PySem.W.nsIn K mainGlobals "_law_is_name" = some (some (.ref a__law_is_name)))
    (l__law_is_name : K.lookup a__law_is_name = some ⟨oc__law_is_name, od__law_is_name, .func (PySem.W.fnOf "_law_is_name" "_law_is_name" (defArgs (top 32)) (defBody (top 32)) (defScope (top 32)) .none kV__law_is_name dc__law_is_name pm__law_is_name an__law_is_name cd__law_is_name ct__law_is_name), sl__law_is_name⟩)
    (c__law_is_name : PySem.W.codeIn K cd__law_is_name "_law_is_name" = true)
    (k__law_is_name : PySem.W.keepIn K (.ref a__law_is_name) = true)
    (n__law_are_names : PySem.W.nsIn K mainGlobals "_law_are_names" = some (some (.ref a__law_are_names)))
    (l__law_are_names : K.lookup a__law_are_names = some ⟨oc__law_are_names, od__law_are_names, .func (PySem.W.fnOf "_law_are_names" "_law_are_names" (defArgs (top 33)) (defBody (top 33)) (defScope (top 33)) .none kV__law_are_names dc__law_are_names pm__law_are_names an__law_are_names cd__law_are_names ct__law_are_names), sl__law_are_names⟩)
    (c__law_are_names : PySem.W.codeIn K cd__law_are_names "_law_are_names" = true)
    (k__law_are_names : PySem.W.keepIn K (.ref a__law_are_names) = true)
    (n__law_odd : PySem.W.nsIn K mainGlobals "_law_odd" = some (some (.ref a__law_odd)))
    (l__law_odd : K.lookup a__law_odd = some ⟨oc__law_odd, od__law_odd, .func (PySem.W.fnOf "_law_odd" "_law_odd" (defArgs (top 34)) (defBody (top 34)) (defScope (top 34)) .none kV__law_odd dc__law_odd pm__law_odd an__law_odd cd__law_odd ct__law_odd), sl__law_odd⟩)
    (c__law_odd : PySem.W.codeIn K cd__law_odd "_law_odd" = true)
    (k__law_odd : PySem.W.keepIn K (.ref a__law_odd) = true)
    (n__law_is_deed : PySem.W.nsIn K mainGlobals "_law_is_deed" = some (some (.ref a__law_is_deed)))
    (l__law_is_deed : K.lookup a__law_is_deed = some ⟨oc__law_is_deed, od__law_is_deed, .func (PySem.W.fnOf "_law_is_deed" "_law_is_deed" (defArgs (top 35)) (defBody (top 35)) (defScope (top 35)) .none kV__law_is_deed dc__law_is_deed pm__law_is_deed an__law_is_deed cd__law_is_deed ct__law_is_deed), sl__law_is_deed⟩)
    (c__law_is_deed : PySem.W.codeIn K cd__law_is_deed "_law_is_deed" = true)
    (k__law_is_deed : PySem.W.keepIn K (.ref a__law_is_deed) = true)
    (n__law_is_wish : PySem.W.nsIn K mainGlobals "_law_is_wish" = some (some (.ref a__law_is_wish)))
    (l__law_is_wish : K.lookup a__law_is_wish = some ⟨oc__law_is_wish, od__law_is_wish, .func (PySem.W.fnOf "_law_is_wish" "_law_is_wish" (defArgs (top 36)) (defBody (top 36)) (defScope (top 36)) .none kV__law_is_wish dc__law_is_wish pm__law_is_wish an__law_is_wish cd__law_is_wish ct__law_is_wish), sl__law_is_wish⟩)
    (c__law_is_wish : PySem.W.codeIn K cd__law_is_wish "_law_is_wish" = true)
    (k__law_is_wish : PySem.W.keepIn K (.ref a__law_is_wish) = true)
    (n__law_some_name : PySem.W.nsIn K mainGlobals "_law_some_name" = some (some (.ref a__law_some_name)))
    (l__law_some_name : K.lookup a__law_some_name = some ⟨oc__law_some_name, od__law_some_name, .func (PySem.W.fnOf "_law_some_name" "_law_some_name" (defArgs (top 37)) (defBody (top 37)) (defScope (top 37)) .none kV__law_some_name dc__law_some_name pm__law_some_name an__law_some_name cd__law_some_name ct__law_some_name), sl__law_some_name⟩)
    (c__law_some_name : PySem.W.codeIn K cd__law_some_name "_law_some_name" = true)
    (k__law_some_name : PySem.W.keepIn K (.ref a__law_some_name) = true)
    (n__law_drawn_thing : PySem.W.nsIn K mainGlobals "_law_drawn_thing" = some (some (.ref a__law_drawn_thing)))
    (l__law_drawn_thing : K.lookup a__law_drawn_thing = some ⟨oc__law_drawn_thing, od__law_drawn_thing, .func (PySem.W.fnOf "_law_drawn_thing" "_law_drawn_thing" (defArgs (top 38)) (defBody (top 38)) (defScope (top 38)) .none kV__law_drawn_thing dc__law_drawn_thing pm__law_drawn_thing an__law_drawn_thing cd__law_drawn_thing ct__law_drawn_thing), sl__law_drawn_thing⟩)
    (c__law_drawn_thing : PySem.W.codeIn K cd__law_drawn_thing "_law_drawn_thing" = true)
    (k__law_drawn_thing : PySem.W.keepIn K (.ref a__law_drawn_thing) = true)
    (n__law_near_one : PySem.W.nsIn K mainGlobals "_law_near_one" = some (some (.ref a__law_near_one)))
    (l__law_near_one : K.lookup a__law_near_one = some ⟨oc__law_near_one, od__law_near_one, .func (PySem.W.fnOf "_law_near_one" "_law_near_one" (defArgs (top 39)) (defBody (top 39)) (defScope (top 39)) .none kV__law_near_one dc__law_near_one pm__law_near_one an__law_near_one cd__law_near_one ct__law_near_one), sl__law_near_one⟩)
    (c__law_near_one : PySem.W.codeIn K cd__law_near_one "_law_near_one" = true)
    (k__law_near_one : PySem.W.keepIn K (.ref a__law_near_one) = true)
    (n__law_bent : PySem.W.nsIn K mainGlobals "_law_bent" = some (some (.ref a__law_bent)))
    (l__law_bent : K.lookup a__law_bent = some ⟨oc__law_bent, od__law_bent, .func (PySem.W.fnOf "_law_bent" "_law_bent" (defArgs (top 40)) (defBody (top 40)) (defScope (top 40)) .none kV__law_bent dc__law_bent pm__law_bent an__law_bent cd__law_bent ct__law_bent), sl__law_bent⟩)
    (c__law_bent : PySem.W.codeIn K cd__law_bent "_law_bent" = true)
    (k__law_bent : PySem.W.keepIn K (.ref a__law_bent) = true)
    (n_law : PySem.W.nsIn K mainGlobals "law" = some (some (.ref a_law)))
    (l_law : K.lookup a_law = some ⟨oc_law, od_law, .func (PySem.W.fnOf "law" "law" (defArgs (top 41)) (defBody (top 41)) (defScope (top 41)) .none kV_law dc_law pm_law an_law cd_law ct_law), sl_law⟩)
    (c_law : PySem.W.codeIn K cd_law "law" = true)
    (k_law : PySem.W.keepIn K (.ref a_law) = true) :
    ∃ (fd : FuncData) (F : DF), (∀ (s : Shared) (v : Value), BindsTo s fd ⟨[v], []⟩ [("_law_script", v)]) ∧ (∀ base : Heap, K.In base → base.Ns mainGlobals mg → (∃ o, base.get? sysModules = some o) → LF l.prog w K mg base 7 fa fd ["_law_script"] F) ∧ ∀ ns : List Int, ns.length ≤ 63 → ∃ G, F [.rol (ns.map .int)] [] = .ok (.bl true) G := by
  have e := hfa.symm.trans (PySem.W.mg_of X G n_law)
  cases e
  have F_is_integer := fun_mk (x := "is_integer") (qual := "is_integer") (st := (top 4)) l_is_integer c_is_integer k_is_integer
  have B_is_integer := F_is_integer.binds (ps := ["thing"]) fun _ _ _ _ _ _ us hl => match us, hl with | [_], _ => rfl
  have F_is_name := fun_mk (x := "is_name") (qual := "is_name") (st := (top 5)) l_is_name c_is_name k_is_name
  have B_is_name := F_is_name.binds (ps := ["thing"]) fun _ _ _ _ _ _ us hl => match us, hl with | [_], _ => rfl
  have F_are_names := fun_mk (x := "are_names") (qual := "are_names") (st := (top 6)) l_are_names c_are_names k_are_names
  have B_are_names := F_are_names.binds (ps := ["thing"]) fun _ _ _ _ _ _ us hl => match us, hl with | [_], _ => rfl
  have F_is_pair := fun_mk (x := "is_pair") (qual := "is_pair") (st := (top 7)) l_is_pair c_is_pair k_is_pair
  have B_is_pair := F_is_pair.binds (ps := ["thing"]) fun _ _ _ _ _ _ us hl => match us, hl with | [_], _ => rfl
  have F_is_wish := fun_mk (x := "is_wish") (qual := "is_wish") (st := (top 8)) l_is_wish c_is_wish k_is_wish
  have B_is_wish := F_is_wish.binds (ps := ["thing"]) fun _ _ _ _ _ _ us hl => match us, hl with | [_], _ => rfl
  have F_is_call := fun_mk (x := "is_call") (qual := "is_call") (st := (top 9)) l_is_call c_is_call k_is_call
  have B_is_call := F_is_call.binds (ps := ["thing"]) fun _ _ _ _ _ _ us hl => match us, hl with | [_], _ => rfl
  have F_is_deed := fun_mk (x := "is_deed") (qual := "is_deed") (st := (top 10)) l_is_deed c_is_deed k_is_deed
  have B_is_deed := F_is_deed.binds (ps := ["thing"]) fun _ _ _ _ _ _ us hl => match us, hl with | [_], _ => rfl
  have F_is_state := fun_mk (x := "is_state") (qual := "is_state") (st := (top 20)) l_is_state c_is_state k_is_state
  have B_is_state := F_is_state.binds (ps := ["thing", "states"]) fun _ _ _ _ _ _ us hl => match us, hl with | [_, _], _ => rfl
  have F_is_kind := fun_mk (x := "is_kind") (qual := "is_kind") (st := (top 21)) l_is_kind c_is_kind k_is_kind
  have B_is_kind := F_is_kind.binds (ps := ["thing", "closet"]) fun _ _ _ _ _ _ us hl => match us, hl with | [_, _], _ => rfl
  have F_is_word := fun_mk (x := "is_word") (qual := "is_word") (st := (top 22)) l_is_word c_is_word k_is_word
  have B_is_word := F_is_word.binds (ps := ["thing", "closet", "kind"]) fun _ _ _ _ _ _ us hl => match us, hl with | [_, _, _], _ => rfl
  have F_is_rule := fun_mk (x := "is_rule") (qual := "is_rule") (st := (top 23)) l_is_rule c_is_rule k_is_rule
  have B_is_rule := F_is_rule.binds (ps := ["thing", "states", "doors", "closet"]) fun _ _ _ _ _ _ us hl => match us, hl with | [_, _, _, _], _ => rfl
  have F_are_rules := fun_mk (x := "are_rules") (qual := "are_rules") (st := (top 24)) l_are_rules c_are_rules k_are_rules
  have B_are_rules := F_are_rules.binds (ps := ["thing", "states", "doors", "closet"]) fun _ _ _ _ _ _ us hl => match us, hl with | [_, _, _, _], _ => rfl
  have F_Gate___init__ := fun_mk (x := "__init__") (qual := "Gate.__init__") (st := (inClass (top 25) 1)) l_Gate___init__ c_Gate___init__ k_Gate___init__
  have B_Gate___init__ := F_Gate___init__.binds (ps := ["self", "states", "doors", "closet", "rules"]) fun _ _ _ _ _ _ us hl => match us, hl with | [_, _, _, _, _], _ => rfl
  have F_Gate___eq__ := fun_mk (x := "__eq__") (qual := "Gate.__eq__") (st := (inClass (top 25) 2)) l_Gate___eq__ c_Gate___eq__ k_Gate___eq__
  have B_Gate___eq__ := F_Gate___eq__.binds (ps := ["self", "other"]) fun _ _ _ _ _ _ us hl => match us, hl with | [_, _], _ => rfl
  have F_Gate_states := fun_mk (x := "states") (qual := "Gate.states") (st := (inClass (top 25) 3)) l_Gate_states c_Gate_states k_Gate_states
  have B_Gate_states := F_Gate_states.binds (ps := ["self"]) fun _ _ _ _ _ _ us hl => match us, hl with | [_], _ => rfl
  have F_Gate_doors := fun_mk (x := "doors") (qual := "Gate.doors") (st := (inClass (top 25) 4)) l_Gate_doors c_Gate_doors k_Gate_doors
  have B_Gate_doors := F_Gate_doors.binds (ps := ["self"]) fun _ _ _ _ _ _ us hl => match us, hl with | [_], _ => rfl
  have F_Gate_closet := fun_mk (x := "closet") (qual := "Gate.closet") (st := (inClass (top 25) 5)) l_Gate_closet c_Gate_closet k_Gate_closet
  have B_Gate_closet := F_Gate_closet.binds (ps := ["self"]) fun _ _ _ _ _ _ us hl => match us, hl with | [_], _ => rfl
  have F_Gate_kind_of := fun_mk (x := "kind_of") (qual := "Gate.kind_of") (st := (inClass (top 25) 7)) l_Gate_kind_of c_Gate_kind_of k_Gate_kind_of
  have B_Gate_kind_of := F_Gate_kind_of.binds (ps := ["self", "given"]) fun _ _ _ _ _ _ us hl => match us, hl with | [_, _], _ => rfl
  have F_Gate_call := fun_mk (x := "call") (qual := "Gate.call") (st := (inClass (top 25) 9)) l_Gate_call c_Gate_call k_Gate_call
  have B_Gate_call := F_Gate_call.binds (ps := ["self", "state", "kept", "door", "given"]) fun _ _ _ _ _ _ us hl => match us, hl with | [_, _, _, _, _], _ => rfl
  have F__law_bag := fun_mk (x := "_law_bag") (qual := "_law_bag") (st := (top 27)) l__law_bag c__law_bag k__law_bag
  have B__law_bag := F__law_bag.binds (ps := ["_law_script"]) fun _ _ _ _ _ _ us hl => match us, hl with | [_], _ => rfl
  have F__law_take := fun_mk (x := "_law_take") (qual := "_law_take") (st := (top 28)) l__law_take c__law_take k__law_take
  have B__law_take := F__law_take.binds (ps := ["_law_bag_here", "_law_many"]) fun _ _ _ _ _ _ us hl => match us, hl with | [_, _], _ => rfl
  have F__law_one := fun_mk (x := "_law_one") (qual := "_law_one") (st := (top 29)) l__law_one c__law_one k__law_one
  have B__law_one := F__law_one.binds (ps := ["_law_bag_here", "_law_things"]) fun _ _ _ _ _ _ us hl => match us, hl with | [_, _], _ => rfl
  have F__law_alike := fun_mk (x := "_law_alike") (qual := "_law_alike") (st := (top 30)) l__law_alike c__law_alike k__law_alike
  have B__law_alike := F__law_alike.binds (ps := ["_law_found", "_law_due"]) fun _ _ _ _ _ _ us hl => match us, hl with | [_, _], _ => rfl
  have F__law_is_whole := fun_mk (x := "_law_is_whole") (qual := "_law_is_whole") (st := (top 31)) l__law_is_whole c__law_is_whole k__law_is_whole
  have B__law_is_whole := F__law_is_whole.binds (ps := ["_law_thing"]) fun _ _ _ _ _ _ us hl => match us, hl with | [_], _ => rfl
  have F__law_is_name := fun_mk (x := "_law_is_name") (qual := "_law_is_name") (st := (top 32)) l__law_is_name c__law_is_name k__law_is_name
  have B__law_is_name := F__law_is_name.binds (ps := ["_law_thing"]) fun _ _ _ _ _ _ us hl => match us, hl with | [_], _ => rfl
  have F__law_are_names := fun_mk (x := "_law_are_names") (qual := "_law_are_names") (st := (top 33)) l__law_are_names c__law_are_names k__law_are_names
  have B__law_are_names := F__law_are_names.binds (ps := ["_law_thing"]) fun _ _ _ _ _ _ us hl => match us, hl with | [_], _ => rfl
  have F__law_odd := fun_mk (x := "_law_odd") (qual := "_law_odd") (st := (top 34)) l__law_odd c__law_odd k__law_odd
  have B__law_odd := F__law_odd.binds (ps := ["_law_bag_here"]) fun _ _ _ _ _ _ us hl => match us, hl with | [_], _ => rfl
  have F__law_is_deed := fun_mk (x := "_law_is_deed") (qual := "_law_is_deed") (st := (top 35)) l__law_is_deed c__law_is_deed k__law_is_deed
  have B__law_is_deed := F__law_is_deed.binds (ps := ["_law_thing"]) fun _ _ _ _ _ _ us hl => match us, hl with | [_], _ => rfl
  have F__law_is_wish := fun_mk (x := "_law_is_wish") (qual := "_law_is_wish") (st := (top 36)) l__law_is_wish c__law_is_wish k__law_is_wish
  have B__law_is_wish := F__law_is_wish.binds (ps := ["_law_thing"]) fun _ _ _ _ _ _ us hl => match us, hl with | [_], _ => rfl
  have F__law_some_name := fun_mk (x := "_law_some_name") (qual := "_law_some_name") (st := (top 37)) l__law_some_name c__law_some_name k__law_some_name
  have B__law_some_name := F__law_some_name.binds (ps := ["_law_bag_here"]) fun _ _ _ _ _ _ us hl => match us, hl with | [_], _ => rfl
  have F__law_drawn_thing := fun_mk (x := "_law_drawn_thing") (qual := "_law_drawn_thing") (st := (top 38)) l__law_drawn_thing c__law_drawn_thing k__law_drawn_thing
  have B__law_drawn_thing := F__law_drawn_thing.binds (ps := ["_law_bag_here"]) fun _ _ _ _ _ _ us hl => match us, hl with | [_], _ => rfl
  have F__law_near_one := fun_mk (x := "_law_near_one") (qual := "_law_near_one") (st := (top 39)) l__law_near_one c__law_near_one k__law_near_one
  have B__law_near_one := F__law_near_one.binds (ps := ["_law_bag_here"]) fun _ _ _ _ _ _ us hl => match us, hl with | [_], _ => rfl
  have F__law_bent := fun_mk (x := "_law_bent") (qual := "_law_bent") (st := (top 40)) l__law_bent c__law_bent k__law_bent
  have B__law_bent := F__law_bent.binds (ps := ["_law_bag_here", "_law_thing"]) fun _ _ _ _ _ _ us hl => match us, hl with | [_, _], _ => rfl
  have F_law := fun_mk (x := "law") (qual := "law") (st := (top 41)) l_law c_law k_law
  have B_law := F_law.binds (ps := ["_law_script"]) fun _ _ _ _ _ _ us hl => match us, hl with | [_], _ => rfl
  let Z : Adr := {K := K, C_Gate := C_Gate}
  let T : Txt Z mg := { b_abs := PySem.W.mg_none_of X G b_abs, b_all := PySem.W.mg_none_of X G b_all, b_bool := PySem.W.mg_none_of X G b_bool, b_dict := PySem.W.mg_none_of X G b_dict, b_int := PySem.W.mg_none_of X G b_int, b_isinstance := PySem.W.mg_none_of X G b_isinstance, b_len := PySem.W.mg_none_of X G b_len, b_list := PySem.W.mg_none_of X G b_list, b_range := PySem.W.mg_none_of X G b_range, b_repr := PySem.W.mg_none_of X G b_repr, b_set := PySem.W.mg_none_of X G b_set, b_sorted := PySem.W.mg_none_of X G b_sorted, b_str := PySem.W.mg_none_of X G b_str, b_tuple := PySem.W.mg_none_of X G b_tuple, g_GIVEN := ⟨_, PySem.W.mg_of X G g_GIVEN, rg_GIVEN⟩, g_KEPT := ⟨_, PySem.W.mg_of X G g_KEPT, rg_KEPT⟩, g_LETTERS := ⟨_, PySem.W.mg_of X G g_LETTERS, rg_LETTERS⟩, g_LONGEST := ⟨_, PySem.W.mg_of X G g_LONGEST, rg_LONGEST⟩, g_MOST_STATES := ⟨_, PySem.W.mg_of X G g_MOST_STATES, rg_MOST_STATES⟩, g_NOTHING := ⟨_, PySem.W.mg_of X G g_NOTHING, rg_NOTHING⟩, g_OTHER := ⟨_, PySem.W.mg_of X G g_OTHER, rg_OTHER⟩, cl_Gate := ⟨pg_Gate, ic_Gate, po_Gate, sa_Gate⟩, is_Gate := ⟨ca_Gate, cn_Gate, ct_Gate, cm_Gate⟩, mg_Gate := PySem.W.mg_of X G gC_Gate, i_Gate_int := kit_own_ty i_Gate_int (by rfl), i_Gate_bool := kit_own_ty i_Gate_bool (by rfl), i_Gate_str := kit_own_ty i_Gate_str (by rfl), i_Gate_list := kit_own_ty i_Gate_list (by rfl), i_Gate_tuple := kit_own_ty i_Gate_tuple (by rfl), i_Gate_dict := kit_own_ty i_Gate_dict (by rfl), j_Gate_NoneType := kit_ty_own j_Gate_NoneType ic_Gate ty_Gate, j_Gate_int := kit_ty_own j_Gate_int ic_Gate ty_Gate, j_Gate_bool := kit_ty_own j_Gate_bool ic_Gate ty_Gate, j_Gate_str := kit_ty_own j_Gate_str ic_Gate ty_Gate, j_Gate_list := kit_ty_own j_Gate_list ic_Gate ty_Gate, j_Gate_tuple := kit_ty_own j_Gate_tuple ic_Gate ty_Gate, j_Gate_dict := kit_ty_own j_Gate_dict ic_Gate ty_Gate, p_Gate_its_closet := dp_Gate_its_closet, s_Gate_its_closet := ⟨sa1_Gate_its_closet, sa2_Gate_its_closet, sa3_Gate_its_closet, sa4_Gate_its_closet, sa5_Gate_its_closet, by decide⟩, p_Gate_its_doors := dp_Gate_its_doors, s_Gate_its_doors := ⟨sa1_Gate_its_doors, sa2_Gate_its_doors, sa3_Gate_its_doors, sa4_Gate_its_doors, sa5_Gate_its_doors, by decide⟩, p_Gate_its_kinds := dp_Gate_its_kinds, s_Gate_its_kinds := ⟨sa1_Gate_its_kinds, sa2_Gate_its_kinds, sa3_Gate_its_kinds, sa4_Gate_its_kinds, sa5_Gate_its_kinds, by decide⟩, p_Gate_its_rules := dp_Gate_its_rules, s_Gate_its_rules := ⟨sa1_Gate_its_rules, sa2_Gate_its_rules, sa3_Gate_its_rules, sa4_Gate_its_rules, sa5_Gate_its_rules, by decide⟩, p_Gate_its_states := dp_Gate_its_states, s_Gate_its_states := ⟨sa1_Gate_its_states, sa2_Gate_its_states, sa3_Gate_its_states, sa4_Gate_its_states, sa5_Gate_its_states, by decide⟩, a_is_integer := a_is_integer, c_is_integer := _, F_is_integer := F_is_integer, B_is_integer := B_is_integer, m_is_integer := PySem.W.mg_of X G n_is_integer, k_is_integer := k_is_integer, a_is_name := a_is_name, c_is_name := _, F_is_name := F_is_name, B_is_name := B_is_name, m_is_name := PySem.W.mg_of X G n_is_name, k_is_name := k_is_name, a_are_names := a_are_names, c_are_names := _, F_are_names := F_are_names, B_are_names := B_are_names, m_are_names := PySem.W.mg_of X G n_are_names, k_are_names := k_are_names, a_is_pair := a_is_pair, c_is_pair := _, F_is_pair := F_is_pair, B_is_pair := B_is_pair, m_is_pair := PySem.W.mg_of X G n_is_pair, k_is_pair := k_is_pair, a_is_wish := a_is_wish, c_is_wish := _, F_is_wish := F_is_wish, B_is_wish := B_is_wish, m_is_wish := PySem.W.mg_of X G n_is_wish, k_is_wish := k_is_wish, a_is_call := a_is_call, c_is_call := _, F_is_call := F_is_call, B_is_call := B_is_call, m_is_call := PySem.W.mg_of X G n_is_call, k_is_call := k_is_call, a_is_deed := a_is_deed, c_is_deed := _, F_is_deed := F_is_deed, B_is_deed := B_is_deed, m_is_deed := PySem.W.mg_of X G n_is_deed, k_is_deed := k_is_deed, a_is_state := a_is_state, c_is_state := _, F_is_state := F_is_state, B_is_state := B_is_state, m_is_state := PySem.W.mg_of X G n_is_state, k_is_state := k_is_state, a_is_kind := a_is_kind, c_is_kind := _, F_is_kind := F_is_kind, B_is_kind := B_is_kind, m_is_kind := PySem.W.mg_of X G n_is_kind, k_is_kind := k_is_kind, a_is_word := a_is_word, c_is_word := _, F_is_word := F_is_word, B_is_word := B_is_word, m_is_word := PySem.W.mg_of X G n_is_word, k_is_word := k_is_word, a_is_rule := a_is_rule, c_is_rule := _, F_is_rule := F_is_rule, B_is_rule := B_is_rule, m_is_rule := PySem.W.mg_of X G n_is_rule, k_is_rule := k_is_rule, a_are_rules := a_are_rules, c_are_rules := _, F_are_rules := F_are_rules, B_are_rules := B_are_rules, m_are_rules := PySem.W.mg_of X G n_are_rules, k_are_rules := k_are_rules, a_Gate___init__ := a_Gate___init__, c_Gate___init__ := _, F_Gate___init__ := F_Gate___init__, B_Gate___init__ := B_Gate___init__, M_Gate := ⟨mk_Gate___init__, n_Gate___init__, i_Gate___init__, kc_Gate___init__⟩, a_Gate___eq__ := a_Gate___eq__, c_Gate___eq__ := _, F_Gate___eq__ := F_Gate___eq__, B_Gate___eq__ := B_Gate___eq__, M_Gate___eq__ := ⟨n_Gate___eq__, i_Gate___eq__, k_Gate___eq__⟩, a_Gate_states := a_Gate_states, c_Gate_states := _, F_Gate_states := F_Gate_states, B_Gate_states := B_Gate_states, pr_Gate_states := ⟨_, q1_Gate_states, q2_Gate_states, q3_Gate_states, _, q4_Gate_states⟩, a_Gate_doors := a_Gate_doors, c_Gate_doors := _, F_Gate_doors := F_Gate_doors, B_Gate_doors := B_Gate_doors, M_Gate_doors := ⟨n_Gate_doors, i_Gate_doors, k_Gate_doors⟩, a_Gate_closet := a_Gate_closet, c_Gate_closet := _, F_Gate_closet := F_Gate_closet, B_Gate_closet := B_Gate_closet, M_Gate_closet := ⟨n_Gate_closet, i_Gate_closet, k_Gate_closet⟩, a_Gate_kind_of := a_Gate_kind_of, c_Gate_kind_of := _, F_Gate_kind_of := F_Gate_kind_of, B_Gate_kind_of := B_Gate_kind_of, M_Gate_kind_of := ⟨n_Gate_kind_of, i_Gate_kind_of, k_Gate_kind_of⟩, a_Gate_call := a_Gate_call, c_Gate_call := _, F_Gate_call := F_Gate_call, B_Gate_call := B_Gate_call, M_Gate_call := ⟨n_Gate_call, i_Gate_call, k_Gate_call⟩, a__law_bag := a__law_bag, c__law_bag := _, F__law_bag := F__law_bag, B__law_bag := B__law_bag, m__law_bag := PySem.W.mg_of X G n__law_bag, k__law_bag := k__law_bag, a__law_take := a__law_take, c__law_take := _, F__law_take := F__law_take, B__law_take := B__law_take, m__law_take := PySem.W.mg_of X G n__law_take, k__law_take := k__law_take, a__law_one := a__law_one, c__law_one := _, F__law_one := F__law_one, B__law_one := B__law_one, m__law_one := PySem.W.mg_of X G n__law_one, k__law_one := k__law_one, a__law_alike := a__law_alike, c__law_alike := _, F__law_alike := F__law_alike, B__law_alike := B__law_alike, m__law_alike := PySem.W.mg_of X G n__law_alike, k__law_alike := k__law_alike, a__law_is_whole := a__law_is_whole, c__law_is_whole := _, F__law_is_whole := F__law_is_whole, B__law_is_whole := B__law_is_whole, m__law_is_whole := PySem.W.mg_of X G n__law_is_whole, k__law_is_whole := k__law_is_whole, a__law_is_name := a__law_is_name, c__law_is_name := _, F__law_is_name := F__law_is_name, B__law_is_name := B__law_is_name, m__law_is_name := PySem.W.mg_of X G n__law_is_name, k__law_is_name := k__law_is_name, a__law_are_names := a__law_are_names, c__law_are_names := _, F__law_are_names := F__law_are_names, B__law_are_names := B__law_are_names, m__law_are_names := PySem.W.mg_of X G n__law_are_names, k__law_are_names := k__law_are_names, a__law_odd := a__law_odd, c__law_odd := _, F__law_odd := F__law_odd, B__law_odd := B__law_odd, m__law_odd := PySem.W.mg_of X G n__law_odd, k__law_odd := k__law_odd, a__law_is_deed := a__law_is_deed, c__law_is_deed := _, F__law_is_deed := F__law_is_deed, B__law_is_deed := B__law_is_deed, m__law_is_deed := PySem.W.mg_of X G n__law_is_deed, k__law_is_deed := k__law_is_deed, a__law_is_wish := a__law_is_wish, c__law_is_wish := _, F__law_is_wish := F__law_is_wish, B__law_is_wish := B__law_is_wish, m__law_is_wish := PySem.W.mg_of X G n__law_is_wish, k__law_is_wish := k__law_is_wish, a__law_some_name := a__law_some_name, c__law_some_name := _, F__law_some_name := F__law_some_name, B__law_some_name := B__law_some_name, m__law_some_name := PySem.W.mg_of X G n__law_some_name, k__law_some_name := k__law_some_name, a__law_drawn_thing := a__law_drawn_thing, c__law_drawn_thing := _, F__law_drawn_thing := F__law_drawn_thing, B__law_drawn_thing := B__law_drawn_thing, m__law_drawn_thing := PySem.W.mg_of X G n__law_drawn_thing, k__law_drawn_thing := k__law_drawn_thing, a__law_near_one := a__law_near_one, c__law_near_one := _, F__law_near_one := F__law_near_one, B__law_near_one := B__law_near_one, m__law_near_one := PySem.W.mg_of X G n__law_near_one, k__law_near_one := k__law_near_one, a__law_bent := a__law_bent, c__law_bent := _, F__law_bent := F__law_bent, B__law_bent := B__law_bent, m__law_bent := PySem.W.mg_of X G n__law_bent, k__law_bent := k__law_bent, a_law := fa, c_law := _, F_law := F_law, B_law := B_law, m_law := PySem.W.mg_of X G n_law, k_law := k_law }
  exact ⟨PySem.W.fnOf "law" "law" (defArgs (top 41)) (defBody (top 41)) (defScope (top 41)) .none kV_law dc_law pm_law an_law cd_law ct_law, f_law Z, fun s v => .of_eq rfl, fun base _ _ sm => L_law (Z := Z) sm T, fun ns hn => law_true T ns hn⟩
end K11
open PySem PySem.W PyProof.Rows
set_option maxRecDepth 100000 in
set_option maxHeartbeats 0 in
theorem PySem.Challenge.cw_letinside_k11_kinds_of_any_value_holds : PySem.Challenge.rw_letinside_k11_kinds_of_any_value.Holds := by
  w_on; o_law; k_head; (case hw => w_witness2)
  k_fill
  refine Dn.walk_W (l := PySem.Challenge.rw_letinside_k11_kinds_of_any_value) (n := 63) (k := 7) (x := "_law_script") rfl (by decide) rfl ⟨rfl, by decide, by decide⟩ (by rfl) (fun w h Y => PySem.W.kIn_of Y) ?F
  case F =>
    intro w mg fa h KX G hmg
    refine' K11.all_mk KX G hmg ?gC_Gate ?b_abs ?b_all ?b_bool ?b_dict ?b_int ?b_isinstance ?b_len ?b_list ?b_range ?b_repr ?b_set ?b_sorted ?b_str ?b_tuple ?g_GIVEN ?rg_GIVEN ?g_KEPT ?rg_KEPT ?g_LETTERS ?rg_LETTERS ?g_LONGEST ?rg_LONGEST ?g_MOST_STATES ?rg_MOST_STATES ?g_NOTHING ?rg_NOTHING ?g_OTHER ?rg_OTHER ?ty_Gate ?pg_Gate ?ic_Gate ?po_Gate ?sa_Gate ?ca_Gate ?cn_Gate ?ct_Gate ?cm_Gate ?i_Gate_int ?i_Gate_bool ?i_Gate_str ?i_Gate_list ?i_Gate_tuple ?i_Gate_dict ?j_Gate_NoneType ?j_Gate_int ?j_Gate_bool ?j_Gate_str ?j_Gate_list ?j_Gate_tuple ?j_Gate_dict ?sa1_Gate_its_closet ?sa2_Gate_its_closet ?sa3_Gate_its_closet ?sa4_Gate_its_closet ?sa5_Gate_its_closet ?sa1_Gate_its_doors ?sa2_Gate_its_doors ?sa3_Gate_its_doors ?sa4_Gate_its_doors ?sa5_Gate_its_doors ?sa1_Gate_its_kinds ?sa2_Gate_its_kinds ?sa3_Gate_its_kinds ?sa4_Gate_its_kinds ?sa5_Gate_its_kinds ?sa1_Gate_its_rules ?sa2_Gate_its_rules ?sa3_Gate_its_rules ?sa4_Gate_its_rules ?sa5_Gate_its_rules ?sa1_Gate_its_states ?sa2_Gate_its_states ?sa3_Gate_its_states ?sa4_Gate_its_states ?sa5_Gate_its_states ?n_is_integer ?l_is_integer ?c_is_integer ?k_is_integer ?n_is_name ?l_is_name ?c_is_name ?k_is_name ?n_are_names ?l_are_names ?c_are_names ?k_are_names ?n_is_pair ?l_is_pair ?c_is_pair ?k_is_pair ?n_is_wish ?l_is_wish ?c_is_wish ?k_is_wish ?n_is_call ?l_is_call ?c_is_call ?k_is_call ?n_is_deed ?l_is_deed ?c_is_deed ?k_is_deed ?n_is_state ?l_is_state ?c_is_state ?k_is_state ?n_is_kind ?l_is_kind ?c_is_kind ?k_is_kind ?n_is_word ?l_is_word ?c_is_word ?k_is_word ?n_is_rule ?l_is_rule ?c_is_rule ?k_is_rule ?n_are_rules ?l_are_rules ?c_are_rules ?k_are_rules ?n_Gate___init__ ?i_Gate___init__ ?mk_Gate___init__ ?kc_Gate___init__ ?l_Gate___init__ ?c_Gate___init__ ?k_Gate___init__ ?n_Gate___eq__ ?i_Gate___eq__ ?l_Gate___eq__ ?c_Gate___eq__ ?k_Gate___eq__ ?q1_Gate_states ?q2_Gate_states ?q3_Gate_states ?q4_Gate_states ?l_Gate_states ?c_Gate_states ?k_Gate_states ?n_Gate_doors ?i_Gate_doors ?l_Gate_doors ?c_Gate_doors ?k_Gate_doors ?n_Gate_closet ?i_Gate_closet ?l_Gate_closet ?c_Gate_closet ?k_Gate_closet ?n_Gate_kind_of ?i_Gate_kind_of ?l_Gate_kind_of ?c_Gate_kind_of ?k_Gate_kind_of ?n_Gate_call ?i_Gate_call ?l_Gate_call ?c_Gate_call ?k_Gate_call ?n__law_bag ?l__law_bag ?c__law_bag ?k__law_bag ?n__law_take ?l__law_take ?c__law_take ?k__law_take ?n__law_one ?l__law_one ?c__law_one ?k__law_one ?n__law_alike ?l__law_alike ?c__law_alike ?k__law_alike ?n__law_is_whole ?l__law_is_whole ?c__law_is_whole ?k__law_is_whole ?n__law_is_name ?l__law_is_name ?c__law_is_name ?k__law_is_name ?n__law_are_names ?l__law_are_names ?c__law_are_names ?k__law_are_names ?n__law_odd ?l__law_odd ?c__law_odd ?k__law_odd ?n__law_is_deed ?l__law_is_deed ?c__law_is_deed ?k__law_is_deed ?n__law_is_wish ?l__law_is_wish ?c__law_is_wish ?k__law_is_wish ?n__law_some_name ?l__law_some_name ?c__law_some_name ?k__law_some_name ?n__law_drawn_thing ?l__law_drawn_thing ?c__law_drawn_thing ?k__law_drawn_thing ?n__law_near_one ?l__law_near_one ?c__law_near_one ?k__law_near_one ?n__law_bent ?l__law_bent ?c__law_bent ?k__law_bent ?n_law ?l_law ?c_law ?k_law
    (case gC_Gate => k_is)
    (case b_abs => k_is)
    (case b_all => k_is)
    (case b_bool => k_is)
    (case b_dict => k_is)
    (case b_int => k_is)
    (case b_isinstance => k_is)
    (case b_len => k_is)
    (case b_list => k_is)
    (case b_range => k_is)
    (case b_repr => k_is)
    (case b_set => k_is)
    (case b_sorted => k_is)
    (case b_str => k_is)
    (case b_tuple => k_is)
    (case g_GIVEN => k_is)
    (case rg_GIVEN => exact ⟨_, rfl⟩)
    (case g_KEPT => k_is)
    (case rg_KEPT => exact ⟨_, rfl⟩)
    (case g_LETTERS => k_is)
    (case rg_LETTERS => exact ⟨_, rfl⟩)
    (case g_LONGEST => k_is)
    (case rg_LONGEST => exact ⟨_, rfl⟩)
    (case g_MOST_STATES => k_is)
    (case rg_MOST_STATES => exact ⟨_, rfl⟩)
    (case g_NOTHING => k_is)
    (case rg_NOTHING => exact ⟨_, rfl⟩)
    (case g_OTHER => k_is)
    (case rg_OTHER => exact ⟨_, rfl⟩)
    (case ty_Gate => k_is)
    (case pg_Gate => k_is)
    (case ic_Gate => k_is)
    (case po_Gate => k_is)
    (case sa_Gate => k_is)
    (case ca_Gate => k_is)
    (case cn_Gate => k_is)
    (case ct_Gate => k_is)
    (case cm_Gate => k_is)
    (case i_Gate_int => k_is)
    (case i_Gate_bool => k_is)
    (case i_Gate_str => k_is)
    (case i_Gate_list => k_is)
    (case i_Gate_tuple => k_is)
    (case i_Gate_dict => k_is)
    (case j_Gate_NoneType => k_is)
    (case j_Gate_int => k_is)
    (case j_Gate_bool => k_is)
    (case j_Gate_str => k_is)
    (case j_Gate_list => k_is)
    (case j_Gate_tuple => k_is)
    (case j_Gate_dict => k_is)
    (case sa1_Gate_its_closet => k_is)
    (case sa2_Gate_its_closet => k_is)
    (case sa3_Gate_its_closet => k_is)
    (case sa4_Gate_its_closet => k_is)
    (case sa5_Gate_its_closet => k_is)
    (case sa1_Gate_its_doors => k_is)
    (case sa2_Gate_its_doors => k_is)
    (case sa3_Gate_its_doors => k_is)
    (case sa4_Gate_its_doors => k_is)
    (case sa5_Gate_its_doors => k_is)
    (case sa1_Gate_its_kinds => k_is)
    (case sa2_Gate_its_kinds => k_is)
    (case sa3_Gate_its_kinds => k_is)
    (case sa4_Gate_its_kinds => k_is)
    (case sa5_Gate_its_kinds => k_is)
    (case sa1_Gate_its_rules => k_is)
    (case sa2_Gate_its_rules => k_is)
    (case sa3_Gate_its_rules => k_is)
    (case sa4_Gate_its_rules => k_is)
    (case sa5_Gate_its_rules => k_is)
    (case sa1_Gate_its_states => k_is)
    (case sa2_Gate_its_states => k_is)
    (case sa3_Gate_its_states => k_is)
    (case sa4_Gate_its_states => k_is)
    (case sa5_Gate_its_states => k_is)
    (case n_is_integer => k_is)
    (case l_is_integer => k_is)
    (case c_is_integer => k_is)
    (case k_is_integer => k_is)
    (case n_is_name => k_is)
    (case l_is_name => k_is)
    (case c_is_name => k_is)
    (case k_is_name => k_is)
    (case n_are_names => k_is)
    (case l_are_names => k_is)
    (case c_are_names => k_is)
    (case k_are_names => k_is)
    (case n_is_pair => k_is)
    (case l_is_pair => k_is)
    (case c_is_pair => k_is)
    (case k_is_pair => k_is)
    (case n_is_wish => k_is)
    (case l_is_wish => k_is)
    (case c_is_wish => k_is)
    (case k_is_wish => k_is)
    (case n_is_call => k_is)
    (case l_is_call => k_is)
    (case c_is_call => k_is)
    (case k_is_call => k_is)
    (case n_is_deed => k_is)
    (case l_is_deed => k_is)
    (case c_is_deed => k_is)
    (case k_is_deed => k_is)
    (case n_is_state => k_is)
    (case l_is_state => k_is)
    (case c_is_state => k_is)
    (case k_is_state => k_is)
    (case n_is_kind => k_is)
    (case l_is_kind => k_is)
    (case c_is_kind => k_is)
    (case k_is_kind => k_is)
    (case n_is_word => k_is)
    (case l_is_word => k_is)
    (case c_is_word => k_is)
    (case k_is_word => k_is)
    (case n_is_rule => k_is)
    (case l_is_rule => k_is)
    (case c_is_rule => k_is)
    (case k_is_rule => k_is)
    (case n_are_rules => k_is)
    (case l_are_rules => k_is)
    (case c_are_rules => k_is)
    (case k_are_rules => k_is)
    (case n_Gate___init__ => k_is)
    (case i_Gate___init__ => k_is)
    (case mk_Gate___init__ => k_is)
    (case kc_Gate___init__ => k_is)
    (case l_Gate___init__ => k_is)
    (case c_Gate___init__ => k_is)
    (case k_Gate___init__ => k_is)
    (case n_Gate___eq__ => k_is)
    (case i_Gate___eq__ => k_is)
    (case l_Gate___eq__ => k_is)
    (case c_Gate___eq__ => k_is)
    (case k_Gate___eq__ => k_is)
    (case q1_Gate_states => k_is)
    (case q2_Gate_states => k_is)
    (case q3_Gate_states => k_is)
    (case q4_Gate_states => k_is)
    (case l_Gate_states => k_is)
    (case c_Gate_states => k_is)
    (case k_Gate_states => k_is)
    (case n_Gate_doors => k_is)
    (case i_Gate_doors => k_is)
    (case l_Gate_doors => k_is)
    (case c_Gate_doors => k_is)
    (case k_Gate_doors => k_is)
    (case n_Gate_closet => k_is)
    (case i_Gate_closet => k_is)
    (case l_Gate_closet => k_is)
    (case c_Gate_closet => k_is)
    (case k_Gate_closet => k_is)
    (case n_Gate_kind_of => k_is)
    (case i_Gate_kind_of => k_is)
    (case l_Gate_kind_of => k_is)
    (case c_Gate_kind_of => k_is)
    (case k_Gate_kind_of => k_is)
    (case n_Gate_call => k_is)
    (case i_Gate_call => k_is)
    (case l_Gate_call => k_is)
    (case c_Gate_call => k_is)
    (case k_Gate_call => k_is)
    (case n__law_bag => k_is)
    (case l__law_bag => k_is)
    (case c__law_bag => k_is)
    (case k__law_bag => k_is)
    (case n__law_take => k_is)
    (case l__law_take => k_is)
    (case c__law_take => k_is)
    (case k__law_take => k_is)
    (case n__law_one => k_is)
    (case l__law_one => k_is)
    (case c__law_one => k_is)
    (case k__law_one => k_is)
    (case n__law_alike => k_is)
    (case l__law_alike => k_is)
    (case c__law_alike => k_is)
    (case k__law_alike => k_is)
    (case n__law_is_whole => k_is)
    (case l__law_is_whole => k_is)
    (case c__law_is_whole => k_is)
    (case k__law_is_whole => k_is)
    (case n__law_is_name => k_is)
    (case l__law_is_name => k_is)
    (case c__law_is_name => k_is)
    (case k__law_is_name => k_is)
    (case n__law_are_names => k_is)
    (case l__law_are_names => k_is)
    (case c__law_are_names => k_is)
    (case k__law_are_names => k_is)
    (case n__law_odd => k_is)
    (case l__law_odd => k_is)
    (case c__law_odd => k_is)
    (case k__law_odd => k_is)
    (case n__law_is_deed => k_is)
    (case l__law_is_deed => k_is)
    (case c__law_is_deed => k_is)
    (case k__law_is_deed => k_is)
    (case n__law_is_wish => k_is)
    (case l__law_is_wish => k_is)
    (case c__law_is_wish => k_is)
    (case k__law_is_wish => k_is)
    (case n__law_some_name => k_is)
    (case l__law_some_name => k_is)
    (case c__law_some_name => k_is)
    (case k__law_some_name => k_is)
    (case n__law_drawn_thing => k_is)
    (case l__law_drawn_thing => k_is)
    (case c__law_drawn_thing => k_is)
    (case k__law_drawn_thing => k_is)
    (case n__law_near_one => k_is)
    (case l__law_near_one => k_is)
    (case c__law_near_one => k_is)
    (case k__law_near_one => k_is)
    (case n__law_bent => k_is)
    (case l__law_bent => k_is)
    (case c__law_bent => k_is)
    (case k__law_bent => k_is)
    (case n_law => k_is)
    (case l_law => k_is)
    (case c_law => k_is)
    (case k_law => k_is)
end
