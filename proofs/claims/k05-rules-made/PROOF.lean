import PyProof.Rows.All
import Wide.All
import OpenK.AllK
import Wide.FinOn
import HandS.ForMost
import HandS.Exc
import HandS.WordsExc
import HandS.Defaults
import HandS.Lambda
import HandS.TupAny
import HandS.Deep
import HandS.IsInst
import HandS.More
import HandS.NoneIn
import HandS.Iter
import HandS.Zip
import KE.GoesMore
import HandS.DictTup
import HandS.Comp
import HandS.MakeKw
import HandS.Style
import HandS.ExcInit
import HandS.ExcSuper
import KE.KExcSuper
import HandS.ExcField
import HandS.ExcOwn
import HandS.Strs
import KE.SortKeyHeap
import HandS.ListItems
import KE.KDictItemsList
import KE.KDictPairs
import HandS.Star
import HandS.OwnEq
import KE.KEqDict
import HandS.EndTab
import HandS.HeadWalk
import HandS.HeadHook4
import HandS.Head0
import HandS.Head1
import HandS.Head2
import HandS.HeadEnd
import HandS.ExcIs
import HandS.ExcValue
import KE.KNest
import KE.KLam
import KE.KOpsOwn
import PyProof.ListMulRight
import KE.KDictCopyH
import PyProof.TupleOfSeq
import PySem.Challenge.RW_manyvoices_k05_rules_made
set_option Elab.async false
set_option linter.all false
set_option maxRecDepth 100000
set_option maxHeartbeats 4000000
/-! MV: deep data, a store of things that change, and what a piece of the text makes of them. -/
namespace MV
open PySem PySem.Spec PyProof.Rows L2

/-! ### data -/
inductive D where
  | non | bl (b : Bool) | int (i : Int) | str (x : Str)
  | lst (xs : List D) | tup (xs : List D)
  | dK (kvs : List (Key × D)) | dT (kvs : List (List Key × D))
  | ins (c : Nat) (ds : List D)
  | gl (x : Str)
  | scr (ns : List Int)
  | ktup (xs : List D)
  | err (c : Nat) (ds : List D)
  | lam (f : Str)
instance : Inhabited D := ⟨.non⟩
/-- data, or the n-th thing of the store -/
inductive W where
  | val (d : D) | ref (n : Nat)
inductive YO where
  | lst (ws : List W) | dK (kws : List (Key × W)) | dT (kws : List (List Key × W)) | ins (c : Nat) (ws : List W) | dead
abbrev Ys := List YO
abbrev Ts := List (Option W)
/-- what the written part gives: K, the module's names, the classes by number -/
structure Gx where
  K : PySem.W.Frag
  mg : Str → Option Value
  cls : Nat → Addr
  flds : Nat → List Str
  T : List (Addr × Str)

/-- an error object of the class at C, its dict at d -/
def ErO (C : Addr) (d : Option Addr) (a : Addr) : HO := .ext fun h => ∃ (oe : Obj) (vs : Array Value), h.get? a = some oe ∧ Zc (.ref C) d oe ∧ oe.data = .fields vs
/-- lambda y: y.f -/
structure FldLam (f : Str) (params : Arguments) (body : Expr) (scope : Scope) : Prop where
  ex : ∃ (y : Str) (p1 p2 : Pos), body = .Attribute (.Name y p1) f p2 ∧ (∀ (q : Str) (cl : List (Str × Addr)) (pm cv ctv u : Value), bindArgs (PySem.W.kla_fn "<lambda>" q params body scope cl pm cv ctv) ⟨[u], []⟩ = pure [(y, u)]) ∧ scope.names = [(y, .local)] ∧ (y == ("__debug__" : Str)) = false
  kind : scope.kind = .function
  co : scope.isCoroutine = false
  gen : scope.isGenerator = false
def LmO (f q : Str) (c a : Addr) : HO := .ext fun h => ∃ (params : Arguments) (body : Expr) (scope : Scope) (pm ctv : Value), FldLam f params body scope ∧ h.get? a = some (PySem.W.kla_obj "<lambda>" q params body scope [] pm c ctv)
mutual
inductive Rep (G : Gx) (B : Hp) : V → D → Prop
  | non : Rep G B .non .non
  | bl (b : Bool) : Rep G B (.bl b) (.bl b)
  | int (i : Int) : Rep G B (.int i) (.int i)
  | str (x : Str) : Rep G B (.str x) (.str x)
  | lst {a : Addr} {vs : List V} {ds : List D} (h : B a = some (.lst vs)) (hl : vs.length ≤ sizeLine) (r : Reps G B vs ds) : Rep G B (.ref a) (.lst ds)
  | tup {a : Addr} {vs : List V} {ds : List D} (h : B a = some (.tup vs)) (hl : vs.length ≤ sizeLine) (r : Reps G B vs ds) : Rep G B (.ref a) (.tup ds)
  | dK {a : Addr} {kvs : List (Key × V)} {kds : List (Key × D)} (h : B a = some (.dK kvs)) (r : RepKV G B kvs kds) : Rep G B (.ref a) (.dK kds)
  | dT {a : Addr} {kvs : List (List Key × V)} {kds : List (List Key × D)} (h : B a = some (.dT kvs)) (r : RepKV G B kvs kds) : Rep G B (.ref a) (.dT kds)
  | ins {a dx : Addr} {c : Nat} {vs : List V} {ds : List D} (h : B a = some (.ins (G.cls c) dx ((G.flds c).zip vs))) (hl : vs.length ≤ (G.flds c).length) (r : Reps G B vs ds) : Rep G B (.ref a) (.ins c ds)
  | gl {x : Str} {v : V} {u : Value} (h : G.mg x = some u) (r : RelV v u) : Rep G B v (.gl x)
  | scr {a : Addr} {ns : List Int} (h : SqL G.K B a (ns.map V.int)) (hl : ns.length ≤ sizeLine) : Rep G B (.ref a) (.scr ns)
  | ktup {a : Addr} {vs : List V} {ds : List D} (h : ∀ H, SqT G.K H a vs) (hl : vs.length ≤ sizeLine) (r : Reps G B vs ds) : Rep G B (.ref a) (.ktup ds)
  | err {a dx : Addr} {c : Nat} {vs : List V} {ds : List D} (h : B a = some (ErO (G.cls c) (some dx) a)) (h2 : B dx = some (.xd ((G.flds c).zip vs))) (hl : vs.length = (G.flds c).length) (r : Reps G B vs ds) : Rep G B (.ref a) (.err c ds)
  | err0 {a : Addr} {c : Nat} (h : B a = some (ErO (G.cls c) none a)) : Rep G B (.ref a) (.err c [])
  | lam {a c : Addr} {f q : Str} (h : B a = some (LmO f q c a)) (h2 : B c = some (LamX.CodeO c q)) : Rep G B (.ref a) (.lam f)
inductive Reps (G : Gx) (B : Hp) : List V → List D → Prop
  | nil : Reps G B [] []
  | cons {v : V} {d : D} {vs : List V} {ds : List D} (h : Rep G B v d) (r : Reps G B vs ds) : Reps G B (v :: vs) (d :: ds)
inductive RepKV (G : Gx) (B : Hp) : {κ : Type} → List (κ × V) → List (κ × D) → Prop
  | nil {κ : Type} : RepKV G B (κ := κ) [] []
  | cons {κ : Type} {k : κ} {v : V} {d : D} {vs : List (κ × V)} {ds : List (κ × D)} (h : Rep G B v d) (r : RepKV G B vs ds) : RepKV G B ((k, v) :: vs) ((k, d) :: ds)
end
def Le (B B' : Hp) : Prop := ∀ a o, B a = some o → B' a = some o
theorem Le.refl (B : Hp) : Le B B := fun _ _ h => h
theorem Le.trans {A B C : Hp} (h : Le A B) (k : Le B C) : Le A C := fun a o e => k a o (h a o e)
theorem sqL_le {K : PySem.W.Frag} {B B' : Hp} {a : Addr} {vs : List V} (l : Le B B') (h : SqL K B a vs) : SqL K B' a vs := by
  rcases h with (h | ⟨o, h⟩) | h
  · exact .inl (.inl (l _ _ h))
  · exact .inl (.inr ⟨o, l _ _ h⟩)
  · exact .inr h
theorem sqT_le {K : PySem.W.Frag} {B B' : Hp} {a : Addr} {vs : List V} (l : Le B B') (h : SqT K B a vs) : SqT K B' a vs := by
  rcases h with (h | ⟨o, h⟩) | h
  · exact .inl (.inl (l _ _ h))
  · exact .inl (.inr ⟨o, l _ _ h⟩)
  · exact .inr h
theorem Rep.le {G : Gx} {B B' : Hp} (l : Le B B') {v : V} {d : D} (h : Rep G B v d) : Rep G B' v d :=
  Rep.rec (G := G) (B := B) (motive_1 := fun v d _ => Rep G B' v d) (motive_2 := fun vs ds _ => Reps G B' vs ds) (motive_3 := fun {κ} vs ds _ => RepKV G B' vs ds)
    .non .bl .int .str (fun h hl _ r => .lst (l _ _ h) hl r) (fun h hl _ r => .tup (l _ _ h) hl r) (fun h _ r => .dK (l _ _ h) r) (fun h _ r => .dT (l _ _ h) r) (fun h hl _ r => .ins (l _ _ h) hl r) (fun h r => .gl h r) (fun h hl => .scr (sqL_le l h) hl) (fun h hl _ r => .ktup h hl r) (fun h h2 hl _ r => .err (l _ _ h) (l _ _ h2) hl r) (fun h => .err0 (l _ _ h)) (fun h h2 => .lam (l _ _ h) (l _ _ h2))
    .nil (fun _ _ h r => .cons h r) .nil (fun _ _ h r => .cons h r) h
theorem Reps.le {G : Gx} {B B' : Hp} (l : Le B B') : ∀ {vs : List V} {ds : List D}, Reps G B vs ds → Reps G B' vs ds
  | _, _, .nil => .nil
  | _, _, .cons h r => .cons (h.le l) (r.le l)
theorem RepKV.le {G : Gx} {B B' : Hp} (l : Le B B') {κ : Type} : ∀ {vs : List (κ × V)} {ds : List (κ × D)}, RepKV G B vs ds → RepKV G B' vs ds
  | _, _, .nil => .nil
  | _, _, .cons h r => .cons (h.le l) (r.le l)
theorem Reps.length {G : Gx} {B : Hp} : ∀ {vs : List V} {ds : List D}, Reps G B vs ds → vs.length = ds.length
  | _, _, .nil => rfl
  | _, _, .cons _ r => congrArg (· + 1) r.length
theorem RepKV.length {G : Gx} {B : Hp} {κ : Type} : ∀ {vs : List (κ × V)} {ds : List (κ × D)}, RepKV G B vs ds → vs.length = ds.length
  | _, _, .nil => rfl
  | _, _, .cons _ r => congrArg (· + 1) r.length
theorem Reps.get {G : Gx} {B : Hp} : ∀ {vs : List V} {ds : List D} {i : Nat} {d : D}, Reps G B vs ds → ds[i]? = some d → ∃ v, vs[i]? = some v ∧ Rep G B v d
  | _, _, _, _, .nil, e => by simp at e
  | _, _, 0, _, .cons h _, e => by
    simp at e
    subst e
    exact ⟨_, rfl, h⟩
  | _, _, i + 1, d, .cons _ r, e => by
    obtain ⟨v, h1, h2⟩ := Reps.get (i := i) (d := d) r (by simpa using e)
    exact ⟨v, by simpa using h1, h2⟩
theorem Reps.getV {G : Gx} {B : Hp} : ∀ {vs : List V} {ds : List D} {i : Nat} {v : V}, Reps G B vs ds → vs[i]? = some v → ∃ d, ds[i]? = some d ∧ Rep G B v d
  | _, _, _, _, .nil, e => by simp at e
  | _, _, 0, _, .cons h _, e => by
    simp at e
    subst e
    exact ⟨_, rfl, h⟩
  | _, _, i + 1, d, .cons _ r, e => by
    obtain ⟨v, h1, h2⟩ := Reps.getV (i := i) (v := d) r (by simpa using e)
    exact ⟨v, by simpa using h1, h2⟩
theorem Reps.append {G : Gx} {B : Hp} : ∀ {vs us : List V} {ds es : List D}, Reps G B vs ds → Reps G B us es → Reps G B (vs ++ us) (ds ++ es)
  | _, _, _, _, .nil, s => s
  | _, _, _, _, .cons h r, s => .cons h (r.append s)

/-! ### the store and the heap -/
def WRep (G : Gx) (B : Hp) (ρ : Nat → Addr) (n : Nat) : V → W → Prop
  | v, .val d => Rep G B v d
  | v, .ref m => m < n ∧ v = .ref (ρ m)
abbrev WReps (G : Gx) (B : Hp) (ρ : Nat → Addr) (n : Nat) : List V → List W → Prop := Paired (WRep G B ρ n)
abbrev WRepK (G : Gx) (B : Hp) (ρ : Nat → Addr) (n : Nat) {κ : Type} : List (κ × V) → List (κ × W) → Prop := Paired fun p q => p.1 = q.1 ∧ WRep G B ρ n p.2 q.2
def ObjR (G : Gx) (B : Hp) (ρ : Nat → Addr) (n : Nat) (o : Option HO) : YO → Prop
  | .lst ws => ∃ vs, o = some (.lst vs) ∧ vs.length ≤ sizeLine ∧ WReps G B ρ n vs ws
  | .dK kws => ∃ kvs, o = some (.dK kvs) ∧ WRepK G B ρ n kvs kws
  | .dT kws => ∃ kvs, o = some (.dT kvs) ∧ WRepK G B ρ n kvs kws
  | .ins c ws => ∃ dx vs, o = some (.ins (G.cls c) dx ((G.flds c).zip vs)) ∧ vs.length ≤ (G.flds c).length ∧ WReps G B ρ n vs ws
  | .dead => True
/-- what the tables of code objects are made of -/
def Tb : HO → Prop
  | .tbl _ => True
  | .ext _ => True
  | _ => False
/-- all tables of code objects are told; none is data -/
def TabsR (G : Gx) (B H : Hp) : Prop := LamX.Tabs G.T H ∧ ∀ a ps, B a ≠ some (.tbl ps)
theorem TabsR.to {G : Gx} {B H B' H' : Hp} (t : TabsR G B H) (h1 : ∀ b o, H b = some o → Tb o → H' b = some o) (h3 : ∀ b ps, B' b = some (.tbl ps) → B b = some (.tbl ps)) : TabsR G B' H' := by
  refine ⟨fun p hp => ?_, fun a ps e => t.2 a ps (h3 a ps e)⟩
  obtain ⟨ps, e1, e2, e3⟩ := t.1 p hp
  refine ⟨ps, h1 _ _ e1 trivial, e2, fun pos cv hc => ?_⟩
  obtain ⟨c, z1, z2⟩ := e3 pos cv hc
  exact ⟨c, z1, h1 _ _ z2 trivial⟩
theorem TabsR.same {G : Gx} {B H B' : Hp} (t : TabsR G B H) (h3 : ∀ b ps, B' b = some (.tbl ps) → B b = some (.tbl ps)) : TabsR G B' H := t.to (fun _ _ h _ => h) h3
/-- something is written where no table stood -/
theorem TabsR.upd {G : Gx} {B H B' : Hp} {p : Addr} {o : HO} (t : TabsR G B H) (hp : ∀ u, H p = some u → ¬ Tb u) (h3 : ∀ b ps, B' b = some (.tbl ps) → B b = some (.tbl ps)) : TabsR G B' (upd H p o) := by
  have ne : ∀ b u, H b = some u → Tb u → b ≠ p := fun b u e z q => by
    subst q
    exact hp u e z
  exact t.to (fun b u e z => by rw [upd_ne (ne b u e z)]; exact e) h3
theorem tbl_upd {B : Hp} {p : Addr} {o : HO} (h : ¬ Tb o) : ∀ b ps, upd B p o b = some (.tbl ps) → B b = some (.tbl ps) := fun b ps e => by
  by_cases hb : b = p
  · rw [hb, upd_same] at e
    cases e
    exact (h trivial).elim
  · rw [upd_ne hb] at e
    exact e
/-- nothing, or a table -/
def NT : Option HO → Prop
  | none => True
  | some (.tbl _) => True
  | _ => False
theorem NT.of {o : Option HO} (h : o = none) : NT o := by
  rw [h]
  trivial
theorem NT.cases {o : Option HO} (h : NT o) : o = none ∨ ∃ ps, o = some (.tbl ps) := by
  cases o with
  | none => exact .inl rfl
  | some u => cases u <;> first | exact .inr ⟨_, rfl⟩ | exact h.elim
/-- what may be told as data behind -/
def Sn : HO → Prop
  | .tup _ => True
  | .tbl _ => True
  | .ext _ => True
  | _ => False
def locks : HO → Prop
  | .dK _ => True
  | .dT _ => True
  | _ => False
/-- the n-th thing of the store is there -/
def Live (Y : Ys) (n : Nat) : Prop := ∃ yo, Y[n]? = some yo ∧ yo ≠ .dead
structure Rel (G : Gx) (B H : Hp) (ρ : Nat → Addr) (Y : Ys) : Prop where
  sub : ∀ a o, B a = some o → H a = some o ∨ (locks o ∧ ∃ ob, H a = some (.frz ob o))
  non : ∀ n, Live Y n → B (ρ n) = none
  obj : ∀ (n : Nat) (yo : YO), Y[n]? = some yo → ObjR G B ρ Y.length (H (ρ n)) yo
  inj : ∀ n m, Live Y n → Live Y m → ρ n = ρ m → n = m
  tabs : TabsR G B H
structure TR (G : Gx) (B : Hp) (ρ : Nat → Addr) (n : Nat) (σ : L2.St) (τ : Ts) : Prop where
  len : σ.length = τ.length
  at_ : ∀ (i : Nat) (w : W), τ[i]? = some (some w) → ∃ v, σ[i]? = some (some v) ∧ WRep G B ρ n v w
structure Aft (G : Gx) (B H : Hp) (ρ : Nat → Addr) (Y : Ys) (B' H' : Hp) (ρ' : Nat → Addr) (Y' : Ys) : Prop where
  rel : Rel G B' H' ρ' Y'
  le : Le B B'
  frame : ∀ a o, H a = some o → (∀ n, Live Y n → ρ n ≠ a) → (∀ ps, o ≠ .tbl ps) → H' a = some o
  fresh : ∀ a o, B' a = some o → B a = none → H a = none ∨ (∃ n, Live Y n ∧ ρ n = a) ∨ ∃ u, H a = some u ∧ Sn u
  adr : ∀ n, n < Y.length → ρ' n = ρ n
  live : ∀ n, Live Y' n → (n < Y.length ∧ Live Y n) ∨ NT (H (ρ' n))
  len : Y.length ≤ Y'.length
  dom : ∀ a, NT (H' a) → NT (H a)
theorem Live.lt {Y : Ys} {n : Nat} (h : Live Y n) : n < Y.length := by
  obtain ⟨yo, h, _⟩ := h
  exact (List.getElem?_eq_some_iff.mp h).1
theorem WRep.aft {G : Gx} {B H B' H' : Hp} {ρ ρ' : Nat → Addr} {Y Y' : Ys} (A : Aft G B H ρ Y B' H' ρ' Y') {v : V} : ∀ {w : W}, WRep G B ρ Y.length v w → WRep G B' ρ' Y'.length v w
  | .val d, h => Rep.le A.le h
  | .ref m, ⟨h1, h2⟩ => ⟨Nat.lt_of_lt_of_le h1 A.len, by rw [A.adr m h1]; exact h2⟩
theorem Paired.imp {α β : Type} {F G : α → β → Prop} : ∀ {l₁ : List α} {l₂ : List β}, Paired F l₁ l₂ → (∀ a b, F a b → G a b) → Paired G l₁ l₂
  | _, _, .nil, _ => .nil
  | _, _, .cons r t, f => .cons (f _ _ r) (Paired.imp t f)
theorem WReps.aft {G : Gx} {B H B' H' : Hp} {ρ ρ' : Nat → Addr} {Y Y' : Ys} (A : Aft G B H ρ Y B' H' ρ' Y') {vs : List V} {ws : List W} (h : WReps G B ρ Y.length vs ws) : WReps G B' ρ' Y'.length vs ws := Paired.imp h fun _ _ r => WRep.aft A r
theorem TR.aft {G : Gx} {B H B' H' : Hp} {ρ ρ' : Nat → Addr} {Y Y' : Ys} {σ : L2.St} {τ : Ts} (t : TR G B ρ Y.length σ τ) (A : Aft G B H ρ Y B' H' ρ' Y') : TR G B' ρ' Y'.length σ τ :=
  ⟨t.len, fun i w e => let ⟨v, h1, h2⟩ := t.at_ i w e; ⟨v, h1, WRep.aft A h2⟩⟩
theorem Aft.refl {G : Gx} {B H : Hp} {ρ : Nat → Addr} {Y : Ys} (r : Rel G B H ρ Y) : Aft G B H ρ Y B H ρ Y :=
  ⟨r, Le.refl B, fun _ _ h _ _ => h, fun a o h n => (by rw [n] at h; cases h), fun _ _ => rfl, fun n h => .inl ⟨h.lt, h⟩, Nat.le_refl _, fun _ h => h⟩
theorem Aft.trans {G : Gx} {B H B1 H1 B2 H2 : Hp} {ρ ρ1 ρ2 : Nat → Addr} {Y Y1 Y2 : Ys} (a : Aft G B H ρ Y B1 H1 ρ1 Y1) (b : Aft G B1 H1 ρ1 Y1 B2 H2 ρ2 Y2) : Aft G B H ρ Y B2 H2 ρ2 Y2 where
  rel := b.rel
  le := a.le.trans b.le
  frame := fun c o h n z => b.frame c o (a.frame c o h n z) (fun m hm e => by
    rcases a.live m hm with ⟨h1, h2⟩ | h1
    · exact n m h2 (by rw [← a.adr m h1]; exact e)
    · rw [e, h] at h1
      rcases h1.cases with q | ⟨ps, q⟩
      · cases q
      · exact z ps (Option.some.inj q)) z
  fresh := fun c o h n => by
    cases e : B1 c with
    | some o1 => exact a.fresh c o1 e n
    | none =>
      have nt : NT (H c) → H c = none ∨ (∃ n, Live Y n ∧ ρ n = c) ∨ ∃ u, H c = some u ∧ Sn u := fun q => by
        rcases q.cases with q | ⟨ps, q⟩
        · exact .inl q
        · exact .inr (.inr ⟨_, q, trivial⟩)
      rcases b.fresh c o h e with h1 | ⟨m, hm, e1⟩ | ⟨u1, h1, s1⟩
      · exact nt (a.dom c (.of h1))
      · rcases a.live m hm with ⟨h1, h2⟩ | h1
        · exact .inr (.inl ⟨m, h2, by rw [← a.adr m h1]; exact e1⟩)
        · rw [e1] at h1
          exact nt h1
      · cases q : H c with
        | none => exact .inl rfl
        | some u =>
          by_cases hl : ∃ n, Live Y n ∧ ρ n = c
          · exact .inr (.inl hl)
          · by_cases hu : ∃ ps, u = .tbl ps
            · obtain ⟨ps, rfl⟩ := hu
              exact .inr (.inr ⟨_, rfl, trivial⟩)
            · have := a.frame c u q (fun n hn z => hl ⟨n, hn, z⟩) fun ps z => hu ⟨ps, z⟩
              rw [h1] at this
              cases this
              exact .inr (.inr ⟨_, rfl, s1⟩)
  adr := fun n h => (b.adr n (Nat.lt_of_lt_of_le h a.len)).trans (a.adr n h)
  live := fun n h => by
    rcases b.live n h with ⟨h1, h2⟩ | h1
    · rcases a.live n h2 with h3 | h3
      · exact .inl h3
      · exact .inr (by rw [b.adr n h1]; exact h3)
    · exact .inr (a.dom _ h1)
  len := Nat.le_trans a.len b.len
  dom := fun c h => a.dom c (b.dom c h)

/-! ### what a piece of the text makes of them -/
/-- an expression's end: a value; an exception of the c-th class with its fields; none that is told -/
inductive Re where
  | ok (w : W) (Y : Ys) | exc (c : Nat) (fs : Option (List (Str × D))) (Y : Ys) | bad
abbrev Den := Ts → Ys → Re
inductive Out where
  | next (τ : Ts) (Y : Ys) | ret (w : W) (Y : Ys) | brk (τ : Ts) (Y : Ys) | cont (τ : Ts) (Y : Ys) | exc (c : Nat) (fs : Option (List (Str × D))) (τ : Ts) (Y : Ys) | bad
abbrev SDen := Ts → Ys → Out
/-- the classes: where each stands, the names of its fields -/
structure Cl where
  at_ : Nat → Addr
  fs : Nat → List Str
  T : List (Addr × Str)
abbrev gx (cls : Cl) (X : Cx) : Gx := ⟨X.K, X.mg, cls.at_, cls.fs, cls.T⟩
/-- an exception lies as it is told -/
def ExcAt (G : Gx) (B H : Hp) (d : Option Addr) : Option (List (Str × D)) → Prop
  | none => d = none
  | some fs => ∃ dx vs, d = some dx ∧ H dx = some (.xd vs) ∧ RepKV G B vs fs
def ReOk (G : Gx) (W : WX) (σ : L2.St) (B H : Hp) (ρ : Nat → Addr) (Y : Ys) (Q : VK) : Re → Prop
  | .ok w Y' => ∀ v B' H' ρ', Aft G B H ρ Y B' H' ρ' Y' → WRep G B' ρ' Y'.length v w → Q v H'
  | .exc c fs Y' => ∀ d B' H' ρ', Aft G B H ρ Y B' H' ρ' Y' → ExcAt G B' H' d fs → W (.ref (G.cls c)) d σ H'
  | .bad => False
def OutOk (G : Gx) (W : WX) (σ : L2.St) (B H : Hp) (ρ : Nat → Addr) (Y : Ys) (E : Ends) : Out → Prop
  | .next τ' Y' => ∀ σ' B' H' ρ', Aft G B H ρ Y B' H' ρ' Y' → TR G B' ρ' Y'.length σ' τ' → E.nx σ' H'
  | .ret w Y' => ∀ v B' H' ρ', Aft G B H ρ Y B' H' ρ' Y' → WRep G B' ρ' Y'.length v w → E.rt v H'
  | .brk τ' Y' => ∀ σ' B' H' ρ', Aft G B H ρ Y B' H' ρ' Y' → TR G B' ρ' Y'.length σ' τ' → E.bk σ' H'
  | .cont τ' Y' => ∀ σ' B' H' ρ', Aft G B H ρ Y B' H' ρ' Y' → TR G B' ρ' Y'.length σ' τ' → E.ct σ' H'
  | .exc c fs τ' Y' => ∀ d σ' B' H' ρ', Aft G B H ρ Y B' H' ρ' Y' → TR G B' ρ' Y'.length σ' τ' → ExcAt G B' H' d fs → W (.ref (G.cls c)) d σ' H'
  | .bad => False
def DE (cls : Cl) (X : Cx) (W : WX) (e : Expr) (f : Den) : Prop :=
  ∃ t : TE, PE X e t ∧ ∀ σ H Q B ρ Y τ, Rel (gx cls X) B H ρ Y → TR (gx cls X) B ρ Y.length σ τ → ReOk (gx cls X) W σ B H ρ Y Q (f τ Y) → t σ H Q
/-- a test's end -/
inductive Te where
  | ok (b : Bool) (Y : Ys) | exc (c : Nat) (fs : Option (List (Str × D))) (Y : Ys) | bad
abbrev TDen := Ts → Ys → Te
def TeOk (G : Gx) (W : WX) (σ : L2.St) (B H : Hp) (ρ : Nat → Addr) (Y : Ys) (Q : Bool → Hp → Prop) : Te → Prop
  | .ok b Y' => ∀ B' H' ρ', Aft G B H ρ Y B' H' ρ' Y' → Q b H'
  | .exc c fs Y' => ∀ d B' H' ρ', Aft G B H ρ Y B' H' ρ' Y' → ExcAt G B' H' d fs → W (.ref (G.cls c)) d σ H'
  | .bad => False
def DT (cls : Cl) (X : Cx) (W : WX) (e : Expr) (f : TDen) : Prop :=
  ∃ t : TT, PT X e t ∧ ∀ σ H Q B ρ Y τ, Rel (gx cls X) B H ρ Y → TR (gx cls X) B ρ Y.length σ τ → TeOk (gx cls X) W σ B H ρ Y Q (f τ Y) → t σ H Q
def DS (cls : Cl) (X : Cx) (W : WX) (st : Stmt) (F : SDen) : Prop :=
  ∃ t : TS, PS X st t ∧ ∀ σ H E B ρ Y τ, Rel (gx cls X) B H ρ Y → TR (gx cls X) B ρ Y.length σ τ → OutOk (gx cls X) W σ B H ρ Y E (F τ Y) → t E σ H
def DSs (cls : Cl) (X : Cx) (W : WX) (st : List Stmt) (F : SDen) : Prop :=
  ∃ t : TS, PSs X st t ∧ ∀ σ H E B ρ Y τ, Rel (gx cls X) B H ρ Y → TR (gx cls X) B ρ Y.length σ τ → OutOk (gx cls X) W σ B H ρ Y E (F τ Y) → t E σ H
end MV
set_option Elab.async false
set_option linter.all false
set_option maxRecDepth 100000
set_option maxHeartbeats 4000000
namespace MV
open PySem PySem.Spec PyProof.Rows L2

/-! ### one behind another -/
section
variable {G : Gx} {W : WX} {σ : L2.St} {B H B1 H1 : Hp} {ρ ρ1 : Nat → Addr} {Y Y1 : Ys} {Q : VK}
theorem ReOk.behind (A : Aft G B H ρ Y B1 H1 ρ1 Y1) : ∀ {r : Re}, ReOk G W σ B H ρ Y Q r → ReOk G W σ B1 H1 ρ1 Y1 Q r
  | .ok _ _, h => fun v B' H' ρ' A' r => h v B' H' ρ' (A.trans A') r
  | .exc _ _ _, h => fun d B' H' ρ' A' e => h d B' H' ρ' (A.trans A') e
  | .bad, h => h
theorem TeOk.behind {Q : Bool → Hp → Prop} (A : Aft G B H ρ Y B1 H1 ρ1 Y1) : ∀ {r : Te}, TeOk G W σ B H ρ Y Q r → TeOk G W σ B1 H1 ρ1 Y1 Q r
  | .ok _ _, h => fun B' H' ρ' A' => h B' H' ρ' (A.trans A')
  | .exc _ _ _, h => fun d B' H' ρ' A' e => h d B' H' ρ' (A.trans A') e
  | .bad, h => h
theorem OutOk.behind {E : Ends} {σ' : L2.St} (A : Aft G B H ρ Y B1 H1 ρ1 Y1) : ∀ {r : Out}, OutOk G W σ B H ρ Y E r → OutOk G W σ' B1 H1 ρ1 Y1 E r
  | .next _ _, h => fun s B' H' ρ' A' e => h s B' H' ρ' (A.trans A') e
  | .ret _ _, h => fun s B' H' ρ' A' e => h s B' H' ρ' (A.trans A') e
  | .brk _ _, h => fun s B' H' ρ' A' e => h s B' H' ρ' (A.trans A') e
  | .cont _ _, h => fun s B' H' ρ' A' e => h s B' H' ρ' (A.trans A') e
  | .exc _ _ _ _, h => fun d s B' H' ρ' A' t e => h d s B' H' ρ' (A.trans A') t e
  | .bad, h => h
end
theorem ReOk.imp {G : Gx} {W : WX} {σ : L2.St} {B H : Hp} {ρ : Nat → Addr} {Y : Ys} {Q Q' : VK} (i : ∀ v H', Q v H' → Q' v H') : ∀ {r : Re}, ReOk G W σ B H ρ Y Q r → ReOk G W σ B H ρ Y Q' r
  | .ok _ _, h => fun v B' H' ρ' A' r => i _ _ (h v B' H' ρ' A' r)
  | .exc _ _ _, h => h
  | .bad, h => h
theorem TeOk.imp {G : Gx} {W : WX} {σ : L2.St} {B H : Hp} {ρ : Nat → Addr} {Y : Ys} {Q Q' : Bool → Hp → Prop} (i : ∀ v H', Q v H' → Q' v H') : ∀ {r : Te}, TeOk G W σ B H ρ Y Q r → TeOk G W σ B H ρ Y Q' r
  | .ok _ _, h => fun B' H' ρ' A' => i _ _ (h B' H' ρ' A')
  | .exc _ _ _, h => h
  | .bad, h => h
/-- what an expression's end is brought to -/
def Re.bind (r : Re) (k : W → Ys → Re) : Re := match r with
  | .ok w Y => k w Y
  | .exc c fs Y => .exc c fs Y
  | .bad => .bad
def Re.bindT (r : Re) (k : W → Ys → Te) : Te := match r with
  | .ok w Y => k w Y
  | .exc c fs Y => .exc c fs Y
  | .bad => .bad
def Te.bind (r : Te) (k : Bool → Ys → Re) : Re := match r with
  | .ok w Y => k w Y
  | .exc c fs Y => .exc c fs Y
  | .bad => .bad
def Te.bindT (r : Te) (k : Bool → Ys → Te) : Te := match r with
  | .ok w Y => k w Y
  | .exc c fs Y => .exc c fs Y
  | .bad => .bad
section
variable {G : Gx} {W : WX} {σ : L2.St} {B H : Hp} {ρ : Nat → Addr} {Y : Ys}
theorem ReOk.bound {Q : VK} {k : MV.W → Ys → Re} : ∀ {r : Re}, ReOk G W σ B H ρ Y Q (r.bind k) → ReOk G W σ B H ρ Y (fun v H1 => ∃ B1 ρ1 w Y1, Aft G B H ρ Y B1 H1 ρ1 Y1 ∧ WRep G B1 ρ1 Y1.length v w ∧ ReOk G W σ B1 H1 ρ1 Y1 Q (k w Y1)) r
  | .ok w Y1, h => fun v B1 H1 ρ1 A r => ⟨B1, ρ1, w, Y1, A, r, ReOk.behind A h⟩
  | .exc _ _ _, h => h
  | .bad, h => h
theorem ReOk.boundT {Q : Bool → Hp → Prop} {k : MV.W → Ys → Te} : ∀ {r : Re}, TeOk G W σ B H ρ Y Q (r.bindT k) → ReOk G W σ B H ρ Y (fun v H1 => ∃ B1 ρ1 w Y1, Aft G B H ρ Y B1 H1 ρ1 Y1 ∧ WRep G B1 ρ1 Y1.length v w ∧ TeOk G W σ B1 H1 ρ1 Y1 Q (k w Y1)) r
  | .ok w Y1, h => fun v B1 H1 ρ1 A r => ⟨B1, ρ1, w, Y1, A, r, TeOk.behind A h⟩
  | .exc _ _ _, h => h
  | .bad, h => h
theorem TeOk.bound {Q : VK} {k : Bool → Ys → Re} : ∀ {r : Te}, ReOk G W σ B H ρ Y Q (r.bind k) → TeOk G W σ B H ρ Y (fun b H1 => ∃ B1 ρ1 Y1, Aft G B H ρ Y B1 H1 ρ1 Y1 ∧ ReOk G W σ B1 H1 ρ1 Y1 Q (k b Y1)) r
  | .ok b Y1, h => fun B1 H1 ρ1 A => ⟨B1, ρ1, Y1, A, ReOk.behind A h⟩
  | .exc _ _ _, h => h
  | .bad, h => h
theorem TeOk.boundT {Q : Bool → Hp → Prop} {k : Bool → Ys → Te} : ∀ {r : Te}, TeOk G W σ B H ρ Y Q (r.bindT k) → TeOk G W σ B H ρ Y (fun b H1 => ∃ B1 ρ1 Y1, Aft G B H ρ Y B1 H1 ρ1 Y1 ∧ TeOk G W σ B1 H1 ρ1 Y1 Q (k b Y1)) r
  | .ok b Y1, h => fun B1 H1 ρ1 A => ⟨B1, ρ1, Y1, A, TeOk.behind A h⟩
  | .exc _ _ _, h => h
  | .bad, h => h
end

/-! ### names and constants -/
section
variable {cls : Cl} {X : Cx} {W : WX} {pos : Pos}
def dVar (i : Nat) : Den := fun τ Y => match τ[i]? with
  | some (some w) => .ok w Y
  | _ => .bad
theorem d_var (i : Nat) {x : Str} (hN : X.N[i]? = some x := by rfl) (hv : Vis X.env.scope x := by first | exact Or.inl rfl | exact Or.inr (Or.inl rfl) | exact Or.inr (Or.inr rfl)) (hd : (x == ("__debug__" : Str)) = false := by decide)
    (hcd : (x == ("__classdict__" : Str)) = false := by decide) : DE cls X W (.Name x pos) (dVar i) := by
  refine ⟨_, pe_var hN hv hd hcd, fun σ H Q B ρ Y τ R T h => ?_⟩
  unfold dVar at h
  cases e : τ[i]? with
  | none => rw [e] at h; exact h.elim
  | some o =>
    cases o with
    | none => rw [e] at h; exact h.elim
    | some w =>
      rw [e] at h
      obtain ⟨v, h1, h2⟩ := T.at_ i w e
      exact ⟨v, h1, h v B H ρ (Aft.refl R) h2⟩
def dC (d : D) : Den := fun _ Y => .ok (.val d) Y
theorem d_const {e : Expr} {v : V} {d : D} (h : PE X e (tC v)) (hr : ∀ B, Rep (gx cls X) B v d) : DE cls X W e (dC d) :=
  ⟨_, h, fun σ H Q B ρ Y τ R T q => q v B H ρ (Aft.refl R) (hr B)⟩
theorem d_int {i : Int} {j} : DE cls X W (.Constant (.int i) j pos) (dC (.int i)) := d_const pe_int fun _ => .int i
theorem d_bl {b : Bool} {j} : DE cls X W (.Constant (.bool b) j pos) (dC (.bl b)) := d_const pe_bl fun _ => .bl b
theorem d_non {j} : DE cls X W (.Constant .none j pos) (dC .non) := d_const pe_non fun _ => .non
theorem d_str {x : Str} {j} : DE cls X W (.Constant (.str x) j pos) (dC (.str x)) := d_const pe_str fun _ => .str x
/-- a module's name: a def, a class, a constant -/
theorem d_glob {x : Str} {u : Value} {v : V} {d : D} (hm : X.mg x = some u) (r : RelV v u) (hr : ∀ B, Rep (gx cls X) B v d) (hg : Gl X x := by rfl) (hd : (x == ("__debug__" : Str)) = false := by decide) : DE cls X W (.Name x pos) (dC d) :=
  d_const (pe_glob hg hm r hd) hr
/-- a built-in's name as a value -/
theorem d_bltn {x : Str} {u : Value} {v : V} {d : D} (hm : X.mg x = none) (hv : bootBuiltins x = some u) (r : RelV v u) (hr : ∀ B, Rep (gx cls X) B v d) (hg : Gl X x := by rfl) (hn : x ≠ "__name__" := by decide) (hd : (x == ("__debug__" : Str)) = false := by decide) : DE cls X W (.Name x pos) (dC d) :=
  d_const (pe_bltn hg hm hv r hn hd) hr
end

/-! ### arguments -/
inductive Ra where
  | ok (ws : List W) (Y : Ys) | exc (c : Nat) (fs : Option (List (Str × D))) (Y : Ys) | bad
abbrev ADen := Ts → Ys → Ra
def RaOk (G : Gx) (W : WX) (σ : L2.St) (B H : Hp) (ρ : Nat → Addr) (Y : Ys) (Q : List V → Hp → Prop) : Ra → Prop
  | .ok ws Y' => ∀ vs B' H' ρ', Aft G B H ρ Y B' H' ρ' Y' → WReps G B' ρ' Y'.length vs ws → Q vs H'
  | .exc c fs Y' => ∀ d B' H' ρ', Aft G B H ρ Y B' H' ρ' Y' → ExcAt G B' H' d fs → W (.ref (G.cls c)) d σ H'
  | .bad => False
def DA (cls : Cl) (X : Cx) (W : WX) (es : List Expr) (f : ADen) : Prop :=
  ∃ t : TA, PA X es t ∧ ∀ σ H Q B ρ Y τ, Rel (gx cls X) B H ρ Y → TR (gx cls X) B ρ Y.length σ τ → RaOk (gx cls X) W σ B H ρ Y Q (f τ Y) → t σ H Q
def Ra.bind (r : Ra) (k : List W → Ys → Re) : Re := match r with
  | .ok ws Y => k ws Y
  | .exc c fs Y => .exc c fs Y
  | .bad => .bad
theorem RaOk.behind {G : Gx} {W : WX} {σ : L2.St} {B H B1 H1 : Hp} {ρ ρ1 : Nat → Addr} {Y Y1 : Ys} {Q : List V → Hp → Prop} (A : Aft G B H ρ Y B1 H1 ρ1 Y1) : ∀ {r : Ra}, RaOk G W σ B H ρ Y Q r → RaOk G W σ B1 H1 ρ1 Y1 Q r
  | .ok _ _, h => fun v B' H' ρ' A' r => h v B' H' ρ' (A.trans A') r
  | .exc _ _ _, h => fun d B' H' ρ' A' e => h d B' H' ρ' (A.trans A') e
  | .bad, h => h
theorem RaOk.imp {G : Gx} {W : WX} {σ : L2.St} {B H : Hp} {ρ : Nat → Addr} {Y : Ys} {Q Q' : List V → Hp → Prop} (i : ∀ v H', Q v H' → Q' v H') : ∀ {r : Ra}, RaOk G W σ B H ρ Y Q r → RaOk G W σ B H ρ Y Q' r
  | .ok _ _, h => fun v B' H' ρ' A' r => i _ _ (h v B' H' ρ' A' r)
  | .exc _ _ _, h => h
  | .bad, h => h
theorem RaOk.bound {G : Gx} {W : WX} {σ : L2.St} {B H : Hp} {ρ : Nat → Addr} {Y : Ys} {Q : VK} {k : List MV.W → Ys → Re} : ∀ {r : Ra}, ReOk G W σ B H ρ Y Q (r.bind k) →
    RaOk G W σ B H ρ Y (fun vs H1 => ∃ B1 ρ1 ws Y1, Aft G B H ρ Y B1 H1 ρ1 Y1 ∧ WReps G B1 ρ1 Y1.length vs ws ∧ ReOk G W σ B1 H1 ρ1 Y1 Q (k ws Y1)) r
  | .ok w Y1, h => fun v B1 H1 ρ1 A r => ⟨B1, ρ1, w, Y1, A, r, ReOk.behind A h⟩
  | .exc _ _ _, h => h
  | .bad, h => h
def dNil : ADen := fun _ Y => .ok [] Y
def dCons (f : Den) (g : ADen) : ADen := fun τ Y => match f τ Y with
  | .ok w Y1 => (match g τ Y1 with
    | .ok ws Y2 => .ok (w :: ws) Y2
    | .exc c fs Y2 => .exc c fs Y2
    | .bad => .bad)
  | .exc c fs Y1 => .exc c fs Y1
  | .bad => .bad
section
variable {cls : Cl} {X : Cx} {W : WX} {pos : Pos} {e : Expr} {es : List Expr} {f : Den} {g : ADen}
theorem da_nil : DA cls X W [] dNil := ⟨_, pa_nil, fun σ H Q B ρ Y τ R T h => h [] B H ρ (Aft.refl R) .nil⟩
theorem da_cons (ha : DE cls X W e f) (hr : DA cls X W es g) (hs : starEach (e :: es) X.env = (false, eval e X.env) :: starEach es X.env := by rfl) : DA cls X W (e :: es) (dCons f g) := by
  obtain ⟨ta, pa, ha⟩ := ha
  obtain ⟨tr, pr, hr⟩ := hr
  refine ⟨_, pa_cons pa pr hs, fun σ H Q B ρ Y τ R T h => ?_⟩
  refine ha σ H _ B ρ Y τ R T ?_
  unfold dCons at h
  cases e1 : f τ Y with
  | bad => rw [e1] at h; exact h.elim
  | exc c fs Y1 => rw [e1] at h; exact h
  | ok w Y1 =>
    rw [e1] at h
    intro v B1 H1 ρ1 A1 r1
    refine hr σ H1 _ B1 ρ1 Y1 τ A1.rel (T.aft A1) ?_
    dsimp only at h
    cases e2 : g τ Y1 with
    | bad => rw [e2] at h; exact h.elim
    | exc c fs Y2 => rw [e2] at h; exact fun d B' H' ρ' A' x => h d B' H' ρ' (A1.trans A') x
    | ok ws Y2 =>
      rw [e2] at h
      exact fun vs B2 H2 ρ2 A2 r2 => h (v :: vs) B2 H2 ρ2 (A1.trans A2) (.cons (WRep.aft A2 r1) r2)
end

/-! ### operators, comparisons, subscripts by values -/
abbrev G2 := W → W → Ys → Re
/-- a rule by values gives what g tells -/
def R2D (G : Gx) (r : R2) (g : G2) : Prop := ∀ x y B H ρ Y Q w1 w2 w Y', Rel G B H ρ Y → WRep G B ρ Y.length x w1 → WRep G B ρ Y.length y w2 → g w1 w2 Y = .ok w Y' →
  (∀ v B' H' ρ', Aft G B H ρ Y B' H' ρ' Y' → WRep G B' ρ' Y'.length v w → Q v H') → r x y H Q
/-- no exception is told -/
def noX (r : Re) : Re := match r with
  | .ok w Y => .ok w Y
  | _ => .bad
def dOp (g : G2) (f1 f2 : Den) : Den := fun τ Y => (f1 τ Y).bind fun w1 Y1 => (f2 τ Y1).bind fun w2 Y2 => noX (g w1 w2 Y2)
def orG (g h : G2) : G2 := fun a b Y => match g a b Y with
  | .ok w Y1 => .ok w Y1
  | _ => h a b Y
theorem R2D.or {G : Gx} {r r' : R2} {g g' : G2} (h : R2D G r g) (h' : R2D G r' g') : R2D G (fun x y H Q => r x y H Q ∨ r' x y H Q) (orG g g') := by
  intro x y B H ρ Y Q w1 w2 w Y' R a b e q
  unfold orG at e
  cases e1 : g w1 w2 Y with
  | ok w1' Y1 =>
    rw [e1] at e
    cases e
    exact .inl (h x y B H ρ Y Q _ _ _ _ R a b e1 q)
  | exc c fs Y1 =>
    rw [e1] at e
    exact .inr (h' x y B H ρ Y Q _ _ _ _ R a b e q)
  | bad =>
    rw [e1] at e
    exact .inr (h' x y B H ρ Y Q _ _ _ _ R a b e q)
theorem R2D.run {G : Gx} {W : WX} {σ : L2.St} {r : R2} {g : G2} {x y : V} {B H : Hp} {ρ : Nat → Addr} {Y : Ys} {Q : VK} {w1 w2 : MV.W} (h : R2D G r g) (R : Rel G B H ρ Y) (a : WRep G B ρ Y.length x w1) (b : WRep G B ρ Y.length y w2)
    (q : ReOk G W σ B H ρ Y Q (noX (g w1 w2 Y))) : r x y H Q := by
  unfold noX at q
  cases e : g w1 w2 Y with
  | ok w Y1 =>
    rw [e] at q
    exact h x y B H ρ Y Q _ _ _ _ R a b e q
  | exc c fs Y1 => rw [e] at q; exact q.elim
  | bad => rw [e] at q; exact q.elim
section
variable {cls : Cl} {X : Cx} {W : WX} {pos : Pos} {a b : Expr} {f1 f2 : Den} {r : R2} {g : G2}
theorem op_run {ta tb : TE} (ha : ∀ σ H Q B ρ Y τ, Rel (gx cls X) B H ρ Y → TR (gx cls X) B ρ Y.length σ τ → ReOk (gx cls X) W σ B H ρ Y Q (f1 τ Y) → ta σ H Q) (hb : ∀ σ H Q B ρ Y τ, Rel (gx cls X) B H ρ Y → TR (gx cls X) B ρ Y.length σ τ → ReOk (gx cls X) W σ B H ρ Y Q (f2 τ Y) → tb σ H Q)
    (hr : R2D (gx cls X) r g) {σ : L2.St} {H : Hp} {Q : VK} {B : Hp} {ρ : Nat → Addr} {Y : Ys} {τ : Ts} (R : Rel (gx cls X) B H ρ Y) (T : TR (gx cls X) B ρ Y.length σ τ) (h : ReOk (gx cls X) W σ B H ρ Y Q (dOp g f1 f2 τ Y)) : tOp r ta tb σ H Q := by
  refine ha σ H _ B ρ Y τ R T ?_
  refine ReOk.imp ?_ (ReOk.bound h)
  rintro x H1 ⟨B1, ρ1, w1, Y1, A1, r1, h1⟩
  refine hb σ H1 _ B1 ρ1 Y1 τ A1.rel (T.aft A1) (ReOk.imp ?_ (ReOk.bound h1))
  rintro y H2 ⟨B2, ρ2, w2, Y2, A2, r2, h2⟩
  exact hr.run A2.rel (WRep.aft A2 r1) r2 h2
theorem d_op {op : Operator} (ho : OpR X (binaryOp op) r) (hr : R2D (gx cls X) r g) (ha : DE cls X W a f1) (hb : DE cls X W b f2) : DE cls X W (.BinOp a op b pos) (dOp g f1 f2) := by
  obtain ⟨ta, pa, ha⟩ := ha
  obtain ⟨tb, pb, hb⟩ := hb
  exact ⟨_, pe_op ho pa pb, fun σ H Q B ρ Y τ R T h => op_run ha hb hr R T h⟩
theorem d_cmp {op : CmpOp} (ho : OpR X (compareOp op) r) (hr : R2D (gx cls X) r g) (ha : DE cls X W a f1) (hb : DE cls X W b f2) (hm : behindInMarks op b = false) : DE cls X W (.Compare a [op] [b] pos) (dOp g f1 f2) := by
  obtain ⟨ta, pa, ha⟩ := ha
  obtain ⟨tb, pb, hb⟩ := hb
  exact ⟨_, pe_cmpR ho pa pb hm, fun σ H Q B ρ Y τ R T h => op_run ha hb hr R T h⟩
theorem d_ix (ho : IxR X r) (hr : R2D (gx cls X) r g) (ha : DE cls X W a f1) (hb : DE cls X W b f2) (hs : PlainIx b) : DE cls X W (.Subscript a b pos) (dOp g f1 f2) := by
  obtain ⟨ta, pa, ha⟩ := ha
  obtain ⟨tb, pb, hb⟩ := hb
  exact ⟨_, pe_ix ho pa pb hs, fun σ H Q B ρ Y τ R T h => op_run ha hb hr R T h⟩
/-- a value's truth, a bool -/
def isB (w : MV.W) (Y : Ys) : Te := match w with
  | .val (.bl b) => .ok b Y
  | _ => .bad
def dTest (f : Den) : TDen := fun τ Y => (f τ Y).bindT isB
theorem rep_bl {G : Gx} {B : Hp} {v : V} {b : Bool} (h : Rep G B v (.bl b)) : v = .bl b := by
  cases h
  rfl
theorem rep_int {G : Gx} {B : Hp} {v : V} {i : Int} (h : Rep G B v (.int i)) : v = .int i := by
  cases h
  rfl
theorem rep_str {G : Gx} {B : Hp} {v : V} {i : Str} (h : Rep G B v (.str i)) : v = .str i := by
  cases h
  rfl
theorem rep_non {G : Gx} {B : Hp} {v : V} (h : Rep G B v .non) : v = .non := by
  cases h
  rfl
theorem isB_run {G : Gx} {W : WX} {σ : L2.St} {v : V} {B H : Hp} {ρ : Nat → Addr} {Y : Ys} {Q : Bool → Hp → Prop} {w : MV.W} (R : Rel G B H ρ Y) (a : WRep G B ρ Y.length v w) (h : TeOk G W σ B H ρ Y Q (isB w Y)) : ∃ k, v = .bl k ∧ Q k H := by
  unfold isB at h
  split at h
  · exact ⟨_, rep_bl a, h B H ρ (Aft.refl R)⟩
  · exact h.elim
theorem dt_of {t : TE} {e : Expr} {f : Den} (p : PT X e (tTest t)) (ht : ∀ σ H Q B ρ Y τ, Rel (gx cls X) B H ρ Y → TR (gx cls X) B ρ Y.length σ τ → ReOk (gx cls X) W σ B H ρ Y Q (f τ Y) → t σ H Q) : DT cls X W e (dTest f) := by
  refine ⟨_, p, fun σ H Q B ρ Y τ R T h => ?_⟩
  refine ht σ H _ B ρ Y τ R T (ReOk.imp ?_ (ReOk.boundT h))
  rintro v H1 ⟨B1, ρ1, w, Y1, A, r, h1⟩
  exact isB_run A.rel r h1
theorem dt_cmp {op : CmpOp} (ho : OpR X (compareOp op) r) (hr : R2D (gx cls X) r g) (ha : DE cls X W a f1) (hb : DE cls X W b f2) (hm : behindInMarks op b = false) : DT cls X W (.Compare a [op] [b] pos) (dTest (dOp g f1 f2)) := by
  obtain ⟨ta, pa, ha⟩ := ha
  obtain ⟨tb, pb, hb⟩ := hb
  exact dt_of (pt_cmpR ho pa pb hm) fun σ H Q B ρ Y τ R T h => op_run ha hb hr R T h
theorem dt_val {e : Expr} {f : Den} (h : DE cls X W e f) (he : ∀ whole, isTrue e X.env whole = (do let v ← whole; standAt e.pos; holding [v] (truthy v)) := by intro _; rfl) : DT cls X W e (dTest f) := by
  obtain ⟨t, p, h⟩ := h
  exact dt_of (pt_val p he) h
end

/-! ### and, or, not -/
def DW (cls : Cl) (X : Cx) (W : WX) (e : Expr) (f : TDen) : Prop :=
  ∃ t : TT, PW X e t ∧ ∀ σ H Q B ρ Y τ, Rel (gx cls X) B H ρ Y → TR (gx cls X) B ρ Y.length σ τ → TeOk (gx cls X) W σ B H ρ Y Q (f τ Y) → t σ H Q
def dAnd (f g : TDen) : TDen := fun τ Y => (f τ Y).bindT fun b Y1 => if b = true then g τ Y1 else .ok false Y1
def dOr (f g : TDen) : TDen := fun τ Y => (f τ Y).bindT fun b Y1 => if b = true then .ok true Y1 else g τ Y1
def dNot (f : TDen) : TDen := fun τ Y => (f τ Y).bindT fun b Y1 => .ok (!b) Y1
def dIf (c : TDen) (f g : Den) : Den := fun τ Y => (c τ Y).bind fun b Y1 => if b = true then f τ Y1 else g τ Y1
section
variable {cls : Cl} {X : Cx} {W : WX} {pos : Pos} {a b c : Expr} {rest : List Expr} {f g : TDen} {f1 f2 : Den}
theorem DW.dt {e : Expr} (h : DW cls X W e f) : DT cls X W e f := by
  obtain ⟨t, p, h⟩ := h
  exact ⟨t, p.pt, h⟩
theorem dw_and1 (h : DT cls X W a f) : DW cls X W (.BoolOp .And [a] pos) f := by
  obtain ⟨t, p, h⟩ := h
  exact ⟨t, pw_and1 p, h⟩
theorem dw_or1 (h : DT cls X W a f) : DW cls X W (.BoolOp .Or [a] pos) f := by
  obtain ⟨t, p, h⟩ := h
  exact ⟨t, pw_or1 p, h⟩
theorem dw_and (ha : DT cls X W a f) (hb : DW cls X W (.BoolOp .And (b :: rest) pos) g) : DW cls X W (.BoolOp .And (a :: b :: rest) pos) (dAnd f g) := by
  obtain ⟨ta, pa, ha⟩ := ha
  obtain ⟨tb, pb, hb⟩ := hb
  refine ⟨_, pw_and pa pb, fun σ H Q B ρ Y τ R T h => ?_⟩
  refine ha σ H _ B ρ Y τ R T (TeOk.imp ?_ (TeOk.boundT h))
  rintro k H1 ⟨B1, ρ1, Y1, A, h1⟩
  cases k with
  | true => exact hb σ H1 _ B1 ρ1 Y1 τ A.rel (T.aft A) h1
  | false => exact h1 B1 H1 ρ1 (Aft.refl A.rel)
theorem dw_or (ha : DT cls X W a f) (hb : DW cls X W (.BoolOp .Or (b :: rest) pos) g) : DW cls X W (.BoolOp .Or (a :: b :: rest) pos) (dOr f g) := by
  obtain ⟨ta, pa, ha⟩ := ha
  obtain ⟨tb, pb, hb⟩ := hb
  refine ⟨_, pw_or pa pb, fun σ H Q B ρ Y τ R T h => ?_⟩
  refine ha σ H _ B ρ Y τ R T (TeOk.imp ?_ (TeOk.boundT h))
  rintro k H1 ⟨B1, ρ1, Y1, A, h1⟩
  cases k with
  | false => exact hb σ H1 _ B1 ρ1 Y1 τ A.rel (T.aft A) h1
  | true => exact h1 B1 H1 ρ1 (Aft.refl A.rel)
theorem dt_not (ha : DT cls X W a f) : DT cls X W (.UnaryOp .Not a pos) (dNot f) := by
  obtain ⟨ta, pa, ha⟩ := ha
  refine ⟨_, pt_not pa, fun σ H Q B ρ Y τ R T h => ?_⟩
  refine ha σ H _ B ρ Y τ R T (TeOk.imp ?_ (TeOk.boundT h))
  rintro k H1 ⟨B1, ρ1, Y1, A, h1⟩
  exact h1 B1 H1 ρ1 (Aft.refl A.rel)
theorem d_ifexp (hc : DT cls X W c f) (ha : DE cls X W a f1) (hb : DE cls X W b f2) : DE cls X W (.IfExp c a b pos) (dIf f f1 f2) := by
  obtain ⟨tc, pc, hc⟩ := hc
  obtain ⟨ta, pa, ha⟩ := ha
  obtain ⟨tb, pb, hb⟩ := hb
  refine ⟨_, pe_ifExp pc pa pb, fun σ H Q B ρ Y τ R T h => ?_⟩
  refine hc σ H _ B ρ Y τ R T (TeOk.imp ?_ (TeOk.bound h))
  rintro k H1 ⟨B1, ρ1, Y1, A, h1⟩
  cases k with
  | true => exact ha σ H1 _ B1 ρ1 Y1 τ A.rel (T.aft A) h1
  | false => exact hb σ H1 _ B1 ρ1 Y1 τ A.rel (T.aft A) h1
/-- and, or of bools as values -/
def dAndV (f g : Den) : Den := fun τ Y => (f τ Y).bind fun w Y1 => match w with
  | .val (.bl true) => g τ Y1
  | .val (.bl false) => .ok (.val (.bl false)) Y1
  | _ => .bad
def dOrV (f g : Den) : Den := fun τ Y => (f τ Y).bind fun w Y1 => match w with
  | .val (.bl false) => g τ Y1
  | .val (.bl true) => .ok (.val (.bl true)) Y1
  | _ => .bad
def dNotV (f : Den) : Den := fun τ Y => (f τ Y).bind fun w Y1 => match w with
  | .val (.bl b) => .ok (.val (.bl !b)) Y1
  | _ => .bad
theorem d_one {op} (h : DE cls X W a f1) : DE cls X W (.BoolOp op [a] pos) f1 := by
  obtain ⟨t, p, h⟩ := h
  exact ⟨t, pe_one p, h⟩
theorem d_and (ha : DE cls X W a f1) (hb : DE cls X W (.BoolOp .And (b :: rest) pos) f2) : DE cls X W (.BoolOp .And (a :: b :: rest) pos) (dAndV f1 f2) := by
  obtain ⟨ta, pa, ha⟩ := ha
  obtain ⟨tb, pb, hb⟩ := hb
  refine ⟨_, pe_and pa pb, fun σ H Q B ρ Y τ R T h => ?_⟩
  refine ha σ H _ B ρ Y τ R T (ReOk.imp ?_ (ReOk.bound h))
  rintro v H1 ⟨B1, ρ1, w, Y1, A, r, h1⟩
  split at h1
  · exact ⟨true, rep_bl r, hb σ H1 _ B1 ρ1 Y1 τ A.rel (T.aft A) h1⟩
  · exact ⟨false, rep_bl r, h1 _ B1 H1 ρ1 (Aft.refl A.rel) (.bl false)⟩
  · exact h1.elim
theorem d_or (ha : DE cls X W a f1) (hb : DE cls X W (.BoolOp .Or (b :: rest) pos) f2) : DE cls X W (.BoolOp .Or (a :: b :: rest) pos) (dOrV f1 f2) := by
  obtain ⟨ta, pa, ha⟩ := ha
  obtain ⟨tb, pb, hb⟩ := hb
  refine ⟨_, pe_or pa pb, fun σ H Q B ρ Y τ R T h => ?_⟩
  refine ha σ H _ B ρ Y τ R T (ReOk.imp ?_ (ReOk.bound h))
  rintro v H1 ⟨B1, ρ1, w, Y1, A, r, h1⟩
  split at h1
  · exact ⟨false, rep_bl r, hb σ H1 _ B1 ρ1 Y1 τ A.rel (T.aft A) h1⟩
  · exact ⟨true, rep_bl r, h1 _ B1 H1 ρ1 (Aft.refl A.rel) (.bl true)⟩
  · exact h1.elim
theorem d_not (ha : DE cls X W a f1) : DE cls X W (.UnaryOp .Not a pos) (dNotV f1) := by
  obtain ⟨ta, pa, ha⟩ := ha
  refine ⟨_, pe_not pa, fun σ H Q B ρ Y τ R T h => ?_⟩
  refine ha σ H _ B ρ Y τ R T (ReOk.imp ?_ (ReOk.bound h))
  rintro v H1 ⟨B1, ρ1, w, Y1, A, r, h1⟩
  split at h1
  · exact ⟨_, rep_bl r, h1 _ B1 H1 ρ1 (Aft.refl A.rel) (.bl _)⟩
  · exact h1.elim
/-- a op b op' c -/
def dChain (g g' : G2) (f1 f2 f3 : Den) : Den := fun τ Y => (f1 τ Y).bind fun w1 Y1 => (f2 τ Y1).bind fun w2 Y2 => (noX (g w1 w2 Y2)).bind fun w Y3 => match w with
  | .val (.bl true) => (f3 τ Y3).bind fun w3 Y4 => noX (g' w2 w3 Y4)
  | .val (.bl false) => .ok (.val (.bl false)) Y3
  | _ => .bad
end
end MV
set_option Elab.async false
set_option linter.all false
set_option maxRecDepth 100000
set_option maxHeartbeats 4000000
namespace MV
open PySem PySem.Spec PyProof.Rows L2
section
variable {G : Gx} {B H : Hp} {ρ : Nat → Addr} {Y : Ys}
theorem WRep.le' {B B' : Hp} {ρ ρ' : Nat → Addr} {n n' : Nat} (l : Le B B') (hn : n ≤ n') (hρ : ∀ m, m < n → ρ' m = ρ m) {v : V} : ∀ {w : W}, WRep G B ρ n v w → WRep G B' ρ' n' v w
  | .val d, h => Rep.le l h
  | .ref m, ⟨h1, h2⟩ => ⟨Nat.lt_of_lt_of_le h1 hn, by rw [hρ m h1]; exact h2⟩
theorem ObjR.le' {B B' : Hp} {ρ ρ' : Nat → Addr} {n n' : Nat} (l : Le B B') (hn : n ≤ n') (hρ : ∀ m, m < n → ρ' m = ρ m) {o : Option HO} : ∀ {yo : YO}, ObjR G B ρ n o yo → ObjR G B' ρ' n' o yo
  | .lst _, ⟨vs, e, hl, r⟩ => ⟨vs, e, hl, Paired.imp r fun _ _ h => WRep.le' l hn hρ h⟩
  | .dK _, ⟨vs, e, r⟩ => ⟨vs, e, Paired.imp r fun _ _ h => ⟨h.1, WRep.le' l hn hρ h.2⟩⟩
  | .dT _, ⟨vs, e, r⟩ => ⟨vs, e, Paired.imp r fun _ _ h => ⟨h.1, WRep.le' l hn hρ h.2⟩⟩
  | .ins _ _, ⟨dx, vs, e, hl, r⟩ => ⟨dx, vs, e, hl, Paired.imp r fun _ _ h => WRep.le' l hn hρ h⟩
  | .dead, _ => trivial
theorem ObjR.some_of {n : Nat} {o : Option HO} : ∀ {yo : YO}, ObjR G B ρ n o yo → yo ≠ .dead → ∃ u, o = some u
  | .lst _, ⟨_, e, _⟩, _ => ⟨_, e⟩
  | .dK _, ⟨_, e, _⟩, _ => ⟨_, e⟩
  | .dT _, ⟨_, e, _⟩, _ => ⟨_, e⟩
  | .ins _ _, ⟨_, _, e, _⟩, _ => ⟨_, e⟩
  | .dead, _, h => absurd rfl h
theorem Rel.at_ (R : Rel G B H ρ Y) {n : Nat} (h : Live Y n) : ∃ o, H (ρ n) = some o := by
  obtain ⟨yo, e, nd⟩ := h
  exact (R.obj n yo e).some_of nd
theorem Rel.free (R : Rel G B H ρ Y) {p : Addr} (h : H p = none) : B p = none := by
  cases e : B p with
  | none => rfl
  | some o =>
    rcases R.sub p o e with q | ⟨_, ob, q⟩ <;> rw [h] at q <;> cases q
theorem Rel.ne (R : Rel G B H ρ Y) {p : Addr} (h : H p = none) {n : Nat} (l : Live Y n) : ρ n ≠ p := fun e => by
  obtain ⟨o, q⟩ := R.at_ l
  rw [e, h] at q
  cases q
theorem le_upd {p : Addr} {o : HO} (h : B p = none) : Le B (upd B p o) := fun a u e => by
  rw [upd_ne (ne_of_none e h)]
  exact e
/-- a new thing that never changes -/
theorem Aft.new (R : Rel G B H ρ Y) {p : Addr} (o : HO) (hp : H p = none) (ht : ∀ ps, o ≠ .tbl ps := by intro _ z; cases z) : Aft G B H ρ Y (upd B p o) (upd H p o) ρ Y := by
  have hb := R.free hp
  have h3 : ∀ b ps, upd B p o b = some (.tbl ps) → B b = some (.tbl ps) := fun b ps e => by
    by_cases z : b = p
    · rw [z, upd_same] at e
      exact absurd (Option.some.inj e) (ht ps)
    · rwa [upd_ne z] at e
  refine ⟨⟨fun a u e => ?_, fun n l => ?_, fun n yo e => ?_, R.inj, R.tabs.upd (fun u e => by rw [hp] at e; cases e) h3⟩, le_upd hb, fun a u e _ _ => ?_, fun a u e n => ?_, fun _ _ => rfl, fun n l => .inl ⟨l.lt, l⟩, Nat.le_refl _, fun a h => ?_⟩
  · by_cases ha : a = p
    · subst ha
      rw [upd_same] at e
      cases e
      exact .inl upd_same
    · rw [upd_ne ha] at e ⊢
      exact R.sub a u e
  · rw [upd_ne (R.ne hp l)]
    exact R.non n l
  · by_cases hd : yo = .dead
    · subst hd
      trivial
    · rw [upd_ne (R.ne hp ⟨yo, e, hd⟩)]
      exact (R.obj n yo e).le' (le_upd hb) (Nat.le_refl _) fun _ _ => rfl
  · rw [upd_ne (ne_of_none e hp)]
    exact e
  · by_cases ha : a = p
    · exact .inl (by rw [ha]; exact hp)
    · rw [upd_ne ha, n] at e
      cases e
  · by_cases ha : a = p
    · rw [ha]
      exact .of hp
    · rw [upd_ne ha] at h
      exact h
def extR (ρ : Nat → Addr) (n : Nat) (p : Addr) : Nat → Addr := fun m => if m = n then p else ρ m
theorem extR_lt {n m : Nat} {p : Addr} (h : m < n) : extR ρ n p m = ρ m := if_neg (Nat.ne_of_lt h)
theorem extR_at {n : Nat} {p : Addr} : extR ρ n p n = p := if_pos rfl
theorem live_app {yo : YO} {n : Nat} (h : Live (Y ++ [yo]) n) : Live Y n ∨ n = Y.length := by
  obtain ⟨y, e, nd⟩ := h
  by_cases hn : n < Y.length
  · rw [List.getElem?_append_left hn] at e
    exact .inl ⟨y, e, nd⟩
  · have := (List.getElem?_eq_some_iff.mp e).1
    simp at this
    exact .inr (by omega)
/-- a new thing of the store -/
theorem Aft.newR (R : Rel G B H ρ Y) {p : Addr} {o : HO} {yo : YO} (hp : H p = none) (ho : ObjR G B ρ Y.length (some o) yo) : Aft G B H ρ Y B (upd H p o) (extR ρ Y.length p) (Y ++ [yo]) := by
  have hb := R.free hp
  have hlen : (Y ++ [yo]).length = Y.length + 1 := by simp
  refine ⟨⟨fun a u e => ?_, fun n l => ?_, fun n y e => ?_, fun n m l1 l2 e => ?_, R.tabs.upd (fun u e => by rw [hp] at e; cases e) fun _ _ e => e⟩, Le.refl B, fun a u e _ _ => ?_, fun a u e n => ?_, fun n h => extR_lt h, fun n l => ?_, by rw [hlen]; omega, fun a h => ?_⟩
  · have ha : a ≠ p := ne_of_none e hb
    rw [upd_ne ha]
    exact R.sub a u e
  · rcases live_app l with l | rfl
    · rw [extR_lt l.lt]
      exact R.non n l
    · rw [extR_at]
      exact hb
  · by_cases hn : n < Y.length
    · rw [List.getElem?_append_left hn] at e
      rw [extR_lt hn, hlen]
      by_cases hd : y = .dead
      · subst hd
        trivial
      · rw [upd_ne (R.ne hp ⟨y, e, hd⟩)]
        exact (R.obj n y e).le' (Le.refl B) (Nat.le_succ _) fun m hm => extR_lt hm
    · have h1 := (List.getElem?_eq_some_iff.mp e).1
      have hn' : n = Y.length := by
        rw [hlen] at h1
        omega
      subst hn'
      have ey : y = yo := by simpa using e.symm
      subst ey
      rw [extR_at, upd_same, hlen]
      exact ho.le' (Le.refl B) (Nat.le_succ _) fun m hm => extR_lt hm
  · rcases live_app l1 with l1 | rfl <;> rcases live_app l2 with l2 | rfl
    · rw [extR_lt l1.lt, extR_lt l2.lt] at e
      exact R.inj n m l1 l2 e
    · rw [extR_lt l1.lt, extR_at] at e
      exact absurd e (R.ne hp l1)
    · rw [extR_lt l2.lt, extR_at] at e
      exact absurd e.symm (R.ne hp l2)
    · rfl
  · rw [upd_ne (ne_of_none e hp)]
    exact e
  · rw [n] at e
    cases e
  · rcases live_app l with l | rfl
    · exact .inl ⟨l.lt, l⟩
    · refine .inr ?_
      rw [extR_at]
      exact .of hp
  · by_cases ha : a = p
    · rw [ha]
      exact .of hp
    · rw [upd_ne ha] at h
      exact h
theorem live_set {yo : YO} {n m : Nat} (h : Live (Y.set n yo) m) (hn : Live Y n) : Live Y m := by
  by_cases e : n = m
  · subst e
    exact hn
  · obtain ⟨y, q, nd⟩ := h
    rw [List.getElem?_set_ne e] at q
    exact ⟨y, q, nd⟩
theorem ObjR.noTb {n : Nat} {u : HO} : ∀ {yo : YO}, ObjR G B ρ n (some u) yo → yo ≠ .dead → ¬ Tb u
  | .lst _, ⟨_, e, _⟩, _ => by cases e; exact id
  | .dK _, ⟨_, e, _⟩, _ => by cases e; exact id
  | .dT _, ⟨_, e, _⟩, _ => by cases e; exact id
  | .ins _ _, ⟨_, _, e, _⟩, _ => by cases e; exact id
  | .dead, _, h => absurd rfl h
theorem Rel.noTb (R : Rel G B H ρ Y) {n : Nat} (h : Live Y n) {u : HO} (e : H (ρ n) = some u) : ¬ Tb u := by
  obtain ⟨yo, e1, nd⟩ := h
  have ho := R.obj n yo e1
  rw [e] at ho
  exact ho.noTb nd
/-- a thing of the store is changed -/
theorem Aft.put (R : Rel G B H ρ Y) {n : Nat} {o : HO} {yo : YO} (hn : Live Y n) (ho : ObjR G B ρ Y.length (some o) yo) (ht : ∀ ps, o ≠ .tbl ps := by nofun) : Aft G B H ρ Y B (upd H (ρ n) o) ρ (Y.set n yo) := by
  have hlen : (Y.set n yo).length = Y.length := by simp
  refine ⟨⟨fun a u e => ?_, fun m l => R.non m (live_set l hn), fun m y e => ?_, fun a b l1 l2 e => R.inj a b (live_set l1 hn) (live_set l2 hn) e, R.tabs.upd (fun u e => R.noTb hn e) fun _ _ e => e⟩, Le.refl B, fun a u e h _ => ?_, fun a u e h => ?_, fun _ _ => rfl, fun m l => .inl ⟨(live_set l hn).lt, live_set l hn⟩, by rw [hlen]; exact Nat.le_refl _, fun a h => ?_⟩
  · have ha : a ≠ ρ n := fun z => by
      rw [z, R.non n hn] at e
      cases e
    rw [upd_ne ha]
    exact R.sub a u e
  · rw [hlen]
    by_cases e1 : n = m
    · subst e1
      have h2 := hn.lt
      rw [List.getElem?_set_self h2] at e
      cases e
      rw [upd_same]
      exact ho
    · rw [List.getElem?_set_ne e1] at e
      by_cases hd : y = .dead
      · subst hd
        trivial
      · have hne : ρ m ≠ ρ n := fun z => e1 (R.inj m n ⟨y, e, hd⟩ hn z).symm
        rw [upd_ne hne]
        exact R.obj m y e
  · rw [upd_ne (Ne.symm (h n hn))]
    exact e
  · rw [h] at e
    cases e
  · by_cases ha : a = ρ n
    · rw [ha, upd_same] at h
      rcases h.cases with z | ⟨ps, z⟩
      · cases z
      · exact absurd (Option.some.inj z) (ht ps)
    · rw [upd_ne ha] at h
      exact h
theorem live_dead {n m : Nat} (h : Live (Y.set n .dead) m) : Live Y m ∧ m ≠ n := by
  obtain ⟨y, q, nd⟩ := h
  by_cases e : n = m
  · subst e
    by_cases hn : n < Y.length
    · rw [List.getElem?_set_self hn] at q
      cases q
      exact absurd rfl nd
    · rw [List.getElem?_eq_none (by simpa using Nat.le_of_not_lt hn)] at q
      cases q
  · rw [List.getElem?_set_ne e] at q
    exact ⟨⟨y, q, nd⟩, fun z => e z.symm⟩
/-- a thing of the store changes no more -/
theorem Aft.frz (R : Rel G B H ρ Y) {n : Nat} {o : HO} (hn : Live Y n) (ho : H (ρ n) = some o) : Aft G B H ρ Y (upd B (ρ n) o) H ρ (Y.set n .dead) := by
  have hb := R.non n hn
  have hlen : (Y.set n .dead).length = Y.length := by simp
  refine ⟨⟨fun a u e => ?_, fun m l => ?_, fun m y e => ?_, fun a b l1 l2 e => R.inj a b (live_dead l1).1 (live_dead l2).1 e, R.tabs.same (tbl_upd (R.noTb hn ho))⟩, le_upd hb, fun a u e h _ => e, fun a u e h => ?_, fun _ _ => rfl, fun m l => .inl ⟨(live_dead l).1.lt, (live_dead l).1⟩, by rw [hlen]; exact Nat.le_refl _, fun a h => h⟩
  · by_cases ha : a = ρ n
    · subst ha
      rw [upd_same] at e
      cases e
      exact .inl ho
    · rw [upd_ne ha] at e
      exact R.sub a u e
  · obtain ⟨l1, ne⟩ := live_dead l
    rw [upd_ne fun z => ne (R.inj m n l1 hn z)]
    exact R.non m l1
  · rw [hlen]
    by_cases hd : y = .dead
    · subst hd
      trivial
    · by_cases e1 : n = m
      · subst e1
        rw [List.getElem?_set_self hn.lt] at e
        cases e
        exact absurd rfl hd
      · rw [List.getElem?_set_ne e1] at e
        exact (R.obj m y e).le' (le_upd hb) (Nat.le_refl _) fun _ _ => rfl
  · by_cases ha : a = ρ n
    · exact .inr (.inl ⟨n, hn, ha.symm⟩)
    · rw [upd_ne ha, h] at e
      cases e
end

/-! ### a tuple that the heap holds is data from now on -/
theorem Aft.seen {G : Gx} {B H : Hp} {ρ : Nat → Addr} {Y : Ys} (R : Rel G B H ρ Y) {q : Addr} {xs : List V} (h : H q = some (.tup xs)) : ∃ B', Aft G B H ρ Y B' H ρ Y ∧ B' q = some (.tup xs) := by
  cases hb : B q with
  | some o =>
    refine ⟨B, Aft.refl R, ?_⟩
    rcases R.sub q o hb with e | ⟨l, ob, e⟩
    · rw [h] at e
      cases e
      exact hb
    · rw [h] at e
      cases e
  | none =>
    have nlive : ∀ n, Live Y n → ρ n ≠ q := fun n l z => by
      obtain ⟨yo, e, nd⟩ := l
      have ho := R.obj n yo e
      rw [z, h] at ho
      cases yo with
      | lst ws =>
        obtain ⟨_, e, _⟩ := ho
        cases e
      | dK ws =>
        obtain ⟨_, e, _⟩ := ho
        cases e
      | dT ws =>
        obtain ⟨_, e, _⟩ := ho
        cases e
      | ins c ws =>
        obtain ⟨_, _, e, _⟩ := ho
        cases e
      | dead => exact nd rfl
    refine ⟨upd B q (.tup xs), ⟨⟨fun a u e => ?_, fun n l => ?_, fun n yo e => ?_, R.inj, R.tabs.same (tbl_upd id)⟩, le_upd hb, fun a u e _ _ => e, fun a u e n => ?_, fun _ _ => rfl, fun n l => .inl ⟨l.lt, l⟩, Nat.le_refl _, fun a h => h⟩, upd_same⟩
    · by_cases ha : a = q
      · subst ha
        rw [upd_same] at e
        cases e
        exact .inl h
      · rw [upd_ne ha] at e
        exact R.sub a u e
    · rw [upd_ne (nlive n l)]
      exact R.non n l
    · exact (R.obj n yo e).le' (le_upd hb) (Nat.le_refl _) fun _ _ => rfl
    · by_cases ha : a = q
      · exact .inr (.inr ⟨.tup xs, by rw [ha]; exact h, trivial⟩)
      · rw [upd_ne ha, n] at e
        cases e
/-! ### a thing of the heap that is neither data nor of the store -/
theorem Aft.own {G : Gx} {B H : Hp} {ρ : Nat → Addr} {Y : Ys} (R : Rel G B H ρ Y) {p : Addr} {o : HO} (hp : H p = none) : Aft G B H ρ Y B (upd H p o) ρ Y := by
  have hb := R.free hp
  refine ⟨⟨fun a u e => ?_, fun n l => R.non n l, fun n yo e => ?_, R.inj, R.tabs.upd (fun u e => by rw [hp] at e; cases e) fun _ _ e => e⟩, Le.refl B, fun a u e _ _ => ?_, fun a u e n => ?_, fun _ _ => rfl, fun n l => .inl ⟨l.lt, l⟩, Nat.le_refl _, fun a h => ?_⟩
  · rw [upd_ne (ne_of_none e hb)]
    exact R.sub a u e
  · by_cases hd : yo = .dead
    · subst hd
      trivial
    · rw [upd_ne (R.ne hp ⟨yo, e, hd⟩)]
      exact R.obj n yo e
  · rw [upd_ne (ne_of_none e hp)]
    exact e
  · rw [n] at e
    cases e
  · by_cases ha : a = p
    · rw [ha]
      exact .of hp
    · rw [upd_ne ha] at h
      exact h

/-! ### what the heap holds of data -/
section
variable {G : Gx} {B H : Hp} {ρ : Nat → Addr} {Y : Ys}
theorem Rel.lst (R : Rel G B H ρ Y) {a : Addr} {vs : List V} (h : B a = some (.lst vs)) : H a = some (.lst vs) := by
  rcases R.sub a _ h with e | ⟨l, _⟩
  · exact e
  · exact l.elim
theorem Rel.sqT (R : Rel G B H ρ Y) {K : PySem.W.Frag} {a : Addr} {vs : List V} (h : SqT K B a vs) : SqT K H a vs := by
  rcases h with (h | ⟨o, h⟩) | h
  · rcases R.sub a _ h with e | ⟨l, _⟩
    · exact .inl (.inl e)
    · exact l.elim
  · rcases R.sub a _ h with e | ⟨l, _⟩
    · exact .inl (.inr ⟨o, e⟩)
    · exact l.elim
  · exact .inr h
theorem Rel.tup (R : Rel G B H ρ Y) {a : Addr} {vs : List V} (h : B a = some (.tup vs)) : H a = some (.tup vs) := by
  rcases R.sub a _ h with e | ⟨l, _⟩
  · exact e
  · exact l.elim
theorem Rel.frzL (R : Rel G B H ρ Y) {a : Addr} {ob : Obj} {vs : List V} (h : B a = some (.frz ob (.lst vs))) : H a = some (.frz ob (.lst vs)) := by
  rcases R.sub a _ h with e | ⟨l, _⟩
  · exact e
  · exact l.elim
theorem Rel.scr (R : Rel G B H ρ Y) {a : Addr} {vs : List V} (h : SqL G.K B a vs) : SqL G.K H a vs := by
  rcases h with (h | ⟨ob, h⟩) | h
  · exact .inl (.inl (R.lst h))
  · exact .inl (.inr ⟨_, R.frzL h⟩)
  · exact .inr h
theorem Rel.ins (R : Rel G B H ρ Y) {a C dx : Addr} {fs : List (Str × V)} (h : B a = some (.ins C dx fs)) : H a = some (.ins C dx fs) := by
  rcases R.sub a _ h with e | ⟨l, _⟩
  · exact e
  · exact l.elim
theorem Rel.dK (R : Rel G B H ρ Y) {a : Addr} {kvs : List (Key × V)} (h : B a = some (.dK kvs)) : Rd H a (.dK kvs) := by
  rcases R.sub a _ h with e | ⟨_, ob, e⟩
  · exact .inl e
  · exact .inr ⟨ob, e⟩
theorem Rel.dT (R : Rel G B H ρ Y) {a : Addr} {kvs : List (List Key × V)} (h : B a = some (.dT kvs)) : Rd H a (.dT kvs) := by
  rcases R.sub a _ h with e | ⟨_, ob, e⟩
  · exact .inl e
  · exact .inr ⟨ob, e⟩
end
/-- a list of data as things -/
def vals : List D → List W
  | [] => []
  | d :: r => .val d :: vals r
theorem reps_vals {G : Gx} {B : Hp} {ρ : Nat → Addr} {n : Nat} : ∀ {vs : List V} {ds : List D}, Reps G B vs ds → WReps G B ρ n vs (vals ds)
  | _, _, .nil => .nil
  | _, _, .cons h r => .cons h (reps_vals r)
/-- all of them data -/
def dats : List W → Option (List D)
  | [] => some []
  | .val d :: r => (match dats r with
    | some ds => some (d :: ds)
    | none => none)
  | .ref _ :: _ => none
theorem reps_dats {G : Gx} {B : Hp} {ρ : Nat → Addr} {n : Nat} : ∀ {vs : List V} {ws : List W} {ds : List D}, WReps G B ρ n vs ws → dats ws = some ds → Reps G B vs ds
  | _, _, _, .nil, e => by
    cases e
    exact .nil
  | _, .val d :: r, ds, .cons h t, e => by
    unfold dats at e
    cases e1 : dats r with
    | none =>
      rw [e1] at e
      cases e
    | some ds' =>
      rw [e1] at e
      cases e
      exact .cons h (reps_dats t e1)
  | _, .ref _ :: _, _, .cons _ _, e => by cases e
end MV
set_option Elab.async false
set_option linter.all false
set_option maxRecDepth 100000
set_option maxHeartbeats 4000000
namespace MV
open PySem PySem.Spec PyProof.Rows L2

/-! ### texts and keys, told apart quickly -/
def lnEq : List Nat → List Nat → Bool
  | [], [] => true
  | a :: r, b :: s => Nat.beq a b && lnEq r s
  | [], _ :: _ => false
  | _ :: _, [] => false
theorem lnEq_iff : ∀ {a b : List Nat}, lnEq a b = true ↔ a = b
  | [], [] => by simp [lnEq]
  | [], _ :: _ => by simp [lnEq]
  | _ :: _, [] => by simp [lnEq]
  | a :: r, b :: s => by simp [lnEq, lnEq_iff (a := r) (b := s)]
def sEq (a b : Str) : Bool := lnEq a.cps.toList b.cps.toList
theorem sEq_iff {a b : Str} : sEq a b = true ↔ a = b := by
  unfold sEq
  rw [lnEq_iff]
  obtain ⟨⟨x⟩⟩ := a
  obtain ⟨⟨y⟩⟩ := b
  simp
theorem sEq_dec (a b : Str) : decide (a = b) = sEq a b := by
  rw [Bool.eq_iff_iff, sEq_iff]
  simp
def iEq (i j : Int) : Bool := match i, j with
  | .ofNat a, .ofNat b => Nat.beq a b
  | .negSucc a, .negSucc b => Nat.beq a b
  | _, _ => false
theorem iEq_iff {i j : Int} : iEq i j = true ↔ i = j := by
  cases i <;> cases j <;> simp [iEq] <;> omega
theorem iEq_dec (i j : Int) : decide (i = j) = iEq i j := by
  rw [Bool.eq_iff_iff, iEq_iff]
  simp
def iLe (i j : Int) : Bool := match i, j with
  | .ofNat a, .ofNat b => Nat.ble a b
  | .negSucc a, .negSucc b => Nat.ble b a
  | .negSucc _, .ofNat _ => true
  | .ofNat _, .negSucc _ => false
theorem iLe_iff {i j : Int} : iLe i j = true ↔ i ≤ j := by
  cases i with
  | ofNat a => cases j with
    | ofNat b => simp [iLe]
    | negSucc b =>
      simp only [iLe, Bool.false_eq_true, false_iff]
      exact Int.not_le.mpr (Int.lt_of_lt_of_le (Int.negSucc_lt_zero b) (Int.natCast_nonneg a))
  | negSucc a => cases j with
    | ofNat b =>
      simp only [iLe, true_iff]
      exact Int.le_trans (Int.le_of_lt (Int.negSucc_lt_zero a)) (Int.natCast_nonneg b)
    | negSucc b =>
      simp only [iLe, Nat.ble_eq]
      constructor <;> intro h <;> omega
theorem iLe_dec (i j : Int) : decide (i ≤ j) = iLe i j := by
  rw [Bool.eq_iff_iff, iLe_iff]
  simp
def iLt (i j : Int) : Bool := !iLe j i
theorem iLt_dec (i j : Int) : decide (i < j) = iLt i j := by
  unfold iLt
  rw [← iLe_dec, Bool.eq_iff_iff]
  simp
def kEq : Key → Key → Bool
  | .inl i, .inl j => iEq i j
  | .inr x, .inr y => sEq x y
  | _, _ => false
theorem kEq_iff {a b : Key} : kEq a b = true ↔ a = b := by
  cases a <;> cases b <;> simp [kEq, iEq_iff, sEq_iff]
def ksEq : List Key → List Key → Bool
  | [], [] => true
  | a :: r, b :: s => kEq a b && ksEq r s
  | [], _ :: _ => false
  | _ :: _, [] => false
theorem ksEq_iff : ∀ {a b : List Key}, ksEq a b = true ↔ a = b
  | [], [] => by simp [ksEq]
  | [], _ :: _ => by simp [ksEq]
  | _ :: _, [] => by simp [ksEq]
  | a :: r, b :: s => by simp [ksEq, kEq_iff, ksEq_iff (a := r) (b := s)]
/-- a table's value -/
def kGet {κ α : Type} (eq : κ → κ → Bool) : List (κ × α) → κ → Option α
  | [], _ => none
  | p :: r, k => match eq p.1 k with
    | true => some p.2
    | false => kGet eq r k
def kHas {κ α : Type} (eq : κ → κ → Bool) : List (κ × α) → κ → Bool
  | [], _ => false
  | p :: r, k => match eq p.1 k with
    | true => true
    | false => kHas eq r k
def kRep {κ α : Type} (eq : κ → κ → Bool) (k : κ) (v : α) : List (κ × α) → List (κ × α)
  | [] => []
  | p :: r => (match eq p.1 k with
    | true => (p.1, v)
    | false => p) :: kRep eq k v r
def kPut {κ α : Type} (eq : κ → κ → Bool) (kvs : List (κ × α)) (k : κ) (v : α) : List (κ × α) := match kHas eq kvs k with
  | true => kRep eq k v kvs
  | false => kvs ++ [(k, v)]
section
variable {G : Gx} {B : Hp} {ρ : Nat → Addr} {n : Nat} {κ : Type} [DecidableEq κ] {eq : κ → κ → Bool} (he : ∀ {a b : κ}, eq a b = true ↔ a = b)
theorem eqF (he : ∀ {a b : κ}, eq a b = true ↔ a = b) {a b : κ} (h : ¬ a = b) : eq a b = false := by
  cases e : eq a b with
  | false => rfl
  | true => exact absurd (he.mp e) h
def ORel {α : Type} (F : V → α → Prop) : Option V → Option α → Prop
  | some v, some w => F v w
  | none, none => True
  | _, _ => False
theorem kGet_rel {α : Type} {F : V → α → Prop} (he : ∀ {a b : κ}, eq a b = true ↔ a = b) : ∀ {kvs : List (κ × V)} {kws : List (κ × α)} (k : κ), Paired (fun p q => p.1 = q.1 ∧ F p.2 q.2) kvs kws → ORel F (valV kvs k) (kGet eq kws k)
  | _, _, k, .nil => trivial
  | p :: r, q :: s, k, .cons h t => by
    by_cases e : p.1 = k
    · rw [valV_pos e]
      unfold kGet
      rw [he.mpr (h.1.symm.trans e)]
      exact h.2
    · rw [valV_neg e]
      unfold kGet
      rw [eqF he (fun z => e (h.1.trans z))]
      exact kGet_rel he k t
theorem kHas_rel {α : Type} {F : V → α → Prop} (he : ∀ {a b : κ}, eq a b = true ↔ a = b) : ∀ {kvs : List (κ × V)} {kws : List (κ × α)} (k : κ), Paired (fun p q => p.1 = q.1 ∧ F p.2 q.2) kvs kws → (kvs.any fun kv => decide (kv.1 = k)) = kHas eq kws k
  | _, _, k, .nil => rfl
  | p :: r, q :: s, k, .cons h t => by
    rw [List.any_cons, kHas_rel he k t]
    unfold kHas
    by_cases e : p.1 = k
    · rw [he.mpr (h.1.symm.trans e), decide_eq_true e]
      rfl
    · rw [eqF he (fun z => e (h.1.trans z)), decide_eq_false e]
      cases s <;> rfl
theorem kRep_rel {α : Type} {F : V → α → Prop} (he : ∀ {a b : κ}, eq a b = true ↔ a = b) {v : V} {w : α} (hv : F v w) : ∀ {kvs : List (κ × V)} {kws : List (κ × α)} (k : κ), Paired (fun p q => p.1 = q.1 ∧ F p.2 q.2) kvs kws →
    Paired (fun p q => p.1 = q.1 ∧ F p.2 q.2) (kvs.map (fun kv => if kv.1 = k then (kv.1, v) else kv)) (kRep eq k w kws)
  | _, _, k, .nil => .nil
  | p :: r, q :: s, k, .cons h t => by
    rw [List.map_cons]
    unfold kRep
    refine .cons ?_ (kRep_rel he hv k t)
    by_cases e : p.1 = k
    · rw [if_pos e, he.mpr (h.1.symm.trans e)]
      exact ⟨h.1, hv⟩
    · rw [if_neg e, eqF he (fun z => e (h.1.trans z))]
      exact h
theorem Paired.app {α β : Type} {F : α → β → Prop} : ∀ {a c : List α} {b d : List β}, Paired F a b → Paired F c d → Paired F (a ++ c) (b ++ d)
  | _, _, _, _, .nil, s => s
  | _, _, _, _, .cons h r, s => .cons h (Paired.app r s)
theorem kPut_rel {α : Type} {F : V → α → Prop} (he : ∀ {a b : κ}, eq a b = true ↔ a = b) {v : V} {w : α} (hv : F v w) {kvs : List (κ × V)} {kws : List (κ × α)} (k : κ) (h : Paired (fun p q => p.1 = q.1 ∧ F p.2 q.2) kvs kws) :
    Paired (fun p q => p.1 = q.1 ∧ F p.2 q.2) (putK kvs k v) (kPut eq kws k w) := by
  unfold putK kPut
  rw [kHas_rel he k h]
  cases kHas eq kws k with
  | true =>
    rw [if_pos rfl]
    exact kRep_rel he hv k h
  | false =>
    rw [if_neg Bool.false_ne_true]
    exact Paired.app h (.cons ⟨rfl, hv⟩ .nil)
end

/-! ### ints -/
def mkI (i : Int) (Y : Ys) : Re := .ok (.val (.int i)) Y
def mkB (b : Bool) (Y : Ys) : Re := .ok (.val (.bl b)) Y
def gI (k : Int → Int → Ys → Re) : G2 := fun a b Y => match a, b with
  | .val (.int i), .val (.int j) => k i j Y
  | _, _ => .bad
theorem gI_run {G : Gx} {k : Int → Int → Ys → Re} {x y : V} {B : Hp} {ρ : Nat → Addr} {n : Nat} {Y : Ys} {w1 w2 w : W} {Y' : Ys} (a : WRep G B ρ n x w1) (b : WRep G B ρ n y w2) (e : gI k w1 w2 Y = .ok w Y') :
    ∃ i j, x = .int i ∧ y = .int j ∧ k i j Y = .ok w Y' := by
  unfold gI at e
  split at e
  · exact ⟨_, _, rep_int a, rep_int b, e⟩
  · cases e
section
variable {G : Gx}
theorem r_int (g : Int → Int → Int) : R2D G (rI0 fun i j => .int (g i j)) (gI fun i j Y => mkI (g i j) Y) := by
  intro x y B H ρ Y Q w1 w2 w Y' R a b e q
  obtain ⟨i, j, e1, e2, e3⟩ := gI_run a b e
  cases e3
  exact ⟨i, j, e1, e2, q _ B H ρ (Aft.refl R) (.int _)⟩
theorem r_cmp {p q : Int → Int → Bool} (hp : ∀ i j, p i j = q i j) : R2D G (rI0 fun i j => .bl (p i j)) (gI fun i j Y => mkB (q i j) Y) := by
  intro x y B H ρ Y Q w1 w2 w Y' R a b e qq
  obtain ⟨i, j, e1, e2, e3⟩ := gI_run a b e
  cases e3
  exact ⟨i, j, e1, e2, qq _ B H ρ (Aft.refl R) (by show Rep G B (.bl (p i j)) (.bl (q i j)); rw [hp]; exact .bl _)⟩
/-- one factor below 2 ^ 64 -/
def small64 (i : Int) : Bool := Nat.blt i.natAbs 18446744073709551616
theorem small64_ok {i : Int} (h : small64 i = true) : -(2 ^ 64) < i ∧ i < 2 ^ 64 := by
  have h1 : i.natAbs < 18446744073709551616 := Nat.le_of_ble_eq_true h
  constructor <;> omega
def gMulI : G2 := gI fun i j Y => match small64 i || small64 j with
  | true => mkI (i * j) Y
  | false => .bad
theorem r_mul : R2D G (rI CMul fun i j => .int (i * j)) gMulI := by
  intro x y B H ρ Y Q w1 w2 w Y' R a b e q
  obtain ⟨i, j, e1, e2, e3⟩ := gI_run a b e
  cases h : small64 i || small64 j with
  | false =>
    rw [h] at e3
    cases e3
  | true =>
    rw [h] at e3
    cases e3
    refine ⟨i, j, e1, e2, ?_, q _ B H ρ (Aft.refl R) (.int _)⟩
    rcases Bool.or_eq_true_iff.mp h with h | h
    · exact .inl (small64_ok h)
    · exact .inr (small64_ok h)
def gDiv : G2 := gI fun i j Y => match iEq j 0, Nat.blt j.natAbs 1073741824 with
  | false, true => mkI (i.fdiv j) Y
  | _, _ => .bad
theorem r_div : R2D G (rI CDivN fun i j => .int (i.fdiv j)) gDiv := by
  intro x y B H ρ Y Q w1 w2 w Y' R a b e q
  obtain ⟨i, j, e1, e2, e3⟩ := gI_run a b e
  split at e3
  · rename_i h1 h2
    cases e3
    refine ⟨i, j, e1, e2, ⟨fun z => ?_, Nat.le_of_ble_eq_true h2⟩, q _ B H ρ (Aft.refl R) (.int _)⟩
    rw [iEq_iff.mpr z] at h1
    cases h1
  · cases e3
def gMod : G2 := gI fun i j Y => match iEq j 0 with
  | false => mkI (i.fmod j) Y
  | true => .bad
theorem r_mod : R2D G (rI (fun _ j => j ≠ 0) fun i j => .int (i.fmod j)) gMod := by
  intro x y B H ρ Y Q w1 w2 w Y' R a b e q
  obtain ⟨i, j, e1, e2, e3⟩ := gI_run a b e
  split at e3
  · rename_i h1
    cases e3
    refine ⟨i, j, e1, e2, fun z => ?_, q _ B H ρ (Aft.refl R) (.int _)⟩
    rw [iEq_iff.mpr z] at h1
    cases h1
  · cases e3
end

/-! ### texts, lists, tuples joined -/
def lines (n : Nat) : Bool := Nat.ble n 16777216
theorem lines_ok {n : Nat} (h : lines n = true) : n ≤ sizeLine := by
  rw [sizeLine_eq]
  exact Nat.le_of_ble_eq_true h
/-- a list's items -/
def lsOf (Y : Ys) : W → Option (List W)
  | .val (.lst ds) => some (vals ds)
  | .val (.scr ns) => some (ns.map fun i => .val (.int i))
  | .ref n => (match Y[n]? with
    | some (.lst ws) => some ws
    | _ => none)
  | _ => none
section
variable {G : Gx} {B H : Hp} {ρ : Nat → Addr} {Y : Ys}
theorem live_of {n : Nat} {yo : YO} (h : Y[n]? = some yo) (nd : yo ≠ .dead) : Live Y n := ⟨yo, h, nd⟩
theorem reps_scr {n : Nat} : ∀ (ns : List Int), WReps G B ρ n (ns.map V.int) (ns.map fun i => .val (.int i))
  | [] => .nil
  | i :: r => .cons (Rep.int i) (reps_scr r)
theorem lsOf_at (R : Rel G B H ρ Y) {x : V} {w : W} {ws : List W} (a : WRep G B ρ Y.length x w) (e : lsOf Y w = some ws) : ∃ p vs, x = .ref p ∧ SqL G.K H p vs ∧ vs.length ≤ sizeLine ∧ WReps G B ρ Y.length vs ws := by
  unfold lsOf at e
  split at e
  · cases e
    cases a with
    | lst h hl r => exact ⟨_, _, rfl, .inl (.inl (R.lst h)), hl, reps_vals r⟩
  · cases e
    cases a with
    | scr h hl => exact ⟨_, _, rfl, R.scr h, by rw [List.length_map]; exact hl, reps_scr _⟩
  · split at e
    · rename_i h
      cases e
      obtain ⟨h1, h2⟩ := a
      obtain ⟨vs, e1, e2, e3⟩ := R.obj _ _ h
      exact ⟨_, vs, h2, .inl (.inl e1), e2, e3⟩
    · cases e
  · cases e
/-- a list that is no script -/
def lsOf' (Y : Ys) : W → Option (List W)
  | .val (.lst ds) => some (vals ds)
  | .ref n => (match Y[n]? with
    | some (.lst ws) => some ws
    | _ => none)
  | _ => none
theorem lsOf'_at (R : Rel G B H ρ Y) {x : V} {w : W} {ws : List W} (a : WRep G B ρ Y.length x w) (e : lsOf' Y w = some ws) : ∃ p vs, x = .ref p ∧ H p = some (.lst vs) ∧ vs.length ≤ sizeLine ∧ WReps G B ρ Y.length vs ws := by
  unfold lsOf' at e
  split at e
  · cases e
    cases a with
    | lst h hl r => exact ⟨_, _, rfl, R.lst h, hl, reps_vals r⟩
  · split at e
    · rename_i h
      cases e
      obtain ⟨h1, h2⟩ := a
      obtain ⟨vs, e1, e2, e3⟩ := R.obj _ _ h
      exact ⟨_, vs, h2, e1, e2, e3⟩
    · cases e
  · cases e
theorem rep_tup {x : V} {ds : List D} (h : Rep G B x (.tup ds)) : ∃ a vs, x = .ref a ∧ B a = some (.tup vs) ∧ vs.length ≤ sizeLine ∧ Reps G B vs ds := by
  cases h with
  | tup h hl r => exact ⟨_, _, rfl, h, hl, r⟩
end
def mkL (ds : List D) (Y : Ys) : Re := .ok (.val (.lst ds)) Y
def mkT (ds : List D) (Y : Ys) : Re := .ok (.val (.tup ds)) Y
/-- xs + ys, new -/
def gCat : G2 := fun a b Y => match lsOf' Y a, lsOf' Y b with
  | some xs, some ys => (match dats xs, dats ys with
    | some ds, some es => (match lines (ds.length + es.length) with
      | true => mkL (ds ++ es) Y
      | false => .bad)
    | _, _ => .bad)
  | _, _ => .bad
theorem r_cat {G : Gx} : R2D G rCat gCat := by
  intro x y B H ρ Y Q w1 w2 w Y' R a b e q
  unfold gCat at e
  split at e
  · rename_i xs ys h1 h2
    split at e
    · rename_i ds es h3 h4
      split at e
      · rename_i h5
        cases e
        obtain ⟨p, vs, ex, hp, _, r1⟩ := lsOf'_at R a h1
        obtain ⟨p', us, ey, hp', _, r2⟩ := lsOf'_at R b h2
        have q1 := reps_dats r1 h3
        have q2 := reps_dats r2 h4
        have hl : vs.length + us.length ≤ sizeLine := by rw [q1.length, q2.length]; exact lines_ok h5
        refine ⟨p, p', vs, us, ex, ey, hp, hp', hl, fun l hn => ?_⟩
        have A := Aft.new R (.lst (vs ++ us)) hn
        exact q _ _ _ _ A (.lst upd_same (by rw [List.length_append]; exact hl) ((q1.append q2).le A.le))
      · cases e
    · cases e
  · cases e
def gCatT : G2 := fun a b Y => match a, b with
  | .val (.tup ds), .val (.tup es) => (match lines (ds.length + es.length) with
    | true => mkT (ds ++ es) Y
    | false => .bad)
  | _, _ => .bad
theorem r_catT {G : Gx} : R2D G (rCatA G.K) gCatT := by
  intro x y B H ρ Y Q w1 w2 w Y' R a b e q
  unfold gCatT at e
  split at e
  · rename_i ds es
    split at e
    · rename_i h5
      cases e
      obtain ⟨p, vs, ex, hp, l1, r1⟩ := rep_tup a
      obtain ⟨p', us, ey, hp', l2, r2⟩ := rep_tup b
      have hl : vs.length + us.length ≤ sizeLine := by rw [r1.length, r2.length]; exact lines_ok h5
      refine ⟨p, p', vs, us, ex, ey, SqT.of (R.tup hp), SqT.of (R.tup hp'), hl, fun z => ?_, fun _ z => ?_, fun _ _ l hn => ?_⟩
      · subst z
        cases r1
        exact q _ B H ρ (Aft.refl R) (.tup hp' l2 r2)
      · subst z
        cases r2
        rw [List.append_nil] at q
        exact q _ B H ρ (Aft.refl R) (.tup hp l1 r1)
      · have A := Aft.new R (.tup (vs ++ us)) hn
        exact q _ _ _ _ A (.tup upd_same (by rw [List.length_append]; exact hl) ((r1.append r2).le A.le))
    · cases e
  · cases e
def gCatS : G2 := fun a b Y => match a, b with
  | .val (.str x), .val (.str y) => (match lines (x.length + y.length) with
    | true => .ok (.val (.str (x ++ y))) Y
    | false => .bad)
  | _, _ => .bad
theorem r_catS {G : Gx} : R2D G (fun x y H Q => ∃ i j, x = .str i ∧ y = .str j ∧ i.length + j.length ≤ sizeLine ∧ Q (.str (i ++ j)) H) gCatS := by
  intro x y B H ρ Y Q w1 w2 w Y' R a b e q
  unfold gCatS at e
  split at e
  · split at e
    · rename_i h5
      cases e
      exact ⟨_, _, rep_str a, rep_str b, lines_ok h5, q _ B H ρ (Aft.refl R) (.str _)⟩
    · cases e
  · cases e
def gAdd : G2 := orG (gI fun i j Y => mkI (i + j) Y) (orG gCat (orG gCatT gCatS))
/-- xs * k -/
def gRep : G2 := fun a b Y => match lsOf' Y a, b with
  | some xs, .val (.int k) => (match dats xs with
    | some ds => (match iLe 0 k, lines (ds.length * k.toNat), iLe k 16777216 with
      | true, true, true => mkL (List.replicate k.toNat ds).flatten Y
      | _, _, _ => .bad)
    | none => .bad)
  | _, _ => .bad
theorem Reps.rep {G : Gx} {B : Hp} {vs : List V} {ds : List D} (h : Reps G B vs ds) : ∀ k : Nat, Reps G B (List.replicate k vs).flatten (List.replicate k ds).flatten
  | 0 => .nil
  | k + 1 => by
    rw [List.replicate_succ, List.flatten_cons, List.replicate_succ, List.flatten_cons]
    exact h.append (Reps.rep h k)
theorem r_rep {G : Gx} : R2D G rRep gRep := by
  intro x y B H ρ Y Q w1 w2 w Y' R a b e q
  unfold gRep at e
  split at e
  · rename_i xs k h1
    split at e
    · rename_i ds h3
      split at e
      · rename_i h4 h5 h6
        cases e
        obtain ⟨p, vs, ex, hp, _, r1⟩ := lsOf'_at R a h1
        have q1 := reps_dats r1 h3
        have h7 := iLe_iff.mp h4
        have h8 := iLe_iff.mp h6
        have hl : vs.length * k.toNat ≤ sizeLine := by rw [q1.length]; exact lines_ok h5
        refine ⟨p, k, vs, ex, rep_int b, hp, by omega, by omega, hl, fun l hn => ?_⟩
        have A := Aft.new R (.lst (List.replicate k.toNat vs).flatten) hn
        refine q _ _ _ _ A (.lst upd_same ?_ ((q1.rep k.toNat).le A.le))
        have z : (List.replicate k.toNat vs).flatten.length = k.toNat * vs.length := by simp
        rw [z, Nat.mul_comm]
        exact hl
      · cases e
    · cases e
  · cases e
def gMul : G2 := orG gMulI gRep
section
variable {cls : Cl} {X : Cx} {W : WX} {pos : Pos} {a b : Expr} {f1 f2 : Den}
theorem d_add (ha : DE cls X W a f1) (hb : DE cls X W b f2) : DE cls X W (.BinOp a .Add b pos) (dOp gAdd f1 f2) :=
  d_op (OpR.or op_add (OpR.or op_cat (OpR.or op_catA op_add_str))) (R2D.or (r_int fun i j => i + j) (R2D.or r_cat (R2D.or r_catT r_catS))) ha hb
theorem d_sub (ha : DE cls X W a f1) (hb : DE cls X W b f2) : DE cls X W (.BinOp a .Sub b pos) (dOp (gI fun i j Y => mkI (i - j) Y) f1 f2) := d_op op_sub (r_int fun i j => i - j) ha hb
theorem d_mul (ha : DE cls X W a f1) (hb : DE cls X W b f2) : DE cls X W (.BinOp a .Mult b pos) (dOp gMul f1 f2) := d_op (OpR.or op_mul op_rep) (R2D.or r_mul r_rep) ha hb
theorem d_fdiv (ha : DE cls X W a f1) (hb : DE cls X W b f2) : DE cls X W (.BinOp a .FloorDiv b pos) (dOp gDiv f1 f2) := d_op op_fdivN r_div ha hb
theorem d_mod (ha : DE cls X W a f1) (hb : DE cls X W b f2) : DE cls X W (.BinOp a .Mod b pos) (dOp gMod f1 f2) := d_op op_modN r_mod ha hb
/-- -a -/
def dNeg (f : Den) : Den := fun τ Y => (f τ Y).bind fun w Y1 => match w with
  | .val (.int i) => mkI (-i) Y1
  | _ => .bad
theorem d_neg (ha : DE cls X W a f1) : DE cls X W (.UnaryOp .USub a pos) (dNeg f1) := by
  obtain ⟨ta, pa, ha⟩ := ha
  refine ⟨_, pe_un un_neg pa, fun σ H Q B ρ Y τ R T h => ?_⟩
  refine ha σ H _ B ρ Y τ R T (ReOk.imp ?_ (ReOk.bound h))
  rintro v H1 ⟨B1, ρ1, w, Y1, A, r, h1⟩
  split at h1
  · exact ⟨_, rep_int r, h1 _ B1 H1 ρ1 (Aft.refl A.rel) (.int _)⟩
  · exact h1.elim
abbrev gLt : G2 := gI fun i j Y => mkB (iLt i j) Y
abbrev gLe : G2 := gI fun i j Y => mkB (iLe i j) Y
abbrev gGt : G2 := gI fun i j Y => mkB (iLt j i) Y
abbrev gGe : G2 := gI fun i j Y => mkB (iLe j i) Y
theorem r_lt {G : Gx} : R2D G (rI0 fun i j => .bl (decide (i < j))) gLt := r_cmp fun i j => iLt_dec i j
theorem r_le {G : Gx} : R2D G (rI0 fun i j => .bl (decide (i ≤ j))) gLe := r_cmp fun i j => iLe_dec i j
theorem r_gt {G : Gx} : R2D G (rI0 fun i j => .bl (decide (j < i))) gGt := r_cmp fun i j => iLt_dec j i
theorem r_ge {G : Gx} : R2D G (rI0 fun i j => .bl (decide (j ≤ i))) gGe := r_cmp fun i j => iLe_dec j i
end
end MV
set_option Elab.async false
set_option linter.all false
set_option maxRecDepth 100000
set_option maxHeartbeats 4000000
namespace MV
open PySem PySem.Spec PyProof.Rows L2

/-! ### == of data -/
mutual
def py : D → Option PyData
  | .non => some .none
  | .bl b => some (.bool b)
  | .int i => some (.int i)
  | .str x => some (.str x)
  | .lst ds => (match pys ds with
    | some ps => some (.list ps)
    | none => none)
  | .tup ds => (match pys ds with
    | some ps => some (.tuple ps)
    | none => none)
  | .scr ns => some (.list (ns.map .int))
  | .dK _ => none
  | .dT _ => none
  | .ins _ _ => none
  | .gl _ => none
  | .err _ _ => none
  | .lam _ => none
  | .ktup ds => (match pys ds with
    | some ps => some (.tuple ps)
    | none => none)
def pys : List D → Option (List PyData)
  | [] => some []
  | d :: r => (match py d with
    | some p => (match pys r with
      | some ps => some (p :: ps)
      | none => none)
    | none => none)
end
section
variable {G : Gx} {B H : Hp} {ρ : Nat → Addr} {Y : Ys}
theorem dp_ints {K : PySem.W.Frag} : ∀ ns : List Int, DpAll K H (ns.map V.int) (ns.map .int)
  | [] => .nil
  | i :: r => .cons (.int i) (dp_ints r)
theorem rep_py (R : Rel G B H ρ Y) {v : V} {d : D} (h : Rep G B v d) : ∀ p, py d = some p → Dp G.K H v p :=
  Rep.rec (G := G) (B := B) (motive_1 := fun v d _ => ∀ p, py d = some p → Dp G.K H v p) (motive_2 := fun vs ds _ => ∀ ps, pys ds = some ps → DpAll G.K H vs ps) (motive_3 := fun {κ} vs ds _ => True)
    (fun p e => by
      unfold py at e
      cases e
      exact .non)
    (fun b p e => by
      unfold py at e
      cases e
      exact .bl b)
    (fun b p e => by
      unfold py at e
      cases e
      exact .int b)
    (fun b p e => by
      unfold py at e
      cases e
      exact .str b)
    (fun h hl _ ih p e => by
      unfold py at e
      split at e
      · rename_i ps e1
        cases e
        exact .lst (.inl (.inl (R.lst h))) (ih ps e1)
      · cases e)
    (fun h hl _ ih p e => by
      unfold py at e
      split at e
      · rename_i ps e1
        cases e
        exact .tup (SqT.of (R.tup h)) (ih ps e1)
      · cases e)
    (fun _ _ _ p e => by
      unfold py at e
      cases e)
    (fun _ _ _ p e => by
      unfold py at e
      cases e)
    (fun _ _ _ _ p e => by
      unfold py at e
      cases e)
    (fun _ _ p e => by
      unfold py at e
      cases e)
    (fun h hl p e => by
      unfold py at e
      cases e
      exact .lst (R.scr h) (dp_ints _))
    (fun h hl _ ih p e => by
      unfold py at e
      split at e
      · rename_i ps e1
        cases e
        exact .tup (h H) (ih ps e1)
      · cases e)
    (fun _ _ _ _ _ p e => by
      unfold py at e
      cases e)
    (fun _ p e => by
      unfold py at e
      cases e)
    (fun _ _ p e => by
      unfold py at e
      cases e)
    (fun ps e => by
      unfold pys at e
      cases e
      exact .nil)
    (fun _ _ ih1 ih2 ps e => by
      unfold pys at e
      split at e
      · rename_i p e1
        split at e
        · rename_i ps' e2
          cases e
          exact .cons (ih1 p e1) (ih2 ps' e2)
        · cases e
      · cases e)
    trivial (fun _ _ _ _ => trivial) h
theorem reps_py (R : Rel G B H ρ Y) : ∀ {vs : List V} {ds : List D} {ps : List PyData}, Reps G B vs ds → pys ds = some ps → DpAll G.K H vs ps
  | _, _, _, .nil, e => by
    unfold pys at e
    cases e
    exact .nil
  | _, _, _, .cons h r, e => by
    unfold pys at e
    split at e
    · rename_i p e1
      split at e
      · rename_i ps' e2
        cases e
        exact .cons (rep_py R h p e1) (reps_py R r e2)
      · cases e
    · cases e
def pyW (Y : Ys) : W → Option PyData
  | .val d => py d
  | .ref n => (match Y[n]? with
    | some (.lst ws) => (match dats ws with
      | some ds => (match pys ds with
        | some ps => some (.list ps)
        | none => none)
      | none => none)
    | _ => none)
theorem pyW_at (R : Rel G B H ρ Y) {x : V} {w : W} {p : PyData} (a : WRep G B ρ Y.length x w) (e : pyW Y w = some p) : Dp G.K H x p := by
  unfold pyW at e
  split at e
  · exact rep_py R a p e
  · split at e
    · rename_i h
      split at e
      · rename_i ds h1
        split at e
        · rename_i ps h2
          cases e
          obtain ⟨_, h3⟩ := a
          obtain ⟨vs, e1, e2, e3⟩ := R.obj _ _ h
          subst h3
          exact .lst (.inl (.inl e1)) (reps_py R (reps_dats e3 h1) h2)
        · cases e
      · cases e
    · cases e
end
/-- quick: two scalars of one kind -/
def sclEq : W → W → Option Bool
  | .val (.int i), .val (.int j) => some (iEq i j)
  | .val (.str x), .val (.str y) => some (sEq x y)
  | .val (.bl a), .val (.bl b) => some (a == b)
  | .val .non, .val .non => some true
  | .val .non, .val (.int _) => some false
  | .val (.int _), .val .non => some false
  | .val .non, .val (.str _) => some false
  | .val (.str _), .val .non => some false
  | _, _ => none
def gEqS (neg : Bool) : G2 := fun a b Y => match sclEq a b with
  | some k => mkB (if neg then !k else k) Y
  | none => .bad
theorem sclEq_at {G : Gx} {B : Hp} {ρ : Nat → Addr} {n : Nat} {x y : V} {w1 w2 : W} {k : Bool} (a : WRep G B ρ n x w1) (b : WRep G B ρ n y w2) (e : sclEq w1 w2 = some k) : scal x y = true ∧ decide (x = y) = k := by
  unfold sclEq at e
  split at e
  · cases e
    rw [rep_int a, rep_int b, dec_int]
    exact ⟨rfl, by rw [← iEq_dec]; rfl⟩
  · cases e
    rw [rep_str a, rep_str b, dec_str]
    exact ⟨rfl, by rw [← sEq_dec]; rfl⟩
  · cases e
    rw [rep_bl a, rep_bl b, dec_bl]
    exact ⟨rfl, rfl⟩
  · cases e
    rw [rep_non a, rep_non b]
    exact ⟨rfl, rfl⟩
  · cases e
    rw [rep_non a, rep_int b]
    exact ⟨rfl, rfl⟩
  · cases e
    rw [rep_int a, rep_non b]
    exact ⟨rfl, rfl⟩
  · cases e
    rw [rep_non a, rep_str b]
    exact ⟨rfl, rfl⟩
  · cases e
    rw [rep_str a, rep_non b]
    exact ⟨rfl, rfl⟩
  · cases e
theorem r_eqS {G : Gx} : R2D G rEq (gEqS false) := by
  intro x y B H ρ Y Q w1 w2 w Y' R a b e q
  unfold gEqS at e
  split at e
  · rename_i k h
    cases e
    obtain ⟨h1, h2⟩ := sclEq_at a b h
    exact ⟨h1, q _ B H ρ (Aft.refl R) (by rw [h2]; exact Rep.bl k)⟩
  · cases e
theorem r_neS {G : Gx} : R2D G rNe (gEqS true) := by
  intro x y B H ρ Y Q w1 w2 w Y' R a b e q
  unfold gEqS at e
  split at e
  · rename_i k h
    cases e
    obtain ⟨h1, h2⟩ := sclEq_at a b h
    exact ⟨h1, q _ B H ρ (Aft.refl R) (by rw [h2]; exact Rep.bl (!k))⟩
  · cases e
def gEqP (neg : Bool) : G2 := fun a b Y => match pyW Y a, pyW Y b with
  | some p, some q => (match SeqAt.shaped p && SeqAt.shaped q with
    | true => mkB (if neg then !PyData.eqv p q else PyData.eqv p q) Y
    | false => .bad)
  | _, _ => .bad
theorem r_eqP {G : Gx} : R2D G (rEqD G.K) (gEqP false) := by
  intro x y B H ρ Y Q w1 w2 w Y' R a b e q
  unfold gEqP at e
  split at e
  · rename_i p p' h1 h2
    split at e
    · rename_i h
      cases e
      obtain ⟨s1, s2⟩ := Bool.and_eq_true_iff.mp h
      exact ⟨p, p', pyW_at R a h1, pyW_at R b h2, s1, s2, q _ B H ρ (Aft.refl R) (.bl _)⟩
    · cases e
  · cases e
theorem r_neP {G : Gx} : R2D G (rNeD G.K) (gEqP true) := by
  intro x y B H ρ Y Q w1 w2 w Y' R a b e q
  unfold gEqP at e
  split at e
  · rename_i p p' h1 h2
    split at e
    · rename_i h
      cases e
      obtain ⟨s1, s2⟩ := Bool.and_eq_true_iff.mp h
      exact ⟨p, p', pyW_at R a h1, pyW_at R b h2, s1, s2, q _ B H ρ (Aft.refl R) (.bl _)⟩
    · cases e
  · cases e
def gEq : G2 := orG (gEqS false) (gEqP false)
def gNe : G2 := orG (gEqS true) (gEqP true)
theorem r_eq {G : Gx} : R2D G (fun x y H Q => rEq x y H Q ∨ rEqD G.K x y H Q) gEq := R2D.or r_eqS r_eqP
theorem r_ne {G : Gx} : R2D G (fun x y H Q => rNe x y H Q ∨ rNeD G.K x y H Q) gNe := R2D.or r_neS r_neP
theorem opEq {X : Cx} (hu : X.A.units + 64 < cLine) : OpR X (compareOp .Eq) (fun x y H Q => rEq x y H Q ∨ rEqD X.K x y H Q) := OpR.or op_eq (op_eqD hu)
theorem opNe {X : Cx} (hu : X.A.units + 64 < cLine) : OpR X (compareOp .NotEq) (fun x y H Q => rNe x y H Q ∨ rNeD X.K x y H Q) := OpR.or op_ne (op_neD hu)
/-- is None, is not None -/
def gIs (neg : Bool) : G2 := fun a b Y => match b with
  | .val .non => (match a with
    | .val .non => mkB (!neg) Y
    | .val (.gl _) => .bad
    | _ => mkB neg Y)
  | _ => .bad
theorem non_iff {G : Gx} {B : Hp} {ρ : Nat → Addr} {n : Nat} {x : V} {w : W} (a : WRep G B ρ n x w) (h1 : w ≠ .val .non) (h2 : ∀ z, w ≠ .val (.gl z)) : x ≠ .non := fun z => by
  subst z
  cases w with
  | ref m => exact nomatch a.2
  | val d =>
    cases a with
    | non => exact h1 rfl
    | gl h r => exact h2 _ rfl
theorem r_is {G : Gx} : R2D G (fun x y H Q => y = .non ∧ Q (.bl (decide (x = .non))) H) (gIs false) := by
  intro x y B H ρ Y Q w1 w2 w Y' R a b e q
  unfold gIs at e
  split at e
  · refine ⟨rep_non b, ?_⟩
    split at e
    · cases e
      rw [rep_non a]
      exact q _ B H ρ (Aft.refl R) (.bl true)
    · cases e
    · rename_i h1 h2
      cases e
      have hn := non_iff a (fun z => h1 z) (fun z e => h2 z e)
      rw [decide_eq_false hn]
      exact q _ B H ρ (Aft.refl R) (.bl false)
  · cases e
theorem r_isnot {G : Gx} : R2D G (fun x y H Q => y = .non ∧ Q (.bl (!decide (x = .non))) H) (gIs true) := by
  intro x y B H ρ Y Q w1 w2 w Y' R a b e q
  unfold gIs at e
  split at e
  · refine ⟨rep_non b, ?_⟩
    split at e
    · cases e
      rw [rep_non a]
      exact q _ B H ρ (Aft.refl R) (.bl false)
    · cases e
    · rename_i h1 h2
      cases e
      have hn := non_iff a (fun z => h1 z) (fun z e => h2 z e)
      rw [decide_eq_false hn]
      exact q _ B H ρ (Aft.refl R) (.bl true)
  · cases e

/-! ### in -/
def flatD : W → Bool
  | .val .non => true
  | .val (.bl _) => true
  | .val (.int _) => true
  | .val (.str _) => true
  | _ => false
def eqFl : W → W → Bool
  | .val .non, .val .non => true
  | .val (.bl a), .val (.bl b) => a == b
  | .val (.bl a), .val (.int b) => iEq (if a then 1 else 0) b
  | .val (.int a), .val (.bl b) => iEq a (if b then 1 else 0)
  | .val (.int a), .val (.int b) => iEq a b
  | .val (.str a), .val (.str b) => sEq a b
  | _, _ => false
/-- is x among these, all flat; none if one is not flat -/
def inF (x : W) : List W → Option Bool
  | [] => some false
  | y :: r => (match flatD y with
    | true => (match inF x r with
      | some b => some (eqFl y x || b)
      | none => none)
    | false => none)
section
variable {G : Gx} {B H : Hp} {ρ : Nat → Addr} {n : Nat}
theorem flat_at' {x : V} {w : W} (a : WRep G B ρ n x w) (h : flatD w = true) : flatV x = true := by
  unfold flatD at h
  split at h
  · rw [rep_non a]
    rfl
  · rw [rep_bl a]
    rfl
  · rw [rep_int a]
    rfl
  · rw [rep_str a]
    rfl
  · cases h
theorem beq_i (i j : Int) : (i == j) = iEq i j := by rw [← iEq_dec]; rfl
theorem beq_s (i j : Str) : (i == j) = sEq i j := by rw [← sEq_dec]; rfl
theorem eqFl_at {x y : V} {w1 w2 : W} (a : WRep G B ρ n x w1) (b : WRep G B ρ n y w2) (h1 : flatD w1 = true) (h2 : flatD w2 = true) : eqV x y = eqFl w1 w2 := by
  unfold flatD at h1 h2
  split at h1
  · rw [rep_non a]
    split at h2
    · rw [rep_non b]; rfl
    · rw [rep_bl b]; rfl
    · rw [rep_int b]; rfl
    · rw [rep_str b]; rfl
    · cases h2
  · rw [rep_bl a]
    split at h2
    · rw [rep_non b]; rfl
    · rw [rep_bl b]; rfl
    · rw [rep_int b]; exact beq_i _ _
    · rw [rep_str b]; rfl
    · cases h2
  · rw [rep_int a]
    split at h2
    · rw [rep_non b]; rfl
    · rw [rep_bl b]; exact beq_i _ _
    · rw [rep_int b]; exact beq_i _ _
    · rw [rep_str b]; rfl
    · cases h2
  · rw [rep_str a]
    split at h2
    · rw [rep_non b]; rfl
    · rw [rep_bl b]; rfl
    · rw [rep_int b]; rfl
    · rw [rep_str b]; exact beq_s _ _
    · cases h2
  · cases h1
theorem inF_at {x : V} {w : W} (a : WRep G B ρ n x w) (hx : flatD w = true) : ∀ {vs : List V} {ws : List W} {b : Bool}, WReps G B ρ n vs ws → inF w ws = some b → vs.all flatV = true ∧ inV x vs = b
  | _, _, _, .nil, e => by
    cases e
    exact ⟨rfl, rfl⟩
  | _, _, _, .cons h r, e => by
    unfold inF at e
    split at e
    · rename_i hf
      split at e
      · rename_i b' e1
        cases e
        obtain ⟨i1, i2⟩ := inF_at a hx r e1
        refine ⟨by rw [List.all_cons, flat_at' h hf, i1]; rfl, ?_⟩
        unfold inV at i2 ⊢
        rw [List.any_cons, i2, eqFl_at h a hf hx]
      · cases e
    · cases e
end
/-- items of a list or a tuple -/
def sqOf (Y : Ys) : W → Option (List W)
  | .val (.tup ds) => some (vals ds)
  | .val (.ktup ds) => some (vals ds)
  | w => lsOf Y w
theorem sqOf_at {G : Gx} {B H : Hp} {ρ : Nat → Addr} {Y : Ys} (R : Rel G B H ρ Y) {x : V} {w : W} {ws : List W} (a : WRep G B ρ Y.length x w) (e : sqOf Y w = some ws) :
    ∃ p vs, x = .ref p ∧ (SqL G.K H p vs ∨ SqT G.K H p vs) ∧ vs.length ≤ sizeLine ∧ WReps G B ρ Y.length vs ws := by
  unfold sqOf at e
  split at e
  · cases e
    obtain ⟨p, vs, h1, h2, h3, h4⟩ := rep_tup a
    exact ⟨p, vs, h1, .inr (SqT.of (R.tup h2)), h3, reps_vals h4⟩
  · cases e
    cases a with
    | ktup h hl r => exact ⟨_, _, rfl, .inr (h H), hl, reps_vals r⟩
  · obtain ⟨p, vs, h1, h2, h3, h4⟩ := lsOf_at R a e
    exact ⟨p, vs, h1, .inl h2, h3, h4⟩
def gInF (neg : Bool) : G2 := fun a b Y => match flatD a, sqOf Y b with
  | true, some ws => (match inF a ws with
    | some k => mkB (if neg then !k else k) Y
    | none => .bad)
  | _, _ => .bad
theorem r_inF {G : Gx} (neg : Bool) : R2D G (rIn G.K neg) (gInF neg) := by
  intro x y B H ρ Y Q w1 w2 w Y' R a b e q
  unfold gInF at e
  split at e
  · rename_i ws h1 h2
    split at e
    · rename_i k h3
      cases e
      obtain ⟨p, vs, e1, e2, _, e3⟩ := sqOf_at R b h2
      obtain ⟨f1, f2⟩ := inF_at a h1 e3 h3
      refine ⟨p, vs, e1, e2, flat_at' a h1, f1, ?_⟩
      rw [f2]
      exact q _ B H ρ (Aft.refl R) (.bl _)
    · cases e
  · cases e
def gInP (neg : Bool) : G2 := fun a b Y => match pyW Y a, pyW Y b with
  | some p, some (.list ps) => (match SeqAt.shaped p && SeqAt.shaped (.list ps) with
    | true => mkB (if neg then !ps.any (fun z => PyData.eqv z p) else ps.any (fun z => PyData.eqv z p)) Y
    | false => .bad)
  | _, _ => .bad
theorem r_inP {G : Gx} : R2D G (rInD G.K) (gInP false) := by
  intro x y B H ρ Y Q w1 w2 w Y' R a b e q
  unfold gInP at e
  split at e
  · rename_i p ps h1 h2
    split at e
    · rename_i h
      cases e
      obtain ⟨s1, s2⟩ := Bool.and_eq_true_iff.mp h
      exact ⟨p, ps, pyW_at R a h1, pyW_at R b h2, s1, s2, q _ B H ρ (Aft.refl R) (.bl _)⟩
    · cases e
  · cases e
theorem r_notInP {G : Gx} : R2D G (rNotInD G.K) (gInP true) := by
  intro x y B H ρ Y Q w1 w2 w Y' R a b e q
  unfold gInP at e
  split at e
  · rename_i p ps h1 h2
    split at e
    · rename_i h
      cases e
      obtain ⟨s1, s2⟩ := Bool.and_eq_true_iff.mp h
      exact ⟨p, ps, pyW_at R a h1, pyW_at R b h2, s1, s2, q _ B H ρ (Aft.refl R) (.bl _)⟩
    · cases e
  · cases e
/-- a key -/
def keyOf : W → Option Key
  | .val (.int i) => some (.inl i)
  | .val (.str x) => some (.inr x)
  | _ => none
def keysOf : List D → Option (List Key)
  | [] => some []
  | .int i :: r => (match keysOf r with
    | some ks => some (.inl i :: ks)
    | none => none)
  | .str x :: r => (match keysOf r with
    | some ks => some (.inr x :: ks)
    | none => none)
  | _ :: _ => none
def keyTOf : W → Option (List Key)
  | .val (.tup ds) => keysOf ds
  | _ => none
section
variable {G : Gx} {B H : Hp} {ρ : Nat → Addr} {n : Nat} {Y : Ys}
theorem keyOf_at {x : V} {w : W} {k : Key} (a : WRep G B ρ n x w) (e : keyOf w = some k) : x = kV k := by
  unfold keyOf at e
  split at e
  · cases e
    exact rep_int a
  · cases e
    exact rep_str a
  · cases e
theorem keysOf_at : ∀ {vs : List V} {ds : List D} {ks : List Key}, Reps G B vs ds → keysOf ds = some ks → vs = ks.map kV
  | _, _, _, .nil, e => by
    cases e
    rfl
  | _, .int i :: r, ks, .cons h t, e => by
    unfold keysOf at e
    split at e
    · rename_i ks' e1
      cases e
      rw [List.map_cons, ← keysOf_at t e1, rep_int h]
      rfl
    · cases e
  | _, .str i :: r, ks, .cons h t, e => by
    unfold keysOf at e
    split at e
    · rename_i ks' e1
      cases e
      rw [List.map_cons, ← keysOf_at t e1, rep_str h]
      rfl
    · cases e
  | _, .non :: _, _, .cons _ _, e => by cases e
  | _, .bl _ :: _, _, .cons _ _, e => by cases e
  | _, .lst _ :: _, _, .cons _ _, e => by cases e
  | _, .tup _ :: _, _, .cons _ _, e => by cases e
  | _, .dK _ :: _, _, .cons _ _, e => by cases e
  | _, .dT _ :: _, _, .cons _ _, e => by cases e
  | _, .ins _ _ :: _, _, .cons _ _, e => by cases e
  | _, .gl _ :: _, _, .cons _ _, e => by cases e
  | _, .scr _ :: _, _, .cons _ _, e => by cases e
  | _, .ktup _ :: _, _, .cons _ _, e => by cases e
  | _, .err _ _ :: _, _, .cons _ _, e => by cases e
  | _, .lam _ :: _, _, .cons _ _, e => by cases e
end
end MV
set_option Elab.async false
set_option linter.all false
set_option maxRecDepth 100000
set_option maxHeartbeats 4000000
namespace MV
open PySem PySem.Spec PyProof.Rows L2

/-! ### dicts -/
theorem repKV_pair {G : Gx} {B : Hp} {κ : Type} : ∀ {kvs : List (κ × V)} {kds : List (κ × D)}, RepKV G B kvs kds → Paired (fun p q => p.1 = q.1 ∧ Rep G B p.2 q.2) kvs kds
  | _, _, .nil => .nil
  | _, _, .cons h r => .cons ⟨rfl, h⟩ (repKV_pair r)
theorem pair_repKV {G : Gx} {B : Hp} {κ : Type} : ∀ {kvs : List (κ × V)} {kds : List (κ × D)}, Paired (fun p q => p.1 = q.1 ∧ Rep G B p.2 q.2) kvs kds → RepKV G B kvs kds
  | _, _, .nil => .nil
  | (k, v) :: _, (k', d) :: _, .cons h r => by
    obtain ⟨e, h⟩ := h
    have e' : k = k' := e
    subst e'
    exact .cons h (pair_repKV r)
def valO : Option D → Option W
  | some d => some (.val d)
  | none => none
/-- what stands under a key -/
def dLook (Y : Ys) (w key : W) : Option (Option W) := match w with
  | .val (.dK kds) => (match keyOf key with
    | some k => some (valO (kGet kEq kds k))
    | none => none)
  | .val (.dT kds) => (match keyTOf key with
    | some k => some (valO (kGet ksEq kds k))
    | none => none)
  | .ref n => (match Y[n]? with
    | some (.dK kws) => (match keyOf key with
      | some k => some (kGet kEq kws k)
      | none => none)
    | some (.dT kws) => (match keyTOf key with
      | some k => some (kGet ksEq kws k)
      | none => none)
    | _ => none)
  | _ => none
section
variable {G : Gx} {B H : Hp} {ρ : Nat → Addr} {Y : Ys}
theorem keyTOf_at (R : Rel G B H ρ Y) {y : V} {key : W} {k : List Key} (b : WRep G B ρ Y.length y key) (e : keyTOf key = some k) : ∃ p, y = .ref p ∧ H p = some (.tup (k.map kV)) := by
  unfold keyTOf at e
  split at e
  · obtain ⟨p, vs, h1, h2, _, h4⟩ := rep_tup b
    refine ⟨p, h1, ?_⟩
    rw [← keysOf_at h4 e]
    exact R.tup h2
  · cases e
theorem ORel.val {ρ : Nat → Addr} {n : Nat} {o : Option V} {u : Option D} (h : ORel (Rep G B) o u) : ORel (WRep G B ρ n) o (valO u) := by
  cases o <;> cases u <;> exact h
theorem dLook_at (R : Rel G B H ρ Y) {x y : V} {w key : W} {o : Option W} (a : WRep G B ρ Y.length x w) (b : WRep G B ρ Y.length y key) (e : dLook Y w key = some o) :
    ∃ p ov, x = .ref p ∧ DGet H p y ov ∧ ORel (WRep G B ρ Y.length) ov o := by
  unfold dLook at e
  split at e
  · split at e
    · rename_i kds k h1
      cases e
      cases a with
      | dK h r =>
        have hy := keyOf_at b h1
        subst hy
        exact ⟨_, _, rfl, .inl ⟨_, k, R.dK h, rfl, rfl⟩, (kGet_rel (eq := kEq) kEq_iff k (repKV_pair r)).val⟩
    · cases e
  · split at e
    · rename_i kds k h1
      cases e
      cases a with
      | dT h r =>
        obtain ⟨p, hy, hp⟩ := keyTOf_at R b h1
        exact ⟨_, _, rfl, .inr ⟨_, k, p, R.dT h, hy, hp, rfl⟩, (kGet_rel (eq := ksEq) ksEq_iff k (repKV_pair r)).val⟩
    · cases e
  · obtain ⟨a1, a2⟩ := a
    split at e
    · rename_i kws h
      split at e
      · rename_i k h1
        cases e
        obtain ⟨vs, e1, e2⟩ := R.obj _ _ h
        have hy := keyOf_at b h1
        subst hy
        exact ⟨_, _, a2, .inl ⟨_, k, .inl e1, rfl, rfl⟩, kGet_rel (eq := kEq) kEq_iff k e2⟩
      · cases e
    · rename_i kws h
      split at e
      · rename_i k h1
        cases e
        obtain ⟨vs, e1, e2⟩ := R.obj _ _ h
        obtain ⟨p, hy, hp⟩ := keyTOf_at R b h1
        exact ⟨_, _, a2, .inr ⟨_, k, p, .inl e1, hy, hp, rfl⟩, kGet_rel (eq := ksEq) ksEq_iff k e2⟩
      · cases e
    · cases e
  · cases e
end
def rInDct (neg : Bool) : R2 := fun y x H Q => ∃ a o, x = .ref a ∧ DGet H a y o ∧ Q (.bl (if neg then !o.isSome else o.isSome)) H
theorem op_in_dct {X : Cx} (hu : X.A.units + 1 < cLine) : OpR X (compareOp .In) (rInDct false) := by
  intro pins s σ H y x u v Q I ry rx h
  obtain ⟨a, o, e, g, q⟩ := h
  subst e
  cases rx
  exact d_in hu I g ry fun s3 I3 => ⟨.bl o.isSome, H, I3, rfl, q⟩
theorem op_notIn_dct {X : Cx} (hu : X.A.units + 1 < cLine) : OpR X (compareOp .NotIn) (rInDct true) := by
  intro pins s σ H y x u v Q I ry rx h
  obtain ⟨a, o, e, g, q⟩ := h
  subst e
  cases rx
  exact d_notIn hu I g ry fun s3 I3 => ⟨.bl (!o.isSome), H, I3, rfl, q⟩
def isSm {α : Type} : Option α → Bool
  | some _ => true
  | none => false
def gInDct (neg : Bool) : G2 := fun a b Y => match dLook Y b a with
  | some o => mkB (if neg then !isSm o else isSm o) Y
  | none => .bad
theorem ORel.isSm {α : Type} {F : V → α → Prop} {o : Option V} {u : Option α} (h : ORel F o u) : o.isSome = MV.isSm u := by
  cases o <;> cases u <;> first | rfl | exact h.elim
theorem r_inDct {G : Gx} (neg : Bool) : R2D G (rInDct neg) (gInDct neg) := by
  intro x y B H ρ Y Q w1 w2 w Y' R a b e q
  unfold gInDct at e
  split at e
  · rename_i o h
    cases e
    obtain ⟨p, ov, e1, g, r⟩ := dLook_at R b a h
    refine ⟨p, ov, e1, g, ?_⟩
    rw [r.isSm]
    exact q _ B H ρ (Aft.refl R) (.bl _)
  · cases e
/-- s in t, texts: the library's own search; one sign quicker -/
def hasCp (c : Nat) : List Nat → Bool
  | [] => false
  | d :: r => Nat.beq c d || hasCp c r
theorem hasCp_iff {c : Nat} : ∀ {l : List Nat}, hasCp c l = true ↔ c ∈ l
  | [] => by simp [hasCp]
  | d :: r => by simp [hasCp, hasCp_iff (l := r)]
def gInSgn (neg : Bool) : G2 := fun a b Y => match a, b with
  | .val (.str x), .val (.str z) => (match x.cps.toList with
    | [c] => mkB (if neg then !hasCp c z.cps.toList else hasCp c z.cps.toList) Y
    | _ => .bad)
  | _, _ => .bad
def rInSgn (neg : Bool) : R2 := fun x y H Q => ∃ (c : Nat) (z : Str), x = .str ⟨#[c]⟩ ∧ y = .str z ∧ Q (.bl (if neg then !decide (c ∈ z.cps.toList) else decide (c ∈ z.cps.toList))) H
theorem r_inSgn {G : Gx} (neg : Bool) : R2D G (rInSgn neg) (gInSgn neg) := by
  intro x y B H ρ Y Q w1 w2 w Y' R a b e q
  unfold gInSgn at e
  split at e
  · rename_i x' z
    split at e
    · rename_i c h
      cases e
      refine ⟨c, z, ?_, rep_str b, ?_⟩
      · rw [rep_str a]
        obtain ⟨⟨l⟩⟩ := x'
        have h' : l = [c] := h
        subst h'
        rfl
      · have e : decide (c ∈ z.cps.toList) = hasCp c z.cps.toList := by
          rw [Bool.eq_iff_iff, hasCp_iff]
          simp
        rw [e]
        exact q _ B H ρ (Aft.refl R) (.bl _)
    · cases e
  · cases e
theorem op_in_sgn {X : Cx} : OpR X (compareOp .In) (rInSgn false) := by
  intro pins s σ H y x u v Q I ry rx h
  obtain ⟨c, z, e1, e2, q⟩ := h
  exact op_in_sign pins s σ H y x u v Q I ry rx ⟨c, z, e1, e2, q⟩
theorem op_notIn_sgn {X : Cx} : OpR X (compareOp .NotIn) (rInSgn true) := by
  intro pins s σ H y x u v Q I ry rx h
  obtain ⟨c, z, e1, e2, q⟩ := h
  exact op_notIn_sign pins s σ H y x u v Q I ry rx ⟨c, z, e1, e2, q⟩
def gIn : G2 := orG (gInF false) (orG (gInDct false) (orG (gInSgn false) (gInP false)))
def gNotIn : G2 := orG (gInF true) (orG (gInDct true) (orG (gInSgn true) (gInP true)))
theorem r_in {G : Gx} : R2D G (fun x y H Q => rIn G.K false x y H Q ∨ rInDct false x y H Q ∨ rInSgn false x y H Q ∨ rInD G.K x y H Q) gIn := R2D.or (r_inF false) (R2D.or (r_inDct false) (R2D.or (r_inSgn false) r_inP))
theorem r_notIn {G : Gx} : R2D G (fun x y H Q => rIn G.K true x y H Q ∨ rInDct true x y H Q ∨ rInSgn true x y H Q ∨ rNotInD G.K x y H Q) gNotIn := R2D.or (r_inF true) (R2D.or (r_inDct true) (R2D.or (r_inSgn true) r_notInP))
theorem opIn {X : Cx} (hu : X.A.units + 65 < cLine) : OpR X (compareOp .In) (fun x y H Q => rIn X.K false x y H Q ∨ rInDct false x y H Q ∨ rInSgn false x y H Q ∨ rInD X.K x y H Q) :=
  OpR.or op_in_seq (OpR.or (op_in_dct (by omega)) (OpR.or op_in_sgn (op_inD hu)))
theorem opNotIn {X : Cx} (hu : X.A.units + 65 < cLine) : OpR X (compareOp .NotIn) (fun x y H Q => rIn X.K true x y H Q ∨ rInDct true x y H Q ∨ rInSgn true x y H Q ∨ rNotInD X.K x y H Q) :=
  OpR.or op_notIn_seq (OpR.or (op_notIn_dct (by omega)) (OpR.or op_notIn_sgn (op_notInD hu)))

/-! ### subscripts -/
theorem ix_dct {X : Cx} (hu : X.A.units + 1 < cLine) : IxR X (fun x y H Q => ∃ a v, x = .ref a ∧ DGet H a y (some v) ∧ Q v H) := by
  intro value slice pins s σ H x y v u Q I rx ry h hs
  obtain ⟨a, z, e, g, q⟩ := h
  subst e
  cases rx
  exact tail_any (dict_typeIs I g) PySem.F.slot_dict_getitem.lookup (d_getItem hu I g ry fun w' s3 I3 rw' => ⟨z, H, I3, rw', q⟩) hs
/-- the place that an index means -/
def plc (n : Nat) (i : Int) : Option Nat := match i with
  | .ofNat k => (match Nat.blt k n with
    | true => some k
    | false => none)
  | .negSucc k => (match Nat.blt k n with
    | true => some (n - (k + 1))
    | false => none)
theorem plc_ixN (n : Nat) (i : Int) : plc n i = ixN n i := by
  unfold plc ixN
  cases i with
  | ofNat k =>
    have h0 : (0 : Int) ≤ Int.ofNat k := Int.natCast_nonneg k
    rw [if_pos h0]
    dsimp only
    by_cases h : k < n
    · have h1 : Nat.blt k n = true := by simpa [Nat.blt_eq] using h
      have h2 : (Int.ofNat k) < (n : Int) := Int.ofNat_lt.mpr h
      rw [h1, if_pos h2]
      rfl
    · have h1 : Nat.blt k n = false := by
        cases e : Nat.blt k n with
        | false => rfl
        | true => exact absurd (by simpa [Nat.blt_eq] using e) h
      have h2 : ¬ (Int.ofNat k) < (n : Int) := fun z => h (Int.ofNat_lt.mp z)
      rw [h1, if_neg h2]
  | negSucc k =>
    have h0 : ¬ (0 : Int) ≤ Int.negSucc k := Int.not_le.mpr (Int.negSucc_lt_zero k)
    rw [if_neg h0]
    dsimp only
    by_cases h : k < n
    · have h1 : Nat.blt k n = true := by simpa [Nat.blt_eq] using h
      have h2 : -(n : Int) ≤ Int.negSucc k := by omega
      rw [h1, if_pos h2]
      simp only [Option.some.injEq]
      omega
    · have h1 : Nat.blt k n = false := by
        cases e : Nat.blt k n with
        | false => rfl
        | true => exact absurd (by simpa [Nat.blt_eq] using e) h
      have h2 : ¬ -(n : Int) ≤ Int.negSucc k := by omega
      rw [h1, if_neg h2]
def atP {α : Type} (xs : List α) (i : Int) : Option α := match plc xs.length i with
  | some j => xs[j]?
  | none => none
theorem atP_atI {α : Type} (xs : List α) (i : Int) : atP xs i = atI xs i := by
  unfold atP atI
  rw [plc_ixN]
  cases ixN xs.length i <;> rfl
/-- a[i] -/
def gIx : G2 := fun a b Y => match b with
  | .val (.int i) => (match a with
    | .val (.lst ds) => (match atP ds i with
      | some d => .ok (.val d) Y
      | none => .bad)
    | .val (.tup ds) => (match atP ds i with
      | some d => .ok (.val d) Y
      | none => .bad)
    | .val (.ktup ds) => (match atP ds i with
      | some d => .ok (.val d) Y
      | none => .bad)
    | .val (.scr ns) => (match atP ns i with
      | some k => mkI k Y
      | none => .bad)
    | .val (.str x) => (match lines x.length, atP x.cps.toList i with
      | true, some c => .ok (.val (.str ⟨#[c]⟩)) Y
      | _, _ => .bad)
    | .ref n => (match Y[n]? with
      | some (.lst ws) => (match atP ws i with
        | some w => .ok w Y
        | none => .bad)
      | _ => .bad)
    | _ => .bad)
  | _ => .bad
theorem Paired.get {α β : Type} {F : α → β → Prop} : ∀ {l₁ : List α} {l₂ : List β} {i : Nat} {b : β}, Paired F l₁ l₂ → l₂[i]? = some b → ∃ a, l₁[i]? = some a ∧ F a b
  | _, _, _, _, .nil, e => by simp at e
  | _, _, 0, _, .cons h _, e => by
    simp at e
    subst e
    exact ⟨_, rfl, h⟩
  | _, _, i + 1, b, .cons _ r, e => by
    obtain ⟨v, h1, h2⟩ := Paired.get (i := i) (b := b) r (by simpa using e)
    exact ⟨v, by simpa using h1, h2⟩
theorem ix_of {α β : Type} {xs : List α} {ys : List β} {i : Int} {y : β} (hl : xs.length = ys.length) (e : atP ys i = some y) : ∃ j : Nat, ys[j]? = some y ∧ ∀ x, xs[j]? = some x → atI xs i = some x := by
  unfold atP at e
  split at e
  · rename_i j h
    refine ⟨j, e, fun x hx => ?_⟩
    unfold atI
    rw [hl, ← plc_ixN, h]
    exact hx
  · cases e
theorem r_ix {G : Gx} : R2D G (rIx G.K) gIx := by
  intro x y B H ρ Y Q w1 w2 w Y' R a b e q
  unfold gIx at e
  split at e
  · rename_i i
    have hy := rep_int b
    subst hy
    split at e
    · split at e
      · rename_i d h
        cases e
        cases a with
        | lst h1 hl r =>
          obtain ⟨j, h2, h3⟩ := ix_of r.length h
          obtain ⟨v, h4, h5⟩ := r.get h2
          exact .inl ⟨_, _, i, v, rfl, rfl, SqL.of (R.lst h1), h3 v h4, q v B H ρ (Aft.refl R) h5⟩
      · cases e
    · split at e
      · rename_i d h
        cases e
        cases a with
        | tup h1 hl r =>
          obtain ⟨j, h2, h3⟩ := ix_of r.length h
          obtain ⟨v, h4, h5⟩ := r.get h2
          exact .inr (.inl ⟨_, _, i, v, rfl, rfl, SqT.of (R.tup h1), h3 v h4, q v B H ρ (Aft.refl R) h5⟩)
      · cases e
    · split at e
      · rename_i d h
        cases e
        cases a with
        | ktup h1 hl r =>
          obtain ⟨j, h2, h3⟩ := ix_of r.length h
          obtain ⟨v, h4, h5⟩ := r.get h2
          exact .inr (.inl ⟨_, _, i, v, rfl, rfl, h1 H, h3 v h4, q v B H ρ (Aft.refl R) h5⟩)
      · cases e
    · split at e
      · rename_i k h
        cases e
        cases a with
        | scr h1 hl =>
          obtain ⟨j, h2, h3⟩ := ix_of (xs := List.map V.int _) (List.length_map ..) h
          exact .inl ⟨_, _, i, .int k, rfl, rfl, R.scr h1, h3 (.int k) (by rw [List.getElem?_map, h2]; rfl), q _ B H ρ (Aft.refl R) (.int k)⟩
      · cases e
    · split at e
      · rename_i c h1 h
        cases e
        refine .inr (.inr ⟨_, i, c, rep_str a, rfl, lines_ok h1, ?_, q _ B H ρ (Aft.refl R) (.str _)⟩)
        rw [← atP_atI]
        exact h
      · cases e
    · obtain ⟨a1, a2⟩ := a
      split at e
      · rename_i h0
        split at e
        · rename_i w' h
          cases e
          obtain ⟨vs, e1, e2, e3⟩ := R.obj _ _ h0
          obtain ⟨j, h2, h3⟩ := ix_of (Paired.length e3) h
          obtain ⟨v, h4, h5⟩ := Paired.get e3 h2
          exact .inl ⟨_, _, i, v, a2, rfl, SqL.of e1, h3 v h4, q v B H ρ (Aft.refl R) h5⟩
        · cases e
      · cases e
    · cases e
  · cases e
def gIxD : G2 := fun a b Y => match dLook Y a b with
  | some (some w) => .ok w Y
  | _ => .bad
theorem r_ixD {G : Gx} : R2D G (fun x y H Q => ∃ a v, x = .ref a ∧ DGet H a y (some v) ∧ Q v H) gIxD := by
  intro x y B H ρ Y Q w1 w2 w Y' R a b e q
  unfold gIxD at e
  split at e
  · rename_i w' h
    cases e
    obtain ⟨p, ov, e1, g, r⟩ := dLook_at R a b h
    cases ov with
    | none => exact r.elim
    | some v => exact ⟨p, v, e1, g, q v B H ρ (Aft.refl R) r⟩
  · cases e
def gItem : G2 := orG gIx gIxD
section
variable {cls : Cl} {X : Cx} {W : WX} {pos : Pos} {a b : Expr} {f1 f2 : Den}
theorem d_item (hu : X.A.units + 1 < cLine) (ha : DE cls X W a f1) (hb : DE cls X W b f2) (hs : PlainIx b := by intro _ _; rfl) : DE cls X W (.Subscript a b pos) (dOp gItem f1 f2) :=
  d_ix (IxR.or ix_seq (ix_dct hu)) (R2D.or r_ix r_ixD) ha hb hs
end

/-! ### displays -/
section
variable {cls : Cl} {X : Cx} {W : WX} {pos : Pos} {es : List Expr} {f : ADen}
def dTup (f : ADen) : Den := fun τ Y => (f τ Y).bind fun ws Y1 => match dats ws, lines ws.length with
  | some ds, true => .ok (.val (.tup ds)) Y1
  | _, _ => .bad
theorem d_tup {x1} (h : DA cls X W es f) : DE cls X W (.Tuple es x1 pos) (dTup f) := by
  obtain ⟨t, p, h⟩ := h
  refine ⟨_, pe_tup p, fun σ H Q B ρ Y τ R T hq => ?_⟩
  refine h σ H _ B ρ Y τ R T (RaOk.imp ?_ (RaOk.bound hq))
  rintro vs H1 ⟨B1, ρ1, ws, Y1, A, r, h1⟩
  split at h1
  · rename_i ds e1 e2
    have hl : vs.length ≤ sizeLine := by rw [Paired.length r]; exact lines_ok e2
    refine ⟨hl, fun l hn => ?_⟩
    have A' := Aft.new A.rel (.tup vs) hn
    exact h1 _ _ _ _ A' (.tup upd_same hl ((reps_dats r e1).le A'.le))
  · exact h1.elim
def dLst (f : ADen) : Den := fun τ Y => (f τ Y).bind fun ws Y1 => match dats ws, lines ws.length with
  | some ds, true => .ok (.val (.lst ds)) Y1
  | _, _ => .bad
theorem d_lst (h : DA cls X W es f) : DE cls X W (.List es pos) (dLst f) := by
  obtain ⟨t, p, h⟩ := h
  refine ⟨_, pe_lst p, fun σ H Q B ρ Y τ R T hq => ?_⟩
  refine h σ H _ B ρ Y τ R T (RaOk.imp ?_ (RaOk.bound hq))
  rintro vs H1 ⟨B1, ρ1, ws, Y1, A, r, h1⟩
  split at h1
  · rename_i ds e1 e2
    have hl : vs.length ≤ sizeLine := by rw [Paired.length r]; exact lines_ok e2
    refine ⟨hl, fun l hn => ?_⟩
    have A' := Aft.new A.rel (.lst vs) hn
    exact h1 _ _ _ _ A' (.lst upd_same hl ((reps_dats r e1).le A'.le))
  · exact h1.elim
/-- a list of the store -/
def dLstR (f : ADen) : Den := fun τ Y => (f τ Y).bind fun ws Y1 => match lines ws.length with
  | true => .ok (.ref Y1.length) (Y1 ++ [.lst ws])
  | false => .bad
theorem d_lstR (h : DA cls X W es f) : DE cls X W (.List es pos) (dLstR f) := by
  obtain ⟨t, p, h⟩ := h
  refine ⟨_, pe_lst p, fun σ H Q B ρ Y τ R T hq => ?_⟩
  refine h σ H _ B ρ Y τ R T (RaOk.imp ?_ (RaOk.bound hq))
  rintro vs H1 ⟨B1, ρ1, ws, Y1, A, r, h1⟩
  split at h1
  · rename_i e2
    have hl : vs.length ≤ sizeLine := by rw [Paired.length r]; exact lines_ok e2
    refine ⟨hl, fun l hn => ?_⟩
    have A' := Aft.newR A.rel (o := .lst vs) (yo := .lst ws) hn ⟨vs, rfl, hl, r⟩
    exact h1 _ _ _ _ A' ⟨by simp, by rw [extR_at]⟩
  · exact h1.elim
/-- {} of the store -/
def dDctR (b : Bool) : Den := fun _ Y => .ok (.ref Y.length) (Y ++ [if b then .dT [] else .dK []])
theorem d_dctK : DE cls X W (.Dict [] [] pos) (dDctR false) := by
  refine ⟨_, pe_dnewK, fun σ H Q B ρ Y τ R T hq p hn => ?_⟩
  have A' := Aft.newR R (o := .dK []) (yo := .dK []) hn ⟨[], rfl, .nil⟩
  exact hq _ _ _ _ A' ⟨by simp, by rw [extR_at]⟩
theorem d_dctT : DE cls X W (.Dict [] [] pos) (dDctR true) := by
  refine ⟨_, pe_dnewT, fun σ H Q B ρ Y τ R T hq p hn => ?_⟩
  have A' := Aft.newR R (o := .dT []) (yo := .dT []) hn ⟨[], rfl, .nil⟩
  exact hq _ _ _ _ A' ⟨by simp, by rw [extR_at]⟩
end

/-! ### slices -/
def rSlG (G : Gx) (r : V → Option Int → Option Int → Hp → VK → Prop) (g : W → Option Int → Option Int → Ys → Re) : Prop := ∀ x lo hi B H ρ Y Q w1 w Y', Rel G B H ρ Y → WRep G B ρ Y.length x w1 → g w1 lo hi Y = .ok w Y' →
  (∀ v B' H' ρ', Aft G B H ρ Y B' H' ρ' Y' → WRep G B' ρ' Y'.length v w → Q v H') → r x lo hi H Q
def sxI (n d : Nat) : Option Int → Nat
  | none => d
  | some (.ofNat k) => min k n
  | some (.negSucc k) => n - (k + 1)
theorem sxI_eq (n d : Nat) (o : Option Int) : sxI n d o = HT.sIx n d o := by
  unfold sxI HT.sIx
  cases o with
  | none => rfl
  | some i => cases i with
    | ofNat k => simp <;> omega
    | negSucc k => simp <;> omega
end MV
set_option Elab.async false
set_option linter.all false
set_option maxRecDepth 100000
set_option maxHeartbeats 4000000
namespace MV
open PySem PySem.Spec PyProof.Rows L2

/-! ### blocks -/
def Out.seq (r : Out) (k : Ts → Ys → Out) : Out := match r with
  | .next τ Y => k τ Y
  | .ret w Y => .ret w Y
  | .brk τ Y => .brk τ Y
  | .cont τ Y => .cont τ Y
  | .exc c fs τ Y => .exc c fs τ Y
  | .bad => .bad
theorem OutOk.seq {G : Gx} {W : WX} {σ : L2.St} {B H : Hp} {ρ : Nat → Addr} {Y : Ys} {E : Ends} {k : Ts → Ys → Out} : ∀ {r : Out}, OutOk G W σ B H ρ Y E (r.seq k) →
    OutOk G W σ B H ρ Y { E with nx := fun σ1 H1 => ∃ B1 ρ1 τ1 Y1, Aft G B H ρ Y B1 H1 ρ1 Y1 ∧ TR G B1 ρ1 Y1.length σ1 τ1 ∧ OutOk G W σ1 B1 H1 ρ1 Y1 E (k τ1 Y1) } r
  | .next τ Y1, h => fun σ1 B1 H1 ρ1 A t => ⟨B1, ρ1, τ, Y1, A, t, OutOk.behind A h⟩
  | .ret _ _, h => h
  | .brk _ _, h => h
  | .cont _ _, h => h
  | .exc _ _ _ _, h => h
  | .bad, h => h
def sSeq (f g : SDen) : SDen := fun τ Y => (f τ Y).seq g
def sNext : SDen := fun τ Y => .next τ Y
section
variable {cls : Cl} {X : Cx} {W : WX} {pos : Pos} {st : Stmt} {rest : List Stmt} {f g : SDen}
theorem ss_nil : DSs cls X W [] sNext := ⟨_, pss_nil, fun σ H E B ρ Y τ R T h => h σ B H ρ (Aft.refl R) T⟩
theorem ss_cons (h1 : DS cls X W st f) (h2 : DSs cls X W rest g) : DSs cls X W (st :: rest) (sSeq f g) := by
  obtain ⟨t1, p1, h1⟩ := h1
  obtain ⟨t2, p2, h2⟩ := h2
  refine ⟨_, pss_cons p1 p2, fun σ H E B ρ Y τ R T h => ?_⟩
  refine h1 σ H _ B ρ Y τ R T ?_
  have h' := OutOk.seq h
  revert h'
  generalize f τ Y = r
  intro h'
  cases r with
  | next τ' Y' =>
    intro σ1 B1 H1 ρ1 A t
    obtain ⟨B2, ρ2, τ2, Y2, A2, t2', h2'⟩ := h' σ1 B1 H1 ρ1 A t
    exact h2 σ1 H1 E B2 ρ2 Y2 τ2 A2.rel t2' h2'
  | ret _ _ => exact h'
  | brk _ _ => exact h'
  | cont _ _ => exact h'
  | exc _ _ _ _ => exact h'
  | bad => exact h'
theorem ss_one (h1 : DS cls X W st f) : DSs cls X W [st] f := by
  obtain ⟨t1, p1, h1⟩ := h1
  exact ⟨_, pss_one p1, h1⟩
theorem s_pass : DS cls X W (.Pass pos) sNext := ⟨_, ps_pass, fun σ H E B ρ Y τ R T h => h σ B H ρ (Aft.refl R) T⟩
theorem s_break : DS cls X W (.Break pos) (fun τ Y => .brk τ Y) := ⟨_, ps_break, fun σ H E B ρ Y τ R T h => h σ B H ρ (Aft.refl R) T⟩
theorem s_continue : DS cls X W (.Continue pos) (fun τ Y => .cont τ Y) := ⟨_, ps_continue, fun σ H E B ρ Y τ R T h => h σ B H ρ (Aft.refl R) T⟩
/-- a statement that is never come to -/
def sNever : SDen := fun _ _ => .bad
theorem s_never : DS cls X W st sNever := ⟨_, ps_never, fun σ H E B ρ Y τ R T h => h.elim⟩
theorem ss_never {sts : List Stmt} : DSs cls X W sts sNever := ⟨_, pss_never, fun σ H E B ρ Y τ R T h => h.elim⟩
/-- what a statement's expression is brought to -/
def Re.out (r : Re) (τ : Ts) (k : MV.W → Ys → Out) : Out := match r with
  | .ok w Y => k w Y
  | .exc c fs Y => .exc c fs τ Y
  | .bad => .bad
theorem OutOk.expr {G : Gx} {σ : L2.St} {B H : Hp} {ρ : Nat → Addr} {Y : Ys} {E : Ends} {τ : Ts} {k : MV.W → Ys → Out} (T : TR G B ρ Y.length σ τ) : ∀ {r : Re}, OutOk G W σ B H ρ Y E (r.out τ k) →
    ReOk G W σ B H ρ Y (fun v H1 => ∃ B1 ρ1 w Y1, Aft G B H ρ Y B1 H1 ρ1 Y1 ∧ WRep G B1 ρ1 Y1.length v w ∧ OutOk G W σ B1 H1 ρ1 Y1 E (k w Y1)) r
  | .ok w Y1, h => fun v B1 H1 ρ1 A r => ⟨B1, ρ1, w, Y1, A, r, OutOk.behind A h⟩
  | .exc _ _ _, h => fun d B' H' ρ' A e => h d σ B' H' ρ' A (T.aft A) e
  | .bad, h => h
def Te.out (r : Te) (τ : Ts) (k : Bool → Ys → Out) : Out := match r with
  | .ok w Y => k w Y
  | .exc c fs Y => .exc c fs τ Y
  | .bad => .bad
theorem OutOk.test {G : Gx} {σ : L2.St} {B H : Hp} {ρ : Nat → Addr} {Y : Ys} {E : Ends} {τ : Ts} {k : Bool → Ys → Out} (T : TR G B ρ Y.length σ τ) : ∀ {r : Te}, OutOk G W σ B H ρ Y E (r.out τ k) →
    TeOk G W σ B H ρ Y (fun v H1 => ∃ B1 ρ1 Y1, Aft G B H ρ Y B1 H1 ρ1 Y1 ∧ OutOk G W σ B1 H1 ρ1 Y1 E (k v Y1)) r
  | .ok w Y1, h => fun B1 H1 ρ1 A => ⟨B1, ρ1, Y1, A, OutOk.behind A h⟩
  | .exc _ _ _, h => fun d B' H' ρ' A e => h d σ B' H' ρ' A (T.aft A) e
  | .bad, h => h
variable {e : Expr} {fe : Den}
def sExpr (f : Den) : SDen := fun τ Y => (f τ Y).out τ fun _ Y1 => .next τ Y1
theorem s_expr (he : DE cls X W e fe) (hs : swapsWith e none pos.line X.env = pure false := by rfl) : DS cls X W (.Expr e pos) (sExpr fe) := by
  obtain ⟨t, p, he⟩ := he
  refine ⟨_, ps_expr p hs, fun σ H E B ρ Y τ R T h => ?_⟩
  refine he σ H _ B ρ Y τ R T (ReOk.imp ?_ (OutOk.expr T h))
  rintro v H1 ⟨B1, ρ1, w, Y1, A, r, h1⟩
  exact h1 σ B1 H1 ρ1 (Aft.refl A.rel) (T.aft A)
def sRet (f : Den) : SDen := fun τ Y => (f τ Y).out τ fun w Y1 => .ret w Y1
theorem s_ret (he : DE cls X W e fe) : DS cls X W (.Return (some e) pos) (sRet fe) := by
  obtain ⟨t, p, he⟩ := he
  refine ⟨_, ps_ret p, fun σ H E B ρ Y τ R T h => ?_⟩
  refine he σ H _ B ρ Y τ R T (ReOk.imp ?_ (OutOk.expr T h))
  rintro v H1 ⟨B1, ρ1, w, Y1, A, r, h1⟩
  exact h1 v B1 H1 ρ1 (Aft.refl A.rel) r
def sRetN : SDen := fun _ Y => .ret (.val .non) Y
theorem s_retN : DS cls X W (.Return none pos) sRetN := ⟨_, ps_retN, fun σ H E B ρ Y τ R T h => h _ B H ρ (Aft.refl R) .non⟩
def sIf (c : TDen) (f g : SDen) : SDen := fun τ Y => (c τ Y).out τ fun b Y1 => if b = true then f τ Y1 else g τ Y1
theorem s_if {c : Expr} {a b : List Stmt} {fc : TDen} (hc : DT cls X W c fc) (ha : DSs cls X W a f) (hb : DSs cls X W b g) : DS cls X W (.If c a b pos) (sIf fc f g) := by
  obtain ⟨tc, pc, hc⟩ := hc
  obtain ⟨ta, pa, ha⟩ := ha
  obtain ⟨tb, pb, hb⟩ := hb
  refine ⟨_, ps_if pc pa pb, fun σ H E B ρ Y τ R T h => ?_⟩
  refine hc σ H _ B ρ Y τ R T (TeOk.imp ?_ (OutOk.test T h))
  rintro k H1 ⟨B1, ρ1, Y1, A, h1⟩
  cases k with
  | true => exact ha σ H1 E B1 ρ1 Y1 τ A.rel (T.aft A) h1
  | false => exact hb σ H1 E B1 ρ1 Y1 τ A.rel (T.aft A) h1
end

/-! ### targets -/
/-- a target takes a thing: its names hold it -/
def DG (cls : Cl) (X : Cx) (tg : Expr) (g : W → Ts → Ys → Option Ts) : Prop :=
  ∃ t : TG, PG X tg t ∧ ∀ v σ H Q B ρ Y τ w τ', Rel (gx cls X) B H ρ Y → TR (gx cls X) B ρ Y.length σ τ → WRep (gx cls X) B ρ Y.length v w → g w τ Y = some τ' → (∀ σ', TR (gx cls X) B ρ Y.length σ' τ' → Q σ' H) → t v σ H Q
def DGs (cls : Cl) (X : Cx) (tgs : List Expr) (g : List W → Ts → Ys → Option Ts) : Prop :=
  ∃ t : TGs, PGs X tgs t ∧ ∀ vs σ H Q B ρ Y τ ws τ', Rel (gx cls X) B H ρ Y → TR (gx cls X) B ρ Y.length σ τ → WReps (gx cls X) B ρ Y.length vs ws → g ws τ Y = some τ' → (∀ σ', TR (gx cls X) B ρ Y.length σ' τ' → Q σ' H) → t vs σ H Q
theorem TR.set {G : Gx} {B : Hp} {ρ : Nat → Addr} {n : Nat} {σ : L2.St} {τ : Ts} (T : TR G B ρ n σ τ) {i : Nat} {v : V} {w : W} (r : WRep G B ρ n v w) : TR G B ρ n (σ.set i (some v)) (τ.set i (some w)) := by
  refine ⟨by simp [T.len], fun j u e => ?_⟩
  by_cases h : i = j
  · subst h
    have hl : i < τ.length := by
      have := (List.getElem?_eq_some_iff.mp e).1
      simpa using this
    rw [List.getElem?_set_self hl] at e
    cases e
    exact ⟨v, by rw [List.getElem?_set_self (by rw [T.len]; exact hl)], r⟩
  · rw [List.getElem?_set_ne h] at e ⊢
    exact T.at_ j u e
def gNm (i : Nat) : W → Ts → Ys → Option Ts := fun w τ _ => some (τ.set i (some w))
section
variable {cls : Cl} {X : Cx} {W : WX} {pos : Pos}
theorem g_name (i : Nat) {x : Str} (hN : X.N.Nodup) (hi : X.N[i]? = some x := by rfl) (hx : Loc X.env.scope x := by first | exact Or.inl rfl | exact Or.inr rfl) (hf : X.fn x = true ∨ X.env.scope.names.lookup x = some .local := by first | exact .inl rfl | exact .inr rfl) : DG cls X (.Name x pos) (gNm i) :=
  ⟨_, pg_name hN hi hx hf, fun v σ H Q B ρ Y τ w τ' R T r e q => by
    cases e
    exact q _ (T.set r)⟩
def gsNil : List MV.W → Ts → Ys → Option Ts := fun ws τ _ => match ws with
  | [] => some τ
  | _ => none
def gsCons (g : MV.W → Ts → Ys → Option Ts) (h : List MV.W → Ts → Ys → Option Ts) : List MV.W → Ts → Ys → Option Ts := fun ws τ Y => match ws with
  | w :: r => (match g w τ Y with
    | some τ1 => h r τ1 Y
    | none => none)
  | [] => none
theorem gs_nil : DGs cls X [] gsNil := ⟨_, pgs_nil, fun vs σ H Q B ρ Y τ ws τ' R T r e q => by
  cases r with
  | nil =>
    cases e
    exact ⟨rfl, q _ T⟩
  | cons _ _ => cases e⟩
theorem gs_cons {e : Expr} {es : List Expr} {g : MV.W → Ts → Ys → Option Ts} {h : List MV.W → Ts → Ys → Option Ts} (h1 : DG cls X e g) (h2 : DGs cls X es h)
    (hs : (assignEach (e :: es) X.env).map (·.2) = assign e X.env :: (assignEach es X.env).map (·.2) := by rfl) : DGs cls X (e :: es) (gsCons g h) := by
  obtain ⟨t1, p1, h1⟩ := h1
  obtain ⟨t2, p2, h2⟩ := h2
  refine ⟨_, pgs_cons p1 p2 hs, fun vs σ H Q B ρ Y τ ws τ' R T r e q => ?_⟩
  cases r with
  | nil => cases e
  | cons r rr =>
    unfold gsCons at e
    dsimp only at e
    split at e
    · rename_i τ1 e1
      refine ⟨_, _, rfl, h1 _ σ H _ B ρ Y τ _ τ1 R T r e1 fun σ1 T1 => ?_⟩
      exact h2 _ σ1 H Q B ρ Y τ1 _ τ' R T1 rr e q
    · cases e
theorem PG.or {tg : Expr} {t u : TG} (h1 : PG X tg t) (h2 : PG X tg u) : PG X tg (fun v σ H Q => t v σ H Q ∨ u v σ H Q) :=
  ⟨fun pins s σ H v u' Q I r h => h.elim (fun h => h1.run pins s σ H v u' Q I r h) fun h => h2.run pins s σ H v u' Q I r h⟩
/-- (a, b, ..) = a tuple or a list -/
def gTp (n : Nat) (h : List MV.W → Ts → Ys → Option Ts) : MV.W → Ts → Ys → Option Ts := fun w τ Y => match sqOf Y w with
  | some ws => (match Nat.beq ws.length n with
    | true => h ws τ Y
    | false => none)
  | none => none
theorem g_tup {es : List Expr} {k n : Nat} {h : List MV.W → Ts → Ys → Option Ts} (hc : X.calm = true) (hs : DGs cls X es h) (hn : (assignEach es X.env).length = n := by rfl) (hst : (assignEach es X.env).findIdx? (·.1) = none := by rfl) : DG cls X (.Tuple es k pos) (gTp n h) := by
  obtain ⟨t, p, hs⟩ := hs
  refine ⟨_, PG.or (pg_tup hc p hn hst) (pg_unl hc p hn hst), fun v σ H Q B ρ Y τ w τ' R T r e q => ?_⟩
  unfold gTp at e
  split at e
  · rename_i ws e1
    split at e
    · rename_i e2
      obtain ⟨a, vs, h1, h2, _, h3⟩ := sqOf_at R r e1
      have hl : vs.length = n := by rw [Paired.length h3]; exact Nat.eq_of_beq_eq_true e2
      rcases h2 with h2 | h2
      · exact .inr ⟨a, vs, h1, h2, hl, hs vs σ H Q B ρ Y τ ws τ' R T h3 e q⟩
      · exact .inl ⟨a, vs, h1, h2, hl, hs vs σ H Q B ρ Y τ ws τ' R T h3 e q⟩
    · cases e
  · cases e
variable {e : Expr} {fe : Den}
/-- name = e -/
def sSet (i : Nat) (f : Den) : SDen := fun τ Y => (f τ Y).out τ fun w Y1 => .next (τ.set i (some w)) Y1
theorem s_set (i : Nat) {x : Str} {pos' : Pos} (hN : X.N.Nodup) (he : DE cls X W e fe) (hi : X.N[i]? = some x := by rfl) (hx : Loc X.env.scope x := by first | exact Or.inl rfl | exact Or.inr rfl) (hs : swapsWith e (some (.Name x pos')) pos.line X.env = pure false := by rfl)
    (hf : X.fn x = true ∨ X.env.scope.names.lookup x = some .local := by first | exact .inl rfl | exact .inr rfl) : DS cls X W (.Assign [.Name x pos'] e pos) (sSet i fe) := by
  obtain ⟨t, p, he⟩ := he
  refine ⟨_, ps_set hN hi hx p hs hf, fun σ H E B ρ Y τ R T h => ?_⟩
  refine he σ H _ B ρ Y τ R T (ReOk.imp ?_ (OutOk.expr T h))
  rintro v H1 ⟨B1, ρ1, w, Y1, A, r, h1⟩
  exact h1 _ B1 H1 ρ1 (Aft.refl A.rel) ((T.aft A).set r)
/-- target = e -/
def sAsg (g : MV.W → Ts → Ys → Option Ts) (f : Den) : SDen := fun τ Y => (f τ Y).out τ fun w Y1 => match g w τ Y1 with
  | some τ1 => .next τ1 Y1
  | none => .bad
theorem s_asg {tg : Expr} {g : MV.W → Ts → Ys → Option Ts} (he : DE cls X W e fe) (hg : DG cls X tg g) (hs : swapsWithSole [tg] e pos.line X.env = pure false := by rfl) (hw : swappedStores [tg] e X.env = pure none := by rfl)
    (h1 : (assignEach [tg] X.env).map (·.2) = [assign tg X.env] := by rfl) : DS cls X W (.Assign [tg] e pos) (sAsg g fe) := by
  obtain ⟨t, p, he⟩ := he
  obtain ⟨tg', pg, hg⟩ := hg
  refine ⟨_, ps_asg p pg hs hw h1, fun σ H E B ρ Y τ R T h => ?_⟩
  refine he σ H _ B ρ Y τ R T (ReOk.imp ?_ (OutOk.expr T h))
  rintro v H1 ⟨B1, ρ1, w, Y1, A, r, h1⟩
  split at h1
  · rename_i τ1 e1
    exact hg v σ H1 _ B1 ρ1 Y1 τ w τ1 A.rel (T.aft A) r e1 fun σ' T' => h1 σ' B1 H1 ρ1 (Aft.refl A.rel) T'
  · exact h1.elim
/-- a, b = x, y -/
def Ra.out (r : Ra) (τ : Ts) (k : List MV.W → Ys → Out) : Out := match r with
  | .ok w Y => k w Y
  | .exc c fs Y => .exc c fs τ Y
  | .bad => .bad
theorem OutOk.args {G : Gx} {σ : L2.St} {B H : Hp} {ρ : Nat → Addr} {Y : Ys} {E : Ends} {τ : Ts} {k : List MV.W → Ys → Out} (T : TR G B ρ Y.length σ τ) : ∀ {r : Ra}, OutOk G W σ B H ρ Y E (r.out τ k) →
    RaOk G W σ B H ρ Y (fun v H1 => ∃ B1 ρ1 w Y1, Aft G B H ρ Y B1 H1 ρ1 Y1 ∧ WReps G B1 ρ1 Y1.length v w ∧ OutOk G W σ B1 H1 ρ1 Y1 E (k w Y1)) r
  | .ok w Y1, h => fun v B1 H1 ρ1 A r => ⟨B1, ρ1, w, Y1, A, r, OutOk.behind A h⟩
  | .exc _ _ _, h => fun d B' H' ρ' A e => h d σ B' H' ρ' A (T.aft A) e
  | .bad, h => h
def sPar (i j : Nat) (f : ADen) : SDen := fun τ Y => (f τ Y).out τ fun ws Y1 => match ws with
  | [w1, w2] => .next ((τ.set i (some w1)).set j (some w2)) Y1
  | _ => .bad
theorem s_par (i j : Nat) {x y : Str} {a b : Expr} {f : ADen} {px py pt : Pos} {kt k2 pt2} (hc : X.calm = true) (hN : X.N.Nodup) (ha : DA cls X W [a, b] f) (hi : X.N[i]? = some x := by rfl) (hj : X.N[j]? = some y := by rfl) (hij : i ≠ j := by decide)
    (hx : X.env.scope.names.lookup x = some .local := by rfl) (hy : X.env.scope.names.lookup y = some .local := by rfl)
    (hw : swappedStores [.Tuple [.Name x px, .Name y py] kt pt] (.Tuple [a, b] k2 pt2) X.env = pure (some [x, y]) := by rfl)
    (hs : swapsWithSole [.Tuple [.Name x px, .Name y py] kt pt] (.Tuple [a, b] k2 pt2) pos.line X.env = pure false := by rfl) :
    DS cls X W (.Assign [.Tuple [.Name x px, .Name y py] kt pt] (.Tuple [a, b] k2 pt2) pos) (sPar i j f) := by
  obtain ⟨t, p, ha⟩ := ha
  refine ⟨_, ps_par hc hN hi hj hij hx hy p hw hs, fun σ H E B ρ Y τ R T h => ?_⟩
  refine ha σ H _ B ρ Y τ R T (RaOk.imp ?_ (OutOk.args T h))
  rintro vs H1 ⟨B1, ρ1, ws, Y1, A, r, h1⟩
  split at h1
  · cases r with
    | cons r1 r =>
      cases r with
      | cons r2 r =>
        cases r
        exact ⟨_, _, rfl, h1 _ B1 H1 ρ1 (Aft.refl A.rel) (((T.aft A).set r1).set r2)⟩
  · exact h1.elim
end
end MV
set_option Elab.async false
set_option linter.all false
set_option maxRecDepth 100000
set_option maxHeartbeats 4000000
namespace MV
open PySem PySem.Spec PyProof.Rows L2

/-! ### fields -/
/-- where the classes keep the field f -/
def FldOk (cls : Cl) (K : PySem.W.Frag) (f : Str) (ix : Nat → Option Nat) : Prop :=
  ∀ c i, ix c = some i → Cls K (cls.at_ c) ∧ NoAttr K (cls.at_ c) f ∧ (cls.fs c)[i]? = some f ∧ (cls.fs c).Nodup ∧ (cls.fs c).length < 1000
theorem zip_look : ∀ {fs : List Str} {vs : List V} {i : Nat} {f : Str} {v : V}, fs.Nodup → fs[i]? = some f → vs[i]? = some v → (fs.zip vs).lookup f = some v
  | [], _, _, _, _, _, h, _ => by simp at h
  | _ :: _, [], _, _, _, _, _, h => by simp at h
  | g :: fs, x :: vs, 0, f, v, _, h1, h2 => by
    simp at h1 h2
    subst h1 h2
    simp [List.lookup]
  | g :: fs, x :: vs, i + 1, f, v, nd, h1, h2 => by
    have nd' := List.nodup_cons.mp nd
    have h1' : fs[i]? = some f := by simpa using h1
    have hne : (f == g) = false := by
      refine beq_eq_false_iff_ne.mpr fun e => ?_
      subst e
      exact nd'.1 (List.mem_of_getElem? h1')
    simp only [List.zip_cons_cons, List.lookup, hne]
    exact zip_look nd'.2 h1' (by simpa using h2)
theorem zip_put : ∀ {fs : List Str} {vs : List V} {i : Nat} {f : Str} {v : V}, fs.Nodup → fs[i]? = some f → i < vs.length → putF f v (fs.zip vs) = fs.zip (vs.set i v)
  | [], _, _, _, _, _, h, _ => by simp at h
  | _ :: _, [], _, _, _, _, _, h => by simp at h
  | g :: fs, x :: vs, 0, f, v, _, h1, _ => by
    simp at h1
    subst h1
    simp [putF]
  | g :: fs, x :: vs, i + 1, f, v, nd, h1, h2 => by
    have nd' := List.nodup_cons.mp nd
    have h1' : fs[i]? = some f := by simpa using h1
    have hne : g ≠ f := fun e => by
      subst e
      exact nd'.1 (List.mem_of_getElem? h1')
    simp only [List.zip_cons_cons, List.set_cons_succ, putF, if_neg hne]
    rw [zip_put nd'.2 h1' (by simpa using h2)]
theorem zip_app : ∀ {fs : List Str} {vs : List V} {f : Str} {v : V}, fs.Nodup → fs[vs.length]? = some f → putF f v (fs.zip vs) = fs.zip (vs ++ [v])
  | [], _, _, _, _, h => by simp at h
  | g :: fs, [], f, v, _, h => by
    simp at h
    subst h
    simp [putF]
  | g :: fs, x :: vs, f, v, nd, h1 => by
    have nd' := List.nodup_cons.mp nd
    have h1' : fs[vs.length]? = some f := by simpa using h1
    have hne : g ≠ f := fun e => by
      subst e
      exact nd'.1 (List.mem_of_getElem? h1')
    simp only [List.zip_cons_cons, List.cons_append, putF, if_neg hne]
    rw [zip_app nd'.2 h1']
/-- e.f by values -/
def fldOf (ix : Nat → Option Nat) (w : W) (Y : Ys) : Re := match w with
  | .val (.ins c ds) => (match ix c with
    | some i => (match ds[i]? with
      | some d => .ok (.val d) Y
      | none => .bad)
    | none => .bad)
  | .ref n => (match Y[n]? with
    | some (.ins c ws) => (match ix c with
      | some i => (match ws[i]? with
        | some u => .ok u Y
        | none => .bad)
      | none => .bad)
    | _ => .bad)
  | _ => .bad
section
variable {cls : Cl} {X : Cx} {W : WX} {pos : Pos}
theorem fldOf_at {B H : Hp} {ρ : Nat → Addr} {Y : Ys} {f : Str} {ix : Nat → Option Nat} (hf : FldOk cls X.K f ix) (R : Rel (gx cls X) B H ρ Y) {x : V} {w u : MV.W} {Y' : Ys} (a : WRep (gx cls X) B ρ Y.length x w) (e : fldOf ix w Y = .ok u Y') :
    Y' = Y ∧ ∃ p C dx fs v, x = .ref p ∧ H p = some (.ins C dx fs) ∧ Cls X.K C ∧ NoAttr X.K C f ∧ fs.lookup f = some v ∧ WRep (gx cls X) B ρ Y.length v u := by
  unfold fldOf at e
  split at e
  · split at e
    · rename_i c ds i hi
      split at e
      · rename_i d hd
        cases e
        obtain ⟨k1, k2, k3, k4, k5⟩ := hf _ _ hi
        cases a with
        | ins h hl r =>
          obtain ⟨v, h1, h2⟩ := r.get hd
          exact ⟨rfl, _, _, _, _, v, rfl, R.ins h, k1, k2, zip_look k4 k3 h1, h2⟩
      · cases e
    · cases e
  · rename_i n
    split at e
    · rename_i c ws hn
      split at e
      · rename_i i hi
        split at e
        · rename_i u' hu
          cases e
          obtain ⟨k1, k2, k3, k4, k5⟩ := hf _ _ hi
          obtain ⟨a1, a2⟩ := a
          obtain ⟨dx, vs, h1, h2, h3⟩ := R.obj n _ hn
          obtain ⟨v, h4, h5⟩ := Paired.get h3 hu
          exact ⟨rfl, _, _, _, _, v, a2, h1, k1, k2, zip_look k4 k3 h4, h5⟩
        · cases e
      · cases e
    · cases e
  · cases e
def dFld (ix : Nat → Option Nat) (f : Den) : Den := fun τ Y => (f τ Y).bind fun w Y1 => fldOf ix w Y1
theorem fldOf_cases (ix : Nat → Option Nat) (w : MV.W) (Y : Ys) : (∃ u, fldOf ix w Y = .ok u Y) ∨ fldOf ix w Y = .bad := by
  unfold fldOf
  repeat' (first | exact .inr rfl | exact .inl ⟨_, rfl⟩ | split)
theorem d_fld {e : Expr} {f : Str} {fe : Den} {ix : Nat → Option Nat} (hf : FldOk cls X.K f ix) (he : DE cls X W e fe) (hb : attributeBase e f X.env (eval e X.env) = eval e X.env := by rfl) : DE cls X W (.Attribute e f pos) (dFld ix fe) := by
  obtain ⟨t, p, he⟩ := he
  refine ⟨_, pe_fld p hb, fun σ H Q B ρ Y τ R T h => ?_⟩
  refine he σ H _ B ρ Y τ R T (ReOk.imp ?_ (ReOk.bound h))
  rintro x H1 ⟨B1, ρ1, w, Y1, A, r, h1⟩
  rcases fldOf_cases ix w Y1 with ⟨u, e⟩ | e
  · obtain ⟨-, p, C, dx, fs, v, e1, e2, e3, e4, e5, e6⟩ := fldOf_at hf A.rel r e
    rw [e] at h1
    exact ⟨p, C, dx, fs, v, e1, e2, e3, e4, e5, h1 v B1 H1 ρ1 (Aft.refl A.rel) e6⟩
  · rw [e] at h1
    exact h1.elim
/-- w.f = v: the store behind it -/
def putFld (ix : Nat → Option Nat) (w v : MV.W) (Y : Ys) : Option Ys := match w with
  | .ref n => (match Y[n]? with
    | some (.ins c ws) => (match ix c with
      | some i => (match Nat.blt i ws.length with
        | true => some (Y.set n (.ins c (ws.set i v)))
        | false => (match Nat.beq i ws.length with
          | true => some (Y.set n (.ins c (ws ++ [v])))
          | false => none))
      | none => none)
    | _ => none)
  | _ => none
theorem Paired.set {α β : Type} {F : α → β → Prop} {a : α} {b : β} (h : F a b) : ∀ {l₁ : List α} {l₂ : List β} (i : Nat), Paired F l₁ l₂ → Paired F (l₁.set i a) (l₂.set i b)
  | _, _, _, .nil => by simpa using Paired.nil
  | _, _, 0, .cons _ t => .cons h t
  | _, _, i + 1, .cons r t => .cons r (Paired.set h i t)
theorem putFld_at {B H : Hp} {ρ : Nat → Addr} {Y Y' : Ys} {f : Str} {ix : Nat → Option Nat} (hf : FldOk cls X.K f ix) (R : Rel (gx cls X) B H ρ Y) {x y : V} {w v : MV.W} (a : WRep (gx cls X) B ρ Y.length x w) (b : WRep (gx cls X) B ρ Y.length y v) (e : putFld ix w v Y = some Y') :
    ∃ p C dx fs, x = .ref p ∧ H p = some (.ins C dx fs) ∧ Cls X.K C ∧ NoAttr X.K C f ∧ fs.length < 1000 ∧ Aft (gx cls X) B H ρ Y B (upd H p (.ins C dx (putF f y fs))) ρ Y' := by
  unfold putFld at e
  split at e
  · rename_i n
    split at e
    · rename_i c ws hn
      split at e
      · rename_i i hi
        obtain ⟨k1, k2, k3, k4, k5⟩ := hf _ _ hi
        obtain ⟨a1, a2⟩ := a
        obtain ⟨dx, vs, h1, h2, h3⟩ := R.obj n _ hn
        have hl : vs.length = ws.length := Paired.length h3
        have hz : ((cls.fs c).zip vs).length < 1000 := by
          rw [List.length_zip]
          omega
        refine ⟨ρ n, _, dx, _, a2, h1, k1, k2, hz, ?_⟩
        have hlive : Live Y n := ⟨_, hn, fun z => by cases z⟩
        split at e
        · rename_i hlt
          cases e
          have hlt' : i < vs.length := by
            rw [hl]
            exact Nat.blt_eq.mp hlt |> id
          refine Aft.put R hlive ?_
          rw [show putF f y ((cls.fs c).zip vs) = (cls.fs c).zip (vs.set i y) from zip_put k4 k3 hlt']
          exact ⟨dx, _, rfl, by rw [List.length_set]; exact h2, Paired.set b i h3⟩
        · split at e
          · rename_i heq
            cases e
            have heq' : i = ws.length := Nat.eq_of_beq_eq_true heq
            have hi' : (cls.fs c)[vs.length]? = some f := by
              rw [hl, ← heq']
              exact k3
            refine Aft.put R hlive ?_
            rw [show putF f y ((cls.fs c).zip vs) = (cls.fs c).zip (vs ++ [y]) from zip_app k4 hi']
            refine ⟨dx, _, rfl, ?_, Paired.app h3 (.cons b .nil)⟩
            rw [List.length_append]
            exact (List.getElem?_eq_some_iff.mp hi').1
          · cases e
      · cases e
    · cases e
  · cases e
def Out.ofY (o : Option Ys) (τ : Ts) : Out := match o with
  | some Y => .next τ Y
  | none => .bad
/-- o.f = e -/
def sFldS (ix : Nat → Option Nat) (fo fe : Den) : SDen := fun τ Y => (fe τ Y).out τ fun v Y1 => (fo τ Y1).out τ fun w Y2 => Out.ofY (putFld ix w v Y2) τ
theorem s_fld {o e : Expr} {f : Str} {fo fe : Den} {ix : Nat → Option Nat} {pos' : Pos} (hf : FldOk cls X.K f ix) (ho : DE cls X W o fo) (he : DE cls X W e fe) (hs : swapsWith e (some (.Attribute o f pos')) pos.line X.env = pure false := by rfl) :
    DS cls X W (.Assign [.Attribute o f pos'] e pos) (sFldS ix fo fe) := by
  obtain ⟨t, p, he⟩ := he
  obtain ⟨u, q, ho⟩ := ho
  refine ⟨_, ps_fld q p hs, fun σ H E B ρ Y τ R T h => ?_⟩
  refine he σ H _ B ρ Y τ R T (ReOk.imp ?_ (OutOk.expr T h))
  rintro y H1 ⟨B1, ρ1, v, Y1, A1, r1, h1⟩
  refine ho σ H1 _ B1 ρ1 Y1 τ A1.rel (T.aft A1) (ReOk.imp ?_ (OutOk.expr (T.aft A1) h1))
  rintro x H2 ⟨B2, ρ2, w, Y2, A2, r2, h2⟩
  cases e1 : putFld ix w v Y2 with
  | none =>
    rw [e1] at h2
    exact h2.elim
  | some Y3 =>
    rw [e1] at h2
    obtain ⟨p, C, dx, fs, k1, k2, k3, k4, k5, A3⟩ := putFld_at hf A2.rel r2 (WRep.aft A2 r1) e1
    exact ⟨p, C, dx, fs, k1, k2, k3, k4, k5, h2 σ B2 _ ρ2 A3 (((T.aft A1).aft A2).aft A3)⟩
end

/-! ### c[i] = v -/
def putIt (w i v : W) (Y : Ys) : Option Ys := match w with
  | .ref n => (match Y[n]? with
    | some (.lst ws) => (match i with
      | .val (.int k) => (match plc ws.length k with
        | some j => some (Y.set n (.lst (ws.set j v)))
        | none => none)
      | _ => none)
    | some (.dK kws) => (match keyOf i, lines (kws.length + 1) with
      | some k, true => some (Y.set n (.dK (kPut kEq kws k v)))
      | _, _ => none)
    | some (.dT kws) => (match keyTOf i, lines (kws.length + 1) with
      | some k, true => some (Y.set n (.dT (kPut ksEq kws k v)))
      | _, _ => none)
    | _ => none)
  | _ => none
def rPut : TSet := fun o i v H Q => rSetL o i v H Q ∨ ∃ a H', o = .ref a ∧ DPut H a i v H' ∧ Q H'
section
variable {cls : Cl} {X : Cx} {W : WX} {pos : Pos}
theorem set_put (hu : X.A.units + 1 < cLine) : PSet X rPut := by
  intro pins s σ H o i v ov iv u Q I ro ri rv h
  rcases h with h | ⟨a, H', e, g, q⟩
  · exact set_list pins s σ H o i v ov iv u Q I ro ri rv h
  · subst e
    cases ro
    exact d_setItem hu I g ri rv fun s4 I4 => ⟨H', I4, q⟩
theorem putIt_at {G : Gx} {B H : Hp} {ρ : Nat → Addr} {Y Y' : Ys} (R : Rel G B H ρ Y) {x y z : V} {w i v : MV.W} (a : WRep G B ρ Y.length x w) (b : WRep G B ρ Y.length y i) (c : WRep G B ρ Y.length z v) (e : putIt w i v Y = some Y') {Q : Hp → Prop}
    (q : ∀ H', Aft G B H ρ Y B H' ρ Y' → Q H') : rPut x y z H Q := by
  unfold putIt at e
  split at e
  · rename_i n
    obtain ⟨a1, a2⟩ := a
    split at e
    · rename_i ws hn
      have hlive : Live Y n := ⟨_, hn, fun z => by cases z⟩
      obtain ⟨vs, h1, h2, h3⟩ := R.obj n _ hn
      split at e
      · rename_i k
        split at e
        · rename_i j hj
          cases e
          refine .inl ⟨ρ n, vs, k, j, a2, rep_int b, h1, ?_, q _ (Aft.put R hlive ⟨_, rfl, by rw [List.length_set]; exact h2, Paired.set c j h3⟩)⟩
          rw [← plc_ixN, Paired.length h3]
          exact hj
        · cases e
      · cases e
    · rename_i kws hn
      have hlive : Live Y n := ⟨_, hn, fun z => by cases z⟩
      obtain ⟨kvs, h1, h2⟩ := R.obj n _ hn
      split at e
      · rename_i k hk hl
        cases e
        have hz : kvs.length < sizeLine := by
          rw [Paired.length h2]
          exact lines_ok hl
        have ey := keyOf_at b hk
        subst ey
        exact .inr ⟨ρ n, _, a2, DPut.k h1 hz, q _ (Aft.put R hlive ⟨_, rfl, kPut_rel (eq := kEq) kEq_iff c k h2⟩)⟩
      · cases e
    · rename_i kws hn
      have hlive : Live Y n := ⟨_, hn, fun z => by cases z⟩
      obtain ⟨kvs, h1, h2⟩ := R.obj n _ hn
      split at e
      · rename_i k hk hl
        cases e
        have hz : kvs.length < sizeLine := by
          rw [Paired.length h2]
          exact lines_ok hl
        obtain ⟨p, ey, hp⟩ := keyTOf_at R b hk
        subst ey
        exact .inr ⟨ρ n, _, a2, DPut.t h1 hp hz, q _ (Aft.put R hlive ⟨_, rfl, kPut_rel (eq := ksEq) ksEq_iff c k h2⟩)⟩
      · cases e
    · cases e
  · cases e
/-- o[i] = e -/
def sPut (fo fi fe : Den) : SDen := fun τ Y => (fe τ Y).out τ fun v Y1 => (fo τ Y1).out τ fun w Y2 => (fi τ Y2).out τ fun i Y3 => Out.ofY (putIt w i v Y3) τ
theorem s_put {o i e : Expr} {fo fi fe : Den} {pos' : Pos} (hu : X.A.units + 1 < cLine) (ho : DE cls X W o fo) (hi : DE cls X W i fi) (he : DE cls X W e fe)
    (hs : swapsWithSole [.Subscript o i pos'] e pos.line X.env = pure false := by rfl) (hw : swappedStores [.Subscript o i pos'] e X.env = pure none := by rfl)
    (ha : ∀ v, assign (.Subscript o i pos') X.env v = (do
      let ov ← holding [v] (eval o X.env)
      let iv ← holding [v, ov] (eval i X.env)
      standAt pos'
      holding [v, ov, iv] (setItem ov iv v)
      release [v, ov, iv] []) := by intro _; rfl)
    (h1 : (assignEach [.Subscript o i pos'] X.env).map (·.2) = [assign (.Subscript o i pos') X.env] := by rfl) : DS cls X W (.Assign [.Subscript o i pos'] e pos) (sPut fo fi fe) := by
  obtain ⟨te, pe, he⟩ := he
  obtain ⟨to, po, ho⟩ := ho
  obtain ⟨ti, pi, hi⟩ := hi
  refine ⟨_, ps_asg pe (pg_sub po pi (set_put hu) ha) hs hw h1, fun σ H E B ρ Y τ R T h => ?_⟩
  refine he σ H _ B ρ Y τ R T (ReOk.imp ?_ (OutOk.expr T h))
  rintro z H1 ⟨B1, ρ1, v, Y1, A1, r1, h1⟩
  refine ho σ H1 _ B1 ρ1 Y1 τ A1.rel (T.aft A1) (ReOk.imp ?_ (OutOk.expr (T.aft A1) h1))
  rintro x H2 ⟨B2, ρ2, w, Y2, A2, r2, h2⟩
  refine hi σ H2 _ B2 ρ2 Y2 τ A2.rel ((T.aft A1).aft A2) (ReOk.imp ?_ (OutOk.expr ((T.aft A1).aft A2) h2))
  rintro y H3 ⟨B3, ρ3, i', Y3, A3, r3, h3⟩
  cases e1 : putIt w i' v Y3 with
  | none =>
    rw [e1] at h3
    exact h3.elim
  | some Y4 =>
    rw [e1] at h3
    exact putIt_at A3.rel (WRep.aft A3 r2) r3 (WRep.aft A3 (WRep.aft A2 r1)) e1 fun H' A4 => h3 σ B3 _ ρ3 A4 ((((T.aft A1).aft A2).aft A3).aft A4)
end
end MV
set_option Elab.async false
set_option linter.all false
set_option maxRecDepth 100000
set_option maxHeartbeats 4000000
namespace MV
open PySem PySem.Spec PyProof.Rows L2

/-! ### op= on numbers -/
/-- the int of two ints -/
def onI (f : Int → Int → Int) (a b : W) : Option W := match a, b with
  | .val (.int i), .val (.int j) => some (.val (.int (f i j)))
  | _, _ => none
theorem onI_at {f : Int → Int → Int} {G : Gx} {B : Hp} {ρ : Nat → Addr} {n : Nat} {x y : V} {a b c : W} (h1 : WRep G B ρ n x a) (h2 : WRep G B ρ n y b) (e : onI f a b = some c) : ∃ i j, x = .int i ∧ y = .int j ∧ c = .val (.int (f i j)) := by
  unfold onI at e
  split at e
  · cases e
    exact ⟨_, _, rep_int h1, rep_int h2, rfl⟩
  · cases e
def addI (i j : Int) : Int := i + j
def subI (i j : Int) : Int := i - j
section
variable {cls : Cl} {X : Cx} {W : WX} {pos tpos : Pos} {e o i : Expr} {fe fo fi : Den}
def sAug (k : Nat) (f : Int → Int → Int) (fe : Den) : SDen := fun τ Y => match τ[k]? with
  | some (some a) => (fe τ Y).out τ fun b Y1 => (match onI f a b with
    | some c => .next (τ.set k (some c)) Y1
    | none => .bad)
  | _ => .bad
theorem s_augF {op : Operator} {f : Int → Int → Int} (k : Nat) {x : Str} {pos' : Pos} (hN : X.N.Nodup) (he : DE cls X W e fe) (hop : PIp X op (ipI f)) (hi : X.N[k]? = some x := by rfl) (hx : Loc X.env.scope x := by first | exact Or.inl rfl | exact Or.inr rfl)
    (hf : X.fn x = true ∨ X.env.scope.names.lookup x = some .local := by first | exact .inl rfl | exact .inr rfl) : DS cls X W (.AugAssign (.Name x pos') op e pos) (sAug k f fe) := by
  obtain ⟨te, pe, he⟩ := he
  refine ⟨_, ps_aug hN hi hx pe hop hf, fun σ H E B ρ Y τ R T h => ?_⟩
  unfold sAug at h
  split at h
  · rename_i a ha
    obtain ⟨v, h1, h2⟩ := T.at_ k a ha
    refine ⟨v, h1, he σ H _ B ρ Y τ R T (ReOk.imp ?_ (OutOk.expr T h))⟩
    rintro y H1 ⟨B1, ρ1, b, Y1, A1, r1, h3⟩
    split at h3
    · rename_i c hc
      obtain ⟨p, q, e1, e2, e3⟩ := onI_at (WRep.aft A1 h2) r1 hc
      subst e3
      exact ⟨p, q, e1, e2, h3 _ B1 H1 ρ1 (Aft.refl A1.rel) ((T.aft A1).set (.int _))⟩
    · exact h3.elim
  · exact h.elim
theorem s_augAdd (k : Nat) {x : Str} {pos' : Pos} (hN : X.N.Nodup) (he : DE cls X W e fe) (hi : X.N[k]? = some x := by rfl) (hx : Loc X.env.scope x := by first | exact Or.inl rfl | exact Or.inr rfl)
    (hf : X.fn x = true ∨ X.env.scope.names.lookup x = some .local := by first | exact .inl rfl | exact .inr rfl) : DS cls X W (.AugAssign (.Name x pos') .Add e pos) (sAug k addI fe) := s_augF k hN he ip_add hi hx hf
theorem s_augSub (k : Nat) {x : Str} {pos' : Pos} (hN : X.N.Nodup) (he : DE cls X W e fe) (hi : X.N[k]? = some x := by rfl) (hx : Loc X.env.scope x := by first | exact Or.inl rfl | exact Or.inr rfl)
    (hf : X.fn x = true ∨ X.env.scope.names.lookup x = some .local := by first | exact .inl rfl | exact .inr rfl) : DS cls X W (.AugAssign (.Name x pos') .Sub e pos) (sAug k subI fe) := s_augF k hN he ip_sub hi hx hf
def rII (f : Int → Int → Int) : V → V → Hp → VK → Prop := fun x y H Q => ∃ i j, x = .int i ∧ y = .int j ∧ Q (.int (f i j)) H
/-- a dict's entry -/
def putD (w i v : MV.W) (Y : Ys) : Option Ys := match w with
  | .ref n => (match Y[n]? with
    | some (.dK kws) => (match keyOf i, lines (kws.length + 1) with
      | some k, true => some (Y.set n (.dK (kPut kEq kws k v)))
      | _, _ => none)
    | some (.dT kws) => (match keyTOf i, lines (kws.length + 1) with
      | some k, true => some (Y.set n (.dT (kPut ksEq kws k v)))
      | _, _ => none)
    | _ => none)
  | _ => none
theorem putD_at {G : Gx} {B H : Hp} {ρ : Nat → Addr} {Y Y' : Ys} (R : Rel G B H ρ Y) {x y z : V} {w i v : MV.W} (a : WRep G B ρ Y.length x w) (b : WRep G B ρ Y.length y i) (c : WRep G B ρ Y.length z v) (e : putD w i v Y = some Y') {p : Addr} (hx : x = .ref p) :
    ∃ H', DPut H p y z H' ∧ Aft G B H ρ Y B H' ρ Y' := by
  unfold putD at e
  split at e
  · rename_i n
    obtain ⟨a1, a2⟩ := a
    rw [hx] at a2
    cases a2
    split at e
    · rename_i kws hn
      have hlive : Live Y n := ⟨_, hn, fun z => by cases z⟩
      obtain ⟨kvs, h1, h2⟩ := R.obj n _ hn
      split at e
      · rename_i k hk hl
        cases e
        have hz : kvs.length < sizeLine := by
          rw [Paired.length h2]
          exact lines_ok hl
        have ey := keyOf_at b hk
        subst ey
        exact ⟨_, DPut.k h1 hz, Aft.put R hlive ⟨_, rfl, kPut_rel (eq := kEq) kEq_iff c k h2⟩⟩
      · cases e
    · rename_i kws hn
      have hlive : Live Y n := ⟨_, hn, fun z => by cases z⟩
      obtain ⟨kvs, h1, h2⟩ := R.obj n _ hn
      split at e
      · rename_i k hk hl
        cases e
        have hz : kvs.length < sizeLine := by
          rw [Paired.length h2]
          exact lines_ok hl
        obtain ⟨p, ey, hp⟩ := keyTOf_at R b hk
        subst ey
        exact ⟨_, DPut.t h1 hp hz, Aft.put R hlive ⟨_, rfl, kPut_rel (eq := ksEq) ksEq_iff c k h2⟩⟩
      · cases e
    · cases e
  · cases e
/-- d[i] op= e -/
def sAugD (f : Int → Int → Int) (fo fi fe : Den) : SDen := fun τ Y => (fo τ Y).out τ fun w Y1 => (fi τ Y1).out τ fun k Y2 => match dLook Y2 w k with
  | some (some a) => (fe τ Y2).out τ fun b Y3 => (match onI f a b with
    | some c => Out.ofY (putD w k c Y3) τ
    | none => .bad)
  | _ => .bad
theorem s_daugF {op : Operator} {f : Int → Int → Int} (hu : X.A.units + 1 < cLine) (ho : DE cls X W o fo) (hi : DE cls X W i fi) (he : DE cls X W e fe) (hop : InOp X op (rII f))
    (ha : ∀ ov iv new, augStore i ov iv new = (do holding [new, ov, iv] (setItem ov iv new); release [new, ov, iv] []; pure .next) := by intros; rfl) : DS cls X W (.AugAssign (.Subscript o i tpos) op e pos) (sAugD f fo fi fe) := by
  obtain ⟨te, pe, he⟩ := he
  obtain ⟨to, po, ho⟩ := ho
  obtain ⟨ti, pi, hi⟩ := hi
  refine ⟨_, ps_daug hu po pi pe hop ha, fun σ H E B ρ Y τ R T h => ?_⟩
  refine ho σ H _ B ρ Y τ R T (ReOk.imp ?_ (OutOk.expr T h))
  rintro x H1 ⟨B1, ρ1, w, Y1, A1, r1, h1⟩
  refine hi σ H1 _ B1 ρ1 Y1 τ A1.rel (T.aft A1) (ReOk.imp ?_ (OutOk.expr (T.aft A1) h1))
  rintro y H2 ⟨B2, ρ2, k, Y2, A2, r2, h2⟩
  split at h2
  · rename_i a hl
    obtain ⟨p, ov, hx, g, hr⟩ := dLook_at A2.rel (WRep.aft A2 r1) r2 hl
    cases ov with
    | none => exact hr.elim
    | some v =>
      refine ⟨p, v, hx, g, he σ H2 _ B2 ρ2 Y2 τ A2.rel ((T.aft A1).aft A2) (ReOk.imp ?_ (OutOk.expr ((T.aft A1).aft A2) h2))⟩
      rintro y2 H3 ⟨B3, ρ3, b, Y3, A3, r3, h3⟩
      have hr' : WRep (gx cls X) B3 ρ3 Y3.length v a := WRep.aft A3 hr
      split at h3
      · rename_i c hc
        obtain ⟨m, n, e1, e2, e3⟩ := onI_at hr' r3 hc
        subst e3
        refine ⟨m, n, e1, e2, ?_⟩
        cases e4 : putD w k (.val (.int (f m n))) Y3 with
        | none =>
          rw [e4] at h3
          exact h3.elim
        | some Y4 =>
          rw [e4] at h3
          obtain ⟨H', q2, q3⟩ := putD_at A3.rel (WRep.aft A3 (WRep.aft A2 r1)) (WRep.aft A3 r2) (z := .int (f m n)) (v := .val (.int (f m n))) (.int _) e4 hx
          exact ⟨H', q2, h3 σ B3 _ ρ3 q3 ((((T.aft A1).aft A2).aft A3).aft q3)⟩
      · exact h3.elim
  · exact h2.elim
theorem s_daugAdd (hu : X.A.units + 1 < cLine) (ho : DE cls X W o fo) (hi : DE cls X W i fi) (he : DE cls X W e fe)
    (ha : ∀ ov iv new, augStore i ov iv new = (do holding [new, ov, iv] (setItem ov iv new); release [new, ov, iv] []; pure .next) := by intros; rfl) : DS cls X W (.AugAssign (.Subscript o i tpos) .Add e pos) (sAugD addI fo fi fe) := s_daugF (f := addI) hu ho hi he in_add ha
theorem s_daugSub (hu : X.A.units + 1 < cLine) (ho : DE cls X W o fo) (hi : DE cls X W i fi) (he : DE cls X W e fe)
    (ha : ∀ ov iv new, augStore i ov iv new = (do holding [new, ov, iv] (setItem ov iv new); release [new, ov, iv] []; pure .next) := by intros; rfl) : DS cls X W (.AugAssign (.Subscript o i tpos) .Sub e pos) (sAugD subI fo fi fe) := s_daugF (f := subI) hu ho hi he in_sub ha
/-- o.f op= e -/
def insOf (w : MV.W) (Y : Ys) : Option Nat := match w with
  | .ref n => (match Y[n]? with
    | some (.ins c _) => some c
    | _ => none)
  | _ => none
theorem insOf_at {G : Gx} {B H : Hp} {ρ : Nat → Addr} {Y : Ys} (R : Rel G B H ρ Y) {p : Addr} {w : MV.W} {c : Nat} (a : WRep G B ρ Y.length (.ref p) w) (e : insOf w Y = some c) : ∃ dx fs, H p = some (.ins (G.cls c) dx fs) := by
  unfold insOf at e
  split at e
  · rename_i n
    split at e
    · rename_i c' ws hn
      cases e
      obtain ⟨dx, vs, h1, _⟩ := R.obj n _ hn
      obtain ⟨_, a2⟩ := a
      cases a2
      exact ⟨dx, _, h1⟩
    · cases e
  · cases e
def sameN (a b : Option Nat) : Bool := match a, b with
  | some i, some j => Nat.beq i j
  | _, _ => false
theorem sameN_at {a b : Option Nat} (h : sameN a b = true) : ∃ c, a = some c ∧ b = some c := by
  unfold sameN at h
  split at h
  · have := Nat.eq_of_beq_eq_true h
    subst this
    exact ⟨_, rfl, rfl⟩
  · cases h
def sAugF (ix : Nat → Option Nat) (f : Int → Int → Int) (fo fe : Den) : SDen := fun τ Y => (fo τ Y).out τ fun w Y1 => match fldOf ix w Y1 with
  | .ok a _ => (fe τ Y1).out τ fun b Y2 => (match onI f a b, sameN (insOf w Y1) (insOf w Y2) with
    | some c, true => Out.ofY (putFld ix w c Y2) τ
    | _, _ => .bad)
  | _ => .bad
theorem s_fldaugF {op : Operator} {f : Int → Int → Int} {nm : Str} {ix : Nat → Option Nat} (hf : FldOk cls X.K nm ix) (ho : DE cls X W o fo) (he : DE cls X W e fe) (hop : InOp X op (rII f)) : DS cls X W (.AugAssign (.Attribute o nm tpos) op e pos) (sAugF ix f fo fe) := by
  obtain ⟨te, pe, he⟩ := he
  obtain ⟨to, po, ho⟩ := ho
  refine ⟨_, ps_fldaug po pe hop, fun σ H E B ρ Y τ R T h => ?_⟩
  refine ho σ H _ B ρ Y τ R T (ReOk.imp ?_ (OutOk.expr T h))
  rintro x H1 ⟨B1, ρ1, w, Y1, A1, r1, h1⟩
  split at h1
  · rename_i a Y1' hl
    obtain ⟨-, p, C, dx, fs, v, k1, k2, k3, k4, k5, k6⟩ := fldOf_at hf A1.rel r1 hl
    refine ⟨p, C, dx, fs, v, k1, k2, k3, k4, k5, he σ H1 _ B1 ρ1 Y1 τ A1.rel (T.aft A1) (ReOk.imp ?_ (OutOk.expr (T.aft A1) h1))⟩
    rintro y H2 ⟨B2, ρ2, b, Y2, A2, r2, h2⟩
    split at h2
    · rename_i c hc hsame
      obtain ⟨m, n, e1, e2, e3⟩ := onI_at (WRep.aft A2 k6) r2 hc
      subst e3
      refine ⟨m, n, e1, e2, ?_⟩
      cases e4 : putFld ix w (.val (.int (f m n))) Y2 with
      | none =>
        rw [e4] at h2
        exact h2.elim
      | some Y3 =>
        rw [e4] at h2
        have r1' := WRep.aft A2 r1
        obtain ⟨p', C', dx', fs', j1, j2, j3, j4, j5, A3⟩ := putFld_at hf A2.rel r1' (y := .int (f m n)) (v := .val (.int (f m n))) (.int _) e4
        rw [k1] at j1
        cases j1
        obtain ⟨cc, z1, z2⟩ := sameN_at hsame
        rw [k1] at r1 r1'
        obtain ⟨_, _, y1⟩ := insOf_at A1.rel r1 z1
        obtain ⟨_, _, y2⟩ := insOf_at A2.rel r1' z2
        rw [k2] at y1
        rw [j2] at y2
        cases y1
        cases y2
        exact ⟨dx', fs', j2, j5, h2 σ B2 _ ρ2 A3 (((T.aft A1).aft A2).aft A3)⟩
    · exact h2.elim
  · exact h1.elim
theorem s_fldaugAdd {nm : Str} {ix : Nat → Option Nat} (hf : FldOk cls X.K nm ix) (ho : DE cls X W o fo) (he : DE cls X W e fe) : DS cls X W (.AugAssign (.Attribute o nm tpos) .Add e pos) (sAugF ix addI fo fe) := s_fldaugF (f := addI) hf ho he in_add
end
end MV
set_option Elab.async false
set_option linter.all false
set_option maxRecDepth 100000
set_option maxHeartbeats 4000000
namespace MV
open PySem PySem.Spec PyProof.Rows L2

/-! ### a dict is locked while it is walked -/
/-- none, or a dict of the data that is locked -/
abbrev Lk := Option (Addr × Obj × HO)
def unlk (L : Lk) (H : Hp) : Hp := match L with
  | none => H
  | some (a, _, u) => upd H a u
def LkOk (X : Cx) (L : Lk) (B H : Hp) : Prop := match L with
  | none => True
  | some (a, od, u) => H a = some (.frz od u) ∧ B a = some u ∧ locks u ∧ ∀ o' u', X.H_0 a ≠ some (.frz o' u')
theorem Rel.lk {G : Gx} {X : Cx} {B H : Hp} {ρ : Nat → Addr} {Y : Ys} {L : Lk} (R : Rel G B (unlk L H) ρ Y) (k : LkOk X L B H) : Rel G B H ρ Y := by
  cases L with
  | none => exact R
  | some p =>
    obtain ⟨a, od, u⟩ := p
    obtain ⟨k1, k2, k3, k4⟩ := k
    refine ⟨fun b o e => ?_, R.non, fun n yo e => ?_, R.inj, R.tabs.to (fun b o e z => ?_) fun _ _ h => h⟩
    · by_cases hb : b = a
      · subst hb
        rw [k2] at e
        cases e
        exact .inr ⟨k3, od, k1⟩
      · have := R.sub b o e
        unfold unlk at this
        dsimp only at this
        rw [upd_ne hb] at this
        exact this
    · by_cases hd : yo = .dead
      · subst hd
        trivial
      · have h := R.obj n yo e
        have hn := R.non n ⟨yo, e, hd⟩
        unfold unlk at h
        dsimp only at h
        rw [upd_ne (fun z => by rw [z, k2] at hn; cases hn)] at h
        exact h
    · have e' : upd H a u b = some o := e
      by_cases hb : b = a
      · subst hb
        rw [upd_same] at e'
        cases e'
        cases u <;> first | exact k3.elim | exact z.elim
      · rw [upd_ne hb] at e'
        exact e'
/-- from a locked one to a locked one, and so from the open one to the open one -/
theorem Aft.unlk {G : Gx} {X : Cx} {B H B' H' : Hp} {ρ ρ' : Nat → Addr} {Y Y' : Ys} {L : Lk} (A : Aft G B H ρ Y B' H' ρ' Y') (k : LkOk X L B H) (R : Rel G B (unlk L H) ρ Y) : Aft G B (MV.unlk L H) ρ Y B' (MV.unlk L H') ρ' Y' ∧ LkOk X L B' H' := by
  cases L with
  | none => exact ⟨A, trivial⟩
  | some p =>
    obtain ⟨a, od, u⟩ := p
    obtain ⟨k1, k2, k3, k4⟩ := k
    have hnl : ∀ n, Live Y n → ρ n ≠ a := fun n l z => by
      have := R.non n l
      rw [z, k2] at this
      cases this
    have hB' : B' a = some u := A.le a u k2
    have hnl' : ∀ n, Live Y' n → ρ' n ≠ a := fun n l z => by
      have := A.rel.non n l
      rw [z, hB'] at this
      cases this
    have hH' : H' a = some (.frz od u) := A.frame a _ k1 hnl nofun
    refine ⟨⟨⟨fun b o e => ?_, A.rel.non, fun n yo e => ?_, A.rel.inj, A.rel.tabs.upd (fun u e z => by rw [hH'] at e; cases e; exact z) fun _ _ h => h⟩, A.le, fun b o e h ht => ?_, fun b o e h => ?_, A.adr, fun n l => ?_, A.len, fun b h => ?_⟩, hH', hB', k3, k4⟩
    · show upd H' a u b = _ ∨ _
      by_cases hb : b = a
      · subst hb
        rw [hB'] at e
        cases e
        exact .inl upd_same
      · have := A.rel.sub b o e
        show upd H' a u b = some o ∨ locks o ∧ ∃ ob, upd H' a u b = some (.frz ob o)
        rw [upd_ne hb]
        exact this
    · by_cases hd : yo = .dead
      · subst hd
        trivial
      · show ObjR G B' ρ' Y'.length (upd H' a u (ρ' n)) yo
        rw [upd_ne (hnl' n ⟨yo, e, hd⟩)]
        exact A.rel.obj n yo e
    · show upd H' a u b = some o
      have e' : upd H a u b = some o := e
      by_cases hb : b = a
      · subst hb
        rw [upd_same] at e' ⊢
        exact e'
      · rw [upd_ne hb] at e' ⊢
        exact A.frame b o e' h ht
    · have hb : b ≠ a := fun z => by
        rw [z, k2] at h
        cases h
      show upd H a u b = none ∨ _ ∨ ∃ v, upd H a u b = some v ∧ Sn v
      rw [upd_ne hb]
      exact A.fresh b o e h
    · rcases A.live n l with h1 | h1
      · exact .inl h1
      · refine .inr ?_
        show NT (upd H a u (ρ' n))
        rw [upd_ne (hnl' n l)]
        exact h1
    · have h' : NT (upd H' a u b) := h
      show NT (upd H a u b)
      by_cases hb : b = a
      · subst hb
        rw [upd_same] at h' ⊢
        exact h'
      · rw [upd_ne hb] at h' ⊢
        exact A.dom b h'
/-- at its end a statement may open what it had locked -/
def UnO (X : Cx) (L : Lk) (H : Hp) : Prop := match L with
  | none => True
  | some (a, od, u) => H a = some (.frz od u) ∧ ∀ o' u', X.H_0 a ≠ some (.frz o' u')
theorem LkOk.un {X : Cx} {L : Lk} {B H : Hp} (k : LkOk X L B H) : UnO X L H := by
  cases L with
  | none => trivial
  | some p =>
    obtain ⟨a, od, u⟩ := p
    exact ⟨k.1, k.2.2.2⟩
theorem Inv.un {X : Cx} {pins : List (Addr × Obj)} {σ : L2.St} {H : Hp} {s : Shared} {L : Lk} (I : Inv X pins σ H s) (h : UnO X L H) : Inv X pins σ (unlk L H) s := by
  cases L with
  | none => exact I
  | some p =>
    obtain ⟨a, od, u⟩ := p
    exact I.unlock h.1 h.2
def tUn (X : Cx) (t : TS) : TS := fun D σ H => t ⟨fun σ' H' => ∃ L, UnO X L H' ∧ D.nx σ' (unlk L H'), fun v H' => ∃ L, UnO X L H' ∧ D.rt v (unlk L H'), fun σ' H' => ∃ L, UnO X L H' ∧ D.bk σ' (unlk L H'), fun σ' H' => ∃ L, UnO X L H' ∧ D.ct σ' (unlk L H')⟩ σ H
theorem ps_un {X : Cx} {st : Stmt} {t : TS} (h : PS X st t) : PS X st (tUn X t) := by
  refine ⟨fun pins s σ H D I hw => ?_⟩
  refine thn (h.run pins s σ _ _ I hw) fun f s1 q => ?_
  cases f with
  | next => obtain ⟨σ', H', I2, L, e, q⟩ := q; exact ⟨σ', _, Inv.un I2 e, q⟩
  | brk => obtain ⟨σ', H', I2, L, e, q⟩ := q; exact ⟨σ', _, Inv.un I2 e, q⟩
  | cont => obtain ⟨σ', H', I2, L, e, q⟩ := q; exact ⟨σ', _, Inv.un I2 e, q⟩
  | ret v => obtain ⟨x, σ', H', I2, r, L, e, q⟩ := q; exact ⟨x, σ', _, Inv.un I2 e, r, q⟩
def tUnE (X : Cx) (t : TE) : TE := fun σ H Q => t σ H fun v H' => ∃ L, UnO X L H' ∧ Q v (unlk L H')
theorem pe_un {X : Cx} {e : Expr} {t : TE} (h : PE X e t) : PE X e (tUnE X t) := by
  refine ⟨fun pins s σ H Q I hw => ?_⟩
  refine thn (h.run pins s σ _ _ I hw) fun v s1 ⟨x, H1, I2, r, L, e2, q⟩ => ?_
  exact ⟨x, _, Inv.un I2 e2, r, q⟩
/-- the dict that an expression gives is locked, or it was -/
def tLk (X : Cx) (t : TE) : TE := fun σ H Q => t σ H fun v H1 => ∃ a u, v = .ref a ∧ locks u ∧ ((H1 a = some u ∧ ∀ od, (∀ o' u', X.H_0 a ≠ some (.frz o' u')) → Q v (upd H1 a (.frz od u))) ∨ Q v H1)
theorem pe_lk {X : Cx} {e : Expr} {t : TE} (h : PE X e t) : PE X e (tLk X t) := by
  refine ⟨fun pins s σ H Q I hw => ?_⟩
  refine thn (h.run pins s σ _ _ I hw) fun v s1 ⟨x, H1, I1, r, a, u, ex, lu, q⟩ => ?_
  rcases q with ⟨hu, q⟩ | q
  · have mu : Mut (some u) := by
      cases u <;> first | exact lu.elim | trivial
    obtain ⟨od, I2⟩ := I1.lock hu mu
    exact ⟨x, _, I2, r, q od (I1.nofrz hu mu)⟩
  · exact ⟨x, H1, I1, r, q⟩

/-! ### what is walked -/
inductive Ri where
  | ok (ws : List W) (Y : Ys) | exc (c : Nat) (fs : Option (List (Str × D))) (Y : Ys) | bad
abbrev IDen := Ts → Ys → Ri
def ItR (G : Gx) (B1 H1 : Hp) (ρ1 : Nat → Addr) (Y1 : Ys) (J : It) (ws : List W) : Prop := ∀ B H ρ Y, Aft G B1 H1 ρ1 Y1 B H ρ Y → ∀ i,
  (∀ w, ws[i]? = some w → J.go i H ∧ ∀ x H', J.yld i H x H' → ∃ B', Aft G B H ρ Y B' H' ρ Y ∧ WRep G B' ρ Y.length x w) ∧ (ws.length ≤ i → J.stop i H)
def RiOk (X : Cx) (G : Gx) (W : WX) (σ : L2.St) (B H : Hp) (ρ : Nat → Addr) (Y : Ys) (R : It → Hp → Prop) : Ri → Prop
  | .ok ws Y' => ∀ J B' H' ρ' L, Aft G B H ρ Y B' (unlk L H') ρ' Y' → LkOk X L B' H' → ItR G B' H' ρ' Y' J ws → R J H'
  | .exc c fs Y' => ∀ d B' H' ρ', Aft G B H ρ Y B' H' ρ' Y' → ExcAt G B' H' d fs → W (.ref (G.cls c)) d σ H'
  | .bad => False
def DI (cls : Cl) (X : Cx) (W : WX) (tg iter : Expr) (f : IDen) : Prop :=
  ∃ t : TI, PI X tg iter t ∧ ∀ σ H R B ρ Y τ, Rel (gx cls X) B H ρ Y → TR (gx cls X) B ρ Y.length σ τ → RiOk X (gx cls X) W σ B H ρ Y R (f τ Y) → t σ H R
def Re.iter (r : Re) (k : W → Ys → Option (List W)) : Ri := match r with
  | .ok w Y => (match k w Y with
    | some ws => .ok ws Y
    | none => .bad)
  | .exc c fs Y => .exc c fs Y
  | .bad => .bad
theorem PI.or {X : Cx} {tg iter : Expr} {t u : TI} (h : PI X tg iter t) (k : PI X tg iter u) : PI X tg iter (fun σ H R => t σ H R ∨ u σ H R) :=
  ⟨fun pins s σ H R I hw => hw.elim (fun hw => h.run pins s σ H R I hw) fun hw => k.run pins s σ H R I hw⟩

/-! ### for -/
def sForL (g : W → Ts → Ys → Option Ts) (b : SDen) : List W → Ts → Ys → Out
  | [], τ, Y => .next τ Y
  | w :: ws, τ, Y => (match g w τ Y with
    | some τ1 => (match b τ1 Y with
      | .next τ2 Y2 => sForL g b ws τ2 Y2
      | .cont τ2 Y2 => sForL g b ws τ2 Y2
      | .brk τ2 Y2 => .next τ2 Y2
      | .ret v Y2 => .ret v Y2
      | .exc c fs τ2 Y2 => .exc c fs τ2 Y2
      | .bad => .bad)
    | none => .bad)
def sFor (f : IDen) (g : W → Ts → Ys → Option Ts) (b : SDen) : SDen := fun τ Y => match f τ Y with
  | .ok ws Y1 => sForL g b ws τ Y1
  | .exc c fs Y1 => .exc c fs τ Y1
  | .bad => .bad
section
variable {cls : Cl} {X : Cx} {W : WX} {pos : Pos}
theorem s_for {tg iter : Expr} {body : List Stmt} {f : IDen} {g : MV.W → Ts → Ys → Option Ts} {b : SDen} (hp : PassesOwn (model X.prog X.w) X.A X.env X.xe) (hc : X.calm = true) (hi : DI cls X W tg iter f) (hg : DG cls X tg g) (hb : DSs cls X W body b)
    (hW : ∀ c d σ H L, UnO X L H → W c d σ (unlk L H) → W c d σ H) (hs : ∀ x, foldedSetIterable iter X.env x = pure x := by intro _; rfl) : DS cls X W (.For tg iter body [] pos) (sFor f g b) := by
  obtain ⟨ti, pi, hi⟩ := hi
  obtain ⟨tg', pg, hg⟩ := hg
  obtain ⟨tb, pb, hb⟩ := hb
  refine ⟨_, ps_un (ps_for hp hc pi pg pb hs), fun σ H E B ρ Y τ R T h => ?_⟩
  refine hi σ H _ B ρ Y τ R T ?_
  unfold sFor at h
  cases e : f τ Y with
  | bad =>
    rw [e] at h
    exact h.elim
  | exc c fs Y1 =>
    rw [e] at h
    intro d B' H' ρ' A x
    exact h d σ B' H' ρ' A (T.aft A) x
  | ok ws Y1 =>
    rw [e] at h
    dsimp only at h
    generalize hr : sForL g b ws τ Y1 = r at h
    intro J B1 H1 ρ1 L A1 k1 it
    have R1 : Rel (gx cls X) B1 H1 ρ1 Y1 := A1.rel.lk k1
    refine ⟨fun i m σ' H' => m = ws.length - i ∧ i ≤ ws.length ∧ ∃ B' ρ' Y' τ', Aft (gx cls X) B1 H1 ρ1 Y1 B' H' ρ' Y' ∧ TR (gx cls X) B' ρ' Y'.length σ' τ' ∧ r = sForL g b (ws.drop i) τ' Y',
      ⟨ws.length, by simp, Nat.zero_le _, B1, ρ1, Y1, τ, Aft.refl R1, T.aft A1, by rw [List.drop_zero]; exact hr.symm⟩, ?_⟩
    rintro i m σ2 H2 ⟨rfl, hile, B2, ρ2, Y2, τ2, A2, T2, e2⟩
    obtain ⟨A2u, k2⟩ := A2.unlk k1 A1.rel
    by_cases hlt : i < ws.length
    · have hdrop : ws.drop i = ws[i] :: ws.drop (i + 1) := by simp
      have hget : ws[i]? = some ws[i] := by simp [hlt]
      rw [hdrop] at e2
      obtain ⟨go, step⟩ := (it B2 H2 ρ2 Y2 A2 i).1 _ hget
      refine .inr ⟨go, fun σ3 H3 => i + 1 ≤ ws.length ∧ ∃ B' ρ' Y' τ', Aft (gx cls X) B1 H1 ρ1 Y1 B' H3 ρ' Y' ∧ TR (gx cls X) B' ρ' Y'.length σ3 τ' ∧ r = sForL g b (ws.drop (i + 1)) τ' Y', fun σ3 H3 h3 => ⟨ws.length - (i + 1), by omega, rfl, h3.1, h3.2⟩, fun x H3 hy => ?_⟩
      obtain ⟨B3, A3, r3⟩ := step x H3 hy
      have T3 := T2.aft A3
      unfold sForL at e2
      cases eg : g ws[i] τ2 Y2 with
      | none =>
        rw [eg] at e2
        rw [e2] at h
        exact h.elim
      | some τ3 =>
        rw [eg] at e2
        dsimp only at e2
        refine hg x σ2 H3 _ B3 ρ2 Y2 τ2 ws[i] τ3 A3.rel T3 r3 eg fun σ4 T4 => ?_
        refine hb σ4 H3 _ B3 ρ2 Y2 τ3 A3.rel T4 ?_
        have A13 := A2.trans A3
        cases eb : b τ3 Y2 with
        | bad =>
          rw [eb] at e2
          rw [e2] at h
          exact h.elim
        | next τ5 Y5 =>
          rw [eb] at e2
          intro σ5 B5 H5 ρ5 A5 T5
          exact ⟨hlt, B5, ρ5, Y5, τ5, A13.trans A5, T5, e2⟩
        | cont τ5 Y5 =>
          rw [eb] at e2
          intro σ5 B5 H5 ρ5 A5 T5
          exact ⟨hlt, B5, ρ5, Y5, τ5, A13.trans A5, T5, e2⟩
        | brk τ5 Y5 =>
          rw [eb] at e2
          rw [e2] at h
          intro σ5 B5 H5 ρ5 A5 T5
          obtain ⟨Au, ku⟩ := (A13.trans A5).unlk k1 A1.rel
          exact ⟨L, ku.un, h σ5 B5 _ ρ5 (A1.trans Au) T5⟩
        | ret v Y5 =>
          rw [eb] at e2
          rw [e2] at h
          intro u B5 H5 ρ5 A5 r5
          obtain ⟨Au, ku⟩ := (A13.trans A5).unlk k1 A1.rel
          exact ⟨L, ku.un, h u B5 _ ρ5 (A1.trans Au) r5⟩
        | exc c fs τ5 Y5 =>
          rw [eb] at e2
          rw [e2] at h
          intro d σ5 B5 H5 ρ5 A5 T5 x5
          obtain ⟨Au, ku⟩ := (A13.trans A5).unlk k1 A1.rel
          refine hW _ _ _ _ L ku.un (h d σ5 B5 _ ρ5 (A1.trans Au) T5 ?_)
          cases fs with
          | none => exact x5
          | some fs =>
            obtain ⟨dx, vs, z1, z2, z3⟩ := x5
            refine ⟨dx, vs, z1, ?_, z3⟩
            cases L with
            | none => exact z2
            | some p =>
              obtain ⟨a, od, u⟩ := p
              have : dx ≠ a := fun z => by
                rw [z, ku.1] at z2
                cases z2
              show upd H5 a u dx = _
              rw [upd_ne this]
              exact z2
    · have hi' : i = ws.length := by omega
      subst hi'
      refine .inl ⟨(it B2 H2 ρ2 Y2 A2 _).2 (Nat.le_refl _), L, k2.un, ?_⟩
      rw [List.drop_length] at e2
      rw [e2] at h
      exact h σ2 B2 _ ρ2 (A1.trans A2u) T2
end
end MV
set_option Elab.async false
set_option linter.all false
set_option maxRecDepth 100000
set_option maxHeartbeats 4000000
namespace MV
open PySem PySem.Spec PyProof.Rows L2

/-! ### items of things that are walked as they stand -/
def wInts : List Int → List W
  | [] => []
  | i :: r => .val (.int i) :: wInts r
def keyD : Key → D
  | .inl i => .int i
  | .inr x => .str x
def keyDs : List Key → List D
  | [] => []
  | k :: r => keyD k :: keyDs r
def keysW {α : Type} : List (Key × α) → List W
  | [] => []
  | (k, _) :: r => .val (keyD k) :: keysW r
def keysT {α : Type} : List (List Key × α) → List W
  | [] => []
  | (k, _) :: r => .val (.tup (keyDs k)) :: keysT r
def signs : List Nat → List W
  | [] => []
  | c :: r => .val (.str ⟨#[c]⟩) :: signs r
def keysShort : List (List Key × D) → Bool
  | [] => true
  | (k, _) :: r => (match lines k.length with
    | true => keysShort r
    | false => false)
def itOf (w : W) (_ : Ys) : Option (List W) := match w with
  | .val (.lst ds) => some (vals ds)
  | .val (.scr ns) => some (wInts ns)
  | .val (.tup ds) => some (vals ds)
  | .val (.ktup ds) => some (vals ds)
  | .val (.dK kds) => some (keysW kds)
  | .val (.dT kds) => (match keysShort kds with
    | true => some (keysT kds)
    | false => none)
  | .val (.str x) => some (signs x.cps.toList)
  | _ => none
theorem kV_keyD {G : Gx} {B : Hp} (k : Key) : Rep G B (kV k) (keyD k) := by
  cases k with
  | inl i => exact .int i
  | inr x => exact .str x
theorem kVs_keyDs {G : Gx} {B : Hp} : ∀ ks : List Key, Reps G B (ks.map kV) (keyDs ks)
  | [] => .nil
  | k :: r => .cons (kV_keyD k) (kVs_keyDs r)
theorem keysW_len {α : Type} : ∀ l : List (Key × α), (keysW l).length = l.length
  | [] => rfl
  | _ :: r => congrArg (· + 1) (keysW_len r)
theorem keysT_len {α : Type} : ∀ l : List (List Key × α), (keysT l).length = l.length
  | [] => rfl
  | _ :: r => congrArg (· + 1) (keysT_len r)
theorem signs_len : ∀ l : List Nat, (signs l).length = l.length
  | [] => rfl
  | _ :: r => congrArg (· + 1) (signs_len r)
theorem vals_len : ∀ l : List D, (vals l).length = l.length
  | [] => rfl
  | _ :: r => congrArg (· + 1) (vals_len r)
theorem keysW_get {α : Type} : ∀ {l : List (Key × α)} {i : Nat} {w : W}, (keysW l)[i]? = some w → ∃ k v, l[i]? = some (k, v) ∧ w = .val (keyD k)
  | [], _, _, h => by simp [keysW] at h
  | (k, v) :: r, 0, w, h => by
    simp [keysW] at h
    exact ⟨k, v, rfl, h.symm⟩
  | _ :: r, i + 1, w, h => by
    obtain ⟨k, v, h1, h2⟩ := keysW_get (l := r) (i := i) (w := w) (by simpa [keysW] using h)
    exact ⟨k, v, by simpa using h1, h2⟩
theorem keysT_get {α : Type} : ∀ {l : List (List Key × α)} {i : Nat} {w : W}, (keysT l)[i]? = some w → ∃ k v, l[i]? = some (k, v) ∧ w = .val (.tup (keyDs k))
  | [], _, _, h => by simp [keysT] at h
  | (k, v) :: r, 0, w, h => by
    simp [keysT] at h
    exact ⟨k, v, rfl, h.symm⟩
  | _ :: r, i + 1, w, h => by
    obtain ⟨k, v, h1, h2⟩ := keysT_get (l := r) (i := i) (w := w) (by simpa [keysT] using h)
    exact ⟨k, v, by simpa using h1, h2⟩
theorem signs_get : ∀ {l : List Nat} {i : Nat} {w : W}, (signs l)[i]? = some w → ∃ c, l[i]? = some c ∧ w = .val (.str ⟨#[c]⟩)
  | [], _, _, h => by simp [signs] at h
  | c :: r, 0, w, h => by
    simp [signs] at h
    exact ⟨c, rfl, h.symm⟩
  | _ :: r, i + 1, w, h => by
    obtain ⟨k, h1, h2⟩ := signs_get (l := r) (i := i) (w := w) (by simpa [signs] using h)
    exact ⟨k, by simpa using h1, h2⟩
theorem vals_get : ∀ {l : List D} {i : Nat} {w : W}, (vals l)[i]? = some w → ∃ d, l[i]? = some d ∧ w = .val d
  | [], _, _, h => by simp [vals] at h
  | c :: r, 0, w, h => by
    simp [vals] at h
    exact ⟨c, rfl, h.symm⟩
  | _ :: r, i + 1, w, h => by
    obtain ⟨k, h1, h2⟩ := vals_get (l := r) (i := i) (w := w) (by simpa [vals] using h)
    exact ⟨k, by simpa using h1, h2⟩
theorem wInts_eq : ∀ ns : List Int, wInts ns = ns.map fun i => .val (.int i)
  | [] => rfl
  | _ :: r => congrArg _ (wInts_eq r)
theorem RepKV.getV {G : Gx} {B : Hp} {κ : Type} : ∀ {vs : List (κ × V)} {ds : List (κ × D)} {i : Nat} {k : κ} {v : V}, RepKV G B vs ds → vs[i]? = some (k, v) → ∃ d, ds[i]? = some (k, d) ∧ Rep G B v d
  | _, _, _, _, _, .nil, e => by simp at e
  | _, _, 0, _, _, .cons h _, e => by
    simp at e
    obtain ⟨rfl, rfl⟩ := e
    exact ⟨_, rfl, h⟩
  | _, _, i + 1, k, v, .cons _ r, e => by
    obtain ⟨d, h1, h2⟩ := RepKV.getV (i := i) r (by simpa using e)
    exact ⟨d, by simpa using h1, h2⟩

section
variable {G : Gx} {B1 H1 : Hp} {ρ1 : Nat → Addr} {Y1 : Ys}
theorem Reps.at {B : Hp} {vs : List V} {ds : List D} (r : Reps G B vs ds) {i : Nat} {x : V} {w : W} (h : (vals ds)[i]? = some w) (hx : vs[i]? = some x) {ρ : Nat → Addr} {n : Nat} : WRep G B ρ n x w := by
  obtain ⟨d, h1, rfl⟩ := vals_get h
  obtain ⟨d', h2, h3⟩ := r.getV hx
  rw [h1] at h2
  cases h2
  exact h3
theorem Reps.has {B : Hp} {vs : List V} {ds : List D} (r : Reps G B vs ds) {i : Nat} {w : W} (h : (vals ds)[i]? = some w) : ∃ x, vs[i]? = some x := by
  obtain ⟨d, h1, rfl⟩ := vals_get h
  obtain ⟨v, h2, _⟩ := r.get h1
  exact ⟨v, h2⟩
theorem it_sq {a : Addr} {vs : List V} {ds : List D} (hq : ∀ B H ρ Y, Aft G B1 H1 ρ1 Y1 B H ρ Y → SqL G.K H a vs) (r : Reps G B1 vs ds) : ItR G B1 H1 ρ1 Y1 (Itl G.K a) (vals ds) := by
  intro B H ρ Y A i
  have q := hq B H ρ Y A
  have r' := r.le A.le
  refine ⟨fun w hw => ?_, fun hl => ⟨vs, q, by rw [r.length, ← vals_len]; exact hl⟩⟩
  obtain ⟨x, hx⟩ := r.has hw
  refine ⟨⟨vs, x, q, hx⟩, fun y H' hy => ?_⟩
  obtain ⟨rfl, hy⟩ := hy
  exact ⟨B, Aft.refl A.rel, r'.at hw (hy vs q)⟩
theorem it_tp {a : Addr} {vs : List V} {ds : List D} (hq : ∀ B H ρ Y, Aft G B1 H1 ρ1 Y1 B H ρ Y → SqT G.K H a vs) (r : Reps G B1 vs ds) : ItR G B1 H1 ρ1 Y1 (Itt G.K a) (vals ds) := by
  intro B H ρ Y A i
  have q := hq B H ρ Y A
  have r' := r.le A.le
  refine ⟨fun w hw => ?_, fun hl => ⟨vs, q, by rw [r.length, ← vals_len]; exact hl⟩⟩
  obtain ⟨x, hx⟩ := r.has hw
  refine ⟨⟨vs, x, q, hx⟩, fun y H' hy => ?_⟩
  obtain ⟨rfl, hy⟩ := hy
  exact ⟨B, Aft.refl A.rel, r'.at hw (hy vs q)⟩
theorem reps_ints {B : Hp} : ∀ ns : List Int, Reps G B (ns.map V.int) (ns.map D.int)
  | [] => .nil
  | i :: r => .cons (.int i) (reps_ints r)
theorem wInts_vals : ∀ ns : List Int, wInts ns = vals (ns.map D.int)
  | [] => rfl
  | _ :: r => congrArg _ (wInts_vals r)
theorem it_str {x : Str} : ItR G B1 H1 ρ1 Y1 (Its x) (signs x.cps.toList) := by
  intro B H ρ Y A i
  refine ⟨fun w hw => ?_, fun hl => by rw [signs_len] at hl; simpa [Its] using hl⟩
  obtain ⟨c, h1, rfl⟩ := signs_get hw
  have h1' : x.cps[i]? = some c := by simpa using h1
  refine ⟨(Array.getElem?_eq_some_iff.mp h1').1, fun y H' hy => ?_⟩
  obtain ⟨rfl, c', h2, rfl⟩ := hy
  rw [h1'] at h2
  cases h2
  exact ⟨B, Aft.refl A.rel, .str _⟩
theorem frz_at {a : Addr} {od : Obj} {u : HO} {B H : Hp} {ρ : Nat → Addr} {Y : Ys} (R : Rel G B1 H1 ρ1 Y1) (hb : B1 a = some u) (h : H1 a = some (.frz od u)) (A : Aft G B1 H1 ρ1 Y1 B H ρ Y) : H a = some (.frz od u) :=
  A.frame a _ h (fun n l z => by
    have := R.non n l
    rw [z, hb] at this
    cases this) nofun
theorem it_keys {a : Addr} {od : Obj} {kvs : List (Key × V)} {kds : List (Key × D)} (R : Rel G B1 H1 ρ1 Y1) (hb : B1 a = some (.dK kvs)) (h : H1 a = some (.frz od (.dK kvs))) (r : RepKV G B1 kvs kds) : ItR G B1 H1 ρ1 Y1 (Itk a od kvs) (keysW kds) := by
  intro B H ρ Y A i
  have h' := frz_at R hb h A
  refine ⟨fun w hw => ?_, fun hl => ⟨h', by rw [r.length, ← keysW_len]; exact hl⟩⟩
  obtain ⟨k, d, h1, rfl⟩ := keysW_get hw
  have hlt : i < kvs.length := by
    rw [r.length]
    exact (List.getElem?_eq_some_iff.mp h1).1
  refine ⟨⟨h', hlt⟩, fun y H' hy => ?_⟩
  obtain ⟨rfl, k', v', h2, rfl⟩ := hy
  obtain ⟨d', h3, _⟩ := r.getV h2
  rw [h1] at h3
  cases h3
  exact ⟨B, Aft.refl A.rel, kV_keyD k⟩
theorem it_keysT {a : Addr} {od : Obj} {kvs : List (List Key × V)} {kds : List (List Key × D)} (hz : ∀ p ∈ kds, p.1.length ≤ sizeLine) (R : Rel G B1 H1 ρ1 Y1) (hb : B1 a = some (.dT kvs)) (h : H1 a = some (.frz od (.dT kvs))) (r : RepKV G B1 kvs kds) : ItR G B1 H1 ρ1 Y1 (Itkt a od kvs) (keysT kds) := by
  intro B H ρ Y A i
  have h' := frz_at R hb h A
  refine ⟨fun w hw => ?_, fun hl => ⟨h', by rw [r.length, ← keysT_len]; exact hl⟩⟩
  obtain ⟨k, d, h1, rfl⟩ := keysT_get hw
  have hlt : i < kvs.length := by
    rw [r.length]
    exact (List.getElem?_eq_some_iff.mp h1).1
  refine ⟨⟨h', hlt⟩, fun y H' hy => ?_⟩
  obtain ⟨rfl, k', v', q, h2, rfl, hq⟩ := hy
  obtain ⟨d', h3, _⟩ := r.getV h2
  rw [h1] at h3
  cases h3
  obtain ⟨B', A', hb'⟩ := Aft.seen A.rel hq
  exact ⟨B', A', .tup hb' (by simpa using hz _ (List.mem_of_getElem? h1)) (kVs_keyDs k)⟩
end
theorem keysShort_at : ∀ {l : List (List Key × D)}, keysShort l = true → ∀ p ∈ l, p.1.length ≤ sizeLine
  | [], _, p, hp => by simp at hp
  | (k, d) :: r, h, p, hp => by
    unfold keysShort at h
    split at h
    · rename_i h1
      rcases List.mem_cons.mp hp with rfl | hp
      · exact lines_ok h1
      · exact keysShort_at h p hp
    · cases h
section
variable {cls : Cl} {X : Cx} {W : WX} {pos : Pos} {tg e : Expr} {fe : Den}
/-- the two ways to a dict: open, or locked -/
theorem lk_run {t : TE} {σ : L2.St} {H : Hp} {B : Hp} {ρ : Nat → Addr} {Y Y1 : Ys} {τ : Ts}
    (he : ∀ σ H Q B ρ Y τ, Rel (gx cls X) B H ρ Y → TR (gx cls X) B ρ Y.length σ τ → ReOk (gx cls X) W σ B H ρ Y Q (fe τ Y) → t σ H Q) (Rl : Rel (gx cls X) B H ρ Y) (T : TR (gx cls X) B ρ Y.length σ τ) (w : MV.W) (e1 : fe τ Y = .ok w Y1) {Q : VK}
    (hu : ∀ v B' ρ', WRep (gx cls X) B' ρ' Y1.length v w → ∃ a u, v = .ref a ∧ locks u ∧ B' a = some u)
    (hq : ∀ v a u od H' B' ρ' L, v = .ref a → WRep (gx cls X) B' ρ' Y1.length v w → B' a = some u → H' a = some (.frz od u) → LkOk X L B' H' → Aft (gx cls X) B H ρ Y B' (unlk L H') ρ' Y1 → Q v H') : tLk X t σ H Q := by
  refine he σ H _ B ρ Y τ Rl T ?_
  rw [e1]
  intro v B' H' ρ' A r
  obtain ⟨a, u, rfl, lu, hb⟩ := hu v B' ρ' r
  refine ⟨a, u, rfl, lu, ?_⟩
  rcases A.rel.sub a u hb with h1 | ⟨_, od, h1⟩
  · refine .inl ⟨h1, fun od hn => hq _ a u od _ B' ρ' (some (a, od, u)) rfl r hb upd_same ⟨upd_same, hb, lu, hn⟩ ?_⟩
    have : unlk (some (a, od, u)) (upd H' a (.frz od u)) = H' := by
      funext b
      show upd (upd H' a (.frz od u)) a u b = H' b
      by_cases hb : b = a
      · rw [hb, upd_same, h1]
      · rw [upd_ne hb, upd_ne hb]
    rw [this]
    exact A
  · exact .inr (hq _ a u od H' B' ρ' none rfl r hb h1 trivial A)
end
end MV
set_option Elab.async false
set_option linter.all false
set_option maxRecDepth 100000
set_option maxHeartbeats 4000000
namespace MV
open PySem PySem.Spec PyProof.Rows L2
section
variable {cls : Cl} {X : Cx} {W : WX} {pos : Pos} {tg e : Expr} {fe : Den}
/-- for .. in e: a list, a tuple, a text, a dict's keys -/
theorem di_seq (he : DE cls X W e fe) : DI cls X W tg e (fun τ Y => (fe τ Y).iter itOf) := by
  obtain ⟨t, p, he⟩ := he
  refine ⟨_, PI.or (pi_list p) (PI.or (pi_tup p) (PI.or (pi_keys (pe_lk p)) (pi_str p))), fun σ H R B ρ Y τ Rl T h => ?_⟩
  dsimp only at h
  cases e1 : fe τ Y with
  | bad =>
    rw [e1] at h
    exact h.elim
  | exc c fs Y1 =>
    rw [e1] at h
    refine .inl (he σ H _ B ρ Y τ Rl T ?_)
    rw [e1]
    exact h
  | ok w Y1 =>
    rw [e1] at h
    unfold Re.iter at h
    dsimp only at h
    cases e2 : itOf w Y1 with
    | none =>
      rw [e2] at h
      exact h.elim
    | some ws =>
      rw [e2] at h
      dsimp only at h
      unfold itOf at e2
      split at e2
      · cases e2
        refine .inl (he σ H _ B ρ Y τ Rl T ?_)
        rw [e1]
        intro v B' H' ρ' A r
        cases r with
        | lst hh hl rr => exact ⟨_, rfl, ⟨_, .inl (.inl (A.rel.lst hh))⟩, h _ B' H' ρ' none A trivial (it_sq (G := gx cls X) (fun B2 H2 ρ2 Y2 A2 => .inl (.inl (A2.rel.lst (A2.le _ _ hh)))) rr)⟩
      · cases e2
        refine .inl (he σ H _ B ρ Y τ Rl T ?_)
        rw [e1]
        intro v B' H' ρ' A r
        cases r with
        | scr hh hl =>
          rw [wInts_vals] at h
          exact ⟨_, rfl, ⟨_, A.rel.scr hh⟩, h _ B' H' ρ' none A trivial (it_sq (G := gx cls X) (fun B2 H2 ρ2 Y2 A2 => A2.rel.scr (sqL_le A2.le hh)) (reps_ints _))⟩
      · cases e2
        refine .inr (.inl (he σ H _ B ρ Y τ Rl T ?_))
        rw [e1]
        intro v B' H' ρ' A r
        cases r with
        | tup hh hl rr => exact ⟨_, rfl, ⟨_, .inl (.inl (A.rel.tup hh))⟩, h _ B' H' ρ' none A trivial (it_tp (G := gx cls X) (fun B2 H2 ρ2 Y2 A2 => .inl (.inl (A2.rel.tup (A2.le _ _ hh)))) rr)⟩
      · cases e2
        refine .inr (.inl (he σ H _ B ρ Y τ Rl T ?_))
        rw [e1]
        intro v B' H' ρ' A r
        cases r with
        | ktup hh hl rr => exact ⟨_, rfl, ⟨_, hh _⟩, h _ B' H' ρ' none A trivial (it_tp (G := gx cls X) (fun B2 H2 ρ2 Y2 A2 => hh _) rr)⟩
      · cases e2
        refine .inr (.inr (.inl (lk_run he Rl T _ e1 (fun v B' ρ' r => ?_) fun v a u od H' B' ρ' L ev r hb hf lk A => ?_)))
        · cases r with
          | dK hh rr => exact ⟨_, .dK _, rfl, True.intro, hh⟩
        · subst ev
          cases r with
          | dK hh rr =>
            rw [hh] at hb
            cases hb
            exact ⟨a, od, rfl, .inl ⟨_, hf, h _ B' H' ρ' L A lk (it_keys (G := gx cls X) (A.rel.lk lk) hh hf rr)⟩⟩
      · split at e2
        · rename_i kds _ hs
          cases e2
          refine .inr (.inr (.inl (lk_run he Rl T _ e1 (fun v B' ρ' r => ?_) fun v a u od H' B' ρ' L ev r hb hf lk A => ?_)))
          · cases r with
            | dT hh rr => exact ⟨_, .dT _, rfl, True.intro, hh⟩
          · subst ev
            cases r with
            | dT hh rr =>
              rw [hh] at hb
              cases hb
              exact ⟨a, od, rfl, .inr ⟨_, hf, h _ B' H' ρ' L A lk (it_keysT (G := gx cls X) (keysShort_at hs) (A.rel.lk lk) hh hf rr)⟩⟩
        · cases e2
      · cases e2
        refine .inr (.inr (.inr (he σ H _ B ρ Y τ Rl T ?_)))
        rw [e1]
        intro v B' H' ρ' A r
        have ev := rep_str r
        subst ev
        exact ⟨_, rfl, h _ B' H' ρ' none A trivial it_str⟩
      · cases e2
end
/-! ### range -/
def ups (lo : Int) : Nat → List W
  | 0 => []
  | n + 1 => .val (.int lo) :: ups (lo + 1) n
theorem ups_len (lo : Int) : ∀ n, (ups lo n).length = n
  | 0 => rfl
  | n + 1 => congrArg (· + 1) (ups_len (lo + 1) n)
theorem ups_get : ∀ {n : Nat} {lo : Int} {i : Nat} {w : W}, (ups lo n)[i]? = some w → w = .val (.int (lo + i))
  | 0, _, _, _, h => by simp [ups] at h
  | n + 1, lo, 0, w, h => by
    simp [ups] at h
    rw [← h]
    simp
  | n + 1, lo, i + 1, w, h => by
    have := ups_get (n := n) (lo := lo + 1) (i := i) (w := w) (by simpa [ups] using h)
    rw [this]
    congr 2
    push_cast
    omega
theorem it_rng {G : Gx} {B1 H1 : Hp} {ρ1 : Nat → Addr} {Y1 : Ys} {lo : Int} {n : Nat} : ItR G B1 H1 ρ1 Y1 (Itr lo n) (ups lo n) := by
  intro B H ρ Y A i
  refine ⟨fun w hw => ?_, fun hl => by rw [ups_len] at hl; exact hl⟩
  have e := ups_get hw
  subst e
  have hlt : i < n := by
    have := (List.getElem?_eq_some_iff.mp hw).1
    rwa [ups_len] at this
  refine ⟨hlt, fun y H' hy => ?_⟩
  obtain ⟨rfl, rfl⟩ := hy
  exact ⟨B, Aft.refl A.rel, .int _⟩
def smallI (i : Int) : Bool := match i with
  | .ofNat n => Nat.ble n 4611686018427387903
  | .negSucc n => Nat.ble n 4611686018427387902
theorem smallI_at {i : Int} (h : smallI i = true) : -(2 ^ 62) ≤ i ∧ i < 2 ^ 62 := by
  unfold smallI at h
  cases i with
  | ofNat n =>
    have := Nat.le_of_ble_eq_true h
    have e : (Int.ofNat n) = (n : Int) := rfl
    rw [e]
    omega
  | negSucc n =>
    have := Nat.le_of_ble_eq_true h
    have e : Int.negSucc n = -(n : Int) - 1 := by omega
    rw [e]
    omega
def dRng1 (f : ADen) : IDen := fun τ Y => match f τ Y with
  | .ok [.val (.int j)] Y1 => (match smallI j with
    | true => .ok (ups 0 j.toNat) Y1
    | false => .bad)
  | .ok _ _ => .bad
  | .exc c fs Y1 => .exc c fs Y1
  | .bad => .bad
def dRng2 (f : ADen) : IDen := fun τ Y => match f τ Y with
  | .ok [.val (.int i), .val (.int j)] Y1 => (match smallI i, smallI j with
    | true, true => .ok (ups i (j - i).toNat) Y1
    | _, _ => .bad)
  | .ok _ _ => .bad
  | .exc c fs Y1 => .exc c fs Y1
  | .bad => .bad
section
variable {cls : Cl} {X : Cx} {W : WX} {pos p : Pos} {tg a b : Expr} {fa : ADen}
theorem di_range1 (hm : X.mg "range" = none) (ha : DA cls X W [a] fa) (hg : Gl X "range" := by rfl) (hs : starEach [a] X.env = [(false, eval a X.env)] := by rfl) : DI cls X W tg (.Call (.Name "range" p) [a] [] pos) (dRng1 fa) := by
  obtain ⟨t, pa, ha⟩ := ha
  refine ⟨_, pi_range1 hg hm pa hs, fun σ H R B ρ Y τ Rl T h => ?_⟩
  unfold dRng1 at h
  refine ha σ H _ B ρ Y τ Rl T ?_
  split at h
  · rename_i j Y1 e1
    rw [e1]
    split at h
    · rename_i hj
      intro vs B' H' ρ' A r
      cases r with
      | cons r rr =>
        cases rr
        have ev := rep_int r
        subst ev
        obtain ⟨h1, h2⟩ := smallI_at hj
        exact ⟨j, rfl, h1, h2, h _ B' H' ρ' none A trivial it_rng⟩
    · exact h.elim
  · exact h.elim
  · rename_i e1
    rw [e1]
    exact h
  · exact h.elim
theorem di_range2 (hm : X.mg "range" = none) (ha : DA cls X W [a, b] fa) (hg : Gl X "range" := by rfl) (hs : starEach [a, b] X.env = [(false, eval a X.env), (false, eval b X.env)] := by rfl) (hs2 : starEach [b] X.env = [(false, eval b X.env)] := by rfl) :
    DI cls X W tg (.Call (.Name "range" p) [a, b] [] pos) (dRng2 fa) := by
  obtain ⟨t, pa, ha⟩ := ha
  refine ⟨_, pi_range2 hg hm pa hs hs2, fun σ H R B ρ Y τ Rl T h => ?_⟩
  unfold dRng2 at h
  refine ha σ H _ B ρ Y τ Rl T ?_
  split at h
  · rename_i i j Y1 e1
    rw [e1]
    split at h
    · rename_i hi hj
      intro vs B' H' ρ' A r
      cases r with
      | cons r rr =>
        cases rr with
        | cons r' rr =>
          cases rr
          have ev := rep_int r
          subst ev
          have ev' := rep_int r'
          subst ev'
          obtain ⟨h1, h2⟩ := smallI_at hi
          obtain ⟨h3, h4⟩ := smallI_at hj
          exact ⟨i, j, rfl, ⟨h1, h2, h3, h4⟩, h _ B' H' ρ' none A trivial it_rng⟩
    · exact h.elim
  · exact h.elim
  · rename_i e1
    rw [e1]
    exact h
  · exact h.elim
end
end MV
set_option Elab.async false
set_option linter.all false
set_option maxRecDepth 100000
set_option maxHeartbeats 4000000
namespace PySem
open Sem (wp)
open AutoSeq1 (wpAny_loadPart')
set_option maxRecDepth 100000
/-! ### enumerate(a tuple) -/
theorem mv_enum_new (q : Addr) (its : Array Value) (m : Nat) (dq : Option Addr) (ss : Array (Option Value)) :
    Meets (Builtin.«enumerate.__new__» ⟨[.type "enumerate", .ref q], []⟩) (fun _ R z => z.heap.get? q = some { cls := .type "tuple", dict := dq, data := .seq its m, slots := ss } ∧
      R (.ok (.ret (.ref (z.heap.push { cls := .type "tuple_iterator", data := .fields #[.ref q, .int 0 0] }).objs.size)))
        { z with heap := (z.heap.push { cls := .type "tuple_iterator", data := .fields #[.ref q, .int 0 0] }).push { cls := .type "enumerate", data := .fields #[.none, .bool false, .ref z.heap.objs.size, rawInt 0, .none, .none] } }) :=
  .of_wp fun prog w A R z hz => by
    obtain ⟨hp, g, d, tk, os⟩ := z; obtain ⟨hq, hz⟩ := hz
    have hsb := sub_enumerate
    have hT : Heap.IsTuple (Shared.heap ⟨hp, g, d, tk, os⟩) q its := ⟨_, hq, rfl, m, rfl⟩
    wp_walk using wpAny_loadPart' hq
    refine wpAny_stack_any fun st' => wpAny_pure ?_
    split
    · rename_i k _ _ _ _ _
      cases (k == Value.type "enumerate")
      · wp_walk using wpAny_loadPart' hq, wpAny_pyIter_tuple hT
        exact ⟨_, rfl, hz⟩
      · wp_walk using wpAny_loadPart' hq, wpAny_pyIter_tuple hT
        exact ⟨_, rfl, hz⟩
    · wp_walk using wpAny_loadPart' hq, wpAny_pyIter_tuple hT
      exact ⟨_, rfl, hz⟩
section
variable {prog : Program} {w : World} {A : Around} {E : Value → Shared → Prop} {z : Shared}
theorem mv_enum_call {q : Addr} {its : Array Value} {Q : Value → Shared → Prop} (hT : z.heap.IsTuple q its)
    (k : ∀ h2, IsEnum h2 (z.heap.objs.size + 1) z.heap.objs.size 0 .none → h2.IsTupleIter z.heap.objs.size q 0 → (∀ b o, z.heap.get? b = some o → h2.get? b = some o) → Q (.ref (z.heap.objs.size + 1)) { z with heap := h2 }) :
    wpAny (model prog w) A (call (.type "enumerate") [.ref q]) Q E z := by
  obtain ⟨⟨c, dq, dt, ss⟩, hq, hc, m, hd⟩ := hT
  replace hc : c = .type "tuple" := hc
  replace hd : dt = .seq its m := hd
  subst hc hd
  refine callType_new F.called_enumerate (by decide) (F.typeCall_enumerate_1 _) (F.newCall_enumerate_1 _) (fun ob => F.args_object_init_2 ob _) F.entry_enumerate_new (mv_enum_new q its m dq ss) ⟨hq, ?_⟩
  have sz : (z.heap.push { cls := .type "tuple_iterator", data := .fields #[.ref q, .int 0 0] }).objs.size = z.heap.objs.size + 1 := Heap.size_push ..
  show _ ∧ _
  rw [sz]
  have he : IsEnum ((z.heap.push { cls := .type "tuple_iterator", data := .fields #[.ref q, .int 0 0] }).push
      { cls := .type "enumerate", data := .fields #[.none, .bool false, .ref z.heap.objs.size, rawInt 0, .none, .none] }) (z.heap.objs.size + 1) z.heap.objs.size 0 .none := by
    have y := Heap.get?_push_size (z.heap.push { cls := .type "tuple_iterator", data := .fields #[.ref q, .int 0 0] })
      (o := { cls := .type "enumerate", data := .fields #[.none, .bool false, .ref z.heap.objs.size, rawInt 0, .none, .none] }) rfl
    rw [sz] at y
    exact y
  exact ⟨⟨_, he, rfl⟩, k _ he ⟨_, Heap.get?_push_of_some _ (Heap.get?_push_size _ rfl), rfl, rfl⟩ fun b o x => Heap.get?_push_of_some _ (Heap.get?_push_of_some _ x)⟩
end
end PySem
namespace MV
open PySem PySem.Spec PyProof.Rows L2
/-- the tuple's items, each in a new pair with its number -/
def IteT (K : PySem.W.Frag) (a : Addr) : It :=
  ⟨fun i H => ∃ (xs : List V) (x : V), SqT K H a xs ∧ xs[i]? = some x, fun i H v H' => ∃ T x, v = .ref T ∧ H T = none ∧ H' = upd H T (.tup [.int (i : Nat), x]) ∧ ∀ xs, SqT K H a xs → xs[i]? = some x, fun i H => ∃ xs : List V, SqT K H a xs ∧ xs.length ≤ i⟩
theorem turn_enT {P : Program} {w : World} {K : PySem.W.Frag} {elts : List Expr} {kk : Nat} {tpos : Pos} (a en ti : Addr) :
    Turn P w K (.Tuple elts kk tpos) (IteT K a) [en, ti] en (fun i h => (∃ old, IsEnum h en ti ((i : Nat) : Int) old) ∧ h.IsTupleIter ti a i ∧ en ≠ ti ∧ a ≠ en ∧ a ≠ ti) where
  mem := by simp
  obj := fun i h st b hb => by
    obtain ⟨⟨old, he⟩, ⟨o, ho, hc, hd⟩, _⟩ := st
    have eb : b = en ∨ b = ti := by simpa using hb
    rcases eb with z | z
    · subst z
      exact ⟨_, he, fun v q => nomatch q⟩
    · subst z
      exact ⟨o, ho, fun v q => by rw [hd] at q; cases q⟩
  keep := fun i h h' st k => let ⟨⟨old, he⟩, hi, r⟩ := st; ⟨⟨old, k en (by simp) _ he⟩, hi.at fun o q => k ti (by simp) o q, r⟩
  item := by
    intro X hP hw hK hc i pins s σ H E I hf st hg
    subst hP hw hK
    obtain ⟨⟨old, he⟩, hit, hne, n1, n2⟩ := st
    obtain ⟨xs, x, hq, hx⟩ := hg
    obtain ⟨its, rv, p, hz⟩ := I.tuple hq
    obtain ⟨u, hu, ru⟩ := rv.get hx
    have l1 : en < s.heap.objs.size := Heap.lt_size he
    have l2 : ti < s.heap.objs.size := by
      obtain ⟨_, q, _⟩ := hit
      exact Heap.lt_size q
    have hT : s.heap.IsTuple a its.toArray := p
    have hlt : i < its.toArray.size := by
      have := (List.getElem?_eq_some_iff.mp hu).1
      simpa using this
    have hD := Draws.tuple (prog := X.prog) (w := X.w) (A := X.A.in1) (I.ok.hd hc) ti a n2 its.toArray
    refine wpAny_pyNext_enum_itemD (fp := [ti, a]) hD he ⟨hit, hT⟩ hlt hne (by simp; exact ⟨hne, fun z => n1 z.symm⟩) fun y h1 tk hy ho hst hT1 hsz hk => ?_
    have ey : y = u := by
      have h3 : its.toArray[i]? = some y := hy
      have h4 : its.toArray[i]? = some u := by simpa using hu
      rw [h3] at h4
      exact Option.some.inj h4
    subst ey
    obtain ⟨hit', hT'⟩ := hst
    refine ⟨_, rfl, wpAny_letOwnedTupleGo_enum (s := { s with heap := h1, toks := tk + 1 }) ho fun h2 he' sb => ?_⟩
    have hT2 : h2.get? s.heap.objs.size = some { cls := .type "tuple", data := .seq #[.int i tk, y] } := (sb.2 _ (Nat.ne_of_gt l1)).trans hT1
    have nw : ObjOk X.prog X.w (upd H s.heap.objs.size (.tup [.int (i : Nat), x])) h2 s.heap.objs.size (.tup [.int (i : Nat), x]) :=
      ⟨by show 2 ≤ sizeLine; decide, [.int i tk, y], .cons ⟨_, rfl⟩ (.cons ru .nil), ⟨_, hT2, rfl, _, rfl⟩⟩
    have I1 : Inv X pins σ (upd H s.heap.objs.size (.tup [.int (i : Nat), x])) { s with heap := h2, toks := tk + 1 } :=
      I.turnedNew (ch := [en, ti]) (fun b ob hb q => (sb.2 b (fun z => hb (by simp [z]))).trans (hk b ob (fun z => hb (by simp [z])) (fun z => hb (by simp [z])) q)) hf (Nat.le_refl _) nw
    refine ⟨.ref s.heap.objs.size, _, I1, rfl, ⟨_, x, rfl, I.hok.fresh (Nat.le_refl _), rfl, fun ys hy => by rw [I.tuple_inj hy hq]; exact hx⟩, ⟨⟨y, ?_⟩, hit'.at fun o q => (sb.2 ti (Ne.symm hne)).trans q, hne, n1, n2⟩, fun b hb => ?_⟩
    · have e1 : ((i + 1 : Nat) : Int) = (i : Int) + 1 := by omega
      rw [e1]
      exact he'
    · have hb' : b < s.heap.objs.size := by
        have eb : b = en ∨ b = ti := by simpa using hb
        rcases eb with z | z
        · subst z; exact l1
        · subst z; exact l2
      rw [upd_ne (Nat.ne_of_lt hb')]
      exact (hf b hb).1
  done := by
    intro X hP hw hK hc i pins s σ H E I hf st hg
    subst hP hw hK
    obtain ⟨⟨old, he⟩, hit, hne, n1, n2⟩ := st
    obtain ⟨xs, hq, hx⟩ := hg
    obtain ⟨its, rv, p, hz⟩ := I.tuple hq
    have hT : s.heap.IsTuple a its.toArray := p
    obtain ⟨f0, f1, f2, f3, f4, f5⟩ := hf ti (by simp)
    have hl := rv.length
    unfold pyNext
    have hTy : s.TypeIs (.ref en) "enumerate" := ⟨_, he, rfl⟩
    refine wpAny_bind (wpAny_attempt (wpAny_callSpecial?_slot (name := Str.ofString "__next__") hTy F.slot_enumerate_next
      (wpAny_call_entry F.slot_enumerate_next hTy F.entry_enumerate_next ?_ (F.args_enumerate_next_1 _))))
    show wpAny _ _ (field (.ref en) 2 >>= _) _ _ _
    refine wpAny_bind (wpAny_field he rfl (x := .ref ti) rfl ?_)
    refine wpAny_bind (wpAny_nextOf_tuple_end (I.ok.hd hc) hit hT (by simp; omega) fun h1 y he' hy => ?_)
    obtain ⟨o, ho, hc'⟩ := hy
    refine wpAny_bind (wpAny_isInstance (T := "StopIteration") (b := true) ⟨o, ho, hc'⟩ isSubtype_stop ?_)
    exact wpAny_pure ⟨rfl, I.turned (t' := s.toks) (fun b o hb q => he' b o hb q) f0 f1 f3 f4 f5⟩
  self := fun A i s Q E st h => let ⟨⟨_, he⟩, _⟩ := st; wpAny_pyIter_enum he h
def iEnT (K : PySem.W.Frag) (ta : TA) : TI := fun σ H R => ta σ H fun vs H1 => ∃ a xs, vs = [.ref a] ∧ SqT K H1 a xs ∧ R (IteT K a) H1
theorem pi_enT {X : Cx} {e : Expr} {ta : TA} {p pos tpos : Pos} {elts : List Expr} {kk : Nat} (hg : Gl X "enumerate") (hm : X.mg "enumerate" = none) (ha : PA X [e] ta) (hs : starEach [e] X.env = [(false, eval e X.env)] := by rfl) :
    PI X (.Tuple elts kk tpos) (.Call (.Name "enumerate" p) [e] [] pos) (iEnT X.K ta) := by
  refine ⟨fun pins s σ H R I h => ?_⟩
  refine Call_ (ld_blt I hg hm boot_enumerate (PyProof.Rows.callWith_type1 (thn (ha.run pos pins s σ H _ I h) fun us z ⟨vs, H1, I1, r1, q1⟩ => ?_) hs rfl))
  obtain ⟨a, xs, ex, hq, q⟩ := q1
  subst ex
  cases r1 with
  | cons r rr =>
    cases rr
    cases r
    obtain ⟨its, rv, p', hz⟩ := I1.tuple hq
    have hT : z.heap.IsTuple a its.toArray := p'
    have la : a < z.heap.objs.size := by
      obtain ⟨o, ho, _⟩ := hT
      exact Heap.lt_size ho
    refine mv_enum_call hT fun h2 he hit hk => wpAny_pyIter_enum he ?_
    have I2 : Inv X pins σ H1 { z with heap := h2 } := I1.kept (t' := z.toks) hk
    refine ⟨z.heap.objs.size + 1, [z.heap.objs.size + 1, z.heap.objs.size], _, _, H1, rfl, I2, turn_enT a (z.heap.objs.size + 1) z.heap.objs.size, ⟨⟨.none, he⟩, hit, Nat.succ_ne_self _, Nat.ne_of_lt (Nat.lt_succ_of_lt la), Nat.ne_of_lt la⟩, fun b hb => ?_, q⟩
    have eb : b = z.heap.objs.size + 1 ∨ b = z.heap.objs.size := by simpa using hb
    have hle : z.heap.objs.size ≤ b := by
      rcases eb with y | y
      · rw [y]; exact Nat.le_add_right _ _
      · rw [y]; exact Nat.le_refl _
    exact I1.fpOk hle (I1.hok.fresh hle)
end MV
set_option Elab.async false
set_option linter.all false
set_option maxRecDepth 100000
set_option maxHeartbeats 4000000
namespace MV
open PySem PySem.Spec PyProof.Rows L2
/-! ### d.items() of tuple keys -/
section
variable {X : Cx} {pins : List (Addr × Obj)} {σ : L2.St} {H : Hp} {s : Shared} {d : Addr} {o : Obj}
theorem frzT2 {kvs : List (List Key × V)} (I : Inv X pins σ H s) (h : H d = some (.frz o (.dT kvs))) :
    (d == sysModules) = false ∧ s.heap.get? d = some o ∧ o.ExactDict ∧ kvs.length ≤ sizeLine ∧ ∃ (es : Array DictEntry) (ep : Nat), o.data = .dict es ep ∧ es.size = kvs.length ∧
      ∀ (i : Nat) (k : List Key) (v : V), kvs[i]? = some (k, v) → ∃ (en : DictEntry) (q : Addr), es[i]? = some en ∧ en.key = .ref q ∧ H q = some (.tup (k.map kV)) ∧ RelV v en.val := by
  obtain ⟨hd, z, hs, xs, pr, o1, es, ep, ho, hx, hdt, he, _⟩ := I.hok d _ h
  rw [hd] at ho
  cases ho
  refine ⟨hs, hd, hx, z, es, ep, hdt, ?_, fun i k v e => ?_⟩
  · have l1 : es.size = xs.length := size_of_entries he
    have l2 : kvs.length = xs.length := Paired.length pr
    omega
  · obtain ⟨b, hb, e1, e2, e3⟩ := L2.paired_get pr e
    have q := entry_at he i
    rw [hb] at q
    exact ⟨_, b.2.1, q, rfl, e2, e3⟩
end
/-- the pairs, each a new tuple of the key's own tuple and the value -/
def ItiT (d : Addr) (o : Obj) (kvs : List (List Key × V)) : It :=
  ⟨fun i H => H d = some (.frz o (.dT kvs)) ∧ i < kvs.length, fun i H x H' => ∃ T k v q, kvs[i]? = some (k, v) ∧ x = .ref T ∧ H T = none ∧ H q = some (.tup (k.map kV)) ∧ H' = upd H T (.tup [.ref q, v]), fun i H => H d = some (.frz o (.dT kvs)) ∧ kvs.length ≤ i⟩
section
variable {P : Program} {w : World} {K : PySem.W.Frag} {d : Addr} {o : Obj} {es : Array DictEntry} {ep : Nat}
theorem turn_itT {kvs : List (List Key × V)} {elts : List Expr} {kk : Nat} {tpos : Pos} (it : Addr) (hod : o.data = .dict es ep) :
    Turn P w K (.Tuple elts kk tpos) (ItiT d o kvs) [it] it (fun i h => ∃ ok ov, IsItemIter h it d i kvs.length ep ok ov) where
  mem := by simp
  obj := fun i h st b hb => by
    have e : b = it := by simpa using hb
    subst e
    obtain ⟨ok, ov, e⟩ := st
    exact ⟨_, e, fun v z => nomatch z⟩
  keep := fun i h h' st k => let ⟨ok, ov, e⟩ := st; ⟨ok, ov, k it (by simp) _ e⟩
  item := by
    intro X hP hw hK hc i pins s σ H E I hf st hg
    subst hP hw hK
    obtain ⟨hd, hi⟩ := hg
    obtain ⟨hs, hgd, hx, hle, es1, ep1, hdt, hsz, ent⟩ := frzT2 I hd
    obtain ⟨rfl, rfl⟩ := dict_ep hod hdt
    obtain ⟨⟨k, v⟩, hkv⟩ : ∃ p, kvs[i]? = some p := ⟨kvs[i], List.getElem?_eq_getElem hi⟩
    obtain ⟨en, q, hen, hkey, hq, rv⟩ := ent i k v hkv
    obtain ⟨ok, ov, he⟩ := st
    rw [← hsz] at he
    have hie : i < es1.size := by omega
    have een : es1[i] = en := by
      have := Array.getElem?_eq_some_iff.mp hen
      exact this.2
    have hlt : it < s.heap.objs.size := Heap.lt_size he
    refine DT.nextI he ⟨o, hgd, hx, hdt⟩ hie fun h1 ho hT hz hk => ?_
    rw [een, hkey] at hT
    rw [een, hkey] at ho
    refine ⟨_, rfl, wpAny_letOwnedTupleGo_items (s := { s with heap := h1 }) ho fun h2 he' sb => ?_⟩
    have hT2 : h2.get? s.heap.objs.size = some { cls := .type "tuple", data := .seq #[.ref q, en.val] } := (sb.2 _ (Nat.ne_of_gt hlt)).trans hT
    have nw : ObjOk X.prog X.w (upd H s.heap.objs.size (.tup [.ref q, v])) h2 s.heap.objs.size (.tup [.ref q, v]) :=
      ⟨by show 2 ≤ sizeLine; decide, [.ref q, en.val], .cons rfl (.cons rv .nil), ⟨_, hT2, rfl, _, rfl⟩⟩
    have I1 : Inv X pins σ (upd H s.heap.objs.size (.tup [.ref q, v])) { s with heap := h2 } :=
      I.turnedNew (t' := s.toks) (ch := [it]) (fun b ob hb e => (sb.2 b (by simpa using hb)).trans (hk b ob (by simpa using hb) e)) hf (Nat.le_refl _) nw
    refine ⟨.ref s.heap.objs.size, _, I1, rfl, ⟨_, k, v, q, hkv, rfl, I.hok.fresh (Nat.le_refl _), hq, rfl⟩, ⟨.ref q, en.val, ?_⟩, fun b hb => ?_⟩
    · rw [← hsz]; exact he'
    · have e : b = it := by simpa using hb
      rw [e, upd_ne (Nat.ne_of_lt hlt)]
      exact (hf it (by simp)).1
  done := by
    intro X hP hw hK hc i pins s σ H E I hf st hg
    subst hP hw hK
    obtain ⟨hd, hi⟩ := hg
    obtain ⟨f0, f1, f2, f3, f4, f5⟩ := hf it (by simp)
    obtain ⟨hs, hgd, hx, hle, es1, ep1, hdt, hsz, ent⟩ := frzT2 I hd
    obtain ⟨rfl, rfl⟩ := dict_ep hod hdt
    obtain ⟨ok, ov, he⟩ := st
    rw [← hsz] at he
    exact DT.endI (I.ok.hd hc) he ⟨o, hgd, hx, hdt⟩ (by omega) fun h1 eb => ⟨rfl, I.turned (t' := s.toks) (fun b ob hb e => eb b ob hb e) f0 f1 f3 f4 f5⟩
  self := fun A i s Q E st h => let ⟨_, _, e⟩ := st; PySem.W.kcp_self e h
end
def iItT (td : TE) : TI := fun σ H R => td σ H fun x H1 => ∃ d o kvs, x = .ref d ∧ H1 d = some (.frz o (.dT kvs)) ∧ R (ItiT d o kvs) H1
section
variable {X : Cx} {e : Expr} {td : TE} {apos cpos : Pos}
theorem pi_itT {elts : List Expr} {kk : Nat} {tpos : Pos} (he : PE X e td) (hbase : attributeBase e "items" X.env (eval e X.env) = eval e X.env := by rfl) (hline : (apos.endLine == cpos.line) = true := by rfl) :
    PI X (.Tuple elts kk tpos) (.Call (.Attribute e "items" apos) [] [] cpos) (iItT td) := by
  refine ⟨fun pins s σ H R I h => ?_⟩
  refine wpAny_Call_method (T := "dict") (id := "dict.items") hbase rfl hline F.plainAttrs_dict F.slot_dict_items F.type_dict_items (thn (he.run pins s σ H _ I h) fun u z ⟨x, H1, I1, rx, d, o, kvs, ex, hd, q⟩ => ?_)
  subst ex
  obtain rfl : u = Value.ref d := rx
  obtain ⟨hs, hgd, hx, hle, es, ep, hdt, hsz, ent⟩ := frzT2 I1 hd
  have hm : DT.Raw z.heap d es ep := ⟨o, hgd, hx, hdt⟩
  refine ⟨hm.typeIs, fun b qb => by cases qb; exact ⟨o, hgd, hx.2.1⟩, ?_⟩
  have I2 : Inv X pins σ H1 { z with heap := z.heap.push { cls := .type "dict_items", data := .fields #[.ref d] } } := I1.kept (t' := z.toks) fun b ob q => Heap.get?_push_of_some _ q
  have fin : wpAny (model X.prog X.w) X.A (pyIter (.ref z.heap.objs.size)) (PIE X pins σ (.Tuple elts kk tpos) R) X.xe { z with heap := z.heap.push { cls := .type "dict_items", data := .fields #[.ref d] } } := by
    refine DT.iterI (d := d) ⟨_, Heap.get?_push_size _ rfl, rfl, rfl⟩ (hm.push _) (pi_one (tk := z.toks) I2 _ (turn_itT _ hdt) ⟨.none, .none, ?_⟩ q)
    rw [← hsz]
    exact Heap.get?_push_size _ rfl
  show wpAny _ _ (callWith cpos (.builtin "dict.items") [.ref d] [] []) _ X.xe z
  exact method_meetsIn F.slot_dict_items F.entry_dict_items rfl (PySem.evalArgs_none ⟨rfl, hm.typeIs, F.args_dict_items_1 _, _, DT.meetsItems (es := es) (ep := ep) hs, hm, fin⟩)
end
end MV
set_option Elab.async false
set_option linter.all false
set_option maxRecDepth 100000
set_option maxHeartbeats 4000000
namespace MV
open PySem PySem.Spec PyProof.Rows L2
/-! ### pairs that are made as they are walked -/
def numd (i : Nat) : List D → List W
  | [] => []
  | d :: r => .val (.tup [.int i, d]) :: numd (i + 1) r
def zips : List D → List D → List W
  | a :: r, b :: s => .val (.tup [a, b]) :: zips r s
  | _, _ => []
def prsK : List (Key × D) → List W
  | [] => []
  | (k, d) :: r => .val (.tup [keyD k, d]) :: prsK r
def prsT : List (List Key × D) → List W
  | [] => []
  | (k, d) :: r => .val (.tup [.tup (keyDs k), d]) :: prsT r
theorem numd_get : ∀ {l : List D} {n i : Nat} {w : W}, (numd n l)[i]? = some w → ∃ d, l[i]? = some d ∧ w = .val (.tup [.int (n + i : Nat), d])
  | [], _, _, _, h => by simp [numd] at h
  | d :: r, n, 0, w, h => by
    simp [numd] at h
    exact ⟨d, rfl, h.symm⟩
  | _ :: r, n, i + 1, w, h => by
    obtain ⟨d, h1, h2⟩ := numd_get (l := r) (n := n + 1) (i := i) (w := w) (by simpa [numd] using h)
    refine ⟨d, by simpa using h1, ?_⟩
    rw [h2]
    congr 5
    omega
theorem numd_len : ∀ (l : List D) (n : Nat), (numd n l).length = l.length
  | [], _ => rfl
  | _ :: r, n => congrArg (· + 1) (numd_len r (n + 1))
theorem zips_get : ∀ {a b : List D} {i : Nat} {w : W}, (zips a b)[i]? = some w → ∃ x y, a[i]? = some x ∧ b[i]? = some y ∧ w = .val (.tup [x, y])
  | [], _, _, _, h => by simp [zips] at h
  | _ :: _, [], _, _, h => by simp [zips] at h
  | x :: r, y :: s, 0, w, h => by
    simp [zips] at h
    exact ⟨x, y, rfl, rfl, h.symm⟩
  | _ :: r, _ :: s, i + 1, w, h => by
    obtain ⟨x, y, h1, h2, h3⟩ := zips_get (a := r) (b := s) (i := i) (w := w) (by simpa [zips] using h)
    exact ⟨x, y, by simpa using h1, by simpa using h2, h3⟩
theorem zips_len : ∀ (a b : List D), (zips a b).length = min a.length b.length
  | [], _ => by simp [zips]
  | _ :: _, [] => by simp [zips]
  | _ :: r, _ :: s => by
    have := zips_len r s
    simp [zips, this]
theorem prsK_get : ∀ {l : List (Key × D)} {i : Nat} {w : W}, (prsK l)[i]? = some w → ∃ k d, l[i]? = some (k, d) ∧ w = .val (.tup [keyD k, d])
  | [], _, _, h => by simp [prsK] at h
  | (k, d) :: r, 0, w, h => by
    simp [prsK] at h
    exact ⟨k, d, rfl, h.symm⟩
  | _ :: r, i + 1, w, h => by
    obtain ⟨k, d, h1, h2⟩ := prsK_get (l := r) (i := i) (w := w) (by simpa [prsK] using h)
    exact ⟨k, d, by simpa using h1, h2⟩
theorem prsK_len : ∀ (l : List (Key × D)), (prsK l).length = l.length
  | [] => rfl
  | _ :: r => congrArg (· + 1) (prsK_len r)
theorem prsT_get : ∀ {l : List (List Key × D)} {i : Nat} {w : W}, (prsT l)[i]? = some w → ∃ k d, l[i]? = some (k, d) ∧ w = .val (.tup [.tup (keyDs k), d])
  | [], _, _, h => by simp [prsT] at h
  | (k, d) :: r, 0, w, h => by
    simp [prsT] at h
    exact ⟨k, d, rfl, h.symm⟩
  | _ :: r, i + 1, w, h => by
    obtain ⟨k, d, h1, h2⟩ := prsT_get (l := r) (i := i) (w := w) (by simpa [prsT] using h)
    exact ⟨k, d, by simpa using h1, h2⟩
theorem prsT_len : ∀ (l : List (List Key × D)), (prsT l).length = l.length
  | [] => rfl
  | _ :: r => congrArg (· + 1) (prsT_len r)
section
variable {G : Gx} {B1 H1 : Hp} {ρ1 : Nat → Addr} {Y1 : Ys}
/-- a new pair -/
theorem pair_new {B H : Hp} {ρ : Nat → Addr} {Y : Ys} (R : Rel G B H ρ Y) {T : Addr} {x y : V} {a b : D} (hT : H T = none) (rx : Rep G B x a) (ry : Rep G B y b) :
    ∃ B', Aft G B H ρ Y B' (upd H T (.tup [x, y])) ρ Y ∧ WRep G B' ρ Y.length (.ref T) (.val (.tup [a, b])) := by
  have A := Aft.new R (.tup [x, y]) hT
  exact ⟨_, A, .tup upd_same (by show 2 ≤ sizeLine; decide) (.cons (rx.le A.le) (.cons (ry.le A.le) .nil))⟩
theorem it_enL {a : Addr} {vs : List V} {ds : List D} (hq : ∀ B H ρ Y, Aft G B1 H1 ρ1 Y1 B H ρ Y → SqL G.K H a vs) (r : Reps G B1 vs ds) : ItR G B1 H1 ρ1 Y1 (Ite G.K a) (numd 0 ds) := by
  intro B H ρ Y A i
  have q := hq B H ρ Y A
  have r' := r.le A.le
  refine ⟨fun w hw => ?_, fun hl => ⟨vs, q, by rw [r.length, ← numd_len ds 0]; exact hl⟩⟩
  obtain ⟨d, h1, rfl⟩ := numd_get hw
  obtain ⟨v, hv, _⟩ := r'.get h1
  refine ⟨⟨vs, v, q, hv⟩, fun y H' hy => ?_⟩
  obtain ⟨T, x, rfl, hT, rfl, hx⟩ := hy
  obtain ⟨d', h2, h3⟩ := r'.getV (hx vs q)
  rw [h1] at h2
  cases h2
  have := pair_new A.rel hT (Rep.int (G := G) (B := B) (i : Nat)) h3
  simpa using this
theorem it_enT {a : Addr} {vs : List V} {ds : List D} (hq : ∀ B H ρ Y, Aft G B1 H1 ρ1 Y1 B H ρ Y → SqT G.K H a vs) (r : Reps G B1 vs ds) : ItR G B1 H1 ρ1 Y1 (IteT G.K a) (numd 0 ds) := by
  intro B H ρ Y A i
  have q := hq B H ρ Y A
  have r' := r.le A.le
  refine ⟨fun w hw => ?_, fun hl => ⟨vs, q, by rw [r.length, ← numd_len ds 0]; exact hl⟩⟩
  obtain ⟨d, h1, rfl⟩ := numd_get hw
  obtain ⟨v, hv, _⟩ := r'.get h1
  refine ⟨⟨vs, v, q, hv⟩, fun y H' hy => ?_⟩
  obtain ⟨T, x, rfl, hT, rfl, hx⟩ := hy
  obtain ⟨d', h2, h3⟩ := r'.getV (hx vs q)
  rw [h1] at h2
  cases h2
  have := pair_new A.rel hT (Rep.int (G := G) (B := B) (i : Nat)) h3
  simpa using this
theorem it_zpL {a b : Addr} {vs us : List V} {ds es : List D} (hq : ∀ B H ρ Y, Aft G B1 H1 ρ1 Y1 B H ρ Y → SqL G.K H a vs ∧ SqL G.K H b us) (r : Reps G B1 vs ds) (r2 : Reps G B1 us es) : ItR G B1 H1 ρ1 Y1 (Itz G.K a b) (zips ds es) := by
  intro B H ρ Y A i
  obtain ⟨q, q2⟩ := hq B H ρ Y A
  have r' := r.le A.le
  have r2' := r2.le A.le
  refine ⟨fun w hw => ?_, fun hl => ⟨vs, us, q, q2, ?_⟩⟩
  · obtain ⟨d, d2, h1, h2, rfl⟩ := zips_get hw
    obtain ⟨v, hv, _⟩ := r'.get h1
    obtain ⟨v2, hv2, _⟩ := r2'.get h2
    refine ⟨⟨vs, us, v, v2, q, q2, hv, hv2⟩, fun y H' hy => ?_⟩
    obtain ⟨T, x, x2, rfl, hT, rfl, hx, hx2⟩ := hy
    obtain ⟨d', h3, h4⟩ := r'.getV (hx vs q)
    rw [h1] at h3
    cases h3
    obtain ⟨d', h3, h5⟩ := r2'.getV (hx2 us q2)
    rw [h2] at h3
    cases h3
    exact pair_new A.rel hT h4 h5
  · rw [zips_len] at hl
    rw [r.length, r2.length]
    omega
theorem it_zpT {a b : Addr} {vs us : List V} {ds es : List D} (hq : ∀ B H ρ Y, Aft G B1 H1 ρ1 Y1 B H ρ Y → SqT G.K H a vs ∧ SqT G.K H b us) (r : Reps G B1 vs ds) (r2 : Reps G B1 us es) : ItR G B1 H1 ρ1 Y1 (RZ.ItzT G.K a b) (zips ds es) := by
  intro B H ρ Y A i
  obtain ⟨q, q2⟩ := hq B H ρ Y A
  have r' := r.le A.le
  have r2' := r2.le A.le
  refine ⟨fun w hw => ?_, fun hl => ⟨vs, us, q, q2, ?_⟩⟩
  · obtain ⟨d, d2, h1, h2, rfl⟩ := zips_get hw
    obtain ⟨v, hv, _⟩ := r'.get h1
    obtain ⟨v2, hv2, _⟩ := r2'.get h2
    refine ⟨⟨vs, us, v, v2, q, q2, hv, hv2⟩, fun y H' hy => ?_⟩
    obtain ⟨T, x, x2, rfl, hT, rfl, hx, hx2⟩ := hy
    obtain ⟨d', h3, h4⟩ := r'.getV (hx vs q)
    rw [h1] at h3
    cases h3
    obtain ⟨d', h3, h5⟩ := r2'.getV (hx2 us q2)
    rw [h2] at h3
    cases h3
    exact pair_new A.rel hT h4 h5
  · rw [zips_len] at hl
    rw [r.length, r2.length]
    omega
theorem it_prK {a : Addr} {od : Obj} {kvs : List (Key × V)} {kds : List (Key × D)} (R : Rel G B1 H1 ρ1 Y1) (hb : B1 a = some (.dK kvs)) (h : H1 a = some (.frz od (.dK kvs))) (r : RepKV G B1 kvs kds) : ItR G B1 H1 ρ1 Y1 (Iti a od kvs) (prsK kds) := by
  intro B H ρ Y A i
  have h' := frz_at R hb h A
  refine ⟨fun w hw => ?_, fun hl => ⟨h', by rw [r.length, ← prsK_len]; exact hl⟩⟩
  obtain ⟨k, d, h1, rfl⟩ := prsK_get hw
  have hlt : i < kvs.length := by
    rw [r.length]
    exact (List.getElem?_eq_some_iff.mp h1).1
  refine ⟨⟨h', hlt⟩, fun y H' hy => ?_⟩
  obtain ⟨T, k', v', h2, rfl, hT, rfl⟩ := hy
  obtain ⟨d', h3, h4⟩ := (r.le A.le).getV h2
  rw [h1] at h3
  cases h3
  exact pair_new A.rel hT (kV_keyD k) h4
theorem it_prT {a : Addr} {od : Obj} {kvs : List (List Key × V)} {kds : List (List Key × D)} (hz : ∀ p ∈ kds, p.1.length ≤ sizeLine) (R : Rel G B1 H1 ρ1 Y1) (hb : B1 a = some (.dT kvs)) (h : H1 a = some (.frz od (.dT kvs))) (r : RepKV G B1 kvs kds) : ItR G B1 H1 ρ1 Y1 (ItiT a od kvs) (prsT kds) := by
  intro B H ρ Y A i
  have h' := frz_at R hb h A
  refine ⟨fun w hw => ?_, fun hl => ⟨h', by rw [r.length, ← prsT_len]; exact hl⟩⟩
  obtain ⟨k, d, h1, rfl⟩ := prsT_get hw
  have hlt : i < kvs.length := by
    rw [r.length]
    exact (List.getElem?_eq_some_iff.mp h1).1
  refine ⟨⟨h', hlt⟩, fun y H' hy => ?_⟩
  obtain ⟨T, k', v', q, h2, rfl, hT, hq, rfl⟩ := hy
  obtain ⟨d', h3, h4⟩ := (r.le A.le).getV h2
  rw [h1] at h3
  cases h3
  obtain ⟨B', A', hb'⟩ := Aft.seen A.rel hq
  obtain ⟨B2, A2, w2⟩ := pair_new A'.rel hT (Rep.tup (G := G) (ds := keyDs k) hb' (by simpa using hz _ (List.mem_of_getElem? h1)) (kVs_keyDs k)) (h4.le A'.le)
  exact ⟨B2, A'.trans A2, w2⟩
end
def dItems (f : Den) : IDen := fun τ Y => (f τ Y).iter fun w _ => match w with
  | .val (.dK kds) => some (prsK kds)
  | .val (.dT kds) => (match keysShort kds with
    | true => some (prsT kds)
    | false => none)
  | _ => none
/-- a list or a tuple as a row of data -/
def rowOf : W → Option (Bool × List D)
  | .val (.lst ds) => some (true, ds)
  | .val (.tup ds) => some (false, ds)
  | .val (.ktup ds) => some (false, ds)
  | _ => none
def dEnum (f : ADen) : IDen := fun τ Y => match f τ Y with
  | .ok [w] Y1 => (match rowOf w with
    | some (_, ds) => .ok (numd 0 ds) Y1
    | none => .bad)
  | .ok _ _ => .bad
  | .exc c fs Y1 => .exc c fs Y1
  | .bad => .bad
def dZip (f : ADen) : IDen := fun τ Y => match f τ Y with
  | .ok [w, u] Y1 => (match rowOf w, rowOf u with
    | some (true, ds), some (true, es) => .ok (zips ds es) Y1
    | some (false, ds), some (false, es) => .ok (zips ds es) Y1
    | _, _ => .bad)
  | .ok _ _ => .bad
  | .exc c fs Y1 => .exc c fs Y1
  | .bad => .bad
theorem rowOf_at {G : Gx} {B1 H1 : Hp} {ρ1 : Nat → Addr} {Y1 : Ys} {w : W} {k : Bool} {ds : List D} {x : V} (R : Rel G B1 H1 ρ1 Y1) (r : WRep G B1 ρ1 Y1.length x w) (e : rowOf w = some (k, ds)) :
    ∃ a vs, x = .ref a ∧ Reps G B1 vs ds ∧ ∀ B H ρ Y, Aft G B1 H1 ρ1 Y1 B H ρ Y → if k = true then SqL G.K H a vs else SqT G.K H a vs := by
  unfold rowOf at e
  split at e
  · cases e
    cases r with
    | lst hh hl rr => exact ⟨_, _, rfl, rr, fun B H ρ Y A => .inl (.inl (A.rel.lst (A.le _ _ hh)))⟩
  · cases e
    cases r with
    | tup hh hl rr => exact ⟨_, _, rfl, rr, fun B H ρ Y A => .inl (.inl (A.rel.tup (A.le _ _ hh)))⟩
  · cases e
    cases r with
    | ktup hh hl rr => exact ⟨_, _, rfl, rr, fun B H ρ Y A => hh _⟩
  · cases e
section
variable {cls : Cl} {X : Cx} {W : WX} {pos p apos cpos tpos : Pos} {e a b : Expr} {fe : Den} {fa : ADen} {elts : List Expr} {kk : Nat}
theorem di_items (he : DE cls X W e fe) (hbase : attributeBase e "items" X.env (eval e X.env) = eval e X.env := by rfl) (hline : (apos.endLine == cpos.line) = true := by rfl) :
    DI cls X W (.Tuple elts kk tpos) (.Call (.Attribute e "items" apos) [] [] cpos) (dItems fe) := by
  obtain ⟨t, p, he⟩ := he
  refine ⟨_, PI.or (pi_items (pe_lk p) hbase hline) (pi_itT (pe_lk p) hbase hline), fun σ H R B ρ Y τ Rl T h => ?_⟩
  unfold dItems at h
  cases e1 : fe τ Y with
  | bad =>
    rw [e1] at h
    exact h.elim
  | exc c fs Y1 =>
    rw [e1] at h
    refine .inl (he σ H _ B ρ Y τ Rl T ?_)
    rw [e1]
    exact h
  | ok w Y1 =>
    rw [e1] at h
    unfold Re.iter at h
    dsimp only at h
    split at h
    · rename_i ws e2
      split at e2
      · cases e2
        refine .inl (lk_run he Rl T _ e1 (fun v B' ρ' r => ?_) fun v a u od H' B' ρ' L ev r hb hf lk A => ?_)
        · cases r with
          | dK hh rr => exact ⟨_, .dK _, rfl, True.intro, hh⟩
        · subst ev
          cases r with
          | dK hh rr =>
            rw [hh] at hb
            cases hb
            exact ⟨a, od, _, rfl, hf, h _ B' H' ρ' L A lk (it_prK (G := gx cls X) (A.rel.lk lk) hh hf rr)⟩
      · split at e2
        · rename_i hs
          cases e2
          refine .inr (lk_run he Rl T _ e1 (fun v B' ρ' r => ?_) fun v a u od H' B' ρ' L ev r hb hf lk A => ?_)
          · cases r with
            | dT hh rr => exact ⟨_, .dT _, rfl, True.intro, hh⟩
          · subst ev
            cases r with
            | dT hh rr =>
              rw [hh] at hb
              cases hb
              exact ⟨a, od, _, rfl, hf, h _ B' H' ρ' L A lk (it_prT (G := gx cls X) (keysShort_at hs) (A.rel.lk lk) hh hf rr)⟩
        · cases e2
      · cases e2
    · exact h.elim
theorem di_enum (hm : X.mg "enumerate" = none) (ha : DA cls X W [a] fa) (hg : Gl X "enumerate" := by rfl) (hs : starEach [a] X.env = [(false, eval a X.env)] := by rfl) :
    DI cls X W (.Tuple elts kk tpos) (.Call (.Name "enumerate" p) [a] [] pos) (dEnum fa) := by
  obtain ⟨t, pa, ha⟩ := ha
  refine ⟨_, PI.or (pi_enum hg hm pa hs) (pi_enT hg hm pa hs), fun σ H R B ρ Y τ Rl T h => ?_⟩
  unfold dEnum at h
  split at h
  · rename_i w Y1 e1
    split at h
    · rename_i k ds e2
      cases k with
      | true =>
        refine .inl (ha σ H _ B ρ Y τ Rl T ?_)
        rw [e1]
        intro vs B' H' ρ' A r
        cases r with
        | cons r rr =>
          cases rr
          obtain ⟨q, us, rfl, r3, r4⟩ := rowOf_at A.rel r e2
          exact ⟨q, us, rfl, r4 _ _ _ _ (Aft.refl A.rel), h _ B' H' ρ' none A trivial (it_enL (G := gx cls X) r4 r3)⟩
      | false =>
        refine .inr (ha σ H _ B ρ Y τ Rl T ?_)
        rw [e1]
        intro vs B' H' ρ' A r
        cases r with
        | cons r rr =>
          cases rr
          obtain ⟨q, us, rfl, r3, r4⟩ := rowOf_at A.rel r e2
          exact ⟨q, us, rfl, r4 _ _ _ _ (Aft.refl A.rel), h _ B' H' ρ' none A trivial (it_enT (G := gx cls X) r4 r3)⟩
    · exact h.elim
  · exact h.elim
  · rename_i e1
    refine .inl (ha σ H _ B ρ Y τ Rl T ?_)
    rw [e1]
    exact h
  · exact h.elim
theorem di_zip (hm : X.mg "zip" = none) (ha : DA cls X W [a, b] fa) (hg : Gl X "zip" := by rfl) (hs : starEach [a, b] X.env = (false, eval a X.env) :: starEach [b] X.env := by rfl) (hpl : (backTo pos (starEach [b] X.env)).any (·.1) = false := by rfl) :
    DI cls X W (.Tuple elts kk tpos) (.Call (.Name "zip" p) [a, b] [] pos) (dZip fa) := by
  obtain ⟨t, pa, ha⟩ := ha
  refine ⟨_, RZ.pi_zipA hg hm pa hs hpl, fun σ H R B ρ Y τ Rl T h => ?_⟩
  unfold dZip at h
  refine ha σ H _ B ρ Y τ Rl T ?_
  split at h
  · rename_i w u Y1 e1
    rw [e1]
    split at h
    · rename_i ds es e2 e3
      intro vs B' H' ρ' A r
      cases r with
      | cons r rr =>
        cases rr with
        | cons r' rr =>
          cases rr
          obtain ⟨q, us, rfl, r3, r4⟩ := rowOf_at A.rel r e2
          obtain ⟨q', us', rfl, r5, r6⟩ := rowOf_at A.rel r' e3
          exact ⟨q, q', us, us', rfl, .inl ⟨r4 _ _ _ _ (Aft.refl A.rel), r6 _ _ _ _ (Aft.refl A.rel), h _ B' H' ρ' none A trivial (it_zpL (G := gx cls X) (fun B H ρ Y A => ⟨r4 _ _ _ _ A, r6 _ _ _ _ A⟩) r3 r5)⟩⟩
    · rename_i ds es e2 e3
      intro vs B' H' ρ' A r
      cases r with
      | cons r rr =>
        cases rr with
        | cons r' rr =>
          cases rr
          obtain ⟨q, us, rfl, r3, r4⟩ := rowOf_at A.rel r e2
          obtain ⟨q', us', rfl, r5, r6⟩ := rowOf_at A.rel r' e3
          exact ⟨q, q', us, us', rfl, .inr ⟨r4 _ _ _ _ (Aft.refl A.rel), r6 _ _ _ _ (Aft.refl A.rel), h _ B' H' ρ' none A trivial (it_zpT (G := gx cls X) (fun B H ρ Y A => ⟨r4 _ _ _ _ A, r6 _ _ _ _ A⟩) r3 r5)⟩⟩
    · exact h.elim
  · exact h.elim
  · rename_i e1
    rw [e1]
    exact h
  · exact h.elim
end
end MV
set_option Elab.async false
set_option linter.all false
set_option maxRecDepth 100000
set_option maxHeartbeats 4000000
namespace MV
open PySem PySem.Spec PyProof.Rows L2
/-! ### a list that grows, beside all that is told -/
def hid (H : Hp) (D : Addr) : Hp := fun b => if b = D then none else H b
theorem hid_same {H : Hp} {D : Addr} : hid H D D = none := if_pos rfl
theorem hid_ne {H : Hp} {D b : Addr} (h : b ≠ D) : hid H D b = H b := if_neg h
theorem hid_upd {H : Hp} {D : Addr} {o : HO} (h : H D = some o) : upd (hid H D) D o = H := by
  funext b
  by_cases e : b = D
  · rw [e, upd_same, h]
  · rw [upd_ne e, hid_ne e]
theorem hid_of_upd {H : Hp} {D : Addr} {o : HO} : hid (upd H D o) D = hid H D := by
  funext b
  by_cases e : b = D
  · rw [e, hid_same, hid_same]
  · rw [hid_ne e, hid_ne e, upd_ne e]
theorem hid_none {H : Hp} {D : Addr} (h : H D = none) : hid H D = H := by
  funext b
  by_cases e : b = D
  · rw [e, hid_same, h]
  · rw [hid_ne e]
section
variable {G : Gx} {B H B' H' : Hp} {ρ ρ' : Nat → Addr} {Y Y' : Ys} {D : Addr} {xs : List V}
theorem Rel.hid_live (R : Rel G B (hid H D) ρ Y) {n : Nat} (l : Live Y n) : ρ n ≠ D := fun z => by
  obtain ⟨o, q⟩ := R.at_ l
  rw [z, hid_same] at q
  cases q
theorem Aft.hid (R : Rel G B (hid H D) ρ Y) (hD : H D = some (.lst xs)) (A : Aft G B H ρ Y B' H' ρ' Y') : Aft G B (MV.hid H D) ρ Y B' (MV.hid H' D) ρ' Y' ∧ H' D = some (.lst xs) := by
  have bD : B D = none := R.free hid_same
  have nl : ∀ n, Live Y n → ρ n ≠ D := fun n l => R.hid_live l
  have bD' : B' D = none := by
    cases e : B' D with
    | none => rfl
    | some o =>
      rcases A.fresh D o e bD with z | ⟨n, l, z⟩ | ⟨ys, z, sn⟩
      · rw [hD] at z
        cases z
      · exact absurd z (nl n l)
      · rw [hD] at z
        cases z
        exact sn.elim
  have nl' : ∀ n, Live Y' n → ρ' n ≠ D := fun n l z => by
    rcases A.live n l with ⟨h1, h2⟩ | h1
    · rw [A.adr n h1] at z
      exact nl n h2 z
    · rw [z, hD] at h1
      exact h1.elim
  have hD' : H' D = some (.lst xs) := A.frame D _ hD nl nofun
  refine ⟨⟨⟨fun a o e => ?_, A.rel.non, fun n yo e => ?_, A.rel.inj, A.rel.tabs.to (fun b o e z => ?_) fun _ _ h => h⟩, A.le, fun a o e h ht => ?_, fun a o e h => ?_, A.adr, fun n l => ?_, A.len, fun a h => ?_⟩, hD'⟩
  · have ne : a ≠ D := ne_of_none e bD'
    rw [hid_ne ne]
    exact A.rel.sub a o e
  · by_cases hd : yo = .dead
    · subst hd
      trivial
    · rw [hid_ne (nl' n ⟨yo, e, hd⟩)]
      exact A.rel.obj n yo e
  · rw [hid_ne (fun q => by rw [q, hD'] at e; cases e; exact z)]
    exact e
  · have ne : a ≠ D := fun z => by
      rw [z, hid_same] at e
      cases e
    rw [hid_ne ne] at e ⊢
    exact A.frame a o e h ht
  · have ne : a ≠ D := ne_of_none e bD'
    rw [hid_ne ne]
    exact A.fresh a o e h
  · rcases A.live n l with h1 | h1
    · exact .inl h1
    · exact .inr (by rw [hid_ne (nl' n l)]; exact h1)
  · by_cases ne : a = D
    · rw [ne, hid_same]
      trivial
    · rw [hid_ne ne] at h ⊢
      exact A.dom a h
theorem Aft.shown (R : Rel G B (MV.hid H D) ρ Y) (hD : H D = some (.lst xs)) : Aft G B (MV.hid H D) ρ Y B H ρ Y := by
  have A := Aft.own (o := .lst xs) R hid_same
  rw [hid_upd hD] at A
  exact A
end
/-! ### targets of a comprehension -/
def wipeT (τ : Ts) : List Nat → Ts
  | [] => τ
  | v :: vs => (wipeT τ vs).set v none
theorem wipeT_get {τ : Ts} {i : Nat} {x : W} : ∀ {vs : List Nat}, (wipeT τ vs)[i]? = some (some x) → τ[i]? = some (some x) ∧ i ∉ vs
  | [], h => ⟨h, by simp⟩
  | v :: vs, h => by
    unfold wipeT at h
    by_cases hi : v = i
    · subst hi
      by_cases hv : v < (wipeT τ vs).length
      · rw [List.getElem?_set_self hv] at h
        cases h
      · rw [List.getElem?_eq_none (by simpa using hv)] at h
        cases h
    · rw [List.getElem?_set_ne hi] at h
      obtain ⟨h1, h2⟩ := wipeT_get h
      exact ⟨h1, by simp only [List.mem_cons, not_or]; exact ⟨fun e => hi e.symm, h2⟩⟩
theorem wipeT_len (τ : Ts) : ∀ vs : List Nat, (wipeT τ vs).length = τ.length
  | [] => rfl
  | v :: vs => by
    unfold wipeT
    rw [List.length_set, wipeT_len τ vs]
theorem wipe_get {σ : L2.St} {i : Nat} : ∀ {vs : List Nat}, i ∉ vs → (wipe σ vs)[i]? = σ[i]?
  | [], _ => rfl
  | v :: vs, h => by
    unfold wipe
    have hv : v ≠ i := fun e => h (by simp [e])
    rw [List.getElem?_set_ne hv]
    exact wipe_get fun z => h (by simp [z])
theorem wipe_in {σ : L2.St} {i : Nat} : ∀ {vs : List Nat}, i ∈ vs → i < σ.length → (wipe σ vs)[i]? = some none
  | [], h, _ => by simp at h
  | v :: vs, h, hl => by
    unfold wipe
    by_cases hv : v = i
    · subst hv
      rw [List.getElem?_set_self (by rw [wipe_length]; exact hl)]
    · rw [List.getElem?_set_ne hv]
      refine wipe_in ?_ hl
      rcases List.mem_cons.mp h with z | z
      · exact absurd z.symm hv
      · exact z
theorem wipe_ext {σ σ' : L2.St} {vs : List Nat} (hl : σ'.length = σ.length) (h : ∀ i, i ∉ vs → σ'[i]? = σ[i]?) : wipe σ' vs = wipe σ vs := by
  refine List.ext_getElem? fun i => ?_
  by_cases hi : i ∈ vs
  · by_cases hlt : i < σ.length
    · rw [wipe_in hi hlt, wipe_in hi (by rw [hl]; exact hlt)]
    · rw [List.getElem?_eq_none (by rw [wipe_length, hl]; omega), List.getElem?_eq_none (by rw [wipe_length]; omega)]
  · rw [wipe_get hi, wipe_get hi]
    exact h i hi
theorem TR.wipe {G : Gx} {B : Hp} {ρ : Nat → Addr} {n : Nat} {σ : L2.St} {τ : Ts} (T : TR G B ρ n σ τ) (vs : List Nat) : TR G B ρ n (L2.wipe σ vs) (wipeT τ vs) := by
  refine ⟨by rw [wipe_length, wipeT_len]; exact T.len, fun i w e => ?_⟩
  obtain ⟨h1, h2⟩ := wipeT_get e
  obtain ⟨v, h3, h4⟩ := T.at_ i w h1
  exact ⟨v, by rw [wipe_get h2]; exact h3, h4⟩
/-- a target whose slots are among vs -/
def DGc (cls : Cl) (X : Cx) (tg : Expr) (vs : List Nat) (g : W → Ts → Ys → Option Ts) : Prop :=
  ∃ t : TG, PG X tg t ∧ ∀ v σ H Q B ρ Y τ w τ', Rel (gx cls X) B H ρ Y → TR (gx cls X) B ρ Y.length σ τ → WRep (gx cls X) B ρ Y.length v w → g w τ Y = some τ' → (∀ σ', TR (gx cls X) B ρ Y.length σ' τ' → σ'.length = σ.length → (∀ i, i ∉ vs → σ'[i]? = σ[i]?) → Q σ' H) → t v σ H Q
def DGcs (cls : Cl) (X : Cx) (tgs : List Expr) (is : List Nat) (g : List W → Ts → Ys → Option Ts) : Prop :=
  ∃ t : TGs, PGs X tgs t ∧ ∀ vs σ H Q B ρ Y τ ws τ', Rel (gx cls X) B H ρ Y → TR (gx cls X) B ρ Y.length σ τ → WReps (gx cls X) B ρ Y.length vs ws → g ws τ Y = some τ' → (∀ σ', TR (gx cls X) B ρ Y.length σ' τ' → σ'.length = σ.length → (∀ i, i ∉ is → σ'[i]? = σ[i]?) → Q σ' H) → t vs σ H Q
section
variable {cls : Cl} {X : Cx} {W : WX} {pos : Pos}
theorem gc_name (i : Nat) {x : Str} {vs : List Nat} (hN : X.N.Nodup) (hv : i ∈ vs := by decide) (hi : X.N[i]? = some x := by rfl) (hx : Loc X.env.scope x := by first | exact Or.inl rfl | exact Or.inr rfl) (hf : X.fn x = true ∨ X.env.scope.names.lookup x = some .local := by first | exact .inr rfl | exact .inl rfl) : DGc cls X (.Name x pos) vs (gNm i) :=
  ⟨_, pg_name hN hi hx hf, fun v σ H Q B ρ Y τ w τ' R T r e q => by
    cases e
    exact q _ (T.set r) (by simp) fun j hj => List.getElem?_set_ne fun z => hj (by rw [← z]; exact hv)⟩
theorem gcs_nil {is : List Nat} : DGcs cls X [] is gsNil := ⟨_, pgs_nil, fun vs σ H Q B ρ Y τ ws τ' R T r e q => by
  cases r with
  | nil =>
    cases e
    exact ⟨rfl, q _ T rfl fun _ _ => rfl⟩
  | cons _ _ => cases e⟩
theorem gcs_cons {e : Expr} {es : List Expr} {is : List Nat} {g : MV.W → Ts → Ys → Option Ts} {h : List MV.W → Ts → Ys → Option Ts} (h1 : DGc cls X e is g) (h2 : DGcs cls X es is h)
    (hs : (assignEach (e :: es) X.env).map (·.2) = assign e X.env :: (assignEach es X.env).map (·.2) := by rfl) : DGcs cls X (e :: es) is (gsCons g h) := by
  obtain ⟨t1, p1, h1⟩ := h1
  obtain ⟨t2, p2, h2⟩ := h2
  refine ⟨_, pgs_cons p1 p2 hs, fun vs σ H Q B ρ Y τ ws τ' R T r e q => ?_⟩
  cases r with
  | nil => cases e
  | cons r rr =>
    unfold gsCons at e
    dsimp only at e
    split at e
    · rename_i τ1 e1
      refine ⟨_, _, rfl, h1 _ σ H _ B ρ Y τ _ τ1 R T r e1 fun σ1 T1 l1 a1 => ?_⟩
      exact h2 _ σ1 H Q B ρ Y τ1 _ τ' R T1 rr e fun σ2 T2 l2 a2 => q σ2 T2 (l2.trans l1) fun i hi => (a2 i hi).trans (a1 i hi)
    · cases e
theorem gc_tup {es : List Expr} {k n : Nat} {is : List Nat} {h : List MV.W → Ts → Ys → Option Ts} (hc : X.calm = true) (hs : DGcs cls X es is h) (hn : (assignEach es X.env).length = n := by rfl) (hst : (assignEach es X.env).findIdx? (·.1) = none := by rfl) : DGc cls X (.Tuple es k pos) is (gTp n h) := by
  obtain ⟨t, p, hs⟩ := hs
  refine ⟨_, PG.or (pg_tup hc p hn hst) (pg_unl hc p hn hst), fun v σ H Q B ρ Y τ w τ' R T r e q => ?_⟩
  unfold gTp at e
  split at e
  · rename_i ws e1
    split at e
    · rename_i e2
      obtain ⟨a, vs, h1, h2, _, h3⟩ := sqOf_at R r e1
      have hl : vs.length = n := by rw [Paired.length h3]; exact Nat.eq_of_beq_eq_true e2
      rcases h2 with h2 | h2
      · exact .inr ⟨a, vs, h1, h2, hl, hs vs σ H Q B ρ Y τ ws τ' R T h3 e q⟩
      · exact .inl ⟨a, vs, h1, h2, hl, hs vs σ H Q B ρ Y τ ws τ' R T h3 e q⟩
    · cases e
  · cases e
end
/-! ### tests of a clause -/
def W0 : WX := fun _ _ _ _ => False
def DTs (cls : Cl) (X : Cx) (W : WX) (ifs : List Expr) (f : TDen) : Prop :=
  ∃ t : TT, PTs X ifs t ∧ ∀ σ H Q B ρ Y τ, Rel (gx cls X) B H ρ Y → TR (gx cls X) B ρ Y.length σ τ → TeOk (gx cls X) W σ B H ρ Y Q (f τ Y) → t σ H Q
def tAll : TDen := fun _ Y => .ok true Y
theorem dts_nil {cls : Cl} {X : Cx} {W : WX} : DTs cls X W [] tAll := ⟨_, pts_nil, fun σ H Q B ρ Y τ R T h => h B H ρ (Aft.refl R)⟩
theorem dts_one {cls : Cl} {X : Cx} {W : WX} {c : Expr} {f : TDen} (h : DT cls X W c f) : DTs cls X W [c] f := by
  obtain ⟨t, p, h⟩ := h
  exact ⟨t, pts_one p, h⟩
/-! ### [e for target in iter if ..] -/
def lcL (g : W → Ts → Ys → Option Ts) (t : TDen) (e : Den) (τ : Ts) : List W → Ys → Option (List W × Ys)
  | [], Y => some ([], Y)
  | w :: ws, Y => (match g w τ Y with
    | some τ1 => (match t τ1 Y with
      | .ok true Y1 => (match e τ1 Y1 with
        | .ok u Y2 => (match lcL g t e τ ws Y2 with
          | some (us, Y3) => some (u :: us, Y3)
          | none => none)
        | _ => none)
      | .ok false Y1 => lcL g t e τ ws Y1
      | _ => none)
    | none => none)
/-- the items -/
def lcA (f : IDen) (g : W → Ts → Ys → Option Ts) (t : TDen) (e : Den) (vs : List Nat) : ADen := fun τ Y => match f τ Y with
  | .ok ws Y1 => (match lines ws.length with
    | true => (match lcL g t e (wipeT τ vs) ws Y1 with
      | some (us, Y2) => .ok us Y2
      | none => .bad)
    | false => .bad)
  | .exc c fs Y1 => .exc c fs Y1
  | .bad => .bad
theorem Paired.snoc {α β : Type} {F : α → β → Prop} {l₁ : List α} {l₂ : List β} (h : Paired F l₁ l₂) {a : α} {b : β} (hab : F a b) : Paired F (l₁ ++ [a]) (l₂ ++ [b]) := Paired.app h (.cons hab .nil)
section
variable {cls : Cl} {X : Cx} {W : WX} {pos : Pos} {elt tg iter : Expr} {ifs : List Expr} {scope : Scope}
/-- the block's walk: at its end the list at D holds the items, beside all that is told -/
theorem lc_run {fi : IDen} {g : MV.W → Ts → Ys → Option Ts} {ft : TDen} {fe : Den} {is : List Nat} {wi : TI} {tgt : TG} {tt : TT} {te : TE}
    (hi : ∀ σ H R B ρ Y τ, Rel (gx cls X) B H ρ Y → TR (gx cls X) B ρ Y.length σ τ → RiOk X (gx cls X) W σ B H ρ Y R (fi τ Y) → wi σ H R)
    (hg : ∀ v σ H Q B ρ Y τ w τ', Rel (gx cls X) B H ρ Y → TR (gx cls X) B ρ Y.length σ τ → WRep (gx cls X) B ρ Y.length v w → g w τ Y = some τ' → (∀ σ', TR (gx cls X) B ρ Y.length σ' τ' → σ'.length = σ.length → (∀ i, i ∉ is → σ'[i]? = σ[i]?) → Q σ' H) → tgt v σ H Q)
    (ht : ∀ σ H Q B ρ Y τ, Rel (gx cls X) B H ρ Y → TR (gx cls X) B ρ Y.length σ τ → TeOk (gx cls X) W0 σ B H ρ Y Q (ft τ Y) → tt σ H Q)
    (he : ∀ σ H Q B ρ Y τ, Rel (gx cls X) B H ρ Y → TR (gx cls X) B ρ Y.length σ τ → ReOk (gx cls X) W0 σ B H ρ Y Q (fe τ Y) → te σ H Q)
    {σ : L2.St} {H : Hp} {Q : VK} {B : Hp} {ρ : Nat → Addr} {Y : Ys} {τ : Ts} (R : Rel (gx cls X) B H ρ Y) (T : TR (gx cls X) B ρ Y.length σ τ) {k : List MV.W → Ys → Re} (h : ReOk (gx cls X) W σ B H ρ Y Q ((lcA fi g ft fe is τ Y).bind k))
    (fin : ∀ (us : List MV.W) (Y2 : Ys) (B2 H2 : Hp) (ρ2 : Nat → Addr) (D : Addr) (xs : List V), ReOk (gx cls X) W σ B2 (MV.hid H2 D) ρ2 Y2 Q (k us Y2) → Rel (gx cls X) B2 (MV.hid H2 D) ρ2 Y2 → H2 D = some (.lst xs) → xs.length ≤ sizeLine → WReps (gx cls X) B2 ρ2 Y2.length xs us → Q (.ref D) H2) :
    tUnE X (tLc wi tgt tt te is) σ H Q := by
  refine hi σ H _ B ρ Y τ R T ?_
  unfold lcA at h
  cases e1 : fi τ Y with
  | bad =>
    rw [e1] at h
    exact h.elim
  | exc c fs Y1 =>
    rw [e1] at h
    exact h
  | ok ws Y1 =>
    rw [e1] at h
    dsimp only at h
    cases e2 : lines ws.length with
    | false =>
      rw [e2] at h
      exact h.elim
    | true =>
      rw [e2] at h
      dsimp only at h
      have hws := lines_ok e2
      cases e3 : lcL g ft fe (wipeT τ is) ws Y1 with
      | none =>
        rw [e3] at h
        exact h.elim
      | some p =>
        obtain ⟨us, Y2⟩ := p
        rw [e3] at h
        replace h : ReOk (gx cls X) W σ B H ρ Y Q (k us Y2) := h
        intro J B1 H1 ρ1 L A1 k1 it D hD
        have R1 : Rel (gx cls X) B1 H1 ρ1 Y1 := A1.rel.lk k1
        refine ⟨fun i m H' => m = ws.length - i ∧ i ≤ ws.length ∧ ∃ B' ρ' Y' acc vs rest, H' D = some (.lst acc) ∧ acc.length ≤ i ∧ WReps (gx cls X) B' ρ' Y'.length acc vs ∧ Aft (gx cls X) B1 H1 ρ1 Y1 B' (MV.hid H' D) ρ' Y' ∧ lcL g ft fe (wipeT τ is) (ws.drop i) Y' = some (rest, Y2) ∧ us = vs ++ rest,
          ⟨ws.length, by simp, Nat.zero_le _, B1, ρ1, Y1, [], [], us, upd_same, Nat.le_refl _, .nil, by rw [hid_of_upd, hid_none hD]; exact Aft.refl R1, by rw [List.drop_zero]; exact e3, rfl⟩, ?_⟩
        rintro i m H2 ⟨rfl, hile, B2, ρ2, Y', acc, vs, rest, hacc, hal, hw, A2, el, eu⟩
        have Rh := A2.rel
        have Ash := Aft.shown Rh hacc
        have A2s := A2.trans Ash
        by_cases hlt : i < ws.length
        · have hdrop : ws.drop i = ws[i] :: ws.drop (i + 1) := by simp
          have hget : ws[i]? = some ws[i] := by simp [hlt]
          rw [hdrop] at el
          obtain ⟨go, step⟩ := (it B2 H2 ρ2 Y' A2s i).1 _ hget
          refine .inr ⟨go, fun H3 => i + 1 ≤ ws.length ∧ ∃ B' ρ' Y' acc vs rest, H3 D = some (.lst acc) ∧ acc.length ≤ i + 1 ∧ WReps (gx cls X) B' ρ' Y'.length acc vs ∧ Aft (gx cls X) B1 H1 ρ1 Y1 B' (MV.hid H3 D) ρ' Y' ∧ lcL g ft fe (wipeT τ is) (ws.drop (i + 1)) Y' = some (rest, Y2) ∧ us = vs ++ rest,
            fun H3 h3 => ⟨ws.length - (i + 1), by omega, rfl, h3.1, h3.2⟩, fun x H3 hy => ?_⟩
          obtain ⟨B3, A3, r3⟩ := step x H3 hy
          obtain ⟨A3h, hD3⟩ := A3.hid Rh hacc
          have T2 : TR (gx cls X) B3 ρ2 Y'.length (L2.wipe σ is) (wipeT τ is) := by
            have T1 := (T.aft A1).wipe is
            exact (T1.aft A2s).aft A3
          unfold lcL at el
          cases eg : g ws[i] (wipeT τ is) Y' with
          | none =>
            rw [eg] at el
            cases el
          | some τ3 =>
            rw [eg] at el
            dsimp only at el
            refine hg x _ H3 _ B3 ρ2 Y' _ ws[i] τ3 A3.rel T2 r3 eg fun σ4 T4 l4 a4 => ⟨?_, ?_⟩
            · have : L2.wipe σ4 is = L2.wipe (L2.wipe σ is) is := wipe_ext l4 a4
              rw [this]
              exact wipe_ext (wipe_length σ is) fun j hj => wipe_get hj
            · refine ht σ4 H3 _ B3 ρ2 Y' τ3 A3.rel T4 ?_
              cases et : ft τ3 Y' with
              | bad =>
                rw [et] at el
                cases el
              | exc c fs Y4 =>
                rw [et] at el
                cases el
              | ok b Y4 =>
                rw [et] at el
                intro B4 H4 ρ4 A4
                obtain ⟨A4h, hD4⟩ := A4.hid A3h.rel hD3
                cases b with
                | false =>
                  rw [if_neg Bool.false_ne_true]
                  refine ⟨hlt, B4, ρ4, Y4, acc, vs, rest, hD4, Nat.le_succ_of_le hal, ?_, (A2.trans A3h).trans A4h, el, eu⟩
                  exact WReps.aft A4 (WReps.aft A3 (WReps.aft Ash hw))
                | true =>
                  rw [if_pos rfl]
                  dsimp only at el
                  refine he σ4 H4 _ B4 ρ4 Y4 τ3 A4.rel (T4.aft A4) ?_
                  cases ee : fe τ3 Y4 with
                  | bad =>
                    rw [ee] at el
                    cases el
                  | exc c fs Y5 =>
                    rw [ee] at el
                    cases el
                  | ok u Y5 =>
                    rw [ee] at el
                    dsimp only at el
                    intro y B5 H5 ρ5 A5 r5
                    obtain ⟨A5h, hD5⟩ := A5.hid A4h.rel hD4
                    cases er : lcL g ft fe (wipeT τ is) (ws.drop (i + 1)) Y5 with
                    | none =>
                      rw [er] at el
                      cases el
                    | some q =>
                      obtain ⟨us', Y6⟩ := q
                      rw [er] at el
                      cases el
                      refine ⟨acc, hD5, by omega, hlt, B5, ρ5, Y5, acc ++ [y], vs ++ [u], us', upd_same, by simp; omega, ?_, ?_, er, by rw [eu]; simp⟩
                      · exact Paired.snoc (WReps.aft A5 (WReps.aft A4 (WReps.aft A3 (WReps.aft Ash hw)))) r5
                      · rw [hid_of_upd]
                        exact ((A2.trans A3h).trans A4h).trans A5h
        · have hi' : i = ws.length := by omega
          subst hi'
          rw [List.drop_length] at el
          unfold lcL at el
          cases el
          refine .inl ⟨(it B2 H2 ρ2 _ A2s _).2 (Nat.le_refl _), L, ?_, ?_⟩
          · obtain ⟨Au, ku⟩ := A2s.unlk k1 A1.rel
            exact ku.un
          · obtain ⟨Au, ku⟩ := A2.unlk k1 A1.rel
            have eh : unlk L (MV.hid H2 D) = MV.hid (unlk L H2) D := by
              cases L with
              | none => rfl
              | some p =>
                obtain ⟨a, od, u⟩ := p
                have hne : a ≠ D := fun z => by
                  have := k1.1
                  rw [z, hD] at this
                  cases this
                funext b
                show upd (MV.hid H2 D) a u b = MV.hid (upd H2 a u) D b
                by_cases hb : b = a
                · subst hb
                  rw [upd_same, hid_ne hne, upd_same]
                · by_cases hb2 : b = D
                  · subst hb2
                    rw [upd_ne hb, hid_same, hid_same]
                  · rw [upd_ne hb, hid_ne hb2, hid_ne hb2, upd_ne hb]
            have hDu : unlk L H2 D = some (.lst acc) := by
              cases L with
              | none => exact hacc
              | some p =>
                obtain ⟨a, od, u⟩ := p
                have hne : D ≠ a := fun z => by
                  have := k1.1
                  rw [← z, hD] at this
                  cases this
                show upd H2 a u D = _
                rw [upd_ne hne]
                exact hacc
            rw [eh] at Au
            have Aall := A1.trans Au
            have eus : us = vs := by
              rw [eu]
              simp
            subst eus
            exact fin us _ B2 _ ρ2 D acc (ReOk.behind Aall h) Aall.rel hDu (by omega) hw
end
end MV
set_option Elab.async false
set_option linter.all false
set_option maxRecDepth 100000
set_option maxHeartbeats 4000000
namespace MV
open PySem PySem.Spec PyProof.Rows L2
/-! ### one reading for all blocks -/
def canE (G : Gx) (W : WX) (f : Den) : TE := fun σ H Q => ∃ B ρ Y τ, Rel G B H ρ Y ∧ TR G B ρ Y.length σ τ ∧ ReOk G W σ B H ρ Y Q (f τ Y)
def canT (G : Gx) (W : WX) (f : TDen) : TT := fun σ H Q => ∃ B ρ Y τ, Rel G B H ρ Y ∧ TR G B ρ Y.length σ τ ∧ TeOk G W σ B H ρ Y Q (f τ Y)
def canG (G : Gx) (is : List Nat) (g : W → Ts → Ys → Option Ts) : TG := fun v σ H Q => ∃ B ρ Y τ w τ', Rel G B H ρ Y ∧ TR G B ρ Y.length σ τ ∧ WRep G B ρ Y.length v w ∧ g w τ Y = some τ' ∧ (∀ σ', TR G B ρ Y.length σ' τ' → σ'.length = σ.length → (∀ i, i ∉ is → σ'[i]? = σ[i]?) → Q σ' H)
section
variable {cls : Cl} {X : Cx} {W : WX} {pos : Pos}
theorem DE.can {e : Expr} {f : Den} (h : DE cls X W e f) : PE X e (canE (gx cls X) W f) := by
  obtain ⟨t, p, h⟩ := h
  exact ⟨fun pins s σ H Q I ⟨B, ρ, Y, τ, R, T, q⟩ => p.run pins s σ H Q I (h σ H Q B ρ Y τ R T q)⟩
theorem DTs.can {ifs : List Expr} {f : TDen} (h : DTs cls X W ifs f) : PTs X ifs (canT (gx cls X) W f) := by
  obtain ⟨t, p, h⟩ := h
  exact ⟨fun pins s σ H Q I ⟨B, ρ, Y, τ, R, T, q⟩ => p.run pins s σ H Q I (h σ H Q B ρ Y τ R T q)⟩
theorem DGc.can {tg : Expr} {is : List Nat} {g : MV.W → Ts → Ys → Option Ts} (h : DGc cls X tg is g) : PG X tg (canG (gx cls X) is g) := by
  obtain ⟨t, p, h⟩ := h
  exact ⟨fun pins s σ H v u Q I r ⟨B, ρ, Y, τ, w, τ', R, T, rw, e, q⟩ => p.run pins s σ H v u Q I r (h v σ H Q B ρ Y τ w τ' R T rw e q)⟩
end
def dLc (fi : IDen) (g : W → Ts → Ys → Option Ts) (ft : TDen) (fe : Den) (is : List Nat) : Den := fun τ Y => (lcA fi g ft fe is τ Y).bind fun us Y2 => match dats us with
  | some ds => .ok (.val (.lst ds)) Y2
  | none => .bad
def dLcR (fi : IDen) (g : W → Ts → Ys → Option Ts) (ft : TDen) (fe : Den) (is : List Nat) : Den := fun τ Y => (lcA fi g ft fe is τ Y).bind fun us Y2 => .ok (.ref Y2.length) (Y2 ++ [.lst us])
section
variable {cls : Cl} {X : Cx} {W : WX} {pos : Pos} {elt tg iter : Expr} {ifs : List Expr} {scope : Scope} {own : List (Str × Nat)} {fi : IDen} {g : MV.W → Ts → Ys → Option Ts} {ft : TDen} {fe : Den}
/-- the block's context -/
abbrev inBlk (X : Cx) (scope : Scope) (P : Cx → Prop) : Prop := ∀ (s : Shared) (H : Hp) (C : Addr) (cl : List (Str × Addr)) (fp : List Addr), P (X.blk s H scope (compEnvC scope cl C X.env) fp)
theorem lc_data {us : List MV.W} {Y2 : Ys} {B2 H2 : Hp} {ρ2 : Nat → Addr} {D : Addr} {xs : List V} {σ : L2.St} {Q : VK} (h : ReOk (gx cls X) W σ B2 (MV.hid H2 D) ρ2 Y2 Q (match dats us with
      | some ds => .ok (.val (.lst ds)) Y2
      | none => .bad)) (R : Rel (gx cls X) B2 (MV.hid H2 D) ρ2 Y2) (hD : H2 D = some (.lst xs)) (hl : xs.length ≤ sizeLine) (r : WReps (gx cls X) B2 ρ2 Y2.length xs us) : Q (.ref D) H2 := by
  cases e : dats us with
  | none =>
    rw [e] at h
    exact h.elim
  | some ds =>
    rw [e] at h
    have A := Aft.new R (.lst xs) hid_same
    rw [hid_upd hD] at A
    exact h (.ref D) _ H2 ρ2 A (.lst upd_same hl ((reps_dats r e).le A.le))
theorem lc_ref {us : List MV.W} {Y2 : Ys} {B2 H2 : Hp} {ρ2 : Nat → Addr} {D : Addr} {xs : List V} {σ : L2.St} {Q : VK} (h : ReOk (gx cls X) W σ B2 (MV.hid H2 D) ρ2 Y2 Q (.ok (.ref Y2.length) (Y2 ++ [.lst us]))) (R : Rel (gx cls X) B2 (MV.hid H2 D) ρ2 Y2) (hD : H2 D = some (.lst xs)) (hl : xs.length ≤ sizeLine)
    (r : WReps (gx cls X) B2 ρ2 Y2.length xs us) : Q (.ref D) H2 := by
  have A := Aft.newR R (p := D) (o := .lst xs) (yo := .lst us) hid_same ⟨xs, rfl, hl, r⟩
  rw [hid_upd hD] at A
  exact h (.ref D) _ H2 _ A ⟨by simp, by rw [extR_at]⟩
theorem d_lc (hc : X.calm = true) (hN : X.N.Nodup) (hi : DI cls X W tg iter fi) (ok : blkC X.N X.env.scope scope own = true) (hg : inBlk X scope fun Z => DGc cls Z tg (own.map (·.2)) g) (ht : inBlk X scope fun Z => DTs cls Z W0 ifs ft) (he : inBlk X scope fun Z => DE cls Z W0 elt fe)
    (hs : ∀ x, foldedSetIterable iter X.env x = pure x := by intro _; rfl) : DE cls X W (.ListComp elt [⟨tg, iter, ifs, 0⟩] scope pos) (dLc fi g ft fe (own.map (·.2))) := by
  obtain ⟨ti, pi, hi⟩ := hi
  refine ⟨_, pe_un (pe_lc (g := canG (gx cls X) (own.map (·.2)) g) (tt := canT (gx cls X) W0 ft) (te := canE (gx cls X) W0 fe) hc hN pi (blkOk_by ok) (fun s H C cl fp => (hg s H C cl fp).can) (fun s H C cl fp => (ht s H C cl fp).can) (fun s H C cl fp => (he s H C cl fp).can) hs), fun σ H Q B ρ Y τ R T h => ?_⟩
  exact lc_run hi (fun v σ H Q B ρ Y τ w τ' R T r e q => ⟨B, ρ, Y, τ, w, τ', R, T, r, e, q⟩) (fun σ H Q B ρ Y τ R T q => ⟨B, ρ, Y, τ, R, T, q⟩) (fun σ H Q B ρ Y τ R T q => ⟨B, ρ, Y, τ, R, T, q⟩) R T h fun us Y2 B2 H2 ρ2 D xs h R hD hl r => lc_data h R hD hl r
theorem d_lcR (hc : X.calm = true) (hN : X.N.Nodup) (hi : DI cls X W tg iter fi) (ok : blkC X.N X.env.scope scope own = true) (hg : inBlk X scope fun Z => DGc cls Z tg (own.map (·.2)) g) (ht : inBlk X scope fun Z => DTs cls Z W0 ifs ft) (he : inBlk X scope fun Z => DE cls Z W0 elt fe)
    (hs : ∀ x, foldedSetIterable iter X.env x = pure x := by intro _; rfl) : DE cls X W (.ListComp elt [⟨tg, iter, ifs, 0⟩] scope pos) (dLcR fi g ft fe (own.map (·.2))) := by
  obtain ⟨ti, pi, hi⟩ := hi
  refine ⟨_, pe_un (pe_lc (g := canG (gx cls X) (own.map (·.2)) g) (tt := canT (gx cls X) W0 ft) (te := canE (gx cls X) W0 fe) hc hN pi (blkOk_by ok) (fun s H C cl fp => (hg s H C cl fp).can) (fun s H C cl fp => (ht s H C cl fp).can) (fun s H C cl fp => (he s H C cl fp).can) hs), fun σ H Q B ρ Y τ R T h => ?_⟩
  exact lc_run hi (fun v σ H Q B ρ Y τ w τ' R T r e q => ⟨B, ρ, Y, τ, w, τ', R, T, r, e, q⟩) (fun σ H Q B ρ Y τ R T q => ⟨B, ρ, Y, τ, R, T, q⟩) (fun σ H Q B ρ Y τ R T q => ⟨B, ρ, Y, τ, R, T, q⟩) R T h fun us Y2 B2 H2 ρ2 D xs h R hD hl r => lc_ref h R hD hl r
/-- name = [..] on one line -/
theorem s_setLc (i : Nat) {y : Str} {py spos : Pos} (hc : X.calm = true) (hN : X.N.Nodup) (hi : DI cls X W tg iter fi) (ok : blkC X.N X.env.scope scope own = true) (hg : inBlk X scope fun Z => DGc cls Z tg (own.map (·.2)) g) (ht : inBlk X scope fun Z => DTs cls Z W0 ifs ft) (he : inBlk X scope fun Z => DE cls Z W0 elt fe)
    (hy : X.N[i]? = some y := by rfl) (hyl : X.env.scope.names.lookup y = some .local := by rfl) (hsw : swapsWith (.ListComp elt [⟨tg, iter, ifs, 0⟩] scope pos) (some (.Name y py)) spos.line X.env = pure true := by rfl)
    (hs : ∀ x, foldedSetIterable iter X.env x = pure x := by intro _; rfl) : DS cls X W (.Assign [.Name y py] (.ListComp elt [⟨tg, iter, ifs, 0⟩] scope pos) spos) (sSet i (dLc fi g ft fe (own.map (·.2)))) := by
  obtain ⟨ti, pi, hi⟩ := hi
  refine ⟨_, ps_un (ps_setLc (g := canG (gx cls X) (own.map (·.2)) g) (tt := canT (gx cls X) W0 ft) (te := canE (gx cls X) W0 fe) hc hN hy hyl hsw pi (blkOk_by ok) (fun s H C cl fp => (hg s H C cl fp).can) (fun s H C cl fp => (ht s H C cl fp).can) (fun s H C cl fp => (he s H C cl fp).can) hs), fun σ H E B ρ Y τ R T h => ?_⟩
  have h' := OutOk.expr (k := fun w Y1 => .next (τ.set i (some w)) Y1) T h
  refine lc_run hi (fun v σ H Q B ρ Y τ w τ' R T r e q => ⟨B, ρ, Y, τ, w, τ', R, T, r, e, q⟩) (fun σ H Q B ρ Y τ R T q => ⟨B, ρ, Y, τ, R, T, q⟩) (fun σ H Q B ρ Y τ R T q => ⟨B, ρ, Y, τ, R, T, q⟩) R T (Q := fun v H1 => E.nx (σ.set i (some v)) H1) (ReOk.imp ?_ h') fun us Y2 B2 H2 ρ2 D xs h R hD hl r => lc_data h R hD hl r
  rintro v H1 ⟨B1, ρ1, w, Y1, A, r, h1⟩
  exact h1 _ B1 H1 ρ1 (Aft.refl A.rel) ((T.aft A).set r)
theorem s_setLcR (i : Nat) {y : Str} {py spos : Pos} (hc : X.calm = true) (hN : X.N.Nodup) (hi : DI cls X W tg iter fi) (ok : blkC X.N X.env.scope scope own = true) (hg : inBlk X scope fun Z => DGc cls Z tg (own.map (·.2)) g) (ht : inBlk X scope fun Z => DTs cls Z W0 ifs ft) (he : inBlk X scope fun Z => DE cls Z W0 elt fe)
    (hy : X.N[i]? = some y := by rfl) (hyl : X.env.scope.names.lookup y = some .local := by rfl) (hsw : swapsWith (.ListComp elt [⟨tg, iter, ifs, 0⟩] scope pos) (some (.Name y py)) spos.line X.env = pure true := by rfl)
    (hs : ∀ x, foldedSetIterable iter X.env x = pure x := by intro _; rfl) : DS cls X W (.Assign [.Name y py] (.ListComp elt [⟨tg, iter, ifs, 0⟩] scope pos) spos) (sSet i (dLcR fi g ft fe (own.map (·.2)))) := by
  obtain ⟨ti, pi, hi⟩ := hi
  refine ⟨_, ps_un (ps_setLc (g := canG (gx cls X) (own.map (·.2)) g) (tt := canT (gx cls X) W0 ft) (te := canE (gx cls X) W0 fe) hc hN hy hyl hsw pi (blkOk_by ok) (fun s H C cl fp => (hg s H C cl fp).can) (fun s H C cl fp => (ht s H C cl fp).can) (fun s H C cl fp => (he s H C cl fp).can) hs), fun σ H E B ρ Y τ R T h => ?_⟩
  have h' := OutOk.expr (k := fun w Y1 => .next (τ.set i (some w)) Y1) T h
  refine lc_run hi (fun v σ H Q B ρ Y τ w τ' R T r e q => ⟨B, ρ, Y, τ, w, τ', R, T, r, e, q⟩) (fun σ H Q B ρ Y τ R T q => ⟨B, ρ, Y, τ, R, T, q⟩) (fun σ H Q B ρ Y τ R T q => ⟨B, ρ, Y, τ, R, T, q⟩) R T (Q := fun v H1 => E.nx (σ.set i (some v)) H1) (ReOk.imp ?_ h') fun us Y2 B2 H2 ρ2 D xs h R hD hl r => lc_ref h R hD hl r
  rintro v H1 ⟨B1, ρ1, w, Y1, A, r, h1⟩
  exact h1 _ B1 H1 ρ1 (Aft.refl A.rel) ((T.aft A).set r)
end
end MV
set_option Elab.async false
set_option linter.all false
set_option maxRecDepth 100000
set_option maxHeartbeats 4000000
namespace MV
open PySem PySem.Spec PyProof.Rows L2
/-! ### while -/
def sWhile (c : TDen) (b : SDen) : Nat → SDen
  | 0 => fun _ _ => .bad
  | n + 1 => fun τ Y => (c τ Y).out τ fun k Y1 => match k with
    | true => (match b τ Y1 with
      | .next τ2 Y2 => sWhile c b n τ2 Y2
      | .cont τ2 Y2 => sWhile c b n τ2 Y2
      | .brk τ2 Y2 => .next τ2 Y2
      | .ret v Y2 => .ret v Y2
      | .exc c fs τ2 Y2 => .exc c fs τ2 Y2
      | .bad => .bad)
    | false => .next τ Y1
theorem s_while {cls : Cl} {X : Cx} {W : WX} {pos : Pos} {c : Expr} {body : List Stmt} {fc : TDen} {b : SDen} (n : Nat) (hp : PassesOwn (model X.prog X.w) X.A X.env X.xe) (hc : DT cls X W c fc) (hb : DSs cls X W body b) : DS cls X W (.While c body [] pos) (sWhile fc b n) := by
  obtain ⟨tc, pc, hc⟩ := hc
  obtain ⟨tb, pb, hb⟩ := hb
  refine ⟨_, ps_while hp pc pb, fun σ H E B ρ Y τ R T h => ?_⟩
  refine ⟨fun m σ' H' => ∃ B' ρ' Y' τ', Rel (gx cls X) B' H' ρ' Y' ∧ TR (gx cls X) B' ρ' Y'.length σ' τ' ∧ OutOk (gx cls X) W σ' B' H' ρ' Y' E (sWhile fc b m τ' Y'), ⟨n, B, ρ, Y, τ, R, T, h⟩, ?_⟩
  rintro m σ1 H1 ⟨B1, ρ1, Y1, τ1, R1, T1, h1⟩
  cases m with
  | zero => exact h1.elim
  | succ m =>
    unfold sWhile at h1
    refine hc σ1 H1 _ B1 ρ1 Y1 τ1 R1 T1 (TeOk.imp ?_ (OutOk.test T1 h1))
    rintro k H2 ⟨B2, ρ2, Y2, A2, h2⟩
    cases k with
    | false => exact h2 σ1 B2 H2 ρ2 (Aft.refl A2.rel) (T1.aft A2)
    | true =>
      rw [if_pos rfl]
      refine ⟨fun σ' H' => ∃ B' ρ' Y' τ', Rel (gx cls X) B' H' ρ' Y' ∧ TR (gx cls X) B' ρ' Y'.length σ' τ' ∧ OutOk (gx cls X) W σ' B' H' ρ' Y' E (sWhile fc b m τ' Y'), fun σ' H' hh => ⟨m, Nat.lt_succ_self m, hh⟩, ?_⟩
      refine hb σ1 H2 _ B2 ρ2 Y2 τ1 A2.rel (T1.aft A2) ?_
      dsimp only at h2
      cases eb : b τ1 Y2 with
      | bad =>
        rw [eb] at h2
        exact h2.elim
      | next τ3 Y3 =>
        rw [eb] at h2
        exact fun σ3 B3 H3 ρ3 A3 T3 => ⟨B3, ρ3, Y3, τ3, A3.rel, T3, OutOk.behind A3 h2⟩
      | cont τ3 Y3 =>
        rw [eb] at h2
        exact fun σ3 B3 H3 ρ3 A3 T3 => ⟨B3, ρ3, Y3, τ3, A3.rel, T3, OutOk.behind A3 h2⟩
      | brk τ3 Y3 =>
        rw [eb] at h2
        exact h2
      | ret v Y3 =>
        rw [eb] at h2
        exact h2
      | exc c fs τ3 Y3 =>
        rw [eb] at h2
        exact h2

/-! ### a thing of the store becomes data, with all within -/
def snds {κ : Type} : List (κ × W) → List W
  | [] => []
  | p :: r => p.2 :: snds r
def keyed {κ : Type} : List (κ × W) → List D → List (κ × D)
  | p :: r, d :: ds => (p.1, d) :: keyed r ds
  | _, _ => []
def frzL (f : Ys → W → Option (D × Ys)) : Ys → List W → Option (List D × Ys)
  | Y, [] => some ([], Y)
  | Y, w :: ws => (match f Y w with
    | some (d, Y1) => (match frzL f Y1 ws with
      | some (ds, Y2) => some (d :: ds, Y2)
      | none => none)
    | none => none)
/-- there yet -/
def alive (Y : Ys) (n : Nat) : Bool := match Y[n]? with
  | some .dead => false
  | some _ => true
  | none => false
def frzW : Nat → Ys → W → Option (D × Ys)
  | 0, Y, w => (match w with
    | .val d => some (d, Y)
    | .ref _ => none)
  | k + 1, Y, w => (match w with
    | .val d => some (d, Y)
    | .ref n => (match Y[n]? with
      | some (.lst ws) => (match frzL (frzW k) Y ws with
        | some (ds, Y1) => (match alive Y1 n with
          | true => some (.lst ds, Y1.set n .dead)
          | false => none)
        | none => none)
      | some (.dK kws) => (match frzL (frzW k) Y (snds kws) with
        | some (ds, Y1) => (match alive Y1 n with
          | true => some (.dK (keyed kws ds), Y1.set n .dead)
          | false => none)
        | none => none)
      | some (.dT kws) => (match frzL (frzW k) Y (snds kws) with
        | some (ds, Y1) => (match alive Y1 n with
          | true => some (.dT (keyed kws ds), Y1.set n .dead)
          | false => none)
        | none => none)
      | some (.ins c ws) => (match frzL (frzW k) Y ws with
        | some (ds, Y1) => (match alive Y1 n with
          | true => some (.ins c ds, Y1.set n .dead)
          | false => none)
        | none => none)
      | _ => none))
section
variable {G : Gx} {H : Hp}
theorem alive_at {Y : Ys} {n : Nat} (h : alive Y n = true) : Live Y n := by
  unfold alive at h
  split at h
  · cases h
  · rename_i yo hn e
    exact ⟨yo, e, fun z => hn z⟩
  · cases h
def FrzOk (G : Gx) (H : Hp) (f : Ys → W → Option (D × Ys)) : Prop := ∀ B ρ Y v w d Y1, Rel G B H ρ Y → WRep G B ρ Y.length v w → f Y w = some (d, Y1) → ∃ B1, Aft G B H ρ Y B1 H ρ Y1 ∧ Rep G B1 v d
theorem frzL_at {f : Ys → W → Option (D × Ys)} (hf : FrzOk G H f) : ∀ {ws : List W} {vs : List V} {B : Hp} {ρ : Nat → Addr} {Y Y1 : Ys} {ds : List D}, Rel G B H ρ Y → WReps G B ρ Y.length vs ws → frzL f Y ws = some (ds, Y1) → ∃ B1, Aft G B H ρ Y B1 H ρ Y1 ∧ Reps G B1 vs ds
  | [], _, B, ρ, Y, Y1, ds, R, r, e => by
    cases r
    cases e
    exact ⟨B, Aft.refl R, .nil⟩
  | w :: ws, _, B, ρ, Y, Y1, ds, R, r, e => by
    cases r with
    | cons r rr =>
      unfold frzL at e
      split at e
      · rename_i d Y2 e1
        obtain ⟨B1, A1, r1⟩ := hf B ρ Y _ w d Y2 R r e1
        split at e
        · rename_i ds' Y3 e2
          cases e
          obtain ⟨B2, A2, r2⟩ := frzL_at hf A1.rel (WReps.aft A1 rr) e2
          exact ⟨B2, A1.trans A2, .cons (r1.le A2.le) r2⟩
        · cases e
      · cases e
theorem snds_reps {κ : Type} {B : Hp} {ρ : Nat → Addr} {n : Nat} : ∀ {kvs : List (κ × V)} {kws : List (κ × W)}, WRepK G B ρ n kvs kws → WReps G B ρ n (kvs.map (·.2)) (snds kws)
  | _, _, .nil => .nil
  | _, _, .cons h r => .cons h.2 (snds_reps r)
theorem keyed_reps {κ : Type} {B B1 : Hp} {ρ : Nat → Addr} {n : Nat} : ∀ {kvs : List (κ × V)} {kws : List (κ × W)} {ds : List D}, WRepK G B ρ n kvs kws → Reps G B1 (kvs.map (·.2)) ds → RepKV G B1 kvs (keyed kws ds)
  | _, _, _, .nil, r => by
    cases r
    exact .nil
  | (k, v) :: _, (k', w) :: _, _, .cons h t, r => by
    cases r with
    | cons r rr =>
      have e : k = k' := h.1
      subst e
      exact .cons r (keyed_reps t rr)
theorem frzW_at : ∀ k, FrzOk G H (frzW k)
  | 0 => fun B ρ Y v w d Y1 R r e => by
    unfold frzW at e
    split at e
    · cases e
      exact ⟨B, Aft.refl R, r⟩
    · cases e
  | k + 1 => fun B ρ Y v w d Y1 R r e => by
    have ih := frzW_at k
    unfold frzW at e
    split at e
    · cases e
      exact ⟨B, Aft.refl R, r⟩
    · rename_i n
      obtain ⟨hn, rfl⟩ := r
      split at e
      · rename_i ws e1
        split at e
        · rename_i ds Y2 e2
          split at e
          · rename_i e3
            cases e
            obtain ⟨vs, h1, h2, h3⟩ := R.obj n _ e1
            obtain ⟨B1, A1, r1⟩ := frzL_at ih R h3 e2
            have A2 := Aft.frz A1.rel (alive_at e3) h1
            exact ⟨_, A1.trans A2, .lst upd_same h2 (r1.le A2.le)⟩
          · cases e
        · cases e
      · rename_i kws e1
        split at e
        · rename_i ds Y2 e2
          split at e
          · rename_i e3
            cases e
            obtain ⟨kvs, h1, h3⟩ := R.obj n _ e1
            obtain ⟨B1, A1, r1⟩ := frzL_at ih R (snds_reps h3) e2
            have A2 := Aft.frz A1.rel (alive_at e3) h1
            exact ⟨_, A1.trans A2, .dK upd_same ((keyed_reps h3 r1).le A2.le)⟩
          · cases e
        · cases e
      · rename_i kws e1
        split at e
        · rename_i ds Y2 e2
          split at e
          · rename_i e3
            cases e
            obtain ⟨kvs, h1, h3⟩ := R.obj n _ e1
            obtain ⟨B1, A1, r1⟩ := frzL_at ih R (snds_reps h3) e2
            have A2 := Aft.frz A1.rel (alive_at e3) h1
            exact ⟨_, A1.trans A2, .dT upd_same ((keyed_reps h3 r1).le A2.le)⟩
          · cases e
        · cases e
      · rename_i c ws e1
        split at e
        · rename_i ds Y2 e2
          split at e
          · rename_i e3
            cases e
            obtain ⟨dx, vs, h1, h2, h3⟩ := R.obj n _ e1
            obtain ⟨B1, A1, r1⟩ := frzL_at ih R h3 e2
            have A2 := Aft.frz A1.rel (alive_at e3) h1
            exact ⟨_, A1.trans A2, .ins upd_same h2 (r1.le A2.le)⟩
          · cases e
        · cases e
      · cases e
end
end MV
set_option Elab.async false
set_option linter.all false
set_option maxRecDepth 100000
set_option maxHeartbeats 4000000
namespace MV
open PySem PySem.Spec PyProof.Rows L2
/-! ### what a def tells -/
abbrev FDen := List W → Ys → Re
def ReE (G : Gx) (E : XK) (B H : Hp) (ρ : Nat → Addr) (Y : Ys) (Q : VK) (r : Re) : Prop := ReOk G (fun c d _ H => E c d H) [] B H ρ Y Q r
def spW (G : Gx) (n : Nat) (fn : FDen) : Sp := fun vs H Q E => vs.length = n ∧ ∃ B ρ Y ws, Rel G B H ρ Y ∧ WReps G B ρ Y.length vs ws ∧ ReE G E B H ρ Y Q (fn ws Y)
/-- data to data -/
inductive Pr where
  | ok (d : D) | exc (c : Nat) (fs : Option (List (Str × D))) | bad
abbrev PDen := List D → Pr
def liftP (f : PDen) : FDen := fun ws Y => match dats ws with
  | some ds => (match f ds with
    | .ok d => .ok (.val d) Y
    | .exc c fs => .exc c fs Y
    | .bad => .bad)
  | none => .bad
/-- the slots at the start: m of them -/
def startT (m : Nat) (ws : List W) : Ts := match m, ws with
  | m, [] => List.replicate m none
  | 0, _ :: _ => []
  | m + 1, w :: r => some w :: startT m r
def runW (F : SDen) (m : Nat) : FDen := fun ws Y => match F (startT m ws) Y with
  | .ret w Y1 => .ok w Y1
  | .next _ Y1 => .ok (.val .non) Y1
  | .exc c fs _ Y1 => .exc c fs Y1
  | _ => .bad
def runP (F : SDen) (m : Nat) : PDen := fun ds => match F (startT m (vals ds)) [] with
  | .ret w Y1 => (match frzW 20 Y1 w with
    | some (d, _) => .ok d
    | none => .bad)
  | .next _ _ => .ok .non
  | .exc c fs _ _ => .exc c fs
  | _ => .bad
theorem start_len (N : List Str) {vs : List V} (h : vs.length ≤ N.length) : (L2.start N vs).length = N.length := by
  unfold L2.start
  simp
  omega
theorem startT_len : ∀ (m : Nat) (ws : List W), ws.length ≤ m → (startT m ws).length = m
  | m, [], _ => by simp [startT]
  | 0, _ :: _, h => by simp at h
  | m + 1, w :: r, h => by
    have := startT_len m r (by simpa using h)
    simp [startT, this]
theorem startT_get : ∀ {m : Nat} {ws : List W} {i : Nat} {w : W}, (startT m ws)[i]? = some (some w) → ws[i]? = some w
  | m, [], i, w, h => by
    simp only [startT, List.getElem?_replicate] at h
    split at h <;> cases h
  | 0, _ :: _, i, w, h => by simp [startT] at h
  | m + 1, x :: r, 0, w, h => by
    simp [startT] at h
    simp [h]
  | m + 1, x :: r, i + 1, w, h => by
    have := startT_get (m := m) (ws := r) (i := i) (w := w) (by simpa [startT] using h)
    simpa using this
theorem TR.start {G : Gx} {B : Hp} {ρ : Nat → Addr} {n : Nat} {N : List Str} {vs : List V} {ws : List W} (r : WReps G B ρ n vs ws) (h : vs.length ≤ N.length) : TR G B ρ n (L2.start N vs) (startT N.length ws) := by
  have hl : vs.length = ws.length := Paired.length r
  refine ⟨by rw [start_len N h, startT_len _ _ (by omega)], fun i w e => ?_⟩
  obtain ⟨v, h1, h2⟩ := Paired.get r (startT_get e)
  refine ⟨v, ?_, h2⟩
  unfold L2.start
  have hi : i < vs.length := (List.getElem?_eq_some_iff.mp h1).1
  rw [List.getElem?_append_left (by simpa using hi), List.getElem?_map, h1]
  rfl
/-- what a def of its own store leaves is no harm to another store -/
theorem Aft.own_store {G : Gx} {B H B' H' : Hp} {ρ ρ0 ρ' : Nat → Addr} {Y Y' : Ys} (R : Rel G B H ρ Y) (A : Aft G B H ρ0 [] B' H' ρ' Y') : Aft G B H ρ Y B' H' ρ Y := by
  have nol : ∀ n, ¬ Live ([] : Ys) n := fun n ⟨_, e, _⟩ => by simp at e
  have hH : ∀ n, Live Y n → H' (ρ n) = H (ρ n) := fun n l => by
    obtain ⟨o, e⟩ := R.at_ l
    rw [e]
    exact A.frame _ _ e (fun m l' => absurd l' (nol m)) fun ps z => R.noTb l e (by rw [z]; trivial)
  have hB : ∀ n, Live Y n → B' (ρ n) = none := fun n l => by
    cases e : B' (ρ n) with
    | none => rfl
    | some o =>
      rcases A.fresh _ o e (R.non n l) with z | ⟨m, l', _⟩ | ⟨xs, z, sn⟩
      · obtain ⟨o', e'⟩ := R.at_ l
        rw [z] at e'
        cases e'
      · exact absurd l' (nol m)
      · obtain ⟨yo, e1, nd⟩ := l
        have ho := R.obj n yo e1
        rw [z] at ho
        cases yo with
        | lst ws => obtain ⟨_, e, _⟩ := ho; cases e; exact sn.elim
        | dK ws => obtain ⟨_, e, _⟩ := ho; cases e; exact sn.elim
        | dT ws => obtain ⟨_, e, _⟩ := ho; cases e; exact sn.elim
        | ins c ws => obtain ⟨_, _, e, _⟩ := ho; cases e; exact sn.elim
        | dead => exact absurd rfl nd
  refine ⟨⟨A.rel.sub, hB, fun n yo e => ?_, R.inj, A.rel.tabs⟩, A.le, fun a o e _ ht => A.frame a o e (fun m l' => absurd l' (nol m)) ht, fun a o e h => ?_, fun _ _ => rfl, fun n l => .inl ⟨l.lt, l⟩, Nat.le_refl _, A.dom⟩
  · by_cases hd : yo = .dead
    · subst hd
      trivial
    · rw [hH n ⟨yo, e, hd⟩]
      exact (R.obj n yo e).le' A.le (Nat.le_refl _) fun _ _ => rfl
  · rcases A.fresh a o e h with z | ⟨m, l', _⟩ | z
    · exact .inl z
    · exact absurd l' (nol m)
    · exact .inr (.inr z)
theorem ExcAt.frzd {G : Gx} {B H B' : Hp} {d : Option Addr} {fs : Option (List (Str × D))} (l : Le B B') (h : ExcAt G B H d fs) : ExcAt G B' H d fs := by
  cases fs with
  | none => exact h
  | some fs =>
    obtain ⟨dx, vs, h1, h2, h3⟩ := h
    exact ⟨dx, vs, h1, h2, h3.le l⟩
/-! ### a def's body keeps it -/
section
variable {P : Program} {w : World} {K : PySem.W.Frag} {mg : Str → Option Value} {base : Heap} {x qual : Str} {params : Arguments} {body : List Stmt} {scope : Scope} {dvs : List V} {kws : List (Str × V)} {f : Addr} {fd : FuncData} {N ps : List Str} {k : Nat} {cls : Cl}
/-- the body, at every call -/
def BodyAt (P : Program) (w : World) (K : PySem.W.Frag) (mg : Str → Option Value) (base : Heap) (cls : Cl) (N : List Str) (qual : Str) (scope : Scope) (f : Addr) (k : Nat) (body : List Stmt) (F : SDen) (cdv : Value) : Prop :=
  ∀ (A : Around) (outer : List Env) (s : Shared) (H : Hp) (E : XK), Room k (A.deeper (envOfC qual scope s.heap.objs.size f cdv)) → DSs cls (cxOf (L2.CX P w) P w K mg base N qual scope f cdv A outer s H E) (fun c d _ H => E c d H) body F
def Body (P : Program) (w : World) (K : PySem.W.Frag) (mg : Str → Option Value) (base : Heap) (cls : Cl) (N : List Str) (qual : Str) (scope : Scope) (f : Addr) (k : Nat) (body : List Stmt) (F : SDen) : Prop := ∀ cdv : Value, BodyAt P w K mg base cls N qual scope f k body F cdv
theorem run_w {F : SDen} (S : FnScope N ps scope) (cdv : Value) (hb : BodyAt P w K mg base cls N qual scope f k body F cdv) (A : Around) (outer : List Env) (s : Shared) (H : Hp) (vs : List V) (Q : VK) (E : XK) (hr : Room k (A.deeper (envOfC qual scope s.heap.objs.size f cdv))) (h : spW ⟨K, mg, cls.at_, cls.fs, cls.T⟩ ps.length (runW F N.length) vs H Q E) : ∃ t, PSs (cxOf (L2.CX P w) P w K mg base N qual scope f cdv A outer s H E) body t ∧ t { nx := fun _ H' => Q .non H', rt := Q } (L2.start N vs) H := by
  obtain ⟨hl, B, ρ, Y, ws, R, r, q⟩ := h
  obtain ⟨t, p, hb⟩ := hb A outer s H E hr
  refine ⟨t, p, hb _ H _ B ρ Y (startT N.length ws) R (TR.start r ?_) ?_⟩
  · have := congrArg List.length S.pre
    rw [List.length_take] at this
    omega
  · unfold runW at q
    cases e : F (startT N.length ws) Y with
    | bad => rw [e] at q; exact q.elim
    | brk _ _ => rw [e] at q; exact q.elim
    | cont _ _ => rw [e] at q; exact q.elim
    | ret w' Y1 => rw [e] at q; exact q
    | next τ1 Y1 =>
      rw [e] at q
      exact fun σ' B' H' ρ' A T => q .non B' H' ρ' A .non
    | exc c fs τ1 Y1 =>
      rw [e] at q
      exact fun d σ' B' H' ρ' A T x => q d B' H' ρ' A x
theorem fn_w {F : SDen} (FD : FunD K x qual params body scope dvs kws f fd) (S : FnScope N ps scope) (hb : Body P w K mg base cls N qual scope f k body F) : FnOk P w K mg base (L2.CX P w) (k + 1) f fd ps (spW ⟨K, mg, cls.at_, cls.fs, cls.T⟩ ps.length (runW F N.length)) :=
  FD.ok S (fun vs H Q E h => h.1) fun cdv A outer s H vs Q E hr h => run_w S cdv (hb cdv) A outer s H vs Q E hr h
theorem run_p {F : SDen} (S : FnScope N ps scope) (cdv : Value) (hb : BodyAt P w K mg base cls N qual scope f k body F cdv) (A : Around) (outer : List Env) (s : Shared) (H : Hp) (vs : List V) (Q : VK) (E : XK) (hr : Room k (A.deeper (envOfC qual scope s.heap.objs.size f cdv))) (h : spW ⟨K, mg, cls.at_, cls.fs, cls.T⟩ ps.length (liftP (runP F N.length)) vs H Q E) : ∃ t, PSs (cxOf (L2.CX P w) P w K mg base N qual scope f cdv A outer s H E) body t ∧ t { nx := fun _ H' => Q .non H', rt := Q } (L2.start N vs) H := by
  obtain ⟨hl, B, ρ, Y, ws, R, r, q⟩ := h
  obtain ⟨t, p, hb⟩ := hb A outer s H E hr
  unfold liftP at q
  cases e0 : dats ws with
  | none => rw [e0] at q; exact q.elim
  | some ds =>
    rw [e0] at q
    dsimp only at q
    have rd := reps_dats r e0
    have R0 : Rel ⟨K, mg, cls.at_, cls.fs, cls.T⟩ B H ρ [] := ⟨R.sub, fun n ⟨_, e, _⟩ => by simp at e, fun n yo e => by simp at e, fun n m ⟨_, e, _⟩ => by simp at e, R.tabs⟩
    refine ⟨t, p, hb _ H _ B ρ [] (startT N.length (vals ds)) R0 (TR.start (reps_vals rd) ?_) ?_⟩
    · have := congrArg List.length S.pre
      rw [List.length_take] at this
      omega
    · unfold runP at q
      cases e : F (startT N.length (vals ds)) [] with
      | bad => rw [e] at q; exact q.elim
      | brk _ _ => rw [e] at q; exact q.elim
      | cont _ _ => rw [e] at q; exact q.elim
      | ret w' Y1 =>
        rw [e] at q
        dsimp only at q
        cases e2 : frzW 20 Y1 w' with
        | none => rw [e2] at q; exact q.elim
        | some pr =>
          obtain ⟨d, Y2⟩ := pr
          rw [e2] at q
          intro v B' H' ρ' A r'
          obtain ⟨B1, A1, r1⟩ := frzW_at (G := ⟨K, mg, cls.at_, cls.fs, cls.T⟩) 20 B' ρ' Y1 v w' d Y2 A.rel r' e2
          exact q v B1 H' ρ (Aft.own_store R (A.trans A1)) r1
      | next τ1 Y1 =>
        rw [e] at q
        exact fun σ' B' H' ρ' A T => q .non B' H' ρ (Aft.own_store R A) .non
      | exc c fs τ1 Y1 =>
        rw [e] at q
        exact fun d σ' B' H' ρ' A T x => q d B' H' ρ (Aft.own_store R A) x
theorem fn_p {F : SDen} (FD : FunD K x qual params body scope dvs kws f fd) (S : FnScope N ps scope) (hb : Body P w K mg base cls N qual scope f k body F) : FnOk P w K mg base (L2.CX P w) (k + 1) f fd ps (spW ⟨K, mg, cls.at_, cls.fs, cls.T⟩ ps.length (liftP (runP F N.length))) :=
  FD.ok S (fun vs H Q E h => h.1) fun cdv A outer s H vs Q E hr h => run_p S cdv (hb cdv) A outer s H vs Q E hr h
end
/-! ### what a body's context has -/
structure In (X : Cx) (W : WX) (k : Nat) : Prop where
  calm : X.calm = true
  tk : Takes X W
  room : Room k X.A
theorem in_body {P : Program} {w : World} {K : PySem.W.Frag} {mg : Str → Option Value} {base : Heap} {N : List Str} {qual : Str} {scope : Scope} {f : Addr} {k : Nat} {cdv : Value} {A : Around} {outer : List Env} {s : Shared} {H : Hp} {E : XK}
    (hr : Room k (A.deeper (envOfC qual scope s.heap.objs.size f cdv))) : In (cxOf (L2.CX P w) P w K mg base N qual scope f cdv A outer s H E) (fun c d _ H => E c d H) k :=
  ⟨rfl, takes_of rfl rfl rfl rfl, hr⟩
theorem pass_body {P : Program} {w : World} {K : PySem.W.Frag} {mg : Str → Option Value} {base : Heap} {N : List Str} {qual : Str} {scope : Scope} {f : Addr} {cdv : Value} {A : Around} {outer : List Env} {s : Shared} {H : Hp} {E : XK} :
    PassesOwn (model P w) (A.deeper (envOfC qual scope s.heap.objs.size f cdv)) (envOfC qual scope s.heap.objs.size f cdv) (cxOf (L2.CX P w) P w K mg base N qual scope f cdv A outer s H E).xe := passes_of (X := cxOf (L2.CX P w) P w K mg base N qual scope f cdv A outer s H E) rfl
theorem In.blk {X : Cx} {W : WX} {k : Nat} (i : In X W k) {s : Shared} {H : Hp} {scope : Scope} {cenv : Env} {fp : List Addr} : In (X.blk s H scope cenv fp) W0 k := ⟨i.calm, fun _ _ ⟨_, _, _, _, _, _, _, _, _, _, _, _, _, _, _, _, z⟩ => z.elim, i.room⟩
end MV
set_option Elab.async false
set_option linter.all false
set_option maxRecDepth 100000
set_option maxHeartbeats 4000000
namespace MV
open PySem PySem.Spec PyProof.Rows L2
/-! ### the arguments of a call -/
abbrev TA2 := L2.St → Hp → (List V → List V → Hp → Prop) → Prop
structure PCa (X : Cx) (args : List Expr) (kws : List Keyword) (ks : List Str) (t : TA2) : Prop where
  run : ∀ (pos : Pos) (f : Value) (first : List Value) (Q : Value → Shared → Prop) (pins : List (Addr × Obj)) (s : Shared) (σ : L2.St) (H : Hp), PySem.W.keepIn X.K f = true → Inv X pins σ H s →
    ∀ R : List V → List V → Hp → Prop, t σ H R → (∀ vs zs H1 us ws s1, R vs zs H1 → Inv X pins σ H1 s1 → Vals vs us → Vals zs ws → wpAny (model X.prog X.w) X.A (call f (first ++ us) (ks.zip ws)) Q X.xe s1) →
    wpAny (model X.prog X.w) X.A (callWith pos f first (backTo pos (starEach args X.env)) (backToKw pos (keywordEach kws X.env))) Q X.xe s
section
variable {X : Cx} {e : Expr} {es : List Expr} {kws : List Keyword} {ks : List Str} {ta tk : TA}
theorem ca_none : PCa X [] [] [] (fun σ H Q => Q [] [] H) := ⟨fun pos f first Q pins s σ H hk I R h c => PySem.W.callWith_K0 I.kIn hk (c [] [] H [] [] s h I .nil .nil)⟩
theorem ca_pos (ha : PA X (e :: es) ta) (he : starEach (e :: es) X.env = (false, eval e X.env) :: starEach es X.env) (hpl : ∀ pos, (backTo pos (starEach es X.env)).any (·.1) = false) : PCa X (e :: es) [] [] (fun σ H Q => ta σ H fun vs H1 => Q vs [] H1) :=
  ⟨fun pos f first Q pins s σ H hk I R h c => PySem.W.callWith_K (h₀ := X.base) I.ok.mod.kin hk (thn (ha.run pos pins s σ H _ I h) fun us s1 ⟨vs, H1, I1, r, q⟩ => ⟨I1.kIn, c vs [] H1 us [] s1 q I1 r .nil⟩) he (hpl pos)⟩
theorem ca_kw (hkw : PK X kws tk) (hall : ∀ pos, (backToKw pos (keywordEach kws X.env)).all (·.1.isSome) = true) (hks : ∀ pos, (backToKw pos (keywordEach kws X.env)).filterMap (·.1) = ks)
    (hpl : ∀ pos, ((backTo pos (starEach [] X.env)).any (·.1) || (backToKw pos (keywordEach kws X.env)).any (·.1.isNone)) = false) : PCa X [] kws ks (fun σ H Q => tk σ H fun zs H1 => Q [] zs H1) :=
  ⟨fun pos f first Q pins s σ H hk I R h c => PySem.W.callWith_KW0 (h₀ := X.base) I.ok.mod.kin hk (hall pos) (thn (hkw.run pos pins s σ H _ I h) fun ws s1 ⟨zs, H1, I1, r, q⟩ => ⟨I1.kIn, by
    rw [hks]
    exact c [] zs H1 [] ws s1 q I1 .nil r⟩) (hpl pos)⟩
theorem ca_both (ha : PA X (e :: es) ta) (hkw : PK X kws tk) (hall : ∀ pos, (backToKw pos (keywordEach kws X.env)).all (·.1.isSome) = true) (hks : ∀ pos, (backToKw pos (keywordEach kws X.env)).filterMap (·.1) = ks)
    (he : starEach (e :: es) X.env = (false, eval e X.env) :: starEach es X.env) (hpl : ∀ pos, ((backTo pos (starEach (e :: es) X.env)).any (·.1) || (backToKw pos (keywordEach kws X.env)).any (·.1.isNone)) = false) :
    PCa X (e :: es) kws ks (fun σ H Q => ta σ H fun vs H1 => tk σ H1 fun zs H2 => Q vs zs H2) :=
  ⟨fun pos f first Q pins s σ H hk I R h c => PySem.W.callWith_KW (h₀ := X.base) I.ok.mod.kin hk (hall pos) (thn (ha.run pos pins s σ H _ I h) fun us s1 ⟨vs, H1, I1, r, q⟩ => thn (hkw.run pos pins s1 σ H1 _ I1 q) fun ws s2 ⟨zs, H2, I2, r2, q2⟩ => ⟨I2.kIn, by
    rw [hks]
    exact c vs zs H2 us ws s2 q2 I2 r r2⟩) (hpl pos) he⟩
end
/-! ### binding -/
inductive Bd where
  | p (i : Nat) | k (i : Nat) | d (i : Nat)
def bnd1 {α : Type} (us ws ds : List α) : Bd → Option α
  | .p i => us[i]?
  | .k i => ws[i]?
  | .d i => ds[i]?
def bnd {α : Type} (us ws ds : List α) : List Bd → Option (List α)
  | [] => some []
  | b :: r => (match bnd1 us ws ds b with
    | some a => (match bnd us ws ds r with
      | some l => some (a :: l)
      | none => none)
    | none => none)
theorem bnd1_rel {α β : Type} {F : α → β → Prop} {us ws ds : List α} {us2 ws2 ds2 : List β} (h1 : Paired F us us2) (h2 : Paired F ws ws2) (h3 : Paired F ds ds2) {b : Bd} {y : β} (e : bnd1 us2 ws2 ds2 b = some y) : ∃ x, bnd1 us ws ds b = some x ∧ F x y := by
  cases b with
  | p i => exact Paired.get h1 e
  | k i => exact Paired.get h2 e
  | d i => exact Paired.get h3 e
theorem bnd_rel {α β : Type} {F : α → β → Prop} {us ws ds : List α} {us2 ws2 ds2 : List β} (h1 : Paired F us us2) (h2 : Paired F ws ws2) (h3 : Paired F ds ds2) : ∀ {bm : List Bd} {l2 : List β}, bnd us2 ws2 ds2 bm = some l2 → ∃ l, bnd us ws ds bm = some l ∧ Paired F l l2
  | [], l2, e => by
    cases e
    exact ⟨[], rfl, .nil⟩
  | b :: r, l2, e => by
    unfold bnd at e
    split at e
    · rename_i a e1
      split at e
      · rename_i l e2
        cases e
        obtain ⟨x, h4, h5⟩ := bnd1_rel h1 h2 h3 e1
        obtain ⟨l', h6, h7⟩ := bnd_rel h1 h2 h3 e2
        exact ⟨x :: l', by unfold bnd; rw [h4, h6], .cons h5 h7⟩
      · cases e
    · cases e
/-- so many values by place, those of ks by name: how the parameters are bound -/
def MBn (K : PySem.W.Frag) (fd : FuncData) (ps : List Str) (n : Nat) (ks : List Str) (bm : List Bd) (dvs : List V) : Prop :=
  ∃ its, Vals dvs its ∧ ∀ (s : Shared) (us ws l : List Value), K.In s.heap → us.length = n → ws.length = ks.length → bnd us ws its bm = some l → BindsTo s fd ⟨us, ks.zip ws⟩ (ps.zip l)
/-! ### calls -/
section
variable {X : Cx} {W : WX} {k : Nat} {f C : Addr} {fd : FuncData} {ps ks : List Str} {sp : Sp} {x m : Str} {p pos apos : Pos} {args : List Expr} {kws : List Keyword} {t : TA2} {n : Nat} {bm : List Bd} {dvs : List V}
theorem Paired.flip {α β : Type} {F : α → β → Prop} : ∀ {a : List α} {b : List β}, Paired F a b → Paired (fun y x => F x y) b a
  | _, _, .nil => .nil
  | _, _, .cons h r => .cons h (Paired.flip r)
theorem run_any {pins : List (Addr × Obj)} {σ : L2.St} {H : Hp} {s : Shared} {Q : VK} {us ws : List Value} {vs zs l : List V} (F : FnOk X.prog X.w X.K X.mg X.base (L2.CX X.prog X.w) k f fd ps sp) (hr : Room k X.A) (tk : Takes X W) (hb : MBn X.K fd ps n ks bm dvs)
    (I : Inv X pins σ H s) (r : Vals vs us) (rz : Vals zs ws) (hn : vs.length = n) (hm : zs.length = ks.length) (hl : bnd vs zs dvs bm = some l) (h : sp l H Q (WE W σ)) : wpAny (model X.prog X.w) X.A (call (.ref f) us (ks.zip ws)) (EP X pins σ Q) X.xe s := by
  obtain ⟨its, hd, hb⟩ := hb
  obtain ⟨l', e, rl⟩ := bnd_rel (F := fun y x => RelV x y) (Paired.flip r) (Paired.flip rz) (Paired.flip hd) hl
  have b := hb s us ws l' I.kIn (by rw [← r.length]; exact hn) (by rw [← rz.length]; exact hm) e
  refine wpAny_call (codeAny_mono (F.run X.A X.stack s H ⟨us, ks.zip ws⟩ l' l Q (WE W σ) hr I.env0 b (Paired.flip rl) h) fun r s' hq => ?_)
  cases r with
  | error e => exact passAt tk σ pins H s e s' I hq
  | ok fl =>
    cases fl with
    | ret u => exact I.after hq
    | next => exact False.elim hq
    | brk => exact False.elim hq
    | cont => exact False.elim hq
/-- x(..), a def of the module -/
theorem pe_fn (F : FnOk X.prog X.w X.K X.mg X.base (L2.CX X.prog X.w) k f fd ps sp) (hr : Room k X.A) (tk : Takes X W) (hg : Gl X x) (hm : X.mg x = some (.ref f)) (hk : PySem.W.keepIn X.K (.ref f) = true) (hb : MBn X.K fd ps n ks bm dvs) (ca : PCa X args kws ks t) (hdb : (x == ("__debug__" : Str)) = false := by decide) :
    PE X (.Call (.Name x p) args kws pos) (fun σ H Q => t σ H fun vs zs H1 => vs.length = n ∧ zs.length = ks.length ∧ ∃ l, bnd vs zs dvs bm = some l ∧ sp l H1 Q (WE W σ)) := by
  refine ⟨fun pins s σ H Q I h => ?_⟩
  refine wpAny_Call_Name_kw (ld_glob I hg hm ?_ hdb)
  refine ca.run pos (.ref f) [] _ pins s σ H hk I _ h ?_
  rintro vs zs H1 us ws s1 ⟨h1, h2, l, h3, h4⟩ I1 r1 r2
  exact run_any F hr tk hb I1 r1 r2 h1 h2 h3 h4
/-- a class's making -/
theorem run_mk {pins : List (Addr × Obj)} {σ : L2.St} {H : Hp} {s : Shared} {Q : VK} {us ws : List Value} {vs zs : List V} (M : Mk X.K C f) (F : FnOk X.prog X.w X.K X.mg X.base (L2.CX X.prog X.w) k f fd ps sp) (hr : Room (k + 1) X.A) (tk : Takes X W) (hb : MBn X.K fd ps (n + 1) ks bm dvs)
    (I : Inv X pins σ H s) (r : Vals vs us) (rz : Vals zs ws) (hn : vs.length = n) (hm : zs.length = ks.length)
    (h : ∀ x dx, H x = none → H dx = none → dx ≠ x → ∃ l, bnd (.ref x :: vs) zs dvs bm = some l ∧ sp l (upd (upd H dx (.own x)) x (.ins C dx [])) (fun v H2 => v = .non ∧ Q (.ref x) H2) (WE W σ)) :
    wpAny (model X.prog X.w) X.A (call (.ref C) us (ks.zip ws)) (EP X pins σ Q) X.xe s := by
  obtain ⟨l, hl, hq⟩ := h (s.heap.objs.size + 1) s.heap.objs.size (I.hok.fresh (Nat.le_succ _)) (I.hok.fresh (Nat.le_refl _)) (Nat.ne_of_lt (Nat.lt_succ_self _))
  have J := Inv.made (C := C) I
  have r1 : Vals (V.ref (s.heap.objs.size + 1) :: vs) (Value.ref (s.heap.objs.size + 1) :: us) := .cons rfl r
  obtain ⟨its, hd, hb⟩ := hb
  obtain ⟨l', e, rl⟩ := bnd_rel (F := fun y x => RelV x y) (Paired.flip r1) (Paired.flip rz) (Paired.flip hd) hl
  have b := hb _ (Value.ref (s.heap.objs.size + 1) :: us) ws l' J.kIn (by rw [← r1.length]; exact congrArg Nat.succ hn) (by rw [← rz.length]; exact hm) e
  refine wpAny_call (make_map (f := f) I.kIn M.makes M.init (beq_iff_eq.mp M.fn) (codeAny_mono (F.run _ X.stack _ _ ⟨Value.ref (s.heap.objs.size + 1) :: us, ks.zip ws⟩ l' l _ (WE W σ) (hr.make C us (ks.zip ws)) (J.env0.make C us (ks.zip ws)) b (Paired.flip rl) hq) fun r s' hq' => ?_))
  cases r with
  | error e => exact passAt tk σ pins _ _ e s' J hq'
  | ok fl =>
    cases fl with
    | ret u =>
      obtain ⟨v, H', I3, rv, ev, q3⟩ := J.after hq'
      subst ev
      exact ⟨rv, ⟨V.ref (s.heap.objs.size + 1), H', I3, rfl, q3⟩⟩
    | next => exact False.elim hq'
    | brk => exact False.elim hq'
    | cont => exact False.elim hq'
theorem pe_cls (M : Mk X.K C f) (F : FnOk X.prog X.w X.K X.mg X.base (L2.CX X.prog X.w) k f fd ps sp) (hr : Room (k + 1) X.A) (tk : Takes X W) (hg : Gl X x) (hm : X.mg x = some (.ref C)) (hb : MBn X.K fd ps (n + 1) ks bm dvs) (ca : PCa X args kws ks t) (hdb : (x == ("__debug__" : Str)) = false := by decide) :
    PE X (.Call (.Name x p) args kws pos) (fun σ H Q => t σ H fun vs zs H1 => vs.length = n ∧ zs.length = ks.length ∧ ∀ x dx, H1 x = none → H1 dx = none → dx ≠ x → ∃ l, bnd (.ref x :: vs) zs dvs bm = some l ∧ sp l (upd (upd H1 dx (.own x)) x (.ins C dx [])) (fun v H2 => v = .non ∧ Q (.ref x) H2) (WE W σ)) := by
  refine ⟨fun pins s σ H Q I h => ?_⟩
  refine wpAny_Call_Name_kw (ld_glob I hg hm ?_ hdb)
  refine ca.run pos (.ref C) [] _ pins s σ H M.kp I _ h ?_
  rintro vs zs H1 us ws s1 ⟨h1, h2, h4⟩ I1 r1 r2
  exact run_mk M F hr tk hb I1 r1 r2 h1 h2 h4
/-- what a method's def must be for a call of so many values by place and the names ks -/
structure MOk (X : Cx) (C : Addr) (m : Str) (n : Nat) (ks : List Str) (bm : List Bd) (dvs : List V) (sp : Sp) : Prop where
  cls : Cls X.K C
  ok : ∃ g k fd ps, Meth X.K C m g ∧ FnOk X.prog X.w X.K X.mg X.base (L2.CX X.prog X.w) k g fd ps sp ∧ Room k X.A ∧ MBn X.K fd ps (n + 1) ks bm dvs
/-- o.m(..) -/
theorem pe_mth {o : Expr} {ta : TE} {pl : Sem Bool} (ho : PE X o ta) (tk : Takes X W) (ca : PCa X args kws ks t)
    (ht : eval (.Call (.Attribute o m apos) args kws pos) X.env = (do
      let ov ← eval o X.env
      standAt apos.atName
      let (f, first) ← holding [ov] (getMethod ov m pl)
      callWith pos f first (backTo pos (starEach args X.env)) (backToKw pos (keywordEach kws X.env)))) :
    PE X (.Call (.Attribute o m apos) args kws pos) (fun σ H Q => ta σ H fun x H1 => ∃ a C dx fs bm dvs sp, x = .ref a ∧ H1 a = some (.ins C dx fs) ∧ fs.lookup m = none ∧ MOk X C m n ks bm dvs sp ∧
      t σ H1 fun vs zs H2 => vs.length = n ∧ zs.length = ks.length ∧ ∃ l, bnd (x :: vs) zs dvs bm = some l ∧ sp l H2 Q (WE W σ)) := by
  refine ⟨fun pins s σ H Q I h => ?_⟩
  refine PySem.W.methodCall_KW (pl := pl) (thn (ho.run pins s σ H _ I h) fun u s1 ⟨x, H1, I1, rx, a, C, dx, fs, bm, dvs, sp, ex, ea, l, ⟨c, g, k, fd, ps, hm, F, hr, hb⟩, q⟩ => ?_) ht
  subst ex
  obtain rfl : u = Value.ref a := rx
  refine getmeth_ok I1 ea c hm l ?_
  refine ca.run pos (.ref g) [.ref a] _ pins s1 σ H1 hm.kp I1 _ q ?_
  rintro vs zs H2 us ws s2 ⟨h1, h2, l', h3, h4⟩ I2 r1 r2
  exact run_any (us := .ref a :: us) (vs := .ref a :: vs) F hr tk hb I2 (.cons rfl r1) r2 (congrArg Nat.succ h1) h2 h3 h4
end
end MV
set_option Elab.async false
set_option linter.all false
set_option maxRecDepth 100000
set_option maxHeartbeats 4000000
namespace MV
open PySem PySem.Spec PyProof.Rows L2
inductive R2a where
  | ok (ws zs : List W) (Y : Ys) | exc (c : Nat) (fs : Option (List (Str × D))) (Y : Ys) | bad
abbrev CDen := Ts → Ys → R2a
def R2aOk (G : Gx) (W : WX) (σ : L2.St) (B H : Hp) (ρ : Nat → Addr) (Y : Ys) (Q : List V → List V → Hp → Prop) : R2a → Prop
  | .ok ws zs Y' => ∀ vs us B' H' ρ', Aft G B H ρ Y B' H' ρ' Y' → WReps G B' ρ' Y'.length vs ws → WReps G B' ρ' Y'.length us zs → Q vs us H'
  | .exc c fs Y' => ∀ d B' H' ρ', Aft G B H ρ Y B' H' ρ' Y' → ExcAt G B' H' d fs → W (.ref (G.cls c)) d σ H'
  | .bad => False
def DCa (cls : Cl) (X : Cx) (W : WX) (args : List Expr) (kws : List Keyword) (ks : List Str) (f : CDen) : Prop :=
  ∃ t : TA2, PCa X args kws ks t ∧ ∀ σ H Q B ρ Y τ, Rel (gx cls X) B H ρ Y → TR (gx cls X) B ρ Y.length σ τ → R2aOk (gx cls X) W σ B H ρ Y Q (f τ Y) → t σ H Q
def DK (cls : Cl) (X : Cx) (W : WX) (kws : List Keyword) (f : ADen) : Prop :=
  ∃ t : TA, PK X kws t ∧ ∀ σ H Q B ρ Y τ, Rel (gx cls X) B H ρ Y → TR (gx cls X) B ρ Y.length σ τ → RaOk (gx cls X) W σ B H ρ Y Q (f τ Y) → t σ H Q
def cNone : CDen := fun _ Y => .ok [] [] Y
def cPos (f : ADen) : CDen := fun τ Y => match f τ Y with
  | .ok ws Y1 => .ok ws [] Y1
  | .exc c fs Y1 => .exc c fs Y1
  | .bad => .bad
def cKw (f : ADen) : CDen := fun τ Y => match f τ Y with
  | .ok ws Y1 => .ok [] ws Y1
  | .exc c fs Y1 => .exc c fs Y1
  | .bad => .bad
def cBoth (f g : ADen) : CDen := fun τ Y => match f τ Y with
  | .ok ws Y1 => (match g τ Y1 with
    | .ok zs Y2 => .ok ws zs Y2
    | .exc c fs Y2 => .exc c fs Y2
    | .bad => .bad)
  | .exc c fs Y1 => .exc c fs Y1
  | .bad => .bad
section
variable {cls : Cl} {X : Cx} {W : WX} {pos : Pos} {e : Expr} {es : List Expr} {kws : List Keyword} {ks : List Str} {f : Den} {fa fk : ADen}
theorem dk_nil : DK cls X W [] dNil := ⟨_, pk_nil, fun σ H Q B ρ Y τ R T h => h [] B H ρ (Aft.refl R) .nil⟩
theorem dk_cons {nm : Option Str} {kpos : Pos} (ha : DE cls X W e f) (hr : DK cls X W kws fk) : DK cls X W (⟨nm, e, kpos⟩ :: kws) (dCons f fk) := by
  obtain ⟨ta, pa, ha⟩ := ha
  obtain ⟨tr, pr, hr⟩ := hr
  refine ⟨_, pk_cons pa pr, fun σ H Q B ρ Y τ R T h => ?_⟩
  refine ha σ H _ B ρ Y τ R T ?_
  unfold dCons at h
  cases e1 : f τ Y with
  | bad => rw [e1] at h; exact h.elim
  | exc c fs Y1 => rw [e1] at h; exact h
  | ok w Y1 =>
    rw [e1] at h
    intro v B1 H1 ρ1 A1 r1
    refine hr σ H1 _ B1 ρ1 Y1 τ A1.rel (T.aft A1) ?_
    dsimp only at h
    cases e2 : fk τ Y1 with
    | bad => rw [e2] at h; exact h.elim
    | exc c fs Y2 => rw [e2] at h; exact fun d B' H' ρ' A' x => h d B' H' ρ' (A1.trans A') x
    | ok ws Y2 =>
      rw [e2] at h
      exact fun vs B2 H2 ρ2 A2 r2 => h (v :: vs) B2 H2 ρ2 (A1.trans A2) (.cons (WRep.aft A2 r1) r2)
theorem dca_none : DCa cls X W [] [] [] cNone := ⟨_, ca_none, fun σ H Q B ρ Y τ R T h => h [] [] B H ρ (Aft.refl R) .nil .nil⟩
theorem dca_pos (ha : DA cls X W (e :: es) fa) (he : starEach (e :: es) X.env = (false, eval e X.env) :: starEach es X.env := by rfl) (hpl : ∀ pos, (backTo pos (starEach es X.env)).any (·.1) = false := by intro _; rfl) : DCa cls X W (e :: es) [] [] (cPos fa) := by
  obtain ⟨t, p, ha⟩ := ha
  refine ⟨_, ca_pos p he hpl, fun σ H Q B ρ Y τ R T h => ha σ H _ B ρ Y τ R T ?_⟩
  unfold cPos at h
  cases e1 : fa τ Y with
  | bad => rw [e1] at h; exact h.elim
  | exc c fs Y1 => rw [e1] at h; exact h
  | ok ws Y1 =>
    rw [e1] at h
    exact fun vs B' H' ρ' A r => h vs [] B' H' ρ' A r .nil
theorem dca_kw (hk : DK cls X W kws fk) (hall : ∀ pos, (backToKw pos (keywordEach kws X.env)).all (·.1.isSome) = true := by intro _; rfl) (hks : ∀ pos, (backToKw pos (keywordEach kws X.env)).filterMap (·.1) = ks := by intro _; rfl)
    (hpl : ∀ pos, ((backTo pos (starEach [] X.env)).any (·.1) || (backToKw pos (keywordEach kws X.env)).any (·.1.isNone)) = false := by intro _; rfl) : DCa cls X W [] kws ks (cKw fk) := by
  obtain ⟨t, p, hk⟩ := hk
  refine ⟨_, ca_kw p hall hks hpl, fun σ H Q B ρ Y τ R T h => hk σ H _ B ρ Y τ R T ?_⟩
  unfold cKw at h
  cases e1 : fk τ Y with
  | bad => rw [e1] at h; exact h.elim
  | exc c fs Y1 => rw [e1] at h; exact h
  | ok ws Y1 =>
    rw [e1] at h
    exact fun vs B' H' ρ' A r => h [] vs B' H' ρ' A .nil r
theorem dca_both (ha : DA cls X W (e :: es) fa) (hk : DK cls X W kws fk) (hall : ∀ pos, (backToKw pos (keywordEach kws X.env)).all (·.1.isSome) = true := by intro _; rfl) (hks : ∀ pos, (backToKw pos (keywordEach kws X.env)).filterMap (·.1) = ks := by intro _; rfl)
    (he : starEach (e :: es) X.env = (false, eval e X.env) :: starEach es X.env := by rfl) (hpl : ∀ pos, ((backTo pos (starEach (e :: es) X.env)).any (·.1) || (backToKw pos (keywordEach kws X.env)).any (·.1.isNone)) = false := by intro _; rfl) :
    DCa cls X W (e :: es) kws ks (cBoth fa fk) := by
  obtain ⟨t, p, ha⟩ := ha
  obtain ⟨u, q, hk⟩ := hk
  refine ⟨_, ca_both p q hall hks he hpl, fun σ H Q B ρ Y τ R T h => ha σ H _ B ρ Y τ R T ?_⟩
  unfold cBoth at h
  cases e1 : fa τ Y with
  | bad => rw [e1] at h; exact h.elim
  | exc c fs Y1 => rw [e1] at h; exact h
  | ok ws Y1 =>
    rw [e1] at h
    dsimp only at h
    intro vs B1 H1 ρ1 A1 r1
    refine hk σ H1 _ B1 ρ1 Y1 τ A1.rel (T.aft A1) ?_
    cases e2 : fk τ Y1 with
    | bad => rw [e2] at h; exact h.elim
    | exc c fs Y2 => rw [e2] at h; exact fun d B' H' ρ' A' x => h d B' H' ρ' (A1.trans A') x
    | ok zs Y2 =>
      rw [e2] at h
      exact fun us B2 H2 ρ2 A2 r2 => h vs us B2 H2 ρ2 (A1.trans A2) (WReps.aft A2 r1) r2
end
/-! ### a def's call -/
def FnX (P : Program) (w : World) (K : PySem.W.Frag) (mg : Str → Option Value) (base : Heap) (cls : Cl) (x : Str) (n : Nat) (ks : List Str) (bm : List Bd) (dd : List D) (fn : FDen) (lev : Nat) : Prop :=
  ∃ f fd ps dvs, FnOk P w K mg base (L2.CX P w) lev f fd ps (spW ⟨K, mg, cls.at_, cls.fs, cls.T⟩ ps.length fn) ∧ mg x = some (.ref f) ∧ PySem.W.keepIn K (.ref f) = true ∧ MBn K fd ps n ks bm dvs ∧ (∀ B, Reps ⟨K, mg, cls.at_, cls.fs, cls.T⟩ B dvs dd) ∧ bm.length = ps.length
def callW (n m : Nat) (bm : List Bd) (dd : List D) (fn : FDen) (ws zs : List W) (Y : Ys) : Re := match Nat.beq ws.length n, Nat.beq zs.length m with
  | true, true => (match bnd ws zs (vals dd) bm with
    | some l => fn l Y
    | none => .bad)
  | _, _ => .bad
def R2a.bind (r : R2a) (k : List W → List W → Ys → Re) : Re := match r with
  | .ok ws zs Y => k ws zs Y
  | .exc c fs Y => .exc c fs Y
  | .bad => .bad
theorem R2aOk.bound {G : Gx} {W : WX} {σ : L2.St} {B H : Hp} {ρ : Nat → Addr} {Y : Ys} {Q : VK} {k : List MV.W → List MV.W → Ys → Re} : ∀ {r : R2a}, ReOk G W σ B H ρ Y Q (r.bind k) →
    R2aOk G W σ B H ρ Y (fun vs us H1 => ∃ B1 ρ1 ws zs Y1, Aft G B H ρ Y B1 H1 ρ1 Y1 ∧ WReps G B1 ρ1 Y1.length vs ws ∧ WReps G B1 ρ1 Y1.length us zs ∧ ReOk G W σ B1 H1 ρ1 Y1 Q (k ws zs Y1)) r
  | .ok ws zs Y1, h => fun vs us B1 H1 ρ1 A r r' => ⟨B1, ρ1, ws, zs, Y1, A, r, r', ReOk.behind A h⟩
  | .exc _ _ _, h => h
  | .bad, h => h
theorem R2aOk.imp {G : Gx} {W : WX} {σ : L2.St} {B H : Hp} {ρ : Nat → Addr} {Y : Ys} {Q Q' : List V → List V → Hp → Prop} (i : ∀ v u H', Q v u H' → Q' v u H') : ∀ {r : R2a}, R2aOk G W σ B H ρ Y Q r → R2aOk G W σ B H ρ Y Q' r
  | .ok _ _ _, h => fun v u B' H' ρ' A' r r' => i _ _ _ (h v u B' H' ρ' A' r r')
  | .exc _ _ _, h => h
  | .bad, h => h
def dCall (f : CDen) (n m : Nat) (bm : List Bd) (dd : List D) (fn : FDen) : Den := fun τ Y => (f τ Y).bind fun ws zs Y1 => callW n m bm dd fn ws zs Y1
theorem ReOk.toE {G : Gx} {W : WX} {σ : L2.St} {B H : Hp} {ρ : Nat → Addr} {Y : Ys} {Q : VK} : ∀ {r : Re}, ReOk G W σ B H ρ Y Q r → ReE G (WE W σ) B H ρ Y Q r
  | .ok _ _, h => h
  | .exc _ _ _, h => h
  | .bad, h => h
theorem bnd_len {α : Type} {us ws ds : List α} : ∀ {bm : List Bd} {l : List α}, bnd us ws ds bm = some l → l.length = bm.length
  | [], l, e => by
    cases e
    rfl
  | b :: r, l, e => by
    unfold bnd at e
    split at e
    · split at e
      · rename_i h2
        cases e
        simp [bnd_len h2]
      · cases e
    · cases e
/-- binding, beside the heap -/
theorem callW_run {G : Gx} {W : WX} {σ : L2.St} {B H : Hp} {ρ : Nat → Addr} {Y : Ys} {Q : VK} {n : Nat} {ks : List Str} {bm : List Bd} {dd : List D} {fn : FDen} {ws zs : List MV.W} {vs us dvs : List V} (R : Rel G B H ρ Y) (r : WReps G B ρ Y.length vs ws) (rz : WReps G B ρ Y.length us zs) (hd : ∀ B, Reps G B dvs dd)
    {p : Nat} (hp : bm.length = p) (h : ReOk G W σ B H ρ Y Q (callW n ks.length bm dd fn ws zs Y)) : vs.length = n ∧ us.length = ks.length ∧ ∃ l, bnd vs us dvs bm = some l ∧ spW G p fn l H Q (WE W σ) := by
  unfold callW at h
  split at h
  · rename_i h1 h2
    split at h
    · rename_i l hl
      obtain ⟨l', e, rl⟩ := bnd_rel r rz (reps_vals (hd B)) hl
      refine ⟨by rw [Paired.length r]; exact Nat.eq_of_beq_eq_true h1, by rw [Paired.length rz]; exact Nat.eq_of_beq_eq_true h2, l', e, by rw [bnd_len e]; exact hp, B, ρ, Y, l, R, rl, h.toE⟩
    · exact h.elim
  · exact h.elim
section
variable {cls : Cl} {X : Cx} {W : WX} {pos p apos : Pos} {args : List Expr} {kws : List Keyword} {ks : List Str} {fa : CDen} {x : Str} {n lev : Nat} {bm : List Bd} {dd : List D} {fn : FDen}
theorem d_call (h : FnX X.prog X.w X.K X.mg X.base cls x n ks bm dd fn lev) (hr : Room lev X.A) (tk : Takes X W) (ha : DCa cls X W args kws ks fa) (hg : Gl X x := by rfl) (hdb : (x == ("__debug__" : Str)) = false := by decide) :
    DE cls X W (.Call (.Name x p) args kws pos) (dCall fa n ks.length bm dd fn) := by
  obtain ⟨f, fd, ps, dvs, F, hm, hk, hb, hd, hp⟩ := h
  obtain ⟨t, ca, ha⟩ := ha
  refine ⟨_, pe_fn F hr tk hg hm hk hb ca hdb, fun σ H Q B ρ Y τ R T h => ?_⟩
  refine ha σ H _ B ρ Y τ R T (R2aOk.imp ?_ (R2aOk.bound h))
  rintro vs us H1 ⟨B1, ρ1, ws, zs, Y1, A, r, rz, h1⟩
  exact callW_run A.rel r rz hd hp h1
end
/-! ### a method's call -/
def MtX (P : Program) (w : World) (K : PySem.W.Frag) (mg : Str → Option Value) (base : Heap) (cls : Cl) (c : Nat) (m : Str) (n : Nat) (ks : List Str) (bm : List Bd) (dd : List D) (fn : FDen) (lev : Nat) : Prop :=
  ∃ g fd ps dvs, Cls K (cls.at_ c) ∧ Meth K (cls.at_ c) m g ∧ m ∉ cls.fs c ∧ FnOk P w K mg base (L2.CX P w) lev g fd ps (spW ⟨K, mg, cls.at_, cls.fs, cls.T⟩ ps.length fn) ∧ MBn K fd ps (n + 1) ks bm dvs ∧ (∀ B, Reps ⟨K, mg, cls.at_, cls.fs, cls.T⟩ B dvs dd) ∧ bm.length = ps.length
def clsW (w : W) (Y : Ys) : Option Nat := match w with
  | .val (.ins c _) => some c
  | .ref n => (match Y[n]? with
    | some (.ins c _) => some c
    | _ => none)
  | _ => none
theorem zip_no {f : Str} : ∀ {fs : List Str} {vs : List V}, f ∉ fs → (fs.zip vs).lookup f = none
  | [], _, _ => rfl
  | _ :: _, [], _ => rfl
  | g :: fs, v :: vs, h => by
    have h1 : (f == g) = false := beq_eq_false_iff_ne.mpr fun e => h (by simp [e])
    simp only [List.zip_cons_cons, List.lookup, h1]
    exact zip_no fun z => h (by simp [z])
theorem clsW_at {G : Gx} {B H : Hp} {ρ : Nat → Addr} {Y : Ys} (R : Rel G B H ρ Y) {x : V} {w : W} {c : Nat} (a : WRep G B ρ Y.length x w) (e : clsW w Y = some c) : ∃ p dx vs, x = .ref p ∧ H p = some (.ins (G.cls c) dx ((G.flds c).zip vs)) := by
  unfold clsW at e
  split at e
  · cases e
    cases a with
    | ins h hl r => exact ⟨_, _, _, rfl, R.ins h⟩
  · rename_i n
    split at e
    · rename_i c' ws hn
      cases e
      obtain ⟨dx, vs, h1, _⟩ := R.obj n _ hn
      exact ⟨_, dx, vs, a.2, h1⟩
    · cases e
  · cases e
abbrev Sel := Nat → Option (List Bd × List D × FDen)
def dMeth (fo : Den) (fa : CDen) (n m : Nat) (sel : Sel) : Den := fun τ Y => (fo τ Y).bind fun w Y1 => match clsW w Y1 with
  | some c => (match sel c with
    | some (bm, dd, fn) => (fa τ Y1).bind fun ws zs Y2 => callW (n + 1) m bm dd fn (w :: ws) zs Y2
    | none => .bad)
  | none => .bad
section
variable {cls : Cl} {X : Cx} {W : WX} {pos apos : Pos} {o : Expr} {args : List Expr} {kws : List Keyword} {ks : List Str} {fo : Den} {fa : CDen} {m : Str} {n : Nat} {sel : Sel} {pl : Sem Bool}
theorem d_meth (hs : ∀ c bm dd fn, sel c = some (bm, dd, fn) → ∃ lev, MtX X.prog X.w X.K X.mg X.base cls c m n ks bm dd fn lev ∧ Room lev X.A) (tk : Takes X W) (ho : DE cls X W o fo) (ha : DCa cls X W args kws ks fa)
    (ht : eval (.Call (.Attribute o m apos) args kws pos) X.env = (do
      let ov ← eval o X.env
      standAt apos.atName
      let (f, first) ← holding [ov] (getMethod ov m pl)
      callWith pos f first (backTo pos (starEach args X.env)) (backToKw pos (keywordEach kws X.env))) := by rfl) :
    DE cls X W (.Call (.Attribute o m apos) args kws pos) (dMeth fo fa n ks.length sel) := by
  obtain ⟨to, po, ho⟩ := ho
  obtain ⟨t, ca, ha⟩ := ha
  refine ⟨_, pe_mth (n := n) po tk ca ht, fun σ H Q B ρ Y τ R T h => ?_⟩
  refine ho σ H _ B ρ Y τ R T (ReOk.imp ?_ (ReOk.bound h))
  rintro x H1 ⟨B1, ρ1, w, Y1, A1, r1, h1⟩
  cases e1 : clsW w Y1 with
  | none =>
    rw [e1] at h1
    exact h1.elim
  | some c =>
    rw [e1] at h1
    dsimp only at h1
    cases e2 : sel c with
    | none =>
      rw [e2] at h1
      exact h1.elim
    | some q =>
      obtain ⟨bm, dd, fn⟩ := q
      rw [e2] at h1
      dsimp only at h1
      obtain ⟨lev, ⟨g, fd, ps, dvs, k1, k2, k3, F, hb, hd, hp⟩, hr⟩ := hs c bm dd fn e2
      obtain ⟨a, dx, vs0, ex, hx⟩ := clsW_at A1.rel r1 e1
      refine ⟨a, _, dx, _, bm, dvs, _, ex, hx, zip_no k3, ⟨k1, g, lev, fd, ps, k2, F, hr, hb⟩, ?_⟩
      refine ha σ H1 _ B1 ρ1 Y1 τ A1.rel (T.aft A1) (R2aOk.imp ?_ (R2aOk.bound h1))
      rintro vs us H2 ⟨B2, ρ2, ws, zs, Y2, A2, r2, rz, h2⟩
      obtain ⟨q1, q2, q3⟩ := callW_run A2.rel (vs := x :: vs) (.cons (WRep.aft A2 r1) r2) rz hd hp h2
      exact ⟨Nat.succ.inj q1, q2, q3⟩
end
end MV
set_option Elab.async false
set_option linter.all false
set_option maxRecDepth 100000
set_option maxHeartbeats 4000000
namespace MV
open PySem PySem.Spec PyProof.Rows L2
/-! ### a class is called -/
def MkX (P : Program) (w : World) (K : PySem.W.Frag) (mg : Str → Option Value) (base : Heap) (cls : Cl) (c : Nat) (x : Str) (n : Nat) (ks : List Str) (bm : List Bd) (dd : List D) (fn : FDen) (lev : Nat) : Prop :=
  ∃ f fd ps dvs, Mk K (cls.at_ c) f ∧ FnOk P w K mg base (L2.CX P w) lev f fd ps (spW ⟨K, mg, cls.at_, cls.fs, cls.T⟩ ps.length fn) ∧ mg x = some (.ref (cls.at_ c)) ∧ MBn K fd ps (n + 1) ks bm dvs ∧ (∀ B, Reps ⟨K, mg, cls.at_, cls.fs, cls.T⟩ B dvs dd) ∧ bm.length = ps.length
/-- a new thing of the store -/
def dMake (c : Nat) (f : CDen) (n m : Nat) (bm : List Bd) (dd : List D) (fn : FDen) : Den := fun τ Y => (f τ Y).bind fun ws zs Y1 => (callW (n + 1) m bm dd fn (.ref Y1.length :: ws) zs (Y1 ++ [.ins c []])).bind fun u Y2 => match u with
  | .val .non => .ok (.ref Y1.length) Y2
  | _ => .bad
/-- data: made in a store of its own -/
def dMakeP (c : Nat) (f : CDen) (n m : Nat) (bm : List Bd) (dd : List D) (fn : FDen) : Den := fun τ Y => (f τ Y).bind fun ws zs Y1 => match dats ws, dats zs with
  | some _, some _ => (match callW (n + 1) m bm dd fn (.ref 0 :: ws) zs [.ins c []] with
    | .ok (.val .non) Y2 => (match frzW 20 Y2 (.ref 0) with
      | some (d, _) => .ok (.val d) Y1
      | none => .bad)
    | .exc c' fs _ => .exc c' fs Y1
    | _ => .bad)
  | _, _ => .bad
theorem ReOk.mapE {G : Gx} {W W' : WX} {σ σ' : L2.St} {B H : Hp} {ρ : Nat → Addr} {Y : Ys} {Q Q' : VK} (r : Re) (h : ReOk G W σ B H ρ Y Q r) (hq : ∀ v H', Q v H' → Q' v H') (hw : ∀ c d H', W c d σ H' → W' c d σ' H') : ReOk G W' σ' B H ρ Y Q' r := by
  cases r with
  | ok w Y1 => exact fun v B' H' ρ' A r => hq _ _ (h v B' H' ρ' A r)
  | exc c fs Y1 => exact fun d B' H' ρ' A x => hw _ _ _ (h d B' H' ρ' A x)
  | bad => exact h
theorem callW_len {G : Gx} {W : WX} {σ : L2.St} {B H : Hp} {ρ : Nat → Addr} {Y Y0 : Ys} {Q : VK} {n m : Nat} {bm : List Bd} {dd : List D} {fn : FDen} {ws zs : List MV.W} {k : MV.W → Ys → Re} (h : ReOk G W σ B H ρ Y Q ((callW n m bm dd fn ws zs Y0).bind k)) : ws.length = n ∧ zs.length = m := by
  unfold callW at h
  split at h
  · rename_i h1 h2
    exact ⟨Nat.eq_of_beq_eq_true h1, Nat.eq_of_beq_eq_true h2⟩
  · exact h.elim
section
variable {cls : Cl} {X : Cx} {W : WX} {pos p apos : Pos} {args : List Expr} {kws : List Keyword} {ks : List Str} {fa : CDen} {x : Str} {n lev c : Nat} {bm : List Bd} {dd : List D} {fn : FDen}
theorem ins_new {B H : Hp} {ρ : Nat → Addr} {Y : Ys} (R : Rel (gx cls X) B H ρ Y) {a dx : Addr} (ha : H a = none) (hd : H dx = none) (ne : dx ≠ a) : Aft (gx cls X) B H ρ Y B (upd (upd H dx (.own a)) a (.ins (cls.at_ c) dx [])) (extR ρ Y.length a) (Y ++ [.ins c []]) := by
  have A1 := Aft.own (o := .own a) R hd
  have A2 := Aft.newR A1.rel (p := a) (o := .ins (cls.at_ c) dx []) (yo := .ins c []) (by rw [upd_ne (Ne.symm ne)]; exact ha) ⟨dx, [], by simp, Nat.zero_le _, .nil⟩
  exact A1.trans A2
theorem d_make (h : MkX X.prog X.w X.K X.mg X.base cls c x n ks bm dd fn lev) (hr : Room (lev + 1) X.A) (tk : Takes X W) (ha : DCa cls X W args kws ks fa) (hg : Gl X x := by rfl) (hdb : (x == ("__debug__" : Str)) = false := by decide) :
    DE cls X W (.Call (.Name x p) args kws pos) (dMake c fa n ks.length bm dd fn) := by
  obtain ⟨f, fd, ps, dvs, M, F, hm, hb, hd, hp⟩ := h
  obtain ⟨t, ca, ha⟩ := ha
  refine ⟨_, pe_cls M F hr tk hg hm hb ca hdb, fun σ H Q B ρ Y τ R T h => ?_⟩
  refine ha σ H _ B ρ Y τ R T (R2aOk.imp ?_ (R2aOk.bound h))
  rintro vs us H1 ⟨B1, ρ1, ws, zs, Y1, A, r, rz, h1⟩
  have key : ∀ a dx, H1 a = none → H1 dx = none → dx ≠ a → (V.ref a :: vs).length = n + 1 ∧ us.length = ks.length ∧ ∃ l, bnd (.ref a :: vs) us dvs bm = some l ∧
      spW (gx cls X) ps.length fn l (upd (upd H1 dx (.own a)) a (.ins (cls.at_ c) dx [])) (fun v H2 => v = .non ∧ Q (.ref a) H2) (WE W σ) := fun a dx ea ed ne => by
    have A2 := ins_new (c := c) A.rel ea ed ne
    have h2 := ReOk.bound (ReOk.behind A2 h1)
    refine callW_run (W := W) (ws := .ref Y1.length :: ws) A2.rel (vs := .ref a :: vs) (.cons ⟨by simp, by rw [extR_at]⟩ (WReps.aft A2 r)) (WReps.aft A2 rz) hd hp (ReOk.imp ?_ h2)
    rintro v H3 ⟨B3, ρ3, u, Y3, A3, r3, h3⟩
    split at h3
    · refine ⟨rep_non r3, h3 (.ref a) B3 H3 ρ3 (Aft.refl A3.rel) ⟨?_, ?_⟩⟩
      · exact Nat.lt_of_lt_of_le (by simp) A3.len
      · rw [A3.adr _ (by simp), extR_at]
    · exact h3.elim
  obtain ⟨q1, q2⟩ := callW_len h1
  refine ⟨?_, ?_, fun a dx ea ed ne => (key a dx ea ed ne).2.2⟩
  · rw [Paired.length r]
    exact Nat.succ.inj q1
  · rw [Paired.length rz]
    exact q2
theorem reps_vals_dats {G : Gx} {B : Hp} {ρ ρ' : Nat → Addr} {n n' : Nat} {vs : List V} {ws : List MV.W} {ds : List D} (r : WReps G B ρ n vs ws) (e : dats ws = some ds) : WReps G B ρ' n' vs ws := by
  induction r generalizing ds with
  | nil => exact .nil
  | cons h t ih =>
    rename_i v w vs' ws'
    cases w with
    | ref m => cases e
    | val d =>
      unfold dats at e
      split at e
      · rename_i e1
        exact .cons h (ih e1)
      · cases e
theorem d_makeP (h : MkX X.prog X.w X.K X.mg X.base cls c x n ks bm dd fn lev) (hr : Room (lev + 1) X.A) (tk : Takes X W) (ha : DCa cls X W args kws ks fa) (hg : Gl X x := by rfl) (hdb : (x == ("__debug__" : Str)) = false := by decide) :
    DE cls X W (.Call (.Name x p) args kws pos) (dMakeP c fa n ks.length bm dd fn) := by
  obtain ⟨f, fd, ps, dvs, M, F, hm, hb, hd, hp⟩ := h
  obtain ⟨t, ca, ha⟩ := ha
  refine ⟨_, pe_cls M F hr tk hg hm hb ca hdb, fun σ H Q B ρ Y τ R T h => ?_⟩
  refine ha σ H _ B ρ Y τ R T (R2aOk.imp ?_ (R2aOk.bound h))
  rintro vs us H1 ⟨B1, ρ1, ws, zs, Y1, A, r, rz, h1⟩
  split at h1
  · rename_i ds es ed ee
    have lens : ws.length + 1 = n + 1 ∧ zs.length = ks.length := by
      unfold callW at h1
      cases e1 : Nat.beq (MV.W.ref 0 :: ws).length (n + 1) with
      | false =>
        rw [e1] at h1
        exact h1.elim
      | true =>
        cases e2 : Nat.beq zs.length ks.length with
        | false =>
          rw [e1, e2] at h1
          exact h1.elim
        | true => exact ⟨Nat.eq_of_beq_eq_true e1, Nat.eq_of_beq_eq_true e2⟩
    have R0 : Rel (gx cls X) B1 H1 ρ1 [] := ⟨A.rel.sub, fun n ⟨_, e, _⟩ => by simp at e, fun n yo e => by simp at e, fun n m ⟨_, e, _⟩ => by simp at e, A.rel.tabs⟩
    refine ⟨?_, ?_, fun a dx ea ed' ne => ?_⟩
    · rw [Paired.length r]
      exact Nat.succ.inj lens.1
    · rw [Paired.length rz]
      exact lens.2
    · have A2 := ins_new (c := c) R0 ea ed' ne
      have r' : WReps (gx cls X) B1 (extR ρ1 0 a) ([] ++ [YO.ins c []] : Ys).length vs ws := reps_vals_dats r ed
      have rz' : WReps (gx cls X) B1 (extR ρ1 0 a) ([] ++ [YO.ins c []] : Ys).length us zs := reps_vals_dats rz ee
      refine (callW_run (W := W) (n := n + 1) (ks := ks) (ws := .ref 0 :: ws) A2.rel (vs := .ref a :: vs) (.cons ⟨by simp, by rw [show (0 : Nat) = ([] : Ys).length from rfl, extR_at]⟩ r') rz' hd hp ?_).2.2
      revert h1
      show ReOk _ _ _ _ _ _ _ _ (match callW (n + 1) ks.length bm dd fn (.ref 0 :: ws) zs [.ins c []] with
        | .ok (.val .non) Y2 => (match frzW 20 Y2 (.ref 0) with
          | some (d, _) => .ok (.val d) Y1
          | none => .bad)
        | .exc c' fs _ => .exc c' fs Y1
        | _ => .bad) → ReOk _ _ _ _ _ _ _ _ (callW (n + 1) ks.length bm dd fn (.ref 0 :: ws) zs [.ins c []])
      generalize callW (n + 1) ks.length bm dd fn (.ref 0 :: ws) zs [.ins c []] = res
      intro h1
      cases res with
      | bad => exact h1
      | exc c' fs Y2 => exact fun d B' H' ρ' A3 x => h1 d B' H' ρ1 (Aft.own_store A.rel (A2.trans A3)) x
      | ok u Y2 =>
        intro v B' H' ρ' A3 rv
        split at h1
        · rename_i Y3 eq
          cases eq
          split at h1
          · rename_i d Y4 ef
            have hlen : 0 < Y2.length := Nat.lt_of_lt_of_le (by simp) A3.len
            have ha' : WRep (gx cls X) B' ρ' Y2.length (.ref a) (.ref 0) := ⟨hlen, by rw [A3.adr 0 (by simp), show (0 : Nat) = ([] : Ys).length from rfl, extR_at]⟩
            obtain ⟨B5, A5, r5⟩ := frzW_at (G := gx cls X) 20 B' ρ' Y2 (.ref a) (.ref 0) d Y4 A3.rel ha' ef
            exact ⟨rep_non rv, h1 (.ref a) B5 H' ρ1 (Aft.own_store A.rel ((A2.trans A3).trans A5)) r5⟩
          · exact h1.elim
        · rename_i eq
          cases eq
        · exact h1.elim
  · exact h1.elim
end
end MV
set_option Elab.async false
set_option linter.all false
set_option maxRecDepth 100000
set_option maxHeartbeats 4000000
namespace MV
open PySem PySem.Spec PyProof.Rows L2
/-! ### calls of what is built in -/
abbrev GL := List W → Ys → Re
def RLD (G : Gx) (r : List V → Hp → VK → Prop) (g : GL) : Prop := ∀ xs B H ρ Y Q ws w Y', Rel G B H ρ Y → WReps G B ρ Y.length xs ws → g ws Y = .ok w Y' →
  (∀ v B' H' ρ', Aft G B H ρ Y B' H' ρ' Y' → WRep G B' ρ' Y'.length v w → Q v H') → r xs H Q
def dBlt (g : GL) (f : ADen) : Den := fun τ Y => (f τ Y).bind fun ws Y1 => noX (g ws Y1)
def orL (g h : GL) : GL := fun ws Y => match g ws Y with
  | .ok w Y1 => .ok w Y1
  | _ => h ws Y
theorem RLD.or {G : Gx} {r r' : List V → Hp → VK → Prop} {g g' : GL} (h : RLD G r g) (h' : RLD G r' g') : RLD G (fun x H Q => r x H Q ∨ r' x H Q) (orL g g') := by
  intro x B H ρ Y Q ws w Y' R a e q
  unfold orL at e
  cases e1 : g ws Y with
  | ok w1' Y1 =>
    rw [e1] at e
    cases e
    exact .inl (h x B H ρ Y Q _ _ _ R a e1 q)
  | exc c fs Y1 =>
    rw [e1] at e
    exact .inr (h' x B H ρ Y Q _ _ _ R a e q)
  | bad =>
    rw [e1] at e
    exact .inr (h' x B H ρ Y Q _ _ _ R a e q)
theorem CallR.or {X : Cx} {f : Value} {r r' : List V → Hp → VK → Prop} (h : CallR X f r) (h' : CallR X f r') : CallR X f (fun x H Q => r x H Q ∨ r' x H Q) := fun pins s σ H xs us Q I v hq => hq.elim (fun q => h pins s σ H xs us Q I v q) fun q => h' pins s σ H xs us Q I v q
section
variable {cls : Cl} {X : Cx} {W : WX} {pos p : Pos} {e : Expr} {es : List Expr} {fa : ADen} {x : Str} {r : List V → Hp → VK → Prop} {g : GL} {id T : String}
theorem blt_run {t : TA} (ha : ∀ σ H Q B ρ Y τ, Rel (gx cls X) B H ρ Y → TR (gx cls X) B ρ Y.length σ τ → RaOk (gx cls X) W σ B H ρ Y Q (fa τ Y) → t σ H Q) (hr : RLD (gx cls X) r g) {σ : L2.St} {H : Hp} {Q : VK} {B : Hp} {ρ : Nat → Addr} {Y : Ys} {τ : Ts} (R : Rel (gx cls X) B H ρ Y) (T : TR (gx cls X) B ρ Y.length σ τ)
    (h : ReOk (gx cls X) W σ B H ρ Y Q (dBlt g fa τ Y)) : tCB r t σ H Q := by
  refine ha σ H _ B ρ Y τ R T (RaOk.imp ?_ (RaOk.bound h))
  rintro xs H1 ⟨B1, ρ1, ws, Y1, A, rr, h1⟩
  unfold noX at h1
  cases e : g ws Y1 with
  | ok w Y2 =>
    rw [e] at h1
    exact hr xs B1 H1 ρ1 Y1 Q ws w Y2 A.rel rr e h1
  | exc c fs Y2 => rw [e] at h1; exact h1.elim
  | bad => rw [e] at h1; exact h1.elim
theorem d_bltn' (hc : CallR X (.builtin id) r) (hr : RLD (gx cls X) r g) (hm : X.mg x = none) (hv : bootBuiltins x = some (.builtin id)) (ha : DA cls X W (e :: es) fa) (hg : Gl X x := by rfl) (hn : x ≠ "__name__" := by decide) (hdb : (x == ("__debug__" : Str)) = false := by decide)
    (he : starEach (e :: es) X.env = (false, eval e X.env) :: starEach es X.env := by rfl) (hpl : (backTo pos (starEach es X.env)).any (·.1) = false := by rfl) : DE cls X W (.Call (.Name x p) (e :: es) [] pos) (dBlt g fa) := by
  obtain ⟨t, pa, ha⟩ := ha
  exact ⟨_, pe_callB hc hg hm hv pa hn hdb he hpl, fun σ H Q B ρ Y τ R T h => blt_run ha hr R T h⟩
theorem d_tyn (hc : CallR X (.type T) r) (hr : RLD (gx cls X) r g) (hm : X.mg x = none) (hv : bootBuiltins x = some (.type T)) (ha : DA cls X W (e :: es) fa) (hg : Gl X x := by rfl) (hn : x ≠ "__name__" := by decide) (hdb : (x == ("__debug__" : Str)) = false := by decide)
    (he : starEach (e :: es) X.env = (false, eval e X.env) :: starEach es X.env := by rfl) (hpl : (backTo pos (starEach es X.env)).any (·.1) = false := by rfl) : DE cls X W (.Call (.Name x p) (e :: es) [] pos) (dBlt g fa) := by
  obtain ⟨t, pa, ha⟩ := ha
  exact ⟨_, pe_callTy hc hg hm hv pa hn hdb he hpl, fun σ H Q B ρ Y τ R T h => blt_run ha hr R T h⟩
end
/-! ### by values -/
def absI (i : Int) : Int := match i with
  | .ofNat n => .ofNat n
  | .negSucc n => .ofNat (n + 1)
theorem absI_eq (i : Int) : absI i = if i < 0 then -i else i := by
  cases i with
  | ofNat n =>
    have : ¬ (Int.ofNat n < 0) := by
      have : (Int.ofNat n) = (n : Int) := rfl
      omega
    rw [if_neg this]
    rfl
  | negSucc n =>
    rw [if_pos (Int.negSucc_lt_zero n)]
    rfl
def gAbs : GL := fun ws Y => match ws with
  | [.val (.int i)] => .ok (.val (.int (absI i))) Y
  | _ => .bad
theorem one_at {G : Gx} {B : Hp} {ρ : Nat → Addr} {n : Nat} {xs : List V} {w : W} (r : WReps G B ρ n xs [w]) : ∃ x, xs = [x] ∧ WRep G B ρ n x w := by
  cases r with
  | cons h t =>
    cases t
    exact ⟨_, rfl, h⟩
theorem two_at {G : Gx} {B : Hp} {ρ : Nat → Addr} {n : Nat} {xs : List V} {w u : W} (r : WReps G B ρ n xs [w, u]) : ∃ x y, xs = [x, y] ∧ WRep G B ρ n x w ∧ WRep G B ρ n y u := by
  cases r with
  | cons h t =>
    cases t with
    | cons h' t =>
      cases t
      exact ⟨_, _, rfl, h, h'⟩
theorem l_abs {G : Gx} : RLD G (fun xs H Q => ∃ i, xs = [.int i] ∧ Q (.int (if i < 0 then -i else i)) H) gAbs := by
  intro xs B H ρ Y Q ws w Y' R r e q
  unfold gAbs at e
  split at e
  · rename_i i
    cases e
    obtain ⟨x, rfl, h⟩ := one_at r
    rw [rep_int h]
    refine ⟨i, rfl, ?_⟩
    rw [← absI_eq]
    exact q _ B H ρ (Aft.refl R) (.int _)
  · cases e
def gInt : GL := fun ws Y => match ws with
  | [.val (.int i)] => .ok (.val (.int i)) Y
  | [.val (.bl true)] => .ok (.val (.int 1)) Y
  | [.val (.bl false)] => .ok (.val (.int 0)) Y
  | _ => .bad
theorem l_int {G : Gx} : RLD G (fun xs H Q => (∃ i, xs = [.int i] ∧ Q (.int i) H) ∨ ∃ k, xs = [.bl k] ∧ Q (.int (if k then 1 else 0)) H) gInt := by
  intro xs B H ρ Y Q ws w Y' R r e q
  unfold gInt at e
  split at e
  · cases e
    obtain ⟨x, rfl, h⟩ := one_at r
    rw [rep_int h]
    exact .inl ⟨_, rfl, q _ B H ρ (Aft.refl R) (.int _)⟩
  · cases e
    obtain ⟨x, rfl, h⟩ := one_at r
    rw [rep_bl h]
    exact .inr ⟨_, rfl, q _ B H ρ (Aft.refl R) (.int _)⟩
  · cases e
    obtain ⟨x, rfl, h⟩ := one_at r
    rw [rep_bl h]
    exact .inr ⟨_, rfl, q _ B H ρ (Aft.refl R) (.int _)⟩
  · cases e
/-- len of a list, a tuple, a text -/
def gLen : GL := fun ws Y => match ws with
  | [.val (.str x)] => (match lines x.cps.toList.length with
    | true => .ok (.val (.int x.cps.toList.length)) Y
    | false => .bad)
  | [w] => (match sqOf Y w with
    | some us => .ok (.val (.int us.length)) Y
    | none => .bad)
  | _ => .bad
theorem l_len {G : Gx} : RLD G (fun xs H Q => ∃ x n, xs = [x] ∧ LenV G.K x H n ∧ Q (.int n) H) gLen := by
  intro xs B H ρ Y Q ws w Y' R r e q
  unfold gLen at e
  split at e
  · rename_i z
    split at e
    · rename_i hl
      cases e
      obtain ⟨x, rfl, h⟩ := one_at r
      rw [rep_str h]
      have e2 : z.length = z.cps.toList.length := by
        show z.cps.size = _
        simp
      exact ⟨_, z.length, rfl, ⟨by rw [e2]; exact lines_ok hl, rfl⟩, by rw [e2]; exact q _ B H ρ (Aft.refl R) (.int _)⟩
    · cases e
  · rename_i u hne
    split at e
    · rename_i us hs
      cases e
      obtain ⟨x, rfl, h⟩ := one_at r
      obtain ⟨p, vs, rfl, h2, h3, h4⟩ := sqOf_at R h hs
      refine ⟨_, vs.length, rfl, ?_, ?_⟩
      · rcases h2 with h2 | h2
        · exact .inl ⟨vs, h2, rfl⟩
        · exact .inr ⟨vs, h2, rfl⟩
      · rw [Paired.length h4]
        exact q _ B H ρ (Aft.refl R) (.int _)
    · cases e
  · cases e
/-- len of a dict of ints and texts -/
def gLenD : GL := fun ws Y => match ws with
  | [.val (.dK kds)] => .ok (.val (.int kds.length)) Y
  | [.ref n] => (match Y[n]? with
    | some (.dK kws) => .ok (.val (.int kws.length)) Y
    | _ => .bad)
  | _ => .bad
theorem call_lenD {X : Cx} : CallR X (.builtin "len") (fun xs H Q => ∃ a kvs, xs = [.ref a] ∧ Rd H a (.dK kvs) ∧ Q (.int (kvs.length : Nat)) H) := by
  intro pins s σ H xs us Q I r h
  obtain ⟨a, kvs, rfl, h1, q⟩ := h
  rw [Vals.ref1 r]
  exact d_len I h1 fun t s' I' => ⟨.int kvs.length, H, I', ⟨t, rfl⟩, q⟩
theorem l_lenD {G : Gx} : RLD G (fun xs H Q => ∃ a kvs, xs = [.ref a] ∧ Rd H a (.dK kvs) ∧ Q (.int (kvs.length : Nat)) H) gLenD := by
  intro xs B H ρ Y Q ws w Y' R r e q
  unfold gLenD at e
  split at e
  · cases e
    obtain ⟨x, rfl, h⟩ := one_at r
    cases h with
    | dK hh rr =>
      refine ⟨_, _, rfl, R.dK hh, ?_⟩
      rw [rr.length]
      exact q _ B H ρ (Aft.refl R) (.int _)
  · split at e
    · rename_i hn
      cases e
      obtain ⟨x, rfl, h⟩ := one_at r
      obtain ⟨kvs, h1, h2⟩ := R.obj _ _ hn
      obtain ⟨_, rfl⟩ := h
      refine ⟨_, kvs, rfl, .inl h1, ?_⟩
      rw [Paired.length h2]
      exact q _ B H ρ (Aft.refl R) (.int _)
    · cases e
  · cases e
/-- list(e) of a list or a tuple: data, or of the store -/
def gList : GL := fun ws Y => match ws with
  | [w] => (match sqOf Y w with
    | some us => (match dats us with
      | some ds => .ok (.val (.lst ds)) Y
      | none => .bad)
    | none => .bad)
  | _ => .bad
def gListR : GL := fun ws Y => match ws with
  | [w] => (match sqOf Y w with
    | some us => .ok (.ref Y.length) (Y ++ [.lst us])
    | none => .bad)
  | _ => .bad
abbrev rList (K : PySem.W.Frag) : List V → Hp → VK → Prop := fun xs H Q => ∃ p ys, xs = [.ref p] ∧ (SqL K H p ys ∨ SqT K H p ys) ∧ ∀ l, H l = none → Q (.ref l) (upd H l (.lst ys))
theorem l_list {G : Gx} : RLD G (rList G.K) gList := by
  intro xs B H ρ Y Q ws w Y' R r e q
  unfold gList at e
  split at e
  · split at e
    · rename_i us hs
      split at e
      · rename_i ds hd
        cases e
        obtain ⟨x, rfl, h⟩ := one_at r
        obtain ⟨p, vs, rfl, h2, h3, h4⟩ := sqOf_at R h hs
        refine ⟨p, vs, rfl, h2, fun l hl => ?_⟩
        have A := Aft.new R (.lst vs) hl
        exact q _ _ _ ρ A (.lst upd_same h3 ((reps_dats h4 hd).le A.le))
      · cases e
    · cases e
  · cases e
theorem l_listR {G : Gx} : RLD G (rList G.K) gListR := by
  intro xs B H ρ Y Q ws w Y' R r e q
  unfold gListR at e
  split at e
  · split at e
    · rename_i us hs
      cases e
      obtain ⟨x, rfl, h⟩ := one_at r
      obtain ⟨p, vs, rfl, h2, h3, h4⟩ := sqOf_at R h hs
      refine ⟨p, vs, rfl, h2, fun l hl => ?_⟩
      have A := Aft.newR R (p := l) (o := .lst vs) (yo := .lst us) hl ⟨vs, rfl, h3, h4⟩
      exact q _ _ _ _ A ⟨by simp, by rw [extR_at]⟩
    · cases e
  · cases e
/-- tuple(e) of a list or a tuple -/
def gTup : GL := fun ws Y => match ws with
  | [.val (.tup ds)] => .ok (.val (.tup ds)) Y
  | [.val (.ktup ds)] => .ok (.val (.ktup ds)) Y
  | [w] => (match lsOf Y w with
    | some us => (match dats us with
      | some ds => .ok (.val (.tup ds)) Y
      | none => .bad)
    | none => .bad)
  | _ => .bad
theorem l_tup {G : Gx} : RLD G (fun xs H Q => ∃ p ys, xs = [.ref p] ∧ ((SqL G.K H p ys ∧ ∀ l, H l = none → Q (.ref l) (upd H l (.tup ys))) ∨ (SqT G.K H p ys ∧ Q (.ref p) H))) gTup := by
  intro xs B H ρ Y Q ws w Y' R r e q
  unfold gTup at e
  split at e
  · cases e
    obtain ⟨x, rfl, h⟩ := one_at r
    have h' := h
    obtain ⟨p, vs, rfl, h2, _⟩ := rep_tup h'
    exact ⟨p, vs, rfl, .inr ⟨SqT.of (R.tup h2), q _ B H ρ (Aft.refl R) h⟩⟩
  · cases e
    obtain ⟨x, rfl, h⟩ := one_at r
    have h' := h
    cases h' with
    | ktup hh hl rr => exact ⟨_, _, rfl, .inr ⟨hh H, q _ B H ρ (Aft.refl R) h⟩⟩
  · split at e
    · rename_i us hs
      split at e
      · rename_i ds hd
        cases e
        obtain ⟨x, rfl, h⟩ := one_at r
        obtain ⟨p, vs, rfl, h2, h3, h4⟩ := lsOf_at R h hs
        refine ⟨p, vs, rfl, .inl ⟨h2, fun l hl => ?_⟩⟩
        have A := Aft.new R (.tup vs) hl
        exact q _ _ _ ρ A (.tup upd_same h3 ((reps_dats h4 hd).le A.le))
      · cases e
    · cases e
  · cases e
/-! ### lists of ints, of bools, of texts -/
def intsOf : List W → Option (List Int)
  | [] => some []
  | .val (.int i) :: r => (match intsOf r with
    | some l => some (i :: l)
    | none => none)
  | _ => none
def blsOf : List W → Option (List Bool)
  | [] => some []
  | .val (.bl i) :: r => (match blsOf r with
    | some l => some (i :: l)
    | none => none)
  | _ => none
def strsOf : List W → Option (List Str)
  | [] => some []
  | .val (.str i) :: r => (match strsOf r with
    | some l => some (i :: l)
    | none => none)
  | _ => none
theorem intsOf_at {G : Gx} {B : Hp} {ρ : Nat → Addr} {n : Nat} : ∀ {vs : List V} {ws : List W} {l : List Int}, WReps G B ρ n vs ws → intsOf ws = some l → vs = l.map V.int
  | _, _, _, .nil, e => by
    cases e
    rfl
  | _, _ :: _, _, .cons h t, e => by
    unfold intsOf at e
    split at e
    · cases ‹_ :: _ = []›
    · rename_i i r eq
      cases eq
      split at e
      · rename_i l' e1
        cases e
        rw [rep_int h, intsOf_at t e1]
        rfl
      · cases e
    · cases e
theorem blsOf_at {G : Gx} {B : Hp} {ρ : Nat → Addr} {n : Nat} : ∀ {vs : List V} {ws : List W} {l : List Bool}, WReps G B ρ n vs ws → blsOf ws = some l → vs = l.map V.bl
  | _, _, _, .nil, e => by
    cases e
    rfl
  | _, _ :: _, _, .cons h t, e => by
    unfold blsOf at e
    split at e
    · cases ‹_ :: _ = []›
    · rename_i i r eq
      cases eq
      split at e
      · rename_i l' e1
        cases e
        rw [rep_bl h, blsOf_at t e1]
        rfl
      · cases e
    · cases e
theorem strsOf_at {G : Gx} {B : Hp} {ρ : Nat → Addr} {n : Nat} : ∀ {vs : List V} {ws : List W} {l : List Str}, WReps G B ρ n vs ws → strsOf ws = some l → vs = l.map V.str
  | _, _, _, .nil, e => by
    cases e
    rfl
  | _, _ :: _, _, .cons h t, e => by
    unfold strsOf at e
    split at e
    · cases ‹_ :: _ = []›
    · rename_i i r eq
      cases eq
      split at e
      · rename_i l' e1
        cases e
        rw [rep_str h, strsOf_at t e1]
        rfl
      · cases e
    · cases e
def sumI : List Int → Int
  | [] => 0
  | i :: r => i + sumI r
theorem sumI_eq : ∀ l : List Int, sumI l = l.sum
  | [] => rfl
  | i :: r => by
    rw [sumI, sumI_eq r, List.sum_cons]
def anyB : List Bool → Bool
  | [] => false
  | true :: _ => true
  | false :: r => anyB r
def allB : List Bool → Bool
  | [] => true
  | true :: r => allB r
  | false :: _ => false
theorem anyB_eq : ∀ l : List Bool, anyB l = l.any id
  | [] => rfl
  | true :: _ => rfl
  | false :: r => by simp [anyB, anyB_eq r]
theorem allB_eq : ∀ l : List Bool, allB l = l.all id
  | [] => rfl
  | false :: _ => rfl
  | true :: r => by simp [allB, allB_eq r]
def gSum : GL := fun ws Y => match ws with
  | [w] => (match lsOf Y w with
    | some us => (match intsOf us with
      | some l => .ok (.val (.int (sumI l))) Y
      | none => .bad)
    | none => .bad)
  | _ => .bad
def gAny : GL := fun ws Y => match ws with
  | [w] => (match lsOf Y w with
    | some us => (match blsOf us with
      | some l => .ok (.val (.bl (anyB l))) Y
      | none => .bad)
    | none => .bad)
  | _ => .bad
def gAll : GL := fun ws Y => match ws with
  | [w] => (match lsOf Y w with
    | some us => (match blsOf us with
      | some l => .ok (.val (.bl (allB l))) Y
      | none => .bad)
    | none => .bad)
  | _ => .bad
theorem l_sum {G : Gx} : RLD G (rSum G.K) gSum := by
  intro xs B H ρ Y Q ws w Y' R r e q
  unfold gSum at e
  split at e
  · split at e
    · rename_i us hs
      split at e
      · rename_i l hl
        cases e
        obtain ⟨x, rfl, h⟩ := one_at r
        obtain ⟨p, vs, rfl, h2, h3, h4⟩ := lsOf_at R h hs
        have ev := intsOf_at h4 hl
        subst ev
        exact ⟨p, l, rfl, h2, by rw [← sumI_eq]; exact q _ B H ρ (Aft.refl R) (.int _)⟩
      · cases e
    · cases e
  · cases e
theorem l_any {G : Gx} : RLD G (rAny G.K) gAny := by
  intro xs B H ρ Y Q ws w Y' R r e q
  unfold gAny at e
  split at e
  · split at e
    · rename_i us hs
      split at e
      · rename_i l hl
        cases e
        obtain ⟨x, rfl, h⟩ := one_at r
        obtain ⟨p, vs, rfl, h2, h3, h4⟩ := lsOf_at R h hs
        have ev := blsOf_at h4 hl
        subst ev
        exact ⟨p, l, rfl, h2, by rw [← anyB_eq]; exact q _ B H ρ (Aft.refl R) (.bl _)⟩
      · cases e
    · cases e
  · cases e
theorem l_all {G : Gx} : RLD G (rAll G.K) gAll := by
  intro xs B H ρ Y Q ws w Y' R r e q
  unfold gAll at e
  split at e
  · split at e
    · rename_i us hs
      split at e
      · rename_i l hl
        cases e
        obtain ⟨x, rfl, h⟩ := one_at r
        obtain ⟨p, vs, rfl, h2, h3, h4⟩ := lsOf_at R h hs
        have ev := blsOf_at h4 hl
        subst ev
        exact ⟨p, l, rfl, h2, by rw [← allB_eq]; exact q _ B H ρ (Aft.refl R) (.bl _)⟩
      · cases e
    · cases e
  · cases e
end MV
set_option Elab.async false
set_option linter.all false
set_option maxRecDepth 100000
set_option maxHeartbeats 4000000
namespace MV
open PySem PySem.Spec PyProof.Rows L2
/-! ### sorted -/
theorem sorted_uniq {α : Type} {le : α → α → Prop} (anti : ∀ a b, le a b → le b a → a = b) : ∀ {l m : List α}, l.Pairwise le → m.Pairwise le → l.Perm m → l = m
  | [], m, _, _, p => by
    have := p.length_eq
    cases m with
    | nil => rfl
    | cons _ _ => simp at this
  | a :: l, [], _, _, p => by
    have := p.length_eq
    simp at this
  | a :: l, b :: m, h1, h2, p => by
    have h1' := List.pairwise_cons.mp h1
    have h2' := List.pairwise_cons.mp h2
    have e : a = b := by
      have ha : a ∈ b :: m := p.subset (by simp)
      have hb : b ∈ a :: l := p.symm.subset (by simp)
      rcases List.mem_cons.mp ha with h | h
      · exact h
      · rcases List.mem_cons.mp hb with h' | h'
        · exact h'.symm
        · exact anti a b (h1'.1 b h') (h2'.1 a h)
    subst e
    rw [sorted_uniq anti h1'.2 h2'.2 (List.perm_cons a |>.mp p)]
def ins {α : Type} (le : α → α → Bool) (a : α) : List α → List α
  | [] => [a]
  | b :: r => (match le a b with
    | true => a :: b :: r
    | false => b :: ins le a r)
def srt {α : Type} (le : α → α → Bool) : List α → List α
  | [] => []
  | a :: r => ins le a (srt le r)
theorem ins_perm {α : Type} {le : α → α → Bool} (a : α) : ∀ l : List α, (ins le a l).Perm (a :: l)
  | [] => .refl _
  | b :: r => by
    unfold ins
    split
    · exact .refl _
    · exact ((ins_perm a r).cons b).trans (.swap a b r)
theorem srt_perm {α : Type} {le : α → α → Bool} : ∀ l : List α, (srt le l).Perm l
  | [] => .refl _
  | a :: r => (ins_perm a (srt le r)).trans ((srt_perm r).cons a)
theorem ins_pw {α : Type} {le : α → α → Bool} (tr : ∀ a b c, le a b = true → le b c = true → le a c = true) (tot : ∀ a b, le a b = false → le b a = true) (a : α) : ∀ {l : List α}, l.Pairwise (fun x y => le x y = true) → (ins le a l).Pairwise (fun x y => le x y = true)
  | [], _ => by simp [ins]
  | b :: r, h => by
    have h' := List.pairwise_cons.mp h
    unfold ins
    split
    · rename_i e
      refine List.pairwise_cons.mpr ⟨fun c hc => ?_, h⟩
      rcases List.mem_cons.mp hc with rfl | hc
      · exact e
      · exact tr a b c e (h'.1 c hc)
    · rename_i e
      refine List.pairwise_cons.mpr ⟨fun c hc => ?_, ins_pw tr tot a h'.2⟩
      rcases List.mem_cons.mp ((ins_perm a r).subset hc) with rfl | hc
      · exact tot _ _ e
      · exact h'.1 c hc
theorem srt_pw {α : Type} {le : α → α → Bool} (tr : ∀ a b c, le a b = true → le b c = true → le a c = true) (tot : ∀ a b, le a b = false → le b a = true) : ∀ l : List α, (srt le l).Pairwise (fun x y => le x y = true)
  | [] => .nil
  | a :: r => ins_pw tr tot a (srt_pw tr tot r)
/-- texts by their signs -/
def lnLt : List Nat → List Nat → Bool
  | _, [] => false
  | [], _ :: _ => true
  | a :: x, b :: y => (match Nat.blt a b with
    | true => true
    | false => (match Nat.beq a b with
      | true => lnLt x y
      | false => false))
theorem lnLt_iff : ∀ {a b : List Nat}, lnLt a b = true ↔ a < b
  | [], [] => by simp [lnLt]
  | _ :: _, [] => by simp [lnLt]
  | [], _ :: _ => by simp [lnLt]
  | a :: x, b :: y => by
    have ih := lnLt_iff (a := x) (b := y)
    rw [List.cons_lt_cons_iff]
    unfold lnLt
    by_cases h : a < b
    · have hb : Nat.blt a b = true := Nat.blt_eq.mpr h
      rw [hb]
      simp [h]
    · have hb : Nat.blt a b = false := by
        cases e : Nat.blt a b with
        | false => rfl
        | true => exact absurd (Nat.blt_eq.mp e) h
      rw [hb]
      by_cases e : a = b
      · subst e
        have he : Nat.beq a a = true := Nat.beq_refl a
        rw [he]
        simp [ih]
      · have he : Nat.beq a b = false := by
          cases q : Nat.beq a b with
          | false => rfl
          | true => exact absurd (Nat.eq_of_beq_eq_true q) e
        rw [he]
        simp [h, e]
def sLe (a b : Str) : Bool := !lnLt b.cps.toList a.cps.toList
theorem sLe_iff {a b : Str} : sLe a b = true ↔ a.cps.toList ≤ b.cps.toList := by
  unfold sLe
  rw [← List.not_lt]
  constructor
  · intro h h'
    rw [lnLt_iff.mpr h'] at h
    cases h
  · intro h
    cases e : lnLt b.cps.toList a.cps.toList with
    | false => rfl
    | true => exact absurd (lnLt_iff.mp e) h
theorem sLe_tr (a b c : Str) (h : sLe a b = true) (k : sLe b c = true) : sLe a c = true := sLe_iff.mpr (List.le_trans (sLe_iff.mp h) (sLe_iff.mp k))
theorem sLe_tot (a b : Str) (h : sLe a b = false) : sLe b a = true := by
  cases e : sLe b a with
  | true => rfl
  | false =>
    exfalso
    rcases List.le_total a.cps.toList b.cps.toList with z | z
    · rw [sLe_iff.mpr z] at h
      cases h
    · rw [sLe_iff.mpr z] at e
      cases e
theorem sLe_anti (a b : Str) (h : sLe a b = true) (k : sLe b a = true) : a = b := by
  have e := List.le_antisymm (sLe_iff.mp h) (sLe_iff.mp k)
  obtain ⟨⟨l⟩⟩ := a
  obtain ⟨⟨m⟩⟩ := b
  cases e
  rfl
theorem rising_pw : ∀ {l : List Str} {p : Str}, risingS p l = true → (p :: l).Pairwise (fun x y => sLe x y = true)
  | [], p, _ => by simp
  | x :: r, p, h => by
    unfold risingS at h
    rw [Bool.and_eq_true] at h
    have hpx : sLe p x = true := by
      unfold sLe
      have h1 := h.1
      rw [ltCps_eq] at h1
      cases e : lnLt x.cps.toList p.cps.toList with
      | false => rfl
      | true =>
        rw [decide_eq_true (lnLt_iff.mp e)] at h1
        cases h1
    have ih := rising_pw h.2
    refine List.pairwise_cons.mpr ⟨fun c hc => ?_, ih⟩
    rcases List.mem_cons.mp hc with rfl | hc
    · exact hpx
    · exact sLe_tr _ _ _ hpx ((List.pairwise_cons.mp ih).1 c hc)
theorem sortedS_pw {l : List Str} (h : sortedS l = true) : l.Pairwise (fun x y => sLe x y = true) := by
  cases l with
  | nil => exact .nil
  | cons x r => exact rising_pw h
theorem sortedS_srt {l m : List Str} (p : m.Perm l) (h : sortedS m = true) : m = srt sLe l :=
  sorted_uniq (le := fun x y => sLe x y = true) (fun a b h k => sLe_anti a b h k) (sortedS_pw h) (srt_pw sLe_tr sLe_tot l) (p.trans (srt_perm l).symm)
theorem iLe_tr (a b c : Int) (h : iLe a b = true) (k : iLe b c = true) : iLe a c = true := iLe_iff.mpr (Int.le_trans (iLe_iff.mp h) (iLe_iff.mp k))
theorem iLe_tot (a b : Int) (h : iLe a b = false) : iLe b a = true := by
  refine iLe_iff.mpr ?_
  have : ¬ a ≤ b := fun z => by
    rw [iLe_iff.mpr z] at h
    cases h
  omega
theorem sortedI_srt {l m : List Int} (p : m.Perm l) (h : m.Pairwise (· ≤ ·)) : m = srt iLe l :=
  sorted_uniq (le := fun x y => iLe x y = true) (fun a b h k => Int.le_antisymm (iLe_iff.mp h) (iLe_iff.mp k)) (h.imp fun h => iLe_iff.mpr h) (srt_pw iLe_tr iLe_tot l) (p.trans (srt_perm l).symm)
def dStrs : List Str → List D
  | [] => []
  | x :: r => .str x :: dStrs r
def dInts : List Int → List D
  | [] => []
  | x :: r => .int x :: dInts r
theorem reps_strs {G : Gx} {B : Hp} : ∀ l : List Str, Reps G B (l.map V.str) (dStrs l)
  | [] => .nil
  | x :: r => .cons (.str x) (reps_strs r)
theorem reps_dints {G : Gx} {B : Hp} : ∀ l : List Int, Reps G B (l.map V.int) (dInts l)
  | [] => .nil
  | x :: r => .cons (.int x) (reps_dints r)
def below64 (n : Nat) : Bool := Nat.blt n 64
def gSortS : GL := fun ws Y => match ws with
  | [w] => (match lsOf Y w with
    | some us => (match strsOf us, below64 us.length with
      | some l, true => .ok (.val (.lst (dStrs (srt sLe l)))) Y
      | _, _ => .bad)
    | none => .bad)
  | _ => .bad
def gSortI : GL := fun ws Y => match ws with
  | [w] => (match lsOf Y w with
    | some us => (match intsOf us, below64 us.length with
      | some l, true => .ok (.val (.lst (dInts (srt iLe l)))) Y
      | _, _ => .bad)
    | none => .bad)
  | _ => .bad
theorem l_sortS {G : Gx} : RLD G (rSortedS G.K) gSortS := by
  intro xs B H ρ Y Q ws w Y' R r e q
  unfold gSortS at e
  split at e
  · split at e
    · rename_i us hs
      split at e
      · rename_i l hl h64
        cases e
        obtain ⟨x, rfl, h⟩ := one_at r
        obtain ⟨p, vs, rfl, h2, h3, h4⟩ := lsOf_at R h hs
        have ev := strsOf_at h4 hl
        subst ev
        have hlen : l.length < 64 := by
          have := Paired.length h4
          rw [List.length_map] at this
          rw [this]
          exact Nat.blt_eq.mp h64
        refine ⟨p, l, rfl, h2, hlen, fun ys a hp hsd ha => ?_⟩
        rw [sortedS_srt hp hsd]
        have A := Aft.new R (.lst ((srt sLe l).map V.str)) ha
        refine q _ _ _ ρ A (.lst upd_same ?_ (reps_strs _))
        rw [List.length_map, (srt_perm l).length_eq]
        rw [sizeLine_eq]
        omega
      · cases e
    · cases e
  · cases e
theorem l_sortI {G : Gx} : RLD G (rSorted G.K) gSortI := by
  intro xs B H ρ Y Q ws w Y' R r e q
  unfold gSortI at e
  split at e
  · split at e
    · rename_i us hs
      split at e
      · rename_i l hl h64
        cases e
        obtain ⟨x, rfl, h⟩ := one_at r
        obtain ⟨p, vs, rfl, h2, h3, h4⟩ := lsOf_at R h hs
        have ev := intsOf_at h4 hl
        subst ev
        have hlen : l.length < 64 := by
          have := Paired.length h4
          rw [List.length_map] at this
          rw [this]
          exact Nat.blt_eq.mp h64
        refine ⟨p, l, rfl, h2, hlen, fun ys a hp hsd ha => ?_⟩
        rw [sortedI_srt hp hsd]
        have A := Aft.new R (.lst ((srt iLe l).map V.int)) ha
        refine q _ _ _ ρ A (.lst upd_same ?_ (reps_dints _))
        rw [List.length_map, (srt_perm l).length_eq]
        rw [sizeLine_eq]
        omega
      · cases e
    · cases e
  · cases e
end MV
set_option Elab.async false
set_option linter.all false
set_option maxRecDepth 100000
set_option maxHeartbeats 4000000
namespace MV
open PySem PySem.Spec PyProof.Rows L2
/-! ### methods of lists -/
abbrev GM := W → List W → Ys → Re
def RMD (G : Gx) (r : V → List V → Hp → VK → Prop) (g : GM) : Prop := ∀ x xs B H ρ Y Q w ws u Y', Rel G B H ρ Y → WRep G B ρ Y.length x w → WReps G B ρ Y.length xs ws → g w ws Y = .ok u Y' →
  (∀ v B' H' ρ', Aft G B H ρ Y B' H' ρ' Y' → WRep G B' ρ' Y'.length v u → Q v H') → r x xs H Q
/-- a list, of the store or data -/
def isL (w : W) (Y : Ys) : Bool := match lsOf Y w with
  | some _ => true
  | none => false
theorem isL_at {G : Gx} {B H : Hp} {ρ : Nat → Addr} {Y : Ys} (R : Rel G B H ρ Y) {x : V} {w : W} (a : WRep G B ρ Y.length x w) (h : isL w Y = true) : tyV G.K "list" x H := by
  unfold isL at h
  split at h
  · rename_i ws e
    obtain ⟨p, vs, rfl, h2, _⟩ := lsOf_at R a e
    exact .inl ⟨rfl, vs, h2⟩
  · cases h
def dBm0 (g : GM) (fo : Den) : Den := fun τ Y => (fo τ Y).bind fun w Y1 => match isL w Y1 with
  | true => noX (g w [] Y1)
  | false => .bad
def dBm (g : GM) (fo : Den) (fa : ADen) : Den := fun τ Y => (fo τ Y).bind fun w Y1 => match isL w Y1 with
  | true => (fa τ Y1).bind fun ws Y2 => noX (g w ws Y2)
  | false => .bad
section
variable {cls : Cl} {X : Cx} {W : WX} {apos cpos : Pos} {o e : Expr} {es : List Expr} {fo : Den} {fa : ADen} {name : Str} {id : String} {r : V → List V → Hp → VK → Prop} {g : GM}
theorem RMD.run {G : Gx} {σ : L2.St} {x : V} {xs : List V} {B H : Hp} {ρ : Nat → Addr} {Y : Ys} {Q : VK} {w : MV.W} {ws : List MV.W} (h : RMD G r g) (R : Rel G B H ρ Y) (a : WRep G B ρ Y.length x w) (b : WReps G B ρ Y.length xs ws) (q : ReOk G W σ B H ρ Y Q (noX (g w ws Y))) : r x xs H Q := by
  unfold noX at q
  cases e : g w ws Y with
  | ok u Y1 =>
    rw [e] at q
    exact h x xs B H ρ Y Q _ _ _ _ R a b e q
  | exc c fs Y1 => rw [e] at q; exact q.elim
  | bad => rw [e] at q; exact q.elim
theorem d_bm0 (slot : Slot "list" name id) (hty : typeOf (.builtin id) = pure (.type "method_descriptor")) (hm : MtR X id r) (hr : RMD (gx cls X) r g) (ho : DE cls X W o fo)
    (hbase : attributeBase o name X.env (eval o X.env) = eval o X.env := by rfl) (hline : (apos.endLine == cpos.line) = true := by rfl) : DE cls X W (.Call (.Attribute o name apos) [] [] cpos) (dBm0 g fo) := by
  obtain ⟨to, po, ho⟩ := ho
  refine ⟨_, pe_bm0 F.plainAttrs_list slot hty hm po hbase hline, fun σ H Q B ρ Y τ R T h => ?_⟩
  refine ho σ H _ B ρ Y τ R T (ReOk.imp ?_ (ReOk.bound h))
  rintro x H1 ⟨B1, ρ1, w, Y1, A, rr, h1⟩
  cases e1 : isL w Y1 with
  | false => rw [e1] at h1; exact h1.elim
  | true =>
    rw [e1] at h1
    exact ⟨isL_at A.rel rr e1, hr.run A.rel rr .nil h1⟩
theorem d_bm (slot : Slot "list" name id) (hty : typeOf (.builtin id) = pure (.type "method_descriptor")) (hm : MtR X id r) (hr : RMD (gx cls X) r g) (ho : DE cls X W o fo) (ha : DA cls X W (e :: es) fa)
    (hbase : attributeBase o name X.env (eval o X.env) = eval o X.env := by rfl)
    (hfew : ((backTo cpos (starEach (e :: es) X.env)).all (fun x => !x.1) && (backToKw cpos (keywordEach [] X.env)).all (fun x => x.1.isSome)
      && decide ((e :: es).length + ([] : List Keyword).length + (if ([] : List Keyword).isEmpty then 0 else 1) < 30)) = true := by rfl)
    (hline : (apos.endLine == cpos.line) = true := by rfl) (hs : starEach (e :: es) X.env = (false, eval e X.env) :: starEach es X.env := by rfl) (hplain : (backTo cpos (starEach es X.env)).any (·.1) = false := by rfl) :
    DE cls X W (.Call (.Attribute o name apos) (e :: es) [] cpos) (dBm g fo fa) := by
  obtain ⟨to, po, ho⟩ := ho
  obtain ⟨ta, pa, ha⟩ := ha
  refine ⟨_, pe_bm F.plainAttrs_list slot hty hm po pa hbase hfew hline hs hplain, fun σ H Q B ρ Y τ R T h => ?_⟩
  refine ho σ H _ B ρ Y τ R T (ReOk.imp ?_ (ReOk.bound h))
  rintro x H1 ⟨B1, ρ1, w, Y1, A, rr, h1⟩
  cases e1 : isL w Y1 with
  | false => rw [e1] at h1; exact h1.elim
  | true =>
    rw [e1] at h1
    refine ⟨isL_at A.rel rr e1, ha σ H1 _ B1 ρ1 Y1 τ A.rel (T.aft A) (RaOk.imp ?_ (RaOk.bound h1))⟩
    rintro xs H2 ⟨B2, ρ2, ws, Y2, A2, r2, h2⟩
    exact hr.run A2.rel (WRep.aft A2 rr) r2 h2
end
/-- a list of the store -/
def atL (w : W) (Y : Ys) : Option (Nat × List W) := match w with
  | .ref n => (match Y[n]? with
    | some (.lst ws) => some (n, ws)
    | _ => none)
  | _ => none
theorem atL_at {G : Gx} {B H : Hp} {ρ : Nat → Addr} {Y : Ys} (R : Rel G B H ρ Y) {x : V} {w : W} {n : Nat} {ws : List W} (a : WRep G B ρ Y.length x w) (e : atL w Y = some (n, ws)) : Live Y n ∧ ∃ vs, x = .ref (ρ n) ∧ H (ρ n) = some (.lst vs) ∧ vs.length ≤ sizeLine ∧ WReps G B ρ Y.length vs ws := by
  unfold atL at e
  split at e
  · split at e
    · rename_i hn
      cases e
      obtain ⟨vs, h1, h2, h3⟩ := R.obj _ _ hn
      exact ⟨⟨_, hn, fun z => by cases z⟩, vs, a.2, h1, h2, h3⟩
    · cases e
  · cases e
def gAppend : GM := fun w ws Y => match atL w Y, ws with
  | some (n, us), [u] => (match lines (us.length + 1) with
    | true => .ok (.val .non) (Y.set n (.lst (us ++ [u])))
    | false => .bad)
  | _, _ => .bad
theorem m_append {G : Gx} : RMD G rAppend gAppend := by
  intro x xs B H ρ Y Q w ws u Y' R a b e q
  unfold gAppend at e
  split at e
  · rename_i n us v e1
    split at e
    · rename_i hl
      cases e
      obtain ⟨lv, vs, rfl, h1, h2, h3⟩ := atL_at R a e1
      obtain ⟨y, rfl, hy⟩ := one_at b
      have hz : vs.length + 1 ≤ sizeLine := by
        rw [Paired.length h3]
        exact lines_ok hl
      refine ⟨_, vs, y, rfl, rfl, h1, hz, ?_⟩
      have A := Aft.put R (o := .lst (vs ++ [y])) (yo := .lst (us ++ [v])) lv ⟨_, rfl, by simpa using hz, Paired.snoc h3 hy⟩
      exact q .non B _ ρ A .non
    · cases e
  · cases e
def gExtend : GM := fun w ws Y => match atL w Y, ws with
  | some (n, us), [u] => (match lsOf' Y u with
    | some zs => (match lines (us.length + zs.length) with
      | true => .ok (.val .non) (Y.set n (.lst (us ++ zs)))
      | false => .bad)
    | none => .bad)
  | _, _ => .bad
theorem m_extend {G : Gx} : RMD G rExtend gExtend := by
  intro x xs B H ρ Y Q w ws u Y' R a b e q
  unfold gExtend at e
  split at e
  · rename_i n us v e1
    split at e
    · rename_i zs e2
      split at e
      · rename_i hl
        cases e
        obtain ⟨lv, vs, rfl, h1, h2, h3⟩ := atL_at R a e1
        obtain ⟨y, rfl, hy⟩ := one_at b
        obtain ⟨p, ys, rfl, k1, k2, k3⟩ := lsOf'_at R hy e2
        have hz : vs.length + ys.length ≤ sizeLine := by
          rw [Paired.length h3, Paired.length k3]
          exact lines_ok hl
        refine ⟨_, p, vs, ys, rfl, rfl, h1, k1, hz, ?_⟩
        have A := Aft.put R (o := .lst (vs ++ ys)) (yo := .lst (us ++ zs)) lv ⟨_, rfl, by simpa using hz, Paired.app h3 k3⟩
        exact q .non B _ ρ A .non
      · cases e
    · cases e
  · cases e
def lastW : List W → Option (List W × W)
  | [] => none
  | [w] => some ([], w)
  | w :: u :: r => (match lastW (u :: r) with
    | some (l, z) => some (w :: l, z)
    | none => none)
theorem lastW_at {G : Gx} {B : Hp} {ρ : Nat → Addr} {n : Nat} : ∀ {ws : List W} {vs : List V} {l : List W} {z : W}, WReps G B ρ n vs ws → lastW ws = some (l, z) → ∃ y, vs[vs.length - 1]? = some y ∧ WRep G B ρ n y z ∧ WReps G B ρ n vs.dropLast l
  | [], _, _, _, _, e => by cases e
  | [w], _, l, z, r, e => by
    cases e
    obtain ⟨x, rfl, h⟩ := one_at r
    exact ⟨x, rfl, h, .nil⟩
  | w :: u :: t, _, l, z, r, e => by
    cases r with
    | cons h rr =>
      rename_i v vs
      unfold lastW at e
      split at e
      · rename_i l' z' e1
        cases e
        obtain ⟨y, h1, h2, h3⟩ := lastW_at rr e1
        cases rr with
        | cons h' rr' =>
          rename_i v' vs'
          refine ⟨y, ?_, h2, ?_⟩
          · simpa using h1
          · simpa using Paired.cons h h3
      · cases e
def gPop : GM := fun w ws Y => match atL w Y, ws with
  | some (n, us), [] => (match lastW us with
    | some (l, z) => .ok z (Y.set n (.lst l))
    | none => .bad)
  | _, _ => .bad
theorem m_pop {G : Gx} : RMD G rPop gPop := by
  intro x xs B H ρ Y Q w ws u Y' R a b e q
  unfold gPop at e
  split at e
  · rename_i n us e1
    split at e
    · rename_i l z e2
      cases e
      obtain ⟨lv, vs, rfl, h1, h2, h3⟩ := atL_at R a e1
      cases b
      obtain ⟨y, k1, k2, k3⟩ := lastW_at h3 e2
      refine ⟨_, vs, y, rfl, rfl, h1, k1, ?_⟩
      have A := Aft.put R (o := .lst vs.dropLast) (yo := .lst l) lv ⟨_, rfl, by rw [List.length_dropLast]; omega, k3⟩
      exact q y B _ ρ A (WRep.aft A k2)
    · cases e
  · cases e
section
variable {cls : Cl} {X : Cx} {W : WX} {apos cpos : Pos} {o e : Expr} {fo : Den} {fa : ADen}
theorem d_append (ho : DE cls X W o fo) (ha : DA cls X W [e] fa) (hbase : attributeBase o "append" X.env (eval o X.env) = eval o X.env := by rfl)
    (hfew : ((backTo cpos (starEach [e] X.env)).all (fun x => !x.1) && (backToKw cpos (keywordEach [] X.env)).all (fun x => x.1.isSome)
      && decide (([e] : List Expr).length + ([] : List Keyword).length + (if ([] : List Keyword).isEmpty then 0 else 1) < 30)) = true := by rfl)
    (hline : (apos.endLine == cpos.line) = true := by rfl) (hs : starEach [e] X.env = (false, eval e X.env) :: starEach [] X.env := by rfl) :
    DE cls X W (.Call (.Attribute o "append" apos) [e] [] cpos) (dBm gAppend fo fa) := d_bm F.slot_list_append F.type_list_append mt_append m_append ho ha hbase hfew hline hs
theorem d_extend (ho : DE cls X W o fo) (ha : DA cls X W [e] fa) (hbase : attributeBase o "extend" X.env (eval o X.env) = eval o X.env := by rfl)
    (hfew : ((backTo cpos (starEach [e] X.env)).all (fun x => !x.1) && (backToKw cpos (keywordEach [] X.env)).all (fun x => x.1.isSome)
      && decide (([e] : List Expr).length + ([] : List Keyword).length + (if ([] : List Keyword).isEmpty then 0 else 1) < 30)) = true := by rfl)
    (hline : (apos.endLine == cpos.line) = true := by rfl) (hs : starEach [e] X.env = (false, eval e X.env) :: starEach [] X.env := by rfl) :
    DE cls X W (.Call (.Attribute o "extend" apos) [e] [] cpos) (dBm gExtend fo fa) := d_bm F.slot_list_extend F.type_list_extend mt_extend m_extend ho ha hbase hfew hline hs
theorem d_pop (ho : DE cls X W o fo) (hbase : attributeBase o "pop" X.env (eval o X.env) = eval o X.env := by rfl) (hline : (apos.endLine == cpos.line) = true := by rfl) :
    DE cls X W (.Call (.Attribute o "pop" apos) [] [] cpos) (dBm0 gPop fo) := d_bm0 F.slot_list_pop F.type_list_pop mt_pop m_pop ho hbase hline
end
/-! ### d.get -/
def isDct (w : W) (Y : Ys) : Bool := match w with
  | .val (.dK _) => true
  | .val (.dT _) => true
  | .ref n => (match Y[n]? with
    | some (.dK _) => true
    | some (.dT _) => true
    | _ => false)
  | _ => false
theorem isDct_at {G : Gx} {B H : Hp} {ρ : Nat → Addr} {Y : Ys} (R : Rel G B H ρ Y) {x : V} {w : W} (a : WRep G B ρ Y.length x w) (h : isDct w Y = true) : ∃ p, x = .ref p ∧ IsD H p := by
  unfold isDct at h
  split at h
  · cases a with
    | dK hh rr => exact ⟨_, rfl, .inl ⟨_, R.dK hh⟩⟩
  · cases a with
    | dT hh rr => exact ⟨_, rfl, .inr ⟨_, R.dT hh⟩⟩
  · split at h
    · rename_i hn
      obtain ⟨kvs, h1, _⟩ := R.obj _ _ hn
      exact ⟨_, a.2, .inl ⟨kvs, .inl h1⟩⟩
    · rename_i hn
      obtain ⟨kvs, h1, _⟩ := R.obj _ _ hn
      exact ⟨_, a.2, .inr ⟨kvs, .inl h1⟩⟩
    · cases h
  · cases h
def dGet2 (fo fk fx : Den) : Den := fun τ Y => (fo τ Y).bind fun w Y1 => match isDct w Y1 with
  | true => (fk τ Y1).bind fun k Y2 => (fx τ Y2).bind fun z Y3 => (match dLook Y3 w k with
    | some (some u) => .ok u Y3
    | some none => .ok z Y3
    | none => .bad)
  | false => .bad
theorem d_get2' {cls : Cl} {X : Cx} {W : WX} {apos cpos : Pos} {o e f : Expr} {fo fk fx : Den} (hu : X.A.units + 1 < cLine) (ho : DE cls X W o fo) (he : DE cls X W e fk) (hf : DE cls X W f fx) (m : M2 X o "get" apos e f cpos := by exact ⟨rfl, rfl, rfl, rfl⟩) :
    DE cls X W (.Call (.Attribute o "get" apos) [e, f] [] cpos) (dGet2 fo fk fx) := by
  obtain ⟨to, po, ho⟩ := ho
  obtain ⟨te, pe, he⟩ := he
  obtain ⟨tf, pf, hf⟩ := hf
  refine ⟨_, pe_dget2 hu po pe pf m, fun σ H Q B ρ Y τ R T h => ?_⟩
  refine ho σ H _ B ρ Y τ R T (ReOk.imp ?_ (ReOk.bound h))
  rintro x H1 ⟨B1, ρ1, w, Y1, A1, r1, h1⟩
  cases e1 : isDct w Y1 with
  | false => rw [e1] at h1; exact h1.elim
  | true =>
    rw [e1] at h1
    obtain ⟨p, ex, hp⟩ := isDct_at A1.rel r1 e1
    refine ⟨p, ex, hp, he σ H1 _ B1 ρ1 Y1 τ A1.rel (T.aft A1) (ReOk.imp ?_ (ReOk.bound h1))⟩
    rintro y H2 ⟨B2, ρ2, k, Y2, A2, r2, h2⟩
    refine hf σ H2 _ B2 ρ2 Y2 τ A2.rel ((T.aft A1).aft A2) (ReOk.imp ?_ (ReOk.bound h2))
    rintro z H3 ⟨B3, ρ3, zw, Y3, A3, r3, h3⟩
    cases e2 : dLook Y3 w k with
    | none => rw [e2] at h3; exact h3.elim
    | some ou =>
      rw [e2] at h3
      obtain ⟨p', ov, ex', g, hr⟩ := dLook_at A3.rel (WRep.aft A3 (WRep.aft A2 r1)) (WRep.aft A3 r2) e2
      rw [ex] at ex'
      cases ex'
      refine ⟨ov, g, ?_⟩
      cases ou with
      | none =>
        cases ov with
        | some v => exact hr.elim
        | none => exact h3 z B3 H3 ρ3 (Aft.refl A3.rel) r3
      | some u =>
        cases ov with
        | none => exact hr.elim
        | some v => exact h3 v B3 H3 ρ3 (Aft.refl A3.rel) hr
end MV
set_option Elab.async false
set_option linter.all false
set_option maxRecDepth 100000
set_option maxHeartbeats 4000000
namespace MV
open PySem PySem.Spec PyProof.Rows L2
/-! ### isinstance -/
inductive Kd where
  | non | bl | int | str | lst | tup | dct | ins (c : Nat)
def kdOf (Y : Ys) (w : W) : Option Kd := match w with
  | .val .non => some .non
  | .val (.bl _) => some .bl
  | .val (.int _) => some .int
  | .val (.str _) => some .str
  | .val (.lst _) => some .lst
  | .val (.scr _) => some .lst
  | .val (.tup _) => some .tup
  | .val (.ktup _) => some .tup
  | .val (.dK _) => some .dct
  | .val (.ins c _) => some (.ins c)
  | .ref n => (match Y[n]? with
    | some (.lst _) => some .lst
    | some (.dK _) => some .dct
    | some (.dT _) => some .dct
    | some (.ins c _) => some (.ins c)
    | _ => none)
  | _ => none
def tyKd (at_ : Nat → Addr) : Kd → Value
  | .non => .type "NoneType"
  | .bl => .type "bool"
  | .int => .type "int"
  | .str => .type "str"
  | .lst => .type "list"
  | .tup => .type "tuple"
  | .dct => .type "dict"
  | .ins c => .ref (at_ c)
/-- what K has of a class, for isinstance -/
structure InsK (K : PySem.W.Frag) (C : Addr) : Prop where
  cl : Cls K C
  ha : PySem.W.findIn K (.ref C) "__class__" = some (some (.builtin "object.__class__"))
  hn : PySem.W.specialIn K (.builtin "object.__class__") "__get__" = some (some (.builtin "getset_descriptor.__get__"))
  htk : PySem.W.takesIn K (.builtin "object.__class__") = some true
  hm : PySem.W.mroIn K C (.type "object") = some true
/-- which kinds are of the class(es) u -/
def KdOk (cls : Cl) (K : PySem.W.Frag) (us : List Value) (kt : Kd → Option Bool) : Prop := ∀ kd b, kt kd = some b → PySem.W.kitAny K (tyKd cls.at_ kd) us = some b ∧ ∀ c, kd = .ins c → InsK K (cls.at_ c)
theorem ktup_k {K : PySem.W.Frag} {a : Addr} {vs : List V} (h : ∀ H, SqT K H a vs) : ∃ o, K.lookup a = some o ∧ o.cls = .type "tuple" := by
  rcases h (fun _ => none) with (h | ⟨_, h⟩) | ⟨o, its, n, h1, h2, _⟩
  · cases h
  · cases h
  · exact ⟨o, h1, h2⟩
theorem kd_ty {G : Gx} {B H : Hp} {ρ : Nat → Addr} {Y : Ys} (R : Rel G B H ρ Y) {x : V} {w : W} {kd : Kd} (a : WRep G B ρ Y.length x w) (e : kdOf Y w = some kd) (hk : ∀ c, kd = .ins c → InsK G.K (G.cls c)) : TyX G.K H x (tyKd G.cls kd) := by
  unfold kdOf at e
  split at e
  · cases e
    rw [rep_non a]
    exact .base .non
  · cases e
    rw [rep_bl a]
    exact .base (.bl _)
  · cases e
    rw [rep_int a]
    exact .base (.int _)
  · cases e
    rw [rep_str a]
    exact .base (.str _)
  · cases e
    cases a with
    | lst h hl r => exact .base (.lst (R.lst h))
  · cases e
    cases a with
    | scr h hl =>
      rcases h with (h | ⟨ob, h⟩) | ⟨o, its, n, h1, h2, _⟩
      · exact .base (.lst (R.lst h))
      · exact .base (.frz (R.frzL h))
      · exact .kList h1 h2
  · cases e
    cases a with
    | tup h hl r => exact .base (.tup (R.tup h))
  · cases e
    cases a with
    | ktup h hl r =>
      obtain ⟨o, h1, h2⟩ := ktup_k h
      exact .kTuple h1 h2
  · cases e
    cases a with
    | dK h r =>
      rcases R.dK h with h | ⟨o, h⟩
      · exact .base (.dK h)
      · exact .fDict h
  · cases e
    cases a with
    | ins h hl r =>
      have k := hk _ rfl
      exact .base (.ins (R.ins h) k.cl k.ha k.hn k.htk k.hm)
  · split at e
    · rename_i hn
      cases e
      obtain ⟨vs, h1, _⟩ := R.obj _ _ hn
      rw [a.2]
      exact .base (.lst h1)
    · rename_i hn
      cases e
      obtain ⟨vs, h1, _⟩ := R.obj _ _ hn
      rw [a.2]
      exact .base (.dK h1)
    · rename_i hn
      cases e
      obtain ⟨vs, h1, _⟩ := R.obj _ _ hn
      rw [a.2]
      exact .base (.dT h1)
    · rename_i hn
      cases e
      obtain ⟨dx, vs, h1, _⟩ := R.obj _ _ hn
      rw [a.2]
      have k := hk _ rfl
      exact .base (.ins h1 k.cl k.ha k.hn k.htk k.hm)
    · cases e
  · cases e
def isiW (kt : Kd → Option Bool) (w : W) (Y : Ys) : Re := match kdOf Y w with
  | some kd => (match kt kd with
    | some b => .ok (.val (.bl b)) Y
    | none => .bad)
  | none => .bad
def dIsi (kt : Kd → Option Bool) (fe : Den) : Den := fun τ Y => (fe τ Y).bind fun w Y1 => isiW kt w Y1
theorem any_one {K : PySem.W.Frag} {t u : Value} {b : Bool} (h : PySem.W.kitAny K t [u] = some b) : PySem.W.kitOne K t u = some b := by
  unfold PySem.W.kitAny at h
  split at h
  · rename_i e
    rw [e, ← h]
  · rename_i e
    rw [e, ← h]
    rfl
  · cases h
section
variable {cls : Cl} {X : Cx} {W : WX} {pos p : Pos} {e c : Expr} {fe : Den} {kt : Kd → Option Bool}
/-- isinstance(e, c), one class -/
theorem d_isi {v : V} {u : Value} (hk : KdOk cls X.K [u] kt) (hm : X.mg "isinstance" = none) (he : DE cls X W e fe) (hc : PE X c (tC v)) (hv : ClsV v u) (hg : Gl X "isinstance" := by rfl)
    (hs : starEach [e, c] X.env = (false, eval e X.env) :: starEach [c] X.env := by rfl) (hs2 : starEach [c] X.env = (false, eval c X.env) :: starEach [] X.env := by rfl) (hpl : (backTo pos (starEach [c] X.env)).any (·.1) = false := by rfl) :
    DE cls X W (.Call (.Name "isinstance" p) [e, c] [] pos) (dIsi kt fe) := by
  obtain ⟨t, pe, he⟩ := he
  refine ⟨_, pe_callB call_isi hg hm (by rfl) (pa_cons pe (pa_cons hc pa_nil hs2) hs) (by decide) (by decide) hs hpl, fun σ H Q B ρ Y τ R T h => ?_⟩
  refine he σ H _ B ρ Y τ R T (ReOk.imp ?_ (ReOk.bound h))
  rintro x H1 ⟨B1, ρ1, w, Y1, A, r, h1⟩
  unfold isiW at h1
  cases e1 : kdOf Y1 w with
  | none => rw [e1] at h1; exact h1.elim
  | some kd =>
    rw [e1] at h1
    dsimp only at h1
    cases e2 : kt kd with
    | none => rw [e2] at h1; exact h1.elim
    | some b =>
      rw [e2] at h1
      obtain ⟨k1, k2⟩ := hk kd b e2
      exact ⟨x, v, _, u, b, rfl, hv, kd_ty A.rel r e1 k2, any_one k1, h1 _ B1 H1 ρ1 (Aft.refl A.rel) (.bl b)⟩
/-- isinstance(e, (c1, c2, ..)), the tuple written there -/
theorem d_isiT {cs : List Expr} {k : Nat} {tpos : Pos} {vs : List V} {us : List Value} (hk : KdOk cls X.K us kt) (hm : X.mg "isinstance" = none) (he : DE cls X W e fe) (hc : PA X cs (fun σ H Q => Q vs H)) (hv : Paired ClsV vs us) (hg : Gl X "isinstance" := by rfl)
    (hs : starEach [e, .Tuple cs k tpos] X.env = (false, eval e X.env) :: starEach [.Tuple cs k tpos] X.env := by rfl) (hs2 : starEach [.Tuple cs k tpos] X.env = (false, eval (.Tuple cs k tpos) X.env) :: starEach [] X.env := by rfl)
    (hpl : (backTo pos (starEach [.Tuple cs k tpos] X.env)).any (·.1) = false := by rfl) (hl : lines vs.length = true := by rfl) :
    DE cls X W (.Call (.Name "isinstance" p) [e, .Tuple cs k tpos] [] pos) (dIsi kt fe) := by
  obtain ⟨t, pe, he⟩ := he
  refine ⟨_, pe_callB call_isiT hg hm (by rfl) (pa_cons pe (pa_cons (pe_tup hc) pa_nil hs2) hs) (by decide) (by decide) hs hpl, fun σ H Q B ρ Y τ R T h => ?_⟩
  refine he σ H _ B ρ Y τ R T (ReOk.imp ?_ (ReOk.bound h))
  rintro x H1 ⟨B1, ρ1, w, Y1, A, r, h1⟩
  unfold isiW at h1
  cases e1 : kdOf Y1 w with
  | none => rw [e1] at h1; exact h1.elim
  | some kd =>
    rw [e1] at h1
    dsimp only at h1
    cases e2 : kt kd with
    | none => rw [e2] at h1; exact h1.elim
    | some b =>
      rw [e2] at h1
      obtain ⟨k1, k2⟩ := hk kd b e2
      refine ⟨lines_ok hl, fun q hq => ?_⟩
      have A2 := Aft.own (o := .tup vs) A.rel hq
      exact ⟨x, q, vs, _, us, b, rfl, upd_same, hv, kd_ty A2.rel (WRep.aft A2 r) e1 k2, k1, h1 _ B1 _ ρ1 A2 (.bl b)⟩
end
end MV
set_option Elab.async false
set_option linter.all false
set_option maxRecDepth 100000
set_option maxHeartbeats 4000000
namespace MV
open PySem PySem.Spec PyProof.Rows L2
/-! ### the parts of a slice -/
inductive Ro where
  | ok (o : Option Int) (Y : Ys) | exc (c : Nat) (fs : Option (List (Str × D))) (Y : Ys) | bad
abbrev ODen := Ts → Ys → Ro
def RoOk (G : Gx) (W : WX) (σ : L2.St) (B H : Hp) (ρ : Nat → Addr) (Y : Ys) (Q : Option Int → Hp → Prop) : Ro → Prop
  | .ok o Y' => ∀ B' H' ρ', Aft G B H ρ Y B' H' ρ' Y' → Q o H'
  | .exc c fs Y' => ∀ d B' H' ρ', Aft G B H ρ Y B' H' ρ' Y' → ExcAt G B' H' d fs → W (.ref (G.cls c)) d σ H'
  | .bad => False
def DO (cls : Cl) (X : Cx) (W : WX) (e : Option Expr) (f : ODen) : Prop :=
  ∃ t : TO, PO X e t ∧ ∀ σ H Q B ρ Y τ, Rel (gx cls X) B H ρ Y → TR (gx cls X) B ρ Y.length σ τ → RoOk (gx cls X) W σ B H ρ Y Q (f τ Y) → t σ H Q
def oNone : ODen := fun _ Y => .ok none Y
def oSome (f : Den) : ODen := fun τ Y => match f τ Y with
  | .ok (.val (.int i)) Y1 => .ok (some i) Y1
  | .ok _ _ => .bad
  | .exc c fs Y1 => .exc c fs Y1
  | .bad => .bad
def Ro.bind (r : Ro) (k : Option Int → Ys → Re) : Re := match r with
  | .ok o Y => k o Y
  | .exc c fs Y => .exc c fs Y
  | .bad => .bad
section
variable {cls : Cl} {X : Cx} {W : WX} {pos p2 : Pos} {e : Expr} {fe : Den} {lo hi : Option Expr} {fl fh : ODen}
theorem do_none : DO cls X W none oNone := ⟨_, po_none, fun σ H Q B ρ Y τ R T h => h B H ρ (Aft.refl R)⟩
theorem do_some (he : DE cls X W e fe) : DO cls X W (some e) (oSome fe) := by
  obtain ⟨t, p, he⟩ := he
  refine ⟨_, po_some p, fun σ H Q B ρ Y τ R T h => he σ H _ B ρ Y τ R T ?_⟩
  unfold oSome at h
  split at h
  · rename_i i Y1 e1
    rw [e1]
    intro v B' H' ρ' A r
    exact ⟨i, rep_int r, h B' H' ρ' A⟩
  · exact h.elim
  · rename_i e1
    rw [e1]
    exact h
  · exact h.elim
theorem RoOk.bound {G : Gx} {σ : L2.St} {B H : Hp} {ρ : Nat → Addr} {Y : Ys} {Q : VK} {k : Option Int → Ys → Re} : ∀ {r : Ro}, ReOk G W σ B H ρ Y Q (r.bind k) → RoOk G W σ B H ρ Y (fun o H1 => ∃ B1 ρ1 Y1, Aft G B H ρ Y B1 H1 ρ1 Y1 ∧ ReOk G W σ B1 H1 ρ1 Y1 Q (k o Y1)) r
  | .ok o Y1, h => fun B1 H1 ρ1 A => ⟨B1, ρ1, Y1, A, ReOk.behind A h⟩
  | .exc _ _ _, h => h
  | .bad, h => h
theorem RoOk.imp {G : Gx} {σ : L2.St} {B H : Hp} {ρ : Nat → Addr} {Y : Ys} {Q Q' : Option Int → Hp → Prop} (i : ∀ v H', Q v H' → Q' v H') : ∀ {r : Ro}, RoOk G W σ B H ρ Y Q r → RoOk G W σ B H ρ Y Q' r
  | .ok _ _, h => fun B' H' ρ' A' => i _ _ (h B' H' ρ' A')
  | .exc _ _ _, h => h
  | .bad, h => h
end
def cutL {α : Type} (xs : List α) (lo hi : Option Int) : List α := (xs.drop (sxI xs.length 0 lo)).take (sxI xs.length xs.length hi - sxI xs.length 0 lo)
theorem cutL_cutV (xs : List V) (lo hi : Option Int) : cutL xs lo hi = cutV xs lo hi := by
  unfold cutL cutV
  rw [sxI_eq, sxI_eq]
theorem Paired.drop {α β : Type} {F : α → β → Prop} : ∀ {a : List α} {b : List β} (n : Nat), Paired F a b → Paired F (a.drop n) (b.drop n)
  | _, _, 0, h => h
  | _, _, n + 1, .nil => .nil
  | _, _, n + 1, .cons _ t => Paired.drop n t
theorem Paired.take {α β : Type} {F : α → β → Prop} : ∀ {a : List α} {b : List β} (n : Nat), Paired F a b → Paired F (a.take n) (b.take n)
  | _, _, 0, _ => .nil
  | _, _, n + 1, .nil => .nil
  | _, _, n + 1, .cons h t => .cons h (Paired.take n t)
theorem Paired.cut {α β : Type} {F : α → β → Prop} {a : List α} {b : List β} (h : Paired F a b) (lo hi : Option Int) : Paired F (cutL a lo hi) (cutL b lo hi) := by
  unfold cutL
  rw [Paired.length h]
  exact Paired.take _ (Paired.drop _ h)
theorem cutL_len {α : Type} (xs : List α) (lo hi : Option Int) : (cutL xs lo hi).length ≤ xs.length := by
  unfold cutL
  rw [List.length_take, List.length_drop]
  omega
def gSlL : W → Option Int → Option Int → Ys → Re := fun w lo hi Y => match lsOf Y w with
  | some us => (match dats (cutL us lo hi) with
    | some ds => .ok (.val (.lst ds)) Y
    | none => .bad)
  | none => .bad
theorem sl_L {G : Gx} : rSlG G (rSlL G.K) gSlL := by
  intro x lo hi B H ρ Y Q w1 w Y' R a e q
  unfold gSlL at e
  split at e
  · rename_i us hs
    split at e
    · rename_i ds hd
      cases e
      obtain ⟨p, vs, rfl, h2, h3, h4⟩ := lsOf_at R a hs
      refine ⟨p, vs, rfl, h2, fun l hl => ?_⟩
      rw [← cutL_cutV]
      have A := Aft.new R (.lst (cutL vs lo hi)) hl
      exact q _ _ _ ρ A (.lst upd_same (Nat.le_trans (cutL_len _ _ _) h3) ((reps_dats (Paired.cut h4 lo hi) hd).le A.le))
    · cases e
  · cases e
/-- the whole of it -/
def whole (n : Nat) (lo hi : Option Int) : Bool := match Nat.beq (sxI n 0 lo) 0, Nat.beq (sxI n n hi) n with
  | true, true => true
  | _, _ => false
theorem whole_iff {n : Nat} {lo hi : Option Int} : whole n lo hi = true ↔ (HT.sIx n 0 lo = 0 ∧ HT.sIx n n hi = n) := by
  rw [← sxI_eq, ← sxI_eq]
  unfold whole
  constructor
  · intro h
    split at h
    · rename_i h1 h2
      exact ⟨Nat.eq_of_beq_eq_true h1, Nat.eq_of_beq_eq_true h2⟩
    · cases h
  · rintro ⟨h1, h2⟩
    rw [h1, h2, Nat.beq_refl, Nat.beq_refl]
theorem reps_paired {G : Gx} {B : Hp} : ∀ {vs : List V} {ds : List D}, Reps G B vs ds → Paired (Rep G B) vs ds
  | _, _, .nil => .nil
  | _, _, .cons h r => .cons h (reps_paired r)
theorem paired_reps {G : Gx} {B : Hp} : ∀ {vs : List V} {ds : List D}, Paired (Rep G B) vs ds → Reps G B vs ds
  | _, _, .nil => .nil
  | _, _, .cons h r => .cons h (paired_reps r)
def gSlT : W → Option Int → Option Int → Ys → Re := fun w lo hi Y => match w with
  | .val (.tup ds) => (match whole ds.length lo hi with
    | true => .ok (.val (.tup ds)) Y
    | false => .ok (.val (.tup (cutL ds lo hi))) Y)
  | .val (.ktup ds) => (match whole ds.length lo hi with
    | true => .ok (.val (.ktup ds)) Y
    | false => .ok (.val (.tup (cutL ds lo hi))) Y)
  | _ => .bad
theorem sl_T {G : Gx} : rSlG G (rSlA G.K) gSlT := by
  intro x lo hi B H ρ Y Q w1 w Y' R a e q
  unfold gSlT at e
  split at e
  · rename_i ds
    have a' := a
    cases a' with
    | tup h hl r =>
      rename_i p vs
      have hlen := r.length
      refine ⟨p, vs, rfl, SqT.of (R.tup h), ?_⟩
      split at e
      · rename_i hw
        cases e
        refine ⟨fun _ => q _ B H ρ (Aft.refl R) a, fun hn => absurd (whole_iff.mp hw) ?_⟩
        rw [← hlen]
        exact hn
      · rename_i hw
        cases e
        refine ⟨fun hy => ?_, fun _ l hl' => ?_⟩
        · rw [hlen] at hy
          rw [whole_iff.mpr hy] at hw
          cases hw
        · rw [← cutL_cutV]
          have A := Aft.new R (.tup (cutL vs lo hi)) hl'
          exact q _ _ _ ρ A (.tup upd_same (Nat.le_trans (cutL_len _ _ _) hl) (paired_reps (Paired.cut (reps_paired (r.le A.le)) lo hi)))
  · rename_i ds
    have a' := a
    cases a' with
    | ktup h hl r =>
      rename_i p vs
      have hlen := r.length
      refine ⟨p, vs, rfl, h H, ?_⟩
      split at e
      · rename_i hw
        cases e
        refine ⟨fun _ => q _ B H ρ (Aft.refl R) a, fun hn => absurd (whole_iff.mp hw) ?_⟩
        rw [← hlen]
        exact hn
      · rename_i hw
        cases e
        refine ⟨fun hy => ?_, fun _ l hl' => ?_⟩
        · rw [hlen] at hy
          rw [whole_iff.mpr hy] at hw
          cases hw
        · rw [← cutL_cutV]
          have A := Aft.new R (.tup (cutL vs lo hi)) hl'
          exact q _ _ _ ρ A (.tup upd_same (Nat.le_trans (cutL_len _ _ _) hl) (paired_reps (Paired.cut (reps_paired (r.le A.le)) lo hi)))
  · cases e
def gSlS : W → Option Int → Option Int → Ys → Re := fun w lo hi Y => match w with
  | .val (.str z) => (match lines z.cps.toList.length with
    | true => .ok (.val (.str ⟨(cutL z.cps.toList lo hi).toArray⟩)) Y
    | false => .bad)
  | _ => .bad
theorem sl_S {G : Gx} : rSlG G rSlS gSlS := by
  intro x lo hi B H ρ Y Q w1 w Y' R a e q
  unfold gSlS at e
  split at e
  · rename_i z
    split at e
    · rename_i hl
      cases e
      have e2 : z.length = z.cps.toList.length := by
        show z.cps.size = _
        simp
      refine ⟨z, rep_str a, by rw [e2]; exact lines_ok hl, ?_⟩
      have e3 : cutS z lo hi = ⟨(cutL z.cps.toList lo hi).toArray⟩ := by
        unfold cutS cutL
        rw [sxI_eq, sxI_eq, ← e2]
      rw [e3]
      exact q _ B H ρ (Aft.refl R) (.str _)
    · cases e
  · cases e
abbrev GS := W → Option Int → Option Int → Ys → Re
def orS (g h : GS) : GS := fun w lo hi Y => match g w lo hi Y with
  | .ok u Y1 => .ok u Y1
  | _ => h w lo hi Y
theorem rSlG.or {G : Gx} {r r' : V → Option Int → Option Int → Hp → VK → Prop} {g g' : GS} (h : rSlG G r g) (h' : rSlG G r' g') : rSlG G (fun x lo hi H Q => r x lo hi H Q ∨ r' x lo hi H Q) (orS g g') := by
  intro x lo hi B H ρ Y Q w1 w Y' R a e q
  unfold orS at e
  cases e1 : g w1 lo hi Y with
  | ok w1' Y1 =>
    rw [e1] at e
    cases e
    exact .inl (h x lo hi B H ρ Y Q _ _ _ R a e1 q)
  | exc c fs Y1 =>
    rw [e1] at e
    exact .inr (h' x lo hi B H ρ Y Q _ _ _ R a e q)
  | bad =>
    rw [e1] at e
    exact .inr (h' x lo hi B H ρ Y Q _ _ _ R a e q)
def gSl : GS := orS gSlL (orS gSlT gSlS)
def dSl (fe : Den) (fl fh : ODen) : Den := fun τ Y => (fe τ Y).bind fun w Y1 => (fl τ Y1).bind fun lo Y2 => (fh τ Y2).bind fun hi Y3 => noX (gSl w lo hi Y3)
section
variable {cls : Cl} {X : Cx} {W : WX} {pos p2 : Pos} {e : Expr} {fe : Den} {lo hi : Option Expr} {fl fh : ODen}
theorem d_slice (he : DE cls X W e fe) (hl : DO cls X W lo fl) (hh : DO cls X W hi fh) : DE cls X W (.Subscript e (.Slice lo hi none p2) pos) (dSl fe fl fh) := by
  obtain ⟨t, pe, he⟩ := he
  obtain ⟨tl, pl, hl⟩ := hl
  obtain ⟨th, ph, hh⟩ := hh
  refine ⟨_, pe_slice (SlR.or sl_list (SlR.or sl_tupA sl_str)) pe pl ph, fun σ H Q B ρ Y τ R T h => ?_⟩
  refine he σ H _ B ρ Y τ R T (ReOk.imp ?_ (ReOk.bound h))
  rintro x H1 ⟨B1, ρ1, w, Y1, A1, r1, h1⟩
  refine hl σ H1 _ B1 ρ1 Y1 τ A1.rel (T.aft A1) (RoOk.imp ?_ (RoOk.bound h1))
  rintro l H2 ⟨B2, ρ2, Y2, A2, h2⟩
  refine hh σ H2 _ B2 ρ2 Y2 τ A2.rel ((T.aft A1).aft A2) (RoOk.imp ?_ (RoOk.bound h2))
  rintro u H3 ⟨B3, ρ3, Y3, A3, h3⟩
  unfold noX at h3
  cases e1 : gSl w l u Y3 with
  | ok z Y4 =>
    rw [e1] at h3
    exact rSlG.or sl_L (rSlG.or sl_T sl_S) x l u B3 H3 ρ3 Y3 Q w z Y4 A3.rel (WRep.aft A3 (WRep.aft A2 r1)) e1 h3
  | exc c fs Y4 => rw [e1] at h3; exact h3.elim
  | bad => rw [e1] at h3; exact h3.elim
/-- e[::-1] of a list -/
def revL {α : Type} : List α → List α → List α
  | [], acc => acc
  | a :: r, acc => revL r (a :: acc)
theorem revL_eq {α : Type} : ∀ (l acc : List α), revL l acc = l.reverse ++ acc
  | [], acc => rfl
  | a :: r, acc => by
    unfold revL
    rw [revL_eq r]
    simp
def dRev (fe : Den) : Den := fun τ Y => (fe τ Y).bind fun w Y1 => match lsOf Y1 w with
  | some us => (match dats (revL us []) with
    | some ds => .ok (.val (.lst ds)) Y1
    | none => .bad)
  | none => .bad
theorem Paired.rev {α β : Type} {F : α → β → Prop} : ∀ {a : List α} {b : List β}, Paired F a b → Paired F a.reverse b.reverse
  | _, _, .nil => .nil
  | _, _, .cons h t => by
    simp only [List.reverse_cons]
    exact Paired.snoc (Paired.rev t) h
theorem d_rev {k : Nat} {p1 p3 : Pos} (he : DE cls X W e fe) : DE cls X W (.Subscript e (.Slice none none (some (.UnaryOp .USub (.Constant (.int 1) k p1) p2)) p3) pos) (dRev fe) := by
  obtain ⟨t, pe, he⟩ := he
  refine ⟨_, pe_revL pe, fun σ H Q B ρ Y τ R T h => ?_⟩
  refine he σ H _ B ρ Y τ R T (ReOk.imp ?_ (ReOk.bound h))
  rintro x H1 ⟨B1, ρ1, w, Y1, A1, r1, h1⟩
  split at h1
  · rename_i us hs
    split at h1
    · rename_i ds hd
      obtain ⟨p, vs, rfl, h2, h3, h4⟩ := lsOf_at A1.rel r1 hs
      refine ⟨p, vs, rfl, h2, fun l hl => ?_⟩
      have A := Aft.new A1.rel (.lst vs.reverse) hl
      rw [revL_eq, List.append_nil] at hd
      exact h1 _ _ _ ρ1 A (.lst upd_same (by rw [List.length_reverse]; exact h3) ((reps_dats (Paired.rev h4) hd).le A.le))
    · exact h1.elim
  · exact h1.elim
end
end MV
set_option Elab.async false
set_option linter.all false
set_option maxRecDepth 100000
set_option maxHeartbeats 4000000
/-! MvErr: an own error is made: its __init__ says super().__init__(text), then self.f = its argument. -/
namespace MV
open PySem PySem.Spec PyProof.Rows L2
section
variable {prog : Program} {w : World} {A : Around} {E : Value → Shared → Prop} {h : Heap} {g : Array GenState} {d : Drawn} {t : Nat} {os : OsState}
variable {nm q : Str} {C N : Addr} {bs bm : List Value} {hdct : Bool} {sn : List Str} {sub : List Value} {ab : Bool} {col : Option Bool} {dd : Option Addr} {k0 k1 k2 k3 k5 : Option Value}
/-- the bound ValueError.__init__ is called -/
theorem call_vw {u e t0 : Addr} {rest : List Value} {Q : Value → Shared → Prop}
    (hC : h.get? C = some (excClassObj nm q C N bs bm hdct sn sub ab col dd k0 k1 k2 k3 k5 "ValueError.__new__")) (he : h.get? e = some (PySem.HandSPX.excO C t0)) (hu : h.get? u = some (PySem.W.kxs_mw "ValueError.__init__" e)) (hrest : rest.length ≤ sizeLine)
    (hq : ∀ h' t1, (∀ b o, b ≠ e → h.get? b = some o → h'.get? b = some o) → h'.get? e = some (PySem.HandSPX.excO C t1) → Q .none ⟨h', g, d, t, os⟩) :
    wpAny (model prog w) A (call (.ref u) rest) Q E ⟨h, g, d, t, os⟩ := by
  refine wpAny_call (codeAny_of_tree ?_)
  show wpAny _ A.in1 (callAny (.ref u) ⟨rest, []⟩) _ _ _
  simp only [callAny]
  refine wpAny_bind (wpAny_load hu ?_)
  simp only [PySem.W.kxs_mw, show (Value.type "method-wrapper" == Value.type "method" || Value.type "method-wrapper" == Value.type "builtin_function_or_method" || Value.type "method-wrapper" == Value.type "method-wrapper") = true by decide, if_true]
  refine PySem.W.KFB.if_so (by decide) ?_
  refine wpAny_bind (PySem.ESX.check_bound F.excBase_ValueError hC he rfl ?_)
  refine wpAny_bind (wpAny_pure (wpAny_pure ?_))
  refine ⟨Code.quiet_builtin _ (by decide +kernel), codeAny_builtin F.excBase_ValueError.initEntry ?_⟩
  rw [Around.under_plainId F.excBase_ValueError.init.plain _]
  wp_walk
  refine hq _ h.objs.size (fun b o hb ho => ?_) ?_
  · rw [Heap.get?_update_other _ _ (Ne.symm hb)]
    exact Heap.get?_push_of_some _ ho
  · rw [Heap.get?_update_self _ (Heap.get?_push_of_some _ he) rfl]
    rfl
end
/-- the body of such an __init__: self, its argument y, the field f -/
abbrev errBody (self y f txt : Str) (j : Nat) (p0 p1 p2 p3 p4 p5 p6 p7 p8 p9 : Pos) : List Stmt :=
  [.Expr (.Call (.Attribute (.Call (.Name "super" p0) [] [] p1) "__init__" p2) [.Constant (.str txt) j p3] [] p4) p5, .Assign [.Attribute (.Name self p6) f p7] (.Name y p8) p9]
/-- what the written part has of an error class at C with the field f -/
structure ErrK (P : Program) (K : PySem.W.Frag) (mg : Str → Option Value) (C : Addr) (f : Str) : Prop where
  oex : OexC K C
  no : PySem.W.findIn K (.ref C) f = some none
  ve : PySem.W.subIn K (.ref C) (.type "ValueError") = some true
  self : PySem.W.mroIn K C (.ref C) = some true
  sup : PySem.W.ks_superIn K C C "__init__" = some (some (.builtin "ValueError.__init__"))
  out : PySem.W.nsIn K cStatics "thirdparty.any" = some none
  msup : mg "super" = none
  top : (P.main.scope.names.lookup ("super" : Str)).isSome = false
  init : ∃ (fI cda cc : Addr) (qual self y txt : Str) (j : Nat) (p0 p1 p2 p3 p4 p5 p6 p7 p8 p9 : Pos) (params : Arguments) (scope : Scope) (dV kV doc pm ct oc ccl cl : Value) (an od cdd cld : Option Addr) (osl ccs csl : Array (Option Value)) (ar : Arg) (vs : Array Value) (file : Str) (tf : Tok),
    PySem.W.findIn K (.ref C) "__init__" = some (some (.ref fI)) ∧ PySem.W.typeIn K (.ref fI) = some (.type "function") ∧
    K.lookup fI = some ⟨oc, od, .func (PySem.W.ksFn "__init__" qual params (errBody self y f txt j p0 p1 p2 p3 p4 p5 p6 p7 p8 p9) scope dV kV doc pm an (.ref cda) ct cc), osl⟩ ∧
    PySem.W.codeIn K (.ref cda) qual = true ∧ K.lookup cda = some ⟨ccl, cdd, .fields vs, ccs⟩ ∧ vs[2]? = some (.str file tf) ∧ ((P.main.file : Str) == file) = true ∧
    K.lookup cc = some ⟨cl, cld, .cell (some (.ref C)), csl⟩ ∧ (params.posonlyargs ++ params.args).head? = some ar ∧ ar.arg = self ∧ self ≠ y ∧
    (∀ a u : Value, bindArgs (PySem.W.ksFn "__init__" qual params (errBody self y f txt j p0 p1 p2 p3 p4 p5 p6 p7 p8 p9) scope dV kV doc pm an (.ref cda) ct cc) ⟨[a, u], []⟩ = pure [(self, a), (y, u)] ∧ bindArgs (PySem.W.ksFn "__init__" qual params (errBody self y f txt j p0 p1 p2 p3 p4 p5 p6 p7 p8 p9) scope dV kV doc pm an (.ref cda) ct cc) ⟨[a], [(f, u)]⟩ = pure [(self, a), (y, u)]) ∧
    scope.names.lookup ("super" : Str) = some .globalImplicit ∧ scope.names.lookup ("__class__" : Str) = some .free ∧ scope.names.lookup self = some .local ∧ scope.names.lookup y = some .local ∧
    scope.kind = .function ∧ (∀ x ∈ scope.names, x.2 ≠ .cell) ∧ scope.isCoroutine = false ∧ scope.isGenerator = false ∧ (self == ("__debug__" : Str)) = false ∧ (y == ("__debug__" : Str)) = false ∧ (p2.endLine == p4.line) = true
theorem ks_ne' {K : PySem.W.Frag} {h : Heap} {x C : Addr} {ox : Obj} {odx : Option Obj} {cd : ClassData} (X : K.In h) (I : PySem.W.InstAt h x ox C odx) (hc : PySem.W.clsIn K C = some cd) : x ≠ C := PySem.W.ks_ne X I hc
/-- o.m(text) on one line, whatever o is -/
theorem mcall1 {o : Expr} {m txt : Str} {j : Nat} {p2 p3 p4 : Pos} {env : Env} (hl : (p2.endLine == p4.line) = true) : eval (.Call (.Attribute o m p2) [.Constant (.str txt) j p3] [] p4) env = (do
      let ov ← attributeBase o m env (eval o env)
      standAt p2.atName
      let (f, first) ← holding [ov] (getMethod ov m (do return (← importBound o env).getD true))
      callWith p4 f first (backTo p4 (starEach [.Constant (.str txt) j p3] env)) []) := by
  rw [arm_eval_Call]
  have e1 : ∀ ov, methodCall o m p2 p4 env ov (([Expr.Constant (.str txt) j p3] : List Expr).length + ([] : List Keyword).length) (backTo p4 (starEach [.Constant (.str txt) j p3] env)) (backToKw p4 (keywordEach [] env)) = (do
      let (f, first) ← holding [ov] (getMethod ov m (do return (← importBound o env).getD true))
      callWith p4 f first (backTo p4 (starEach [.Constant (.str txt) j p3] env)) []) := fun ov => by
    unfold methodCall
    rw [show methodCallForm (([Expr.Constant (.str txt) j p3] : List Expr).length + ([] : List Keyword).length) (backTo p4 (starEach [.Constant (.str txt) j p3] env)) (backToKw p4 (keywordEach [] env)) = true from rfl]
    unfold calleeOf methodCallPos
    rw [hl]
    simp only [if_true, Bool.or_true, pure_bind]
    rfl
  simp only [e1]
section
variable {P : Program} {w : World} {K : PySem.W.Frag} {mg : Str → Option Value} {base : Heap} {A : Around} {R : Result → Shared → Prop} {C a t0 : Addr} {f : Str} {u : Value} {s : Shared}
theorem err_init {args : Args} (hargs : args = ⟨[.ref a, u], []⟩ ∨ args = ⟨[.ref a], [(f, u)]⟩) (X : ErrK P K mg C f) (M : Mod K mg base) (kb : ∀ b o, base.get? b = some o → s.heap.get? b = some o) (hroom : A.depth < recursionLimit) (hna : base.get? a = none) (ha : s.heap.get? a = some (PySem.HandSPX.excO C t0)) {fI : Addr} (hI : PySem.W.findIn K (.ref C) "__init__" = some (some (.ref fI)))
    (hq : ∀ h' tk dx t1, (∀ b o, b ≠ a → s.heap.get? b = some o → h'.get? b = some o) → s.heap.objs.size ≤ dx → dx ≠ a → h'.get? a = some ({ cls := .ref C, dict := some dx, data := .fields #[.ref t1, .none, .none, .none, .bool false, .none] } : Obj) →
      h'.Ns1 dx (fun y => if y = f then some u else none) → R (.ok (.ret .none)) { s with heap := h', toks := tk }) :
    codeAny (model P w) A (.call (.ref fI) args) R s := by
  obtain ⟨fI', cda, cc, qual, self, y, txt, j, p0, p1, p2, p3, p4, p5, p6, p7, p8, p9, params, scope, dV, kV, doc, pm, ct, oc, ccl, cl, an, od, cdd, cld, osl, ccs, csl, ar, vs, file, tf, i1, i2, i3, i4, i5, i6, i7, i8, i9, i10, i11, i12, i13, i14, i15, i16, i17, i18, i19, i20, i21, i22, i23⟩ := X.init
  rw [hI] at i1
  have ef : fI = fI' := by
    have := Option.some.inj (Option.some.inj i1)
    exact (Value.ref.inj this)
  subst ef
  have hbind : bindArgs (PySem.W.ksFn "__init__" qual params (errBody self y f txt j p0 p1 p2 p3 p4 p5 p6 p7 p8 p9) scope dV kV doc pm an (.ref cda) ct cc) args = pure [(self, .ref a), (y, u)] := by
    rcases hargs with z | z
    · rw [z]; exact (i12 _ _).1
    · rw [z]; exact (i12 _ _).2
  obtain ⟨sk, snm, sg, sc, sm⟩ := scope
  dsimp only at i13 i14 i15 i16 i17 i18 i19 i20
  subst i17 i19 i20
  have kin : K.In s.heap := M.kin.keeps kb
  refine ks_codeAny_call_defAt (fd := PySem.W.ksFn "__init__" qual params (errBody self y f txt j p0 p1 p2 p3 p4 p5 p6 p7 p8 p9) ⟨.function, snm, false, false, sm⟩ dV kV doc pm an (.ref cda) ct cc) (body := errBody self y f txt j p0 p1 p2 p3 p4 p5 p6 p7 p8 p9) (binds := [(self, .ref a), (y, u)])
    hroom (kin _ _ i3) rfl (M.nolimit.keeps kb) (PySem.W.codeRec_of kin i4) rfl (BindsTo.of_eq hbind) i18 (fun x hx => ?_) (fun h₀ hns hk₀ => ?_) rfl rfl rfl
  · rcases List.mem_cons.mp hx with rfl | hx
    · exact i15
    · rcases List.mem_cons.mp hx with rfl | hx
      · exact i16
      · simp at hx
  · have kb0 : ∀ b o, base.get? b = some o → h₀.get? b = some o := fun b o e => hk₀ b o (kb b o e)
    have kin0 : K.In h₀ := M.kin.keeps kb0
    have ha0 : h₀.get? a = some (PySem.HandSPX.excO C t0) := hk₀ _ _ ha
    obtain ⟨nm, q, N, bs, bm, sn, sub, ab, col, dd, k0, k1, k2, k3, k5, hC, hbm⟩ := X.oex.cls
    have hcl : PySem.W.clsIn K C = some { name := nm, bases := bs, mro := .ref C :: bm, ns := N, qualname := q, hasDict := true, slotNames := sn, subclasses := sub, abstract := ab, collection := col, hasDel := false } := by
      unfold PySem.W.clsIn
      rw [hC] <;> rfl
    have hin : ∀ h, K.In h → h.get? a = some (PySem.HandSPX.excO C t0) → PySem.W.InstAt h a (PySem.HandSPX.excO C t0) C none := fun h _ e => ⟨e, rfl, rfl, trivial⟩
    have haC : a ≠ C := ks_ne' kin0 (hin h₀ kin0 ha0) hcl
    obtain ⟨mb, b1, b2⟩ := M.blt
    have hmself : (fun x => ([(self, Value.ref a), (y, u)] : List (Str × Value)).reverse.lookup x) self = some (.ref a) := by
      have hne : (self == y) = false := beq_eq_false_iff_ne.mpr i11
      simp [List.lookup, hne]
    have hmy : (fun x => ([(self, Value.ref a), (y, u)] : List (Str × Value)).reverse.lookup x) y = some u := by
      simp [List.lookup]
    refine ks_wpAt_execs_cons (ks_wpAt_Expr_any (ks_wpAt_MethodCall ?_ (mcall1 i23)) rfl rfl)
    refine ks_wpAt_super_base (env := PySem.W.ksEnv qual ⟨.function, snm, false, false, sm⟩ s.heap.objs.size fI (.ref cda) cc) (s := { s with heap := h₀, toks := s.toks + 2 }) i13 i14 (by decide) rfl (kin0 _ _ i3) rfl i9 rfl (kin0 _ _ i5) rfl i6 i7 X.top ?_
    refine PySem.W.ks_loadName_global rfl i13 (Calls.loadGlobal_builtin (M.glob.keeps kb0) X.msup (b1.keeps kb0) ((b2 _ (by decide)).trans (show bootBuiltins "super" = some (.type "super") by rfl)) ⟨rfl, ?_⟩)
    refine wpAny_loadName_free rfl i14 rfl ⟨_, kin0 _ _ i8, rfl⟩ ?_
    rw [i10]
    refine wpAny_loadName_local rfl i15 hns hmself ?_
    refine ks_wpAny_isType_cls (kin0 _ _ hC) rfl ⟨rfl, ?_⟩
    refine ks_wpAny_call_super (kin0 _ _ hC) rfl ha0 rfl (fun c e => by cases e) (PySem.W.looks_mroIn kin0 X.self) fun h1 e1 k1 => ?_
    have kb1 : ∀ b o, base.get? b = some o → h1.get? b = some o := fun b o e => k1 b o (kb0 b o e)
    have kin1 : K.In h1 := M.kin.keeps kb1
    have ha1 : h1.get? a = some (PySem.HandSPX.excO C t0) := k1 _ _ ha0
    have hf : PySem.W.alongIn K "__init__" (((.ref C :: bm : List Value).dropWhile (· != .ref C)).drop 1) = some (some (.builtin "ValueError.__init__")) := by
      have := X.sup
      unfold PySem.W.ks_superIn at this
      rw [hcl] at this
      exact this
    refine PySem.W.kxs_getMethod PySem.W.kxs_ValueError e1 (PySem.W.looks_opaque kin1 X.out) (l₀ := .ref C :: bm) (fun A Q E s k q => wpAny_bind ((PySem.W.looks_clsIn kin1 hcl) A _ E s k (wpAny_pure q))) rfl kin1 hf
      ((hin h1 kin1 ha1).type.andThen (PySem.W.looks_subIn kin1 X.ve)) haC (by decide) ?_
    have k2 : ∀ b o, h1.get? b = some o → (h1.push (PySem.W.kxs_mw "ValueError.__init__" a)).get? b = some o := fun b o e => Heap.get?_push_of_some _ e
    have hmw : (h1.push (PySem.W.kxs_mw "ValueError.__init__" a)).get? h1.objs.size = some (PySem.W.kxs_mw "ValueError.__init__" a) := Heap.get?_push_size _ rfl
    refine PySem.W.kxs_callWith (i := "ValueError.__init__") (x := a) rfl ?_
    refine Calls.evalArgs_plain (Calls.spliced_cons ?_)
    show wpAny _ _ (eval (.Constant (.str txt) j p3) _) _ _ _
    refine Calls.Constant_str (Calls.spliced_nil ⟨hmw, ?_⟩)
    refine call_vw (kin0.keeps (fun b o e => k2 b o (k1 b o e)) _ _ hC) (k2 _ _ ha1) hmw (by show 1 ≤ sizeLine; rw [sizeLine_eq]; omega) fun h3 t1 k3 ha3 => ?_
    have aL : s.heap.objs.size ≠ a := Nat.ne_of_gt (Heap.lt_size ha)
    have k03 : ∀ b o, b ≠ a → h₀.get? b = some o → h3.get? b = some o := fun b o hb e => k3 b o hb (k2 b o (k1 b o e))
    have kb3 : ∀ b o, base.get? b = some o → b ≠ a → h3.get? b = some o := fun b o e hb => k03 b o hb (kb0 b o e)
    have hns3 : h3.Ns s.heap.objs.size (fun x => ([(self, Value.ref a), (y, u)] : List (Str × Value)).reverse.lookup x) := by
      obtain ⟨o, es, ep, ho, r⟩ := hns
      exact ⟨o, es, ep, k03 _ _ aL ho, r⟩
    have kin3 : K.In h3 := M.kin.keeps fun b o e => kb3 b o e fun z => by
      rw [z, hna] at e
      cases e
    show PySem.wpAt _ _ _ (execs [.Assign [.Attribute (.Name self p6) f p7] (.Name y p8) p9] _) _ _ _
    refine ks_wpAt_execs_cons (ks_wpAt_Assign_Attr (wpAt_of_wpAny ?_) rfl)
    refine PySem.ESX.ldL (env := PySem.W.ksEnv qual ⟨.function, snm, false, false, sm⟩ s.heap.objs.size fI (.ref cda) cc) (s := ⟨h3, _, _, _, _⟩) hns3 hmy ?_ rfl i16 i22
    refine PySem.ESX.ldL (env := PySem.W.ksEnv qual ⟨.function, snm, false, false, sm⟩ s.heap.objs.size fI (.ref cda) cc) (s := ⟨h3, _, _, _, _⟩) hns3 hmself ?_ rfl i15 i21
    refine PySem.W.set_plain kin3 (ox := PySem.HandSPX.excO C t1) (od := none) ⟨ha3, rfl, rfl, trivial⟩ X.oex.sa ?_
    refine PySem.HandSPX.exc_osa kin3 ha3 hcl (show PySem.HandSPX.refsVE (.ref C :: bm) = true from hbm) rfl X.no fun h4 tk4 dx k4 dn dne ha4 hn4 => ?_
    have gl : s.heap.objs.size ≤ h₀.objs.size := by
      by_cases z : s.heap.objs.size = 0
      · omega
      · obtain ⟨o, es, ep, ho, r⟩ := hns
        exact Nat.le_of_lt (Heap.lt_size ho)
    have g3 : s.heap.objs.size ≤ h3.objs.size := by
      obtain ⟨o, es, ep, ho, r⟩ := hns3
      exact Nat.le_of_lt (Heap.lt_size ho)
    show PySem.wpAt _ _ _ (execs [] _) _ _ _
    refine wpAt_of_wpAny (wpAny_pure ?_)
    exact hq h4 tk4 dx t1 (fun b o hb e => k4 b o hb (k03 b o hb (hk₀ b o e))) (Nat.le_trans g3 dn) dne ha4 hn4
end
end MV
set_option Elab.async false
set_option linter.all false
set_option maxRecDepth 100000
set_option maxHeartbeats 4000000
/-! MvRaise: errors made and raised. -/
namespace MV
open PySem PySem.Spec PyProof.Rows L2
/-- C(e): the error of the class at C holds e's value as its field f -/
def tErr (C : Addr) (f : Str) (ta : TA) : L2.St → Hp → XK → Prop := fun σ H Q => ta σ H fun vs H1 => ∃ v, vs = [v] ∧ ∀ dx, H1 dx = none → Q (.ref C) (some dx) (upd H1 dx (.xd [(f, v)]))
section
variable {X : Cx} {x f : Str} {C : Addr} {e : Expr} {ta : TA} {p pos : Pos}
theorem pmk_err (E : ErrK X.prog X.K X.mg C f) (hr : Room 1 X.A) (hm : X.mg x = some (.ref C)) (ha : PA X [e] ta) (hg : Gl X x := by rfl)
    (hdb : (x == ("__debug__" : Str)) = false := by decide) (he : starEach [e] X.env = (false, eval e X.env) :: starEach [] X.env := by rfl) :
    PMk X (.Call (.Name x p) [e] [] pos) (tErr C f ta) := by
  intro pins s σ H Q I h
  have T := E.oex
  obtain ⟨nm, q, N, bs, bm, sn, sub, ab, col, dd, k0, k1, k2, k3, k5, hC, hbm⟩ := T.cls
  obtain ⟨fI, cda, cc, qual, self, y, txt, j, p0, p1, p2, p3, p4, p5, p6, p7, p8, p9, params, scope, dV, kV, doc, pm, ct, oc, ccl, cl, an, od, cdd, cld, osl, ccs, csl, ar, vs0, file, tf, iC, tI, irest⟩ := E.init
  refine wpAny_Call_Name_kw (ld_glob I hg hm ?_ hdb)
  refine PySem.W.callWith_K (h₀ := X.base) I.ok.mod.kin T.kC (thn (ha.run pos pins s σ H _ I h) fun us s1 ⟨vs, H1, I1, r1, v, ev, q1⟩ => ⟨I1.kIn, ?_⟩) he rfl
  show wpAny _ _ (call (.ref C) us) _ _ _
  subst ev
  cases r1 with
  | @cons _ u _ ur ra rw' =>
  cases rw'
  obtain ⟨hp, g, dr, tk, os⟩ := s1
  have bsr := I1.env0.bs
  have kk : ∀ b o, hp.get? b = some o → ((hp.push (PySem.W.kdv_tup [u])).push (PySem.HandSPX.excO C hp.objs.size)).get? b = some o := fun b o e => Heap.get?_push_of_some _ (Heap.get?_push_of_some _ e)
  have hget : ((hp.push (PySem.W.kdv_tup [u])).push (PySem.HandSPX.excO C hp.objs.size)).get? (hp.objs.size + 1) = some (PySem.HandSPX.excO C hp.objs.size) := by heap_get
  have hsz : hp.objs.size ≤ hp.objs.size + 1 := Nat.le_succ _
  have hna : X.base.get? (hp.objs.size + 1) = none := by
    cases z : X.base.get? (hp.objs.size + 1) with
    | none => rfl
    | some o =>
      have := Heap.lt_size (bsr _ _ z).1
      exact absurd (show hp.objs.size + 1 < hp.objs.size from this) (by omega)
  refine wpAny_call (PySem.HandSPX.call_own F.excBase_ValueError (fun Y => PySem.HandSPX.refsVE_contains Y bm hbm) (I1.kIn _ _ hC) (PySem.W.looks_findIn I1.kIn iC) (fun self => PySem.W.bind_fn I1.kIn self tI) (by show 1 ≤ sizeLine; rw [sizeLine_eq]; omega)
    (err_init (.inl rfl) E I1.ok.mod (fun b o e => kk b o (bsr b o e).1) (hr.make C [u] []).depth hna hget iC fun h' tk' dx t1 kb hdx dne ha' hn' => ?_))
  obtain ⟨G, g1, g2⟩ := restrict h' fun b => decide (b ≠ hp.objs.size + 1)
  have gk : ∀ b, b ≠ hp.objs.size + 1 → G.get? b = h'.get? b := fun b hb => g1 b (decide_eq_true hb)
  have ge : G.get? (hp.objs.size + 1) = none := g2 _ (by simp)
  have nha : ∀ {b : Addr} {o : Obj}, hp.get? b = some o → b ≠ hp.objs.size + 1 := fun {b o} z => Nat.ne_of_lt (Nat.lt_of_lt_of_le (Heap.lt_size z) hsz)
  have hdx' : hp.objs.size ≤ dx := Nat.le_trans (Nat.le_of_lt (Nat.lt_trans (Nat.lt_succ_self _) (Heap.lt_size hget))) hdx
  have J := I1.laid (t' := tk') (a := dx) (o := .xd [(f, v)]) (h' := G) (fun b o z => by rw [gk b (nha z)]; exact kb b o (nha z) (kk b o z)) hdx'
    ⟨_, hn'.at fun o y => (gk dx dne).trans y, relO_put (fs := []) ra fun g => True.intro⟩
  have nd : H1 dx = none := I1.hok.fresh hdx'
  have na : (upd H1 dx (.xd [(f, v)])) (hp.objs.size + 1) = none := by
    rw [upd_ne (Ne.symm dne)]
    exact I1.hok.fresh hsz
  refine ⟨rfl, hp.objs.size + 1, _, _, _, _, .ref C, some dx, rfl, J, fun b o z => ?_, ge, ha', ⟨rfl, rfl⟩, rfl, rfl, na, rfl, I1.bare, raises_own T.exC T.tyC, q1 dx nd⟩
  by_cases hb : b = hp.objs.size + 1
  · subst hb
    rw [show (Heap.get? _ _ : Option Obj) = none from ge] at z
    cases z
  · exact (gk b hb).symm.trans z
end
end MV
set_option Elab.async false
set_option linter.all false
set_option maxRecDepth 100000
set_option maxHeartbeats 4000000
/-! MvTry: several except clauses, each with or without a name. -/
namespace MV
open PySem PySem.Spec PyProof.Rows L2
/-- one clause: the class, the slot of its name, what the suite does -/
structure Clz where
  c : Value
  i : Option Nat
  ts : Addr → Value → Option Addr → TS
def Ends.gone (D : Ends) : Option Nat → Ends
  | none => D
  | some i => { nx := fun r k => D.nx (r.set i none) k, rt := D.rt, bk := fun r k => D.bk (r.set i none) k, ct := fun r k => D.ct (r.set i none) k }
def slotted (r : L2.St) (a : Addr) : Option Nat → L2.St
  | none => r
  | some i => r.set i (some (.ref a))
def wClz (K : PySem.W.Frag) (Wo : WX) (D : Ends) : List Clz → WX
  | [] => Wo
  | z :: zs => fun kl dc r k => ∃ b, PySem.W.exmOne K kl z.c = some b ∧ (b = true → ∀ a, k a = none → z.ts a kl dc (Ends.gone D z.i) (slotted r a z.i) k) ∧ (b = false → wClz K Wo D zs kl dc r k)
def SuiteOk (X : Cx) (sts : List Stmt) (ts : Addr → Value → Option Addr → TS) : Prop := ∀ (a : Addr) (ob : Obj) (kl : Value) (dc : Option Addr) (pl : List (Addr × Obj)), Zc kl dc ob → (∃ fv, ob.data = .fields fv) → PSs (X.suite a ((a, ob) :: pl)) sts (ts a kl dc)
inductive Clzs (X : Cx) : List ExceptHandler → List Clz → Prop
  | nil : Clzs X [] []
  | bare {x : Str} {c : Value} {ts : Addr → Value → Option Addr → TS} {b₀ : Stmt} {suite : List Stmt} {np po : Pos} {hds : List ExceptHandler} {zs : List Clz} (hc : Names X x c) (su : SuiteOk X (b₀ :: suite) ts) (r : Clzs X hds zs) :
      Clzs X (.ExceptHandler (some (.Name x np)) none (b₀ :: suite) po :: hds) (⟨c, none, ts⟩ :: zs)
  | named {x n : Str} {i : Nat} {c : Value} {ts : Addr → Value → Option Addr → TS} {b₀ : Stmt} {suite : List Stmt} {np po : Pos} {hds : List ExceptHandler} {zs : List Clz} (hN : X.N.Nodup) (hi : X.N[i]? = some n) (hln : X.env.kindOf n = some .local) (hc : Names X x c) (su : SuiteOk X (b₀ :: suite) ts) (r : Clzs X hds zs) :
      Clzs X (.ExceptHandler (some (.Name x np)) (some n) (b₀ :: suite) po :: hds) (⟨c, some i, ts⟩ :: zs)
section
variable {X : Cx} {body : List Stmt} {h₀ : ExceptHandler} {hds : List ExceptHandler} {zs : List Clz} {pos : Pos} {tb : WX → TS} {Wo : WX}
theorem ps_tryC (hs : X.stack = X.env :: X.outer) (hf : X.env.frame = some X.env.locals) (tk : Takes X Wo)
    (hb : ∀ (W : WX) (pl : List (Addr × Obj)) (xe : Value → Shared → Prop), Takes (X.tr pl xe) W → PassesOwn (model X.prog X.w) X.A X.env xe → PSs (X.tr pl xe) body (tb W))
    (hh : Clzs X (h₀ :: hds) zs) : PS X (.Try body (h₀ :: hds) [] [] pos) (fun D r k => tb (wClz X.K Wo D zs) D r k) := by
  refine ⟨fun pins s r0 k0 D I0 q0 => ?_⟩
  have okX := I0.ok
  have frX : X.A.frames = some (X.env :: X.outer) := by rw [okX.frames, hs]
  refine wpAny_Try_except (wpAny_mono ((hb (wClz X.K Wo D zs) (X.pn ++ pins) (fun e z1 => wpAny (model X.prog X.w) X.A (noteFrame e X.env) (fun _ z2 => wpAny (model X.prog X.w) X.A (setFlight e none) (fun _ z3 =>
    wpAny (model X.prog X.w) X.A (handleBy e X.env (h₀ :: hds)) (SP X pins D) X.xe z3) X.xe z2) X.xe z1) (fun u s' air => ?_) PassesOwn.looking).run [] s r0 k0 D (I0.toTry _) q0) (fun fl z1 hz => ?_) (fun e z1 he => he))
  · obtain ⟨a, Bg, sI, ps', r', k', kl, dc, rfl, Jt, nbg, upl, sky, nka, oss, bars, wish⟩ := air
    have J0 : Inv X pins r' k' sI := Jt.ofTry okX
    have sky2 : Sky Bg (X.env :: X.outer) a (Zc kl dc) X.env.locals s'.heap := by rw [← hs]; exact sky
    show wpAny (model X.prog X.w) X.A (noteFrame (.ref a) X.env) _ _ _
    refine Sky.land Zc.steady frX hf sky2 fun g3 air3 upl3 => ?_
    have J3 : Inv X pins r' k' { s' with heap := g3 } := J0.landed nbg air3.1 (upl.trans upl3) oss bars
    obtain ⟨ob3, fv3, at3, zc3, da3⟩ := air3.there
    have off : a ∉ frs (X.env :: X.outer) := fun hm => by
      obtain ⟨_, ob', at', nfd⟩ := (air3.2.2.1).mem hm
      rw [at3] at at'
      cases at'
      exact nfd _ da3
    have offL : a ≠ X.env.locals := fun z => off (List.mem_filterMap.mpr ⟨X.env, List.mem_cons_self, by rw [hf, z]⟩)
    have offF : a ∉ X.fs := fun hm => by
      obtain ⟨e, he, z⟩ := List.mem_filterMap.mp hm
      exact off (List.mem_filterMap.mpr ⟨e, List.mem_cons_of_mem _ he, z⟩)
    have S3 := J3.suite at3 da3 nka offL offF
    have LT : PySem.W.Looks (model X.prog X.w) g3 (typeOf (.ref a)) kl := fun A Q E s k q => wpAny_typeOf_ref (k _ _ at3) (by rw [zc3.1]; exact q)
    have named : ∀ {x : Str} {c : Value} {np : Pos} {Q : Value → Shared → Prop} {E : Value → Shared → Prop}, Names X x c → Q c { s' with heap := g3 } → wpAny (model X.prog X.w) (X.A.mark (some (.ref a))) (eval (.Name x np) X.env) Q E { s' with heap := g3 } := fun {x c np Q E} hc q => by
      obtain ⟨hg, hdb, hm | ⟨hm, hv, hnn⟩⟩ := hc
      · exact ld_glob (X := X.suite a ((a, ob3) :: (X.pn ++ pins))) S3 hg hm q hdb
      · exact ld_blt (X := X.suite a ((a, ob3) :: (X.pn ++ pins))) S3 hg hm hv q hnn hdb
    have all : ∀ {hl : List ExceptHandler} {zl : List Clz}, Clzs X hl zl → wClz X.K Wo D zl kl dc r' k' → wpAny (model X.prog X.w) X.A (handleBy (.ref a) X.env hl) (SP X pins D) X.xe { s' with heap := g3 } := by
      intro hl zl hk
      induction hk with
      | nil =>
        intro wn
        refine wpAny_handleBy_nil ?_
        obtain ⟨_, _, _, ob, fv, tb0, otb, tsl, at0, zc0, da0, one0, _⟩ := id air3
        unfold PySem.passOn
        refine wpAny_bind (wpAny_field at0 da0 one0 ?_)
        rw [if_neg (show ¬ ((Value.ref tb0 == Value.none) = true) from by simp)]
        have on : wpAny (model X.prog X.w) X.A (setFlight (.ref a) X.env.frame) (fun _ z4 => wpAny (model X.prog X.w) X.A (throw (.ref a) : Sem Flow) (SP X pins D) X.xe z4) X.xe { s' with heap := g3 } := by
          rw [hf]
          exact HandSPX.setFlight_upZ air3 fun g4 held4 upl4 => wpAny_throw (tk _ _ ⟨a, Bg, sI, pins, r', k', kl, dc, rfl, J0, nbg, (upl.trans upl3).trans upl4, .inr (.inr (by rw [hs]; exact held4)), nka, oss, bars, wn⟩)
        first
          | exact wpAny_bind (wpAny_pure (wpAny_bind on))
          | exact wpAny_bind on
      | @bare x c ts b₀ suite np po hds2 zs2 hc su rr ih =>
        intro wn
        obtain ⟨b, hb1, yes, no⟩ := wn
        refine wpAny_handleBy_cons (codeAny_handlers_test (named hc ((PySem.W.exm_one (M := model X.prog X.w) (J3.kIn) LT hb1).here ?_))) (by intro q; cases q)
        cases b with
        | false =>
          show wpAny _ X.A (handleBy (.ref a) X.env hds2) _ _ _
          exact ih (no rfl)
        | true =>
          refine codeAny_handlers_suite (HandSPX.lands_againZ air3 fun g4 air4 upl4 => ?_)
          have J4 : Inv X pins r' k' { s' with heap := g4 } := J0.landed nbg air4.1 ((upl.trans upl3).trans upl4) oss bars
          obtain ⟨ob4, fv4, at4, zc4, da4⟩ := air4.there
          refine wpAny_mono ((su a ob4 kl dc (X.pn ++ pins) zc4 ⟨_, da4⟩).run [] _ _ k' _ (J4.suite at4 da4 nka offL offF) (yes rfl a nka)) (fun fl z6 hz => ?_) (fun _ _ z => z.elim)
          cases fl with
          | next =>
            obtain ⟨r6, k6, S6, q6⟩ := hz
            exact ⟨r6, k6, S6.unsuite okX, q6⟩
          | brk =>
            obtain ⟨r6, k6, S6, q6⟩ := hz
            exact ⟨r6, k6, S6.unsuite okX, q6⟩
          | cont =>
            obtain ⟨r6, k6, S6, q6⟩ := hz
            exact ⟨r6, k6, S6.unsuite okX, q6⟩
          | ret u =>
            obtain ⟨v6, r6, k6, S6, e6, q6⟩ := hz
            exact ⟨v6, r6, k6, S6.unsuite okX, e6, q6⟩
      | @named x n i c ts b₀ suite np po hds2 zs2 hN hi hln hc su rr ih =>
        intro wn
        obtain ⟨b, hb1, yes, no⟩ := wn
        refine wpAny_handleBy_cons (codeAny_handlers_test (named hc ((PySem.W.exm_one (M := model X.prog X.w) (J3.kIn) LT hb1).here ?_))) (by intro q; cases q)
        cases b with
        | false =>
          show wpAny _ X.A (handleBy (.ref a) X.env hds2) _ _ _
          exact ih (no rfl)
        | true =>
          refine codeAny_handlers_suite_as (HandSPX.lands_againZ air3 fun g4 air4 upl4 => ?_)
          have J4 : Inv X pins r' k' { s' with heap := g4 } := J0.landed nbg air4.1 ((upl.trans upl3).trans upl4) oss bars
          obtain ⟨ob4, fv4, at4, zc4, da4⟩ := air4.there
          refine store_ok (X := X.suite a ((a, ob4) :: (X.pn ++ pins))) (v := .ref a) (J4.suite at4 da4 nka offL offF) hN hi (.inl hln) rfl (fun s5 S5 => ?_) (.inr hln)
          refine wpAny_mono ((su a ob4 kl dc (X.pn ++ pins) zc4 ⟨_, da4⟩).run [] s5 _ k' _ S5 (yes rfl a nka)) (fun fl z6 hz => ?_) (fun _ _ z => z.elim)
          have shut : ∀ {r6 : L2.St} {k6 : Hp} {Q : Shared → Prop}, Inv (X.suite a ((a, ob4) :: (X.pn ++ pins))) [] r6 k6 z6 → (∀ z7, Inv X pins (r6.set i none) k6 z7 → Q z7) →
              wpAny (model X.prog X.w) X.A (do bindName X.env n .none; unbindBehindTheSuite X.env n po) (fun _ z7 => Q z7) X.xe z6 := fun {r6 k6 Q} S6 hq => gone_ok (S6.unsuite okX) hN hi hln hq
          cases fl with
          | next =>
            obtain ⟨r6, k6, S6, q6⟩ := hz
            exact shut S6 fun z7 J7 => ⟨_, _, J7, q6⟩
          | brk =>
            obtain ⟨r6, k6, S6, q6⟩ := hz
            exact shut S6 fun z7 J7 => ⟨_, _, J7, q6⟩
          | cont =>
            obtain ⟨r6, k6, S6, q6⟩ := hz
            exact shut S6 fun z7 J7 => ⟨_, _, J7, q6⟩
          | ret u =>
            obtain ⟨v6, r6, k6, S6, e6, q6⟩ := hz
            exact shut S6 fun z7 J7 => ⟨_, _, _, J7, e6, q6⟩
    exact all hh wish
  · cases fl with
    | next =>
      obtain ⟨r', k', Jn, q⟩ := hz
      exact wpAny_execs_nil ⟨r', k', Jn.ofTry okX, q⟩
    | brk =>
      obtain ⟨r', k', Jn, q⟩ := hz
      exact ⟨r', k', Jn.ofTry okX, q⟩
    | cont =>
      obtain ⟨r', k', Jn, q⟩ := hz
      exact ⟨r', k', Jn.ofTry okX, q⟩
    | ret u =>
      obtain ⟨v, r', k', Jn, e, q⟩ := hz
      exact ⟨v, r', k', Jn.ofTry okX, e, q⟩
end
end MV
set_option Elab.async false
set_option linter.all false
set_option maxRecDepth 100000
set_option maxHeartbeats 4000000
/-! MvTryD: raise and try, by denotations. -/
namespace MV
open PySem PySem.Spec PyProof.Rows L2
section
variable {cls : Cl} {X : Cx} {W : WX} {pos p p' : Pos} {e : Expr} {fa : ADen} {x f : Str}
def sRaise (c : Nat) (f : Str) (fa : ADen) : SDen := fun τ Y => (fa τ Y).out τ fun ws Y1 => match ws with
  | [w] => (match frzW 20 Y1 w with
    | some (d, Y2) => .exc c (some [(f, d)]) τ Y2
    | none => .bad)
  | _ => .bad
theorem s_raise (c : Nat) (hc : X.calm = true) (tk : Takes X W) (hr : Room 1 X.A) (E : ErrK X.prog X.K X.mg (cls.at_ c) f) (hm : X.mg x = some (.ref (cls.at_ c))) (ha : DA cls X W [e] fa) (hg : Gl X x := by rfl) (hdb : (x == ("__debug__" : Str)) = false := by decide)
    (he : starEach [e] X.env = (false, eval e X.env) :: starEach [] X.env := by rfl) : DS cls X W (.Raise (some (.Call (.Name x p) [e] [] p')) none pos) (sRaise c f fa) := by
  obtain ⟨t, pa, ha⟩ := ha
  refine ⟨_, ps_raise hc tk (pmk_err E hr hm pa hg hdb he), fun σ H D B ρ Y τ R T h => ?_⟩
  refine ha σ H _ B ρ Y τ R T (RaOk.imp ?_ (OutOk.args T h))
  rintro vs H1 ⟨B1, ρ1, ws, Y1, A, r, h1⟩
  split at h1
  · rename_i w
    cases r with
    | @cons v _ _ _ rv rr =>
    cases rr
    cases e2 : frzW 20 Y1 w with
    | none => rw [e2] at h1; exact h1.elim
    | some pr =>
      obtain ⟨dd, Y2⟩ := pr
      rw [e2] at h1
      obtain ⟨B2, A2, r2⟩ := frzW_at (G := gx cls X) 20 B1 ρ1 Y1 v w dd Y2 A.rel rv e2
      refine ⟨v, rfl, fun dx hn => ?_⟩
      have A3 := Aft.own (o := .xd [(f, v)]) A2.rel hn
      exact h1 (some dx) σ B2 _ ρ1 (A2.trans A3) ((T.aft A).aft (A2.trans A3)) ⟨dx, _, rfl, upd_same, .cons r2 .nil⟩
  · exact h1.elim
end
/-! ### try -/
abbrev HDen := Nat → Option (List (Str × D)) → SDen
abbrev ZDen := (Nat → Option Bool) × HDen
def dCls : List ZDen → HDen
  | [] => fun c fs τ Y => .exc c fs τ Y
  | (m, h) :: r => fun c fs τ Y => match m c with
    | some true => h c fs τ Y
    | some false => dCls r c fs τ Y
    | none => .bad
def sTry (fb : SDen) (cl : List ZDen) : SDen := fun τ Y => match fb τ Y with
  | .exc c fs τ1 Y1 => dCls cl c fs τ1 Y1
  | r => r
def DCz (cls : Cl) (X : Cx) (z : Clz) (q : ZDen) : Prop :=
  (∀ c b, q.1 c = some b → PySem.W.exmOne X.K (.ref (cls.at_ c)) z.c = some b) ∧
  ∀ (W : WX) a c d fs σ H D B ρ Y τ, Rel (gx cls X) B H ρ Y → TR (gx cls X) B ρ Y.length σ τ → ExcAt (gx cls X) B H d fs → H a = none → OutOk (gx cls X) W σ B H ρ Y D (q.2 c fs τ Y) → z.ts a (.ref (cls.at_ c)) d (Ends.gone D z.i) (slotted σ a z.i) H
def DCzs (cls : Cl) (X : Cx) (hds : List ExceptHandler) (cl : List ZDen) : Prop := ∃ zs, Clzs X hds zs ∧ Paired (DCz cls X) zs cl
theorem dCls_ok {cls : Cl} {X : Cx} {W : WX} {D : Ends} {B H : Hp} {ρ : Nat → Addr} {Y : Ys} {σ : L2.St} {τ : Ts} {c : Nat} {d : Option Addr} {fs : Option (List (Str × MV.D))} (R : Rel (gx cls X) B H ρ Y) (T : TR (gx cls X) B ρ Y.length σ τ) (x : ExcAt (gx cls X) B H d fs) :
    ∀ {zs : List Clz} {cl : List ZDen}, Paired (DCz cls X) zs cl → OutOk (gx cls X) W σ B H ρ Y D (dCls cl c fs τ Y) → wClz X.K W D zs (.ref (cls.at_ c)) d σ H
  | _, _, .nil, h => h d σ B H ρ (Aft.refl R) T x
  | _, _, .cons (b := q) hz r, h => by
    obtain ⟨m, g⟩ := q
    unfold dCls at h
    cases e : m c with
    | none => rw [e] at h; exact h.elim
    | some b =>
      rw [e] at h
      refine ⟨b, hz.1 c b e, fun eb a hn => ?_, fun eb => ?_⟩
      · subst eb
        exact hz.2 W a c d fs σ H D B ρ Y τ R T x hn h
      · subst eb
        exact dCls_ok R T x r h
theorem PSs.strong {X : Cx} {sts : List Stmt} {t u : TS} (h : PSs X sts t) (i : ∀ D σ H, u D σ H → t D σ H) : PSs X sts u := ⟨fun pins s σ H D I q => h.run pins s σ H D I (i _ _ _ q)⟩
section
variable {cls : Cl} {X : Cx} {W : WX} {pos : Pos} {body : List Stmt} {h₀ : ExceptHandler} {hds : List ExceptHandler} {fb : SDen} {cl : List ZDen}
theorem s_try (hs : X.stack = X.env :: X.outer) (hf : X.env.frame = some X.env.locals) (tk : Takes X W)
    (hb : ∀ (W' : WX) (pl : List (Addr × Obj)) (xe : Value → Shared → Prop), Takes (X.tr pl xe) W' → PassesOwn (model X.prog X.w) X.A X.env xe → DSs cls (X.tr pl xe) W' body fb)
    (hh : DCzs cls X (h₀ :: hds) cl) : DS cls X W (.Try body (h₀ :: hds) [] [] pos) (sTry fb cl) := by
  obtain ⟨zs, hz, hp⟩ := hh
  refine ⟨_, ps_tryC (tb := fun W' D σ H => ∃ B ρ Y τ, Rel (gx cls X) B H ρ Y ∧ TR (gx cls X) B ρ Y.length σ τ ∧ OutOk (gx cls X) W' σ B H ρ Y D (fb τ Y)) hs hf tk (fun W' pl xe h1 h2 => ?_) hz, fun σ H D B ρ Y τ R T h => ?_⟩
  · obtain ⟨t, p, hb⟩ := hb W' pl xe h1 h2
    exact PSs.strong p fun D σ H ⟨B, ρ, Y, τ, R, T, q⟩ => hb σ H D B ρ Y τ R T q
  · refine ⟨B, ρ, Y, τ, R, T, ?_⟩
    unfold sTry at h
    cases e : fb τ Y with
    | next _ _ => rw [e] at h; exact h
    | ret _ _ => rw [e] at h; exact h
    | brk _ _ => rw [e] at h; exact h
    | cont _ _ => rw [e] at h; exact h
    | bad => rw [e] at h; exact h
    | exc c fs τ1 Y1 =>
      rw [e] at h
      intro d σ' B' H' ρ' A T' x
      exact dCls_ok A.rel T' x hp (OutOk.behind A h)
end
/-! ### suites -/
theorem TR.forget {G : Gx} {B : Hp} {ρ : Nat → Addr} {n : Nat} {σ : L2.St} {τ : Ts} (T : TR G B ρ n σ τ) {i : Nat} {v : Option V} : TR G B ρ n (σ.set i v) (τ.set i none) := by
  refine ⟨by simp [T.len], fun j u e => ?_⟩
  by_cases h : i = j
  · subst h
    by_cases hl : i < τ.length
    · rw [List.getElem?_set_self hl] at e
      cases e
    · rw [List.getElem?_eq_none (by simpa using hl)] at e
      cases e
  · rw [List.getElem?_set_ne h] at e ⊢
    exact T.at_ j u e
theorem RepKV.look {G : Gx} {B : Hp} : ∀ {vs : List (Str × V)} {fs : List (Str × D)} {f : Str} {d : D}, RepKV G B vs fs → fs.lookup f = some d → ∃ v, vs.lookup f = some v ∧ Rep G B v d
  | _, _, _, _, .nil, e => by cases e
  | (k, v) :: vs, (_, d0) :: fs, f, d, .cons h r, e => by
    by_cases hk : f = k
    · subst hk
      have e' : some d0 = some d := by simpa [List.lookup] using e
      cases e'
      exact ⟨v, by simp [List.lookup], h⟩
    · have hb : (f == k) = false := by simpa using hk
      have e' : fs.lookup f = some d := by simpa [List.lookup, hb] using e
      obtain ⟨u, h1, h2⟩ := RepKV.look r e'
      exact ⟨u, by simpa [List.lookup, hb] using h1, h2⟩
/-- except C as n: x = n.f -/
def hFld (c0 : Nat) (f : Str) (i j : Nat) (wrap : D → D) : HDen := fun c fs τ Y => match Nat.beq c c0, fs, Nat.blt i τ.length with
  | true, some l, true => (match l.lookup f with
    | some d => .next (((τ.set i none).set j (some (.val (wrap d)))).set i none) Y
    | none => .bad)
  | _, _, _ => .bad
section
variable {cls : Cl} {X : Cx} {x y n f : Str} {i j : Nat} {p1 p2 p3 p4 p5 p6 p7 p8 : Pos} {hds : List ExceptHandler} {cl : List ZDen} {m : Nat → Option Bool} {c0 : Nat}
theorem cz_nil : DCzs cls X [] [] := ⟨[], .nil, .nil⟩
theorem cz_fld (c0 : Nat) (i j : Nat) (hN : X.N.Nodup) (T : XfC X.K (cls.at_ c0)) (hno : PySem.W.findIn X.K (.ref (cls.at_ c0)) f = some none) (hmm : ∀ c b, m c = some b → PySem.W.exmOne X.K (.ref (cls.at_ c)) (.ref (cls.at_ c0)) = some b) (hm : X.mg y = some (.ref (cls.at_ c0))) (r : DCzs cls X hds cl)
    (hi : X.N[i]? = some n := by rfl) (hln : X.env.kindOf n = some .local := by rfl) (hv : Vis X.env.scope n := by first | exact Or.inl rfl | exact Or.inr (Or.inl rfl) | exact Or.inr (Or.inr rfl)) (hnd : (n == ("__debug__" : Str)) = false := by decide) (hnc : (n == ("__classdict__" : Str)) = false := by decide)
    (hj : X.N[j]? = some x := by rfl) (hx : Loc X.env.scope x := by first | exact Or.inl rfl | exact Or.inr rfl) (hf : X.fn x = true ∨ X.env.scope.names.lookup x = some .local := by first | exact .inl rfl | exact .inr rfl)
    (hs : swapsWith (.Attribute (.Name n p1) f p2) (some (.Name x p3)) p4.line X.env = pure false := by rfl) (hb : attributeBase (.Name n p1) f X.env (eval (.Name n p1) X.env) = eval (.Name n p1) X.env := by rfl) (hg : Gl X y := by rfl) (hyd : (y == ("__debug__" : Str)) = false := by decide) :
    DCzs cls X (.ExceptHandler (some (.Name y p5)) (some n) [.Assign [.Name x p3] (.Attribute (.Name n p1) f p2) p4] p6 :: hds) ((m, hFld c0 f i j id) :: cl) := by
  obtain ⟨zs, hz, hp⟩ := r
  refine ⟨_, .named hN hi hln ⟨hg, hyd, .inl hm⟩ (fun a ob kl dc pl zc fd => pss_one (ps_set hN hj hx (pe_xf T hno zc fd (pe_var hi hv hnd hnc) hb) hs hf)) hz, .cons ⟨hmm, fun W a c d fs σ H D B ρ Y τ R TT xa hn h => ?_⟩ hp⟩
  dsimp only at h
  unfold hFld at h
  split at h
  · rename_i l e1 e2
    split at h
    · rename_i dd e3
      have ec : c = c0 := Nat.eq_of_beq_eq_true e1
      subst ec
      obtain ⟨dx, vs, hd, hh, rk⟩ := xa
      obtain ⟨v, hl, rv⟩ := RepKV.look rk e3
      have hlt : i < σ.length := by
        rw [TT.len]
        simpa [Nat.blt_eq] using e2
      refine ⟨.ref a, by show (σ.set i _)[i]? = _; rw [List.getElem?_set_self hlt], rfl, rfl, dx, vs, v, hd, hh, hl, ?_⟩
      exact h _ B H ρ (Aft.refl R) (((TT.forget).set (w := .val dd) rv).forget)
    · exact h.elim
  · exact h.elim
theorem cz_pair {t0 : Str} {k7 k8} (c0 : Nat) (i j : Nat) (hN : X.N.Nodup) (T : XfC X.K (cls.at_ c0)) (hno : PySem.W.findIn X.K (.ref (cls.at_ c0)) f = some none) (hmm : ∀ c b, m c = some b → PySem.W.exmOne X.K (.ref (cls.at_ c)) (.ref (cls.at_ c0)) = some b) (hm : X.mg y = some (.ref (cls.at_ c0))) (r : DCzs cls X hds cl)
    (hi : X.N[i]? = some n := by rfl) (hln : X.env.kindOf n = some .local := by rfl) (hv : Vis X.env.scope n := by first | exact Or.inl rfl | exact Or.inr (Or.inl rfl) | exact Or.inr (Or.inr rfl)) (hnd : (n == ("__debug__" : Str)) = false := by decide) (hnc : (n == ("__classdict__" : Str)) = false := by decide)
    (hj : X.N[j]? = some x := by rfl) (hx : Loc X.env.scope x := by first | exact Or.inl rfl | exact Or.inr rfl) (hf : X.fn x = true ∨ X.env.scope.names.lookup x = some .local := by first | exact .inl rfl | exact .inr rfl)
    (hs : swapsWith (.Tuple [.Constant (.str t0) k7 p7, .Attribute (.Name n p1) f p2] k8 p8) (some (.Name x p3)) p4.line X.env = pure false := by rfl) (hb : attributeBase (.Name n p1) f X.env (eval (.Name n p1) X.env) = eval (.Name n p1) X.env := by rfl) (hs1 : starEach [.Constant (.str t0) k7 p7, .Attribute (.Name n p1) f p2] X.env = (false, eval (.Constant (.str t0) k7 p7) X.env) :: starEach [.Attribute (.Name n p1) f p2] X.env := by rfl) (hs2 : starEach [.Attribute (.Name n p1) f p2] X.env = (false, eval (.Attribute (.Name n p1) f p2) X.env) :: starEach [] X.env := by rfl) (hg : Gl X y := by rfl) (hyd : (y == ("__debug__" : Str)) = false := by decide) :
    DCzs cls X (.ExceptHandler (some (.Name y p5)) (some n) [.Assign [.Name x p3] (.Tuple [.Constant (.str t0) k7 p7, .Attribute (.Name n p1) f p2] k8 p8) p4] p6 :: hds) ((m, hFld c0 f i j fun d => .tup [.str t0, d]) :: cl) := by
  obtain ⟨zs, hz, hp⟩ := r
  refine ⟨_, .named hN hi hln ⟨hg, hyd, .inl hm⟩ (fun a ob kl dc pl zc fd => pss_one (ps_set hN hj hx (pe_tup (pa_cons pe_str (pa_cons (pe_xf T hno zc fd (pe_var hi hv hnd hnc) hb) pa_nil hs2) hs1)) hs hf)) hz, .cons ⟨hmm, fun W a c d fs σ H D B ρ Y τ R TT xa hn h => ?_⟩ hp⟩
  dsimp only at h
  unfold hFld at h
  split at h
  · rename_i l e1 e2
    split at h
    · rename_i dd e3
      have ec : c = c0 := Nat.eq_of_beq_eq_true e1
      subst ec
      obtain ⟨dx, vs, hd, hh, rk⟩ := xa
      obtain ⟨v, hl, rv⟩ := RepKV.look rk e3
      have hlt : i < σ.length := by
        rw [TT.len]
        simpa [Nat.blt_eq] using e2
      refine ⟨.ref a, by show (σ.set i _)[i]? = _; rw [List.getElem?_set_self hlt], rfl, rfl, dx, vs, v, hd, hh, hl, by show 2 ≤ sizeLine; rw [sizeLine_eq]; omega, fun q hq => ?_⟩
      have A' := Aft.new R (.tup [.str t0, v]) hq
      exact h _ _ _ ρ A' ((((TT.aft A').forget).set (w := .val (.tup [.str t0, dd])) (Rep.tup upd_same (by show 2 ≤ sizeLine; rw [sizeLine_eq]; omega) (.cons (.str t0) (.cons (rv.le A'.le) .nil)))).forget)
    · exact h.elim
  · exact h.elim
end
end MV
set_option Elab.async false
set_option linter.all false
set_option maxRecDepth 100000
set_option maxHeartbeats 4000000
/-! MvLam: x(lambda: e), x a def that calls what it got first thing in a try. -/
namespace MV
open PySem PySem.Spec PyProof.Rows L2
/-- tables grow -/
theorem Aft.tab {G : Gx} {B H H1 : Hp} {ρ : Nat → Addr} {Y : Ys} (R : Rel G B H ρ Y) (e : LamX.ExtN H H1) (t : LamX.Tabs G.T H1) : Aft G B H ρ Y B H1 ρ Y := by
  have keep : ∀ n, Live Y n → H1 (ρ n) = H (ρ n) := fun n l => by
    obtain ⟨o, ho⟩ := R.at_ l
    rw [ho]
    exact e _ _ ho fun ps z => R.noTb l ho (by rw [z]; trivial)
  refine ⟨⟨fun a o h => ?_, R.non, fun n yo h => ?_, R.inj, t, R.tabs.2⟩, Le.refl B, fun a o h _ z => e a o h z, fun a o h n => (by rw [n] at h; cases h), fun _ _ => rfl, fun n h => .inl ⟨h.lt, h⟩, Nat.le_refl _, fun a h => ?_⟩
  · rcases R.sub a o h with q | ⟨l, ob, q⟩
    · exact .inl (e a o q fun ps z => R.tabs.2 a ps (by rw [← z]; exact h))
    · exact .inr ⟨l, ob, e a _ q nofun⟩
  · by_cases hd : yo = .dead
    · subst hd
      trivial
    · rw [keep n ⟨yo, h, hd⟩]
      exact R.obj n yo h
  · cases q : H a with
    | none => trivial
    | some u =>
      by_cases hu : ∃ ps, u = .tbl ps
      · obtain ⟨ps, rfl⟩ := hu
        trivial
      · rw [e a u q fun ps z => hu ⟨ps, z⟩] at h
        exact h
section
variable {X : Cx} {pins : List (Addr × Obj)} {σ : L2.St} {H : Hp} {s : Shared}
/-- what was handed over is called: the wish for what it raises may look at the caller's slots -/
theorem pe_actS {CXg : CXT} {Eg : XK} {Ng : List Str} {qg : Str} {sg : Scope} {g f c' : Addr} {cdg pm ctv : Value} {params : Arguments} {body : Expr} {scope : Scope} {k i : Nat} {a : Str} {pn : List (Addr × Obj)} {xe : Value → Shared → Prop} {W : WX} {tb : XK → TE} {p1 p2 : Pos}
    (I : Inv X pins σ H s) (L : LamX.LamS X.env.scope scope) (hf : s.heap.get? f = some (PySem.W.kla_obj "<lambda>" (X.env.qual ++ "<lambda>") params body scope (cloFrom X.env.cells scope.names []) pm c' ctv)) (hfn : H f = none) (hfr : f ∉ frs X.stack)
    (hbind : bindArgs (PySem.W.kla_fn "<lambda>" (X.env.qual ++ "<lambda>") params body scope (cloFrom X.env.cells scope.names []) pm (.ref c') ctv) ⟨[], []⟩ = pure [])
    (tk : Takes ((cxOf CXg X.prog X.w X.K X.mg X.base Ng qg sg g cdg X.A X.stack s H Eg).tr pn xe) W) (hr : Room (k + 1) (X.A.deeper (envOfC qg sg s.heap.objs.size g cdg)))
    (hbody : ∀ (E : XK) (A : Around) (outer : List Env) (s : Shared) (H : Hp), Room k (A.deeper (LamX.lamEnv X scope s.heap.objs.size f c')) → PE (LamX.lamCx X A outer s H E scope f c') body (tb E))
    (hN : Ng[i]? = some a) (hv : Vis sg a) (hd : (a == ("__debug__" : Str)) = false := by decide) (hcd : (a == ("__classdict__" : Str)) = false := by decide) :
    PE ((cxOf CXg X.prog X.w X.K X.mg X.base Ng qg sg g cdg X.A X.stack s H Eg).tr pn xe) (.Call (.Name a p1) [] [] p2)
      (fun σZ HZ Q => σZ[i]? = some (some (.ref f)) ∧ HZ c' = some (LamX.CodeO c' (X.env.qual ++ "<lambda>")) ∧ tb (WE W σZ) σ HZ Q) := by
  refine ⟨fun pinsZ sZ σZ HZ Q IZ ⟨hs, hc, ht⟩ => ?_⟩
  refine wpAny_Call_Name_kw (thn ((pe_var (pos := p1) (i := i) hN hv hd hcd).run pinsZ sZ σZ HZ (fun v H1 => v = .ref f ∧ H1 = HZ) IZ ⟨.ref f, hs, rfl, rfl⟩) fun u z ⟨v, H1, Iz, rv, ev, eH⟩ => ?_)
  subst ev
  rw [eH] at Iz
  obtain rfl : u = Value.ref f := rv
  have there : z.heap.get? f = some (PySem.W.kla_obj "<lambda>" (X.env.qual ++ "<lambda>") params body scope (cloFrom X.env.cells scope.names []) pm c' ctv) := Iz.base.keep f _ hf hfn hfr fun y => nomatch (show f ∈ ([] : List Addr) from y)
  obtain ⟨⟨oc, vs, t, hoc, hdc, hvc⟩, _, _⟩ := Iz.hok c' _ hc
  refine PySem.W.callWith_F0 ⟨_, _, _, _, there⟩ (wpAny_call (codeAny_mono (R := CR (L2.CX X.prog X.w) (envOfC qg sg s.heap.objs.size g cdg :: X.stack) X.prog X.w HZ z Q (WE W σZ)) ?_ fun r s' hq => ?_))
  · refine PySem.W.kla_callFunE hr.depth there rfl L.co L.gen rfl ⟨c', oc, vs, t, rfl, hoc, hdc, hvc⟩ ?_
    rw [List.append_nil, hbind]
    refine wpAny_pure (wpAny_newFunctionEnv (fun y hy => (L.own y hy).2) (fun y hy => absurd hy (by simp)) (fun h₁ hns hsb => ⟨Iz.nolimit.fresh _ hsb, ?_⟩) L.kind)
    have kp : ∀ b o, z.heap.get? b = some o → h₁.get? b = some o := fun b o e => hsb.extBut b o (Nat.ne_of_lt (Heap.lt_size e)) (Heap.get?_push_of_some _ e)
    have J := LamX.lam_start2 (E := WE W σZ) (f := f) (c' := c') (tk := z.toks + ([] : List (Str × Value)).length) I L Iz.env0 hr.hd Iz.base hns kp
    refine PySem.W.kla_codeExpr (wpAny_mono ((hbody _ _ _ z HZ (hr.deeper _)).run [] _ _ HZ Q J ht) (fun v s' ⟨w', H', J', rv, q⟩ => ?_) fun e s' hq => hq)
    exact ⟨w', H', J'.os, J'.bare, J'.base, J'.hok, rv, q⟩
  · cases r with
    | error e => exact passAt tk σZ pinsZ HZ z e s' Iz hq
    | ok fl =>
      cases fl with
      | ret u => exact Iz.after hq
      | next => exact False.elim hq
      | brk => exact False.elim hq
      | cont => exact False.elim hq
end

/-! ### a def that first of all calls what it got, in a try -/
def setJ {α : Type} (τ : List (Option α)) : Option Nat → α → List (Option α)
  | none, _ => τ
  | some i, w => τ.set i (some w)
theorem TR.setJ {G : Gx} {B : Hp} {ρ : Nat → Addr} {n : Nat} {σ : L2.St} {τ : Ts} (T : TR G B ρ n σ τ) {v : V} {w : W} (r : WRep G B ρ n v w) : ∀ j, TR G B ρ n (MV.setJ σ j v) (MV.setJ τ j w)
  | none => T
  | some _ => T.set r
def sGot (j : Option Nat) (fe : Den) : SDen := fun τ Y => (fe τ Y).out τ fun w Y1 => .next (setJ τ j w) Y1
/-- the first row: [y =] a() -/
def S0 (Z : Cx) (s0 : Stmt) (ce : Expr) (j : Option Nat) : Prop := ∀ (pl : List (Addr × Obj)) (xe : Value → Shared → Prop) (t : TE), PE (Z.tr pl xe) ce t → PS (Z.tr pl xe) s0 (fun D σ H => t σ H fun v H1 => D.nx (setJ σ j v) H1)
section
variable {cls : Cl} {Z : Cx} {W : WX} {s0 : Stmt} {ce : Expr} {j : Option Nat} {rest after : List Stmt} {h₀ : ExceptHandler} {hds : List ExceptHandler} {fr fa : SDen} {cl : List ZDen} {pos : Pos}
theorem s0_set (i : Nat) {x : Str} {pos' : Pos} (hN : Z.N.Nodup) (hi : Z.N[i]? = some x := by rfl) (hx : Loc Z.env.scope x := by first | exact Or.inl rfl | exact Or.inr rfl) (hs : swapsWith ce (some (.Name x pos')) pos.line Z.env = pure false := by rfl)
    (hf : Z.fn x = true ∨ Z.env.scope.names.lookup x = some .local := by first | exact .inl rfl | exact .inr rfl) : S0 Z (.Assign [.Name x pos'] ce pos) ce (some i) := fun pl xe t h => ps_set (X := Z.tr pl xe) (te := t) hN hi hx h hs hf
theorem s0_expr (hs : swapsWith ce none pos.line Z.env = pure false := by rfl) : S0 Z (.Expr ce pos) ce none := fun pl xe t h => ps_expr (X := Z.tr pl xe) (te := t) h hs
theorem tried_run {tb : XK → Hp → VK → Prop} {pre : L2.St → Hp → Prop} (hs : Z.stack = Z.env :: Z.outer) (hf : Z.env.frame = some Z.env.locals) (tk : Takes Z W)
    (act : ∀ (W' : WX) (pl : List (Addr × Obj)) (xe : Value → Shared → Prop), Takes (Z.tr pl xe) W' → PE (Z.tr pl xe) ce (fun σZ HZ Q => pre σZ HZ ∧ tb (WE W' σZ) HZ Q)) (h0 : S0 Z s0 ce j)
    (hr : ∀ (W' : WX) (pl : List (Addr × Obj)) (xe : Value → Shared → Prop), Takes (Z.tr pl xe) W' → PassesOwn (model Z.prog Z.w) Z.A Z.env xe → DSs cls (Z.tr pl xe) W' rest fr) (hh : DCzs cls Z (h₀ :: hds) cl) (ha : DSs cls Z W after fa)
    {σ : L2.St} {B H : Hp} {ρ : Nat → Addr} {Y : Ys} {τ : Ts} {D : Ends} {fe : Den} (R : Rel (gx cls Z) B H ρ Y) (T : TR (gx cls Z) B ρ Y.length σ τ) (hp : pre σ H) (htb : ∀ E Q, ReE (gx cls Z) E B H ρ Y Q (fe τ Y) → tb E H Q)
    (h : OutOk (gx cls Z) W σ B H ρ Y D (sSeq (sTry (sSeq (sGot j fe) fr) cl) fa τ Y)) : ∃ t, PSs Z (.Try (s0 :: rest) (h₀ :: hds) [] [] pos :: after) t ∧ t D σ H := by
  obtain ⟨zs, hz, hq⟩ := hh
  obtain ⟨ta, pa, ha⟩ := ha
  refine ⟨_, pss_cons (ps_tryC (tb := fun W' D σ H => pre σ H ∧ tb (WE W' σ) H fun v H1 => ∃ B ρ Y τ, Rel (gx cls Z) B H1 ρ Y ∧ TR (gx cls Z) B ρ Y.length (setJ σ j v) τ ∧ OutOk (gx cls Z) W' (setJ σ j v) B H1 ρ Y D (fr τ Y)) hs hf tk (fun W' pl xe tk' pass => ?_) hz) pa, ?_⟩
  · obtain ⟨t, p, hr⟩ := hr W' pl xe tk' pass
    exact PSs.strong (pss_cons (h0 pl xe _ (act W' pl xe tk')) (PSs.strong p fun D σ H (h : ∃ B ρ Y τ, Rel (gx cls Z) B H ρ Y ∧ TR (gx cls Z) B ρ Y.length σ τ ∧ OutOk (gx cls Z) W' σ B H ρ Y D (fr τ Y)) => let ⟨B, ρ, Y, τ, R, T, q⟩ := h; hr σ H D B ρ Y τ R T q)) fun D σ H q => q
  · have h2 := OutOk.seq (k := fa) h
    have h3 : OutOk (gx cls Z) W σ B H ρ Y { D with nx := ta D } (sTry (sSeq (sGot j fe) fr) cl τ Y) := by
      cases e : sTry (sSeq (sGot j fe) fr) cl τ Y <;> rw [e] at h2 <;> first
        | exact h2
        | exact fun σ' B' H' ρ' A T' => by
            obtain ⟨B1, ρ1, τ1, Y1, A1, T1, q⟩ := h2 σ' B' H' ρ' A T'
            exact ha _ _ _ _ _ _ _ A1.rel T1 q
    clear h h2
    refine ⟨hp, htb _ _ ?_⟩
    unfold sTry sSeq sGot at h3
    cases e : fe τ Y with
    | bad => rw [e] at h3; exact h3
    | exc c fs Y1 =>
      rw [e] at h3
      intro d B' H' ρ' A x
      exact dCls_ok A.rel (T.aft A) x hq (OutOk.behind A h3)
    | ok w Y1 =>
      rw [e] at h3
      intro v B' H' ρ' A r
      refine ⟨B', ρ', Y1, _, A.rel, (T.aft A).setJ r j, ?_⟩
      have h4 := OutOk.behind (σ' := setJ σ j v) A h3
      clear h3
      dsimp only [Re.out, Out.seq] at h4
      cases e2 : fr (setJ τ j w) Y1 with
      | next _ _ => rw [e2] at h4; exact h4
      | ret _ _ => rw [e2] at h4; exact h4
      | brk _ _ => rw [e2] at h4; exact h4
      | cont _ _ => rw [e2] at h4; exact h4
      | bad => rw [e2] at h4; exact h4
      | exc c fs τ1 Y2 =>
        rw [e2] at h4
        intro d σ' B2 H2 ρ2 A2 T2 x
        exact dCls_ok A2.rel T2 x hq (OutOk.behind A2 h4)
end
/-- the def x(a) of this form, at every call -/
structure Tried (P : Program) (w : World) (K : PySem.W.Frag) (mg : Str → Option Value) (base : Heap) (cls : Cl) (N : List Str) (x : Str) (sc : Scope) (g : Addr) (lev : Nat) (s0 : Stmt) (ce : Expr) (j : Option Nat) (rest : List Stmt) (h₀ : ExceptHandler) (hds : List ExceptHandler) (after : List Stmt) (fr fa : SDen) (cl : List ZDen) : Prop where
  s0 : ∀ (cdv : Value) (A : Around) (outer : List Env) (s : Shared) (H : Hp) (E : XK), S0 (cxOf (L2.CX P w) P w K mg base N x sc g cdv A outer s H E) s0 ce j
  rest : ∀ (cdv : Value) (A : Around) (outer : List Env) (s : Shared) (H : Hp) (E : XK), Room lev (A.deeper (envOfC x sc s.heap.objs.size g cdv)) → ∀ (W' : WX) (pl : List (Addr × Obj)) (xe : Value → Shared → Prop), Takes ((cxOf (L2.CX P w) P w K mg base N x sc g cdv A outer s H E).tr pl xe) W' → PassesOwn (model P w) (A.deeper (envOfC x sc s.heap.objs.size g cdv)) (envOfC x sc s.heap.objs.size g cdv) xe → DSs cls ((cxOf (L2.CX P w) P w K mg base N x sc g cdv A outer s H E).tr pl xe) W' rest fr
  hands : ∀ (cdv : Value) (A : Around) (outer : List Env) (s : Shared) (H : Hp) (E : XK), Room lev (A.deeper (envOfC x sc s.heap.objs.size g cdv)) → DCzs cls (cxOf (L2.CX P w) P w K mg base N x sc g cdv A outer s H E) (h₀ :: hds) cl
  after : ∀ (cdv : Value) (A : Around) (outer : List Env) (s : Shared) (H : Hp) (E : XK), Room lev (A.deeper (envOfC x sc s.heap.objs.size g cdv)) → DSs cls (cxOf (L2.CX P w) P w K mg base N x sc g cdv A outer s H E) (fun c d _ H => E c d H) after fa
def dGot (j : Option Nat) (m : Nat) (fr fa : SDen) (cl : List ZDen) (fe : Den) : Den := fun τ Y => runW (sSeq (sTry (sSeq (sGot j fun _ Y' => fe τ Y') fr) cl) fa) m [] Y
section
variable {cls : Cl} {X : Cx} {W : WX} {x a : Str} {pg : Arguments} {sg : Scope} {dvs : List V} {kws : List (Str × V)} {g c P : Addr} {fd : FuncData} {Ng : List Str} {k : Nat} {s0 : Stmt} {j : Option Nat} {rest after : List Stmt} {h₀ : ExceptHandler} {hds : List ExceptHandler} {fr fa : SDen} {cl : List ZDen} {p lp pos tpos p1 p2 : Pos}
  {params : Arguments} {body : Expr} {scope : Scope} {fe : Den}
/-- x(lambda: body) -/
theorem d_lamcall (FD : FunD X.K x x pg (.Try (s0 :: rest) (h₀ :: hds) [] [] tpos :: after) sg dvs kws g fd) (S : FnScope Ng [a] sg) (hb : MBn X.K fd [a] 1 [] [.p 0] []) (hT : Tried X.prog X.w X.K X.mg X.base cls Ng x sg g (k + 1) s0 (.Call (.Name a p1) [] [] p2) j rest h₀ hds after fr fa cl)
    (hm : X.mg x = some (.ref g)) (tk : Takes X W) (hr : Room (k + 2) X.A) (TB : LamX.TabB X.base X.mg c P) (hcode : X.env.code = .ref c) (hmT : (P, X.env.qual ++ "<lambda>") ∈ cls.T) (hu : ∀ p ∈ cls.T, p.1 = P → p.2 = X.env.qual ++ "<lambda>")
    (L : LamX.LamS X.env.scope scope)
    (hbody : ∀ (A : Around) (outer : List Env) (s : Shared) (H : Hp) (E : XK) (f c' : Addr), Room k (A.deeper (LamX.lamEnv X scope s.heap.objs.size f c')) → DE cls (LamX.lamCx X A outer s H E scope f c') (fun c d _ H => E c d H) body fe)
    (hNg : Ng[0]? = some a := by rfl) (hva : Vis sg a := by first | exact Or.inl rfl | exact Or.inr (Or.inl rfl)) (hg : Gl X x := by rfl) (hdef : defaultsOf params X.env = ([], []) := by rfl)
    (hbind : ∀ (q : Str) (cl : List (Str × Addr)) (pm cv ctv : Value), bindArgs (PySem.W.kla_fn "<lambda>" q params body scope cl pm cv ctv) ⟨[], []⟩ = pure [] := by intros; rfl)
    (hdb : (x == ("__debug__" : Str)) = false := by decide) (hd : (a == ("__debug__" : Str)) = false := by decide) (hcd : (a == ("__classdict__" : Str)) = false := by decide) :
    DE cls X W (.Call (.Name x p) [.Lambda params body scope lp] [] pos) (dGot j Ng.length fr fa cl fe) := by
  refine ⟨canE (gx cls X) W (dGot j Ng.length fr fa cl fe), ⟨fun pins s σ H Q I h => ?_⟩, fun σ H Q B ρ Y τ R T h => ⟨B, ρ, Y, τ, R, T, h⟩⟩
  obtain ⟨B, ρ, Y, τ, R, T, h⟩ := h
  obtain ⟨oc, od, dV, kV, doc, pm, an, cdv, ct, osl, rfl, lk, hcg, _, _⟩ := FD.ex
  refine wpAny_Call_Name_kw (ld_glob I hg hm (PySem.W.callWith_K (h₀ := X.base) I.ok.mod.kin FD.kp ?_ (by rfl) (by rfl)) hdb)
  change wpAny _ _ (spliced ((false, eval (.Lambda params body scope lp) X.env) :: backTo pos (starEach [] X.env))) _ _ _
  refine Calls.spliced_cons (LamX.lam_make2 I TB hcode hmT hu R.tabs.1 hdef (L.has I.ok) fun f c' pm' ctv H1 s' I1 eN T1 hf hfn hfr hco => Calls.spliced_nil ⟨I1.kIn, ?_⟩)
  have A1 := Aft.tab R eN T1
  have h1 := ReOk.behind A1 h
  have T1' := T.aft A1
  have R1 := A1.rel
  obtain ⟨its, hd', hb⟩ := hb
  have b := hb s' [.ref f] [] [.ref f] I1.kIn rfl rfl rfl
  refine wpAny_call (codeAny_mono (LamX.run_ofS (CX := L2.CX X.prog X.w) (N := Ng) (ps := [a]) (us := [.ref f]) (vs := [.ref f]) (Q := Q) (E := WE W σ) lk hcg S hr I1.env0 b (.cons rfl .nil) rfl fun hr' => ?_) fun r s2 hq => ?_)
  · have TZ : TR (gx cls X) B ρ Y.length (L2.start Ng [.ref f]) (startT Ng.length []) := by
      have hl : 1 ≤ Ng.length := (List.getElem?_eq_some_iff.mp hNg).1
      refine ⟨by rw [start_len Ng (vs := [.ref f]) hl, startT_len _ _ (Nat.zero_le _)], fun i w e => ?_⟩
      have := startT_get e
      simp at this
    refine tried_run (cls := cls) (Z := cxOf (L2.CX X.prog X.w) X.prog X.w X.K X.mg X.base Ng x sg g cdv X.A X.stack s' H1 (WE W σ)) (W := fun c d _ H => WE W σ c d H) (pre := fun σZ HZ => σZ[0]? = some (some (.ref f)) ∧ HZ c' = some (LamX.CodeO c' (X.env.qual ++ "<lambda>")))
      (tb := fun E HZ Q => canE (gx cls X) (fun c d _ H => E c d H) fe σ HZ Q) (τ := startT Ng.length []) (fe := fun _ Y' => fe τ Y') rfl rfl (in_body hr').tk (fun W' pl xe tk' => ?_) (hT.s0 _ _ _ _ _ _) (hT.rest _ _ _ _ _ _ hr') (hT.hands _ _ _ _ _ _ hr') (hT.after _ _ _ _ _ _ hr') R1 TZ ⟨?_, hco⟩ (fun E Q q => ?_) ?_
    · have := pe_actS (X := X) (W := W') (k := k) (i := 0) (p1 := p1) (p2 := p2) (tb := fun E => canE (gx cls X) (fun c d _ H => E c d H) fe) I1 L hf hfn hfr (hbind _ _ _ _ _) tk' hr' (fun E A outer s H hr2 => DE.can (hbody A outer s H E f c' hr2)) hNg hva hd hcd
      exact ⟨fun pins s σ H Q I q => this.run pins s σ H Q I ⟨q.1.1, q.1.2, q.2⟩⟩
    · rfl
    · exact ⟨B, ρ, Y, τ, R1, T1', q⟩
    · unfold dGot runW at h1
      cases e : sSeq (sTry (sSeq (sGot j fun _ Y' => fe τ Y') fr) cl) fa (startT Ng.length []) Y with
      | bad => rw [e] at h1; exact h1.elim
      | brk _ _ => rw [e] at h1; exact h1.elim
      | cont _ _ => rw [e] at h1; exact h1.elim
      | ret w' Y1 => rw [e] at h1; exact h1
      | next τ1 Y1 =>
        rw [e] at h1
        exact fun σ' B' H' ρ' A T => h1 .non B' H' ρ' A .non
      | exc c fs τ1 Y1 =>
        rw [e] at h1
        exact fun d σ' B' H' ρ' A T x => h1 d B' H' ρ' A x
  · cases r with
    | error e => exact passAt tk σ pins H1 s' e s2 I1 hq
    | ok fl =>
      cases fl with
      | ret u => exact I1.after hq
      | next => exact False.elim hq
      | brk => exact False.elim hq
      | cont => exact False.elim hq
end
end MV
set_option Elab.async false
set_option linter.all false
set_option maxRecDepth 100000
set_option maxHeartbeats 4000000
/-! MvCallV: a def of the module that an expression gives is called. -/
namespace MV
open PySem PySem.Spec PyProof.Rows L2
abbrev SelG := Str → Option (List Bd × List D × FDen)
def dCallV (fo : Den) (fa : CDen) (n m : Nat) (sel : SelG) : Den := fun τ Y => (fo τ Y).bind fun w Y1 => match w with
  | .val (.gl x) => (match sel x with
    | some (bm, dd, fn) => (fa τ Y1).bind fun ws zs Y2 => callW n m bm dd fn ws zs Y2
    | none => .bad)
  | _ => .bad
section
variable {cls : Cl} {X : Cx} {W : WX} {pos : Pos} {o : Expr} {args : List Expr} {kws : List Keyword} {ks : List Str} {fo : Den} {fa : CDen} {n : Nat} {sel : SelG}
theorem d_callV (hs : ∀ x bm dd fn, sel x = some (bm, dd, fn) → ∃ lev, FnX X.prog X.w X.K X.mg X.base cls x n ks bm dd fn lev ∧ Room lev X.A) (tk : Takes X W) (ho : DE cls X W o fo) (ha : DCa cls X W args kws ks fa)
    (ht : eval (.Call o args kws pos) X.env = (do callWith pos (← eval o X.env) [] (backTo pos (starEach args X.env)) (backToKw pos (keywordEach kws X.env))) := by rfl) :
    DE cls X W (.Call o args kws pos) (dCallV fo fa n ks.length sel) := by
  obtain ⟨to, po, ho⟩ := ho
  obtain ⟨t, ca, ha⟩ := ha
  refine ⟨fun σ H Q => to σ H fun v H1 => ∃ x u lev bm dd fn, X.mg x = some u ∧ RelV v u ∧ FnX X.prog X.w X.K X.mg X.base cls x n ks bm dd fn lev ∧ Room lev X.A ∧ t σ H1 fun vs zs H2 => ∃ B ρ ws us Y, Rel (gx cls X) B H2 ρ Y ∧ WReps (gx cls X) B ρ Y.length vs ws ∧ WReps (gx cls X) B ρ Y.length zs us ∧ ReOk (gx cls X) W σ B H2 ρ Y Q (callW n ks.length bm dd fn ws us Y), ⟨fun pins s σ H Q I h => ?_⟩, fun σ H Q B ρ Y τ R T h => ?_⟩
  · rw [ht]
    refine wpAny_bind (thn (po.run pins s σ H _ I h) fun u s1 ⟨v, H1, I1, r1, x, u', lev, bm, dd, fn, hm, rv, hF, hr, q⟩ => ?_)
    obtain ⟨f, fd, ps, dvs, F, hm', hk, hb, hd, hp⟩ := hF
    rw [hm] at hm'
    cases hm'
    obtain rfl : u = Value.ref f := by
      cases v <;> first | exact r1.trans rv.symm | (obtain ⟨_, z⟩ := rv; cases z) | cases rv
    refine ca.run pos (.ref f) [] _ pins s1 σ H1 hk I1 _ q ?_
    rintro vs zs H2 us ws s2 ⟨B, ρ, ws', us', Y, R, r, rz, h4⟩ I2 r1 r2
    obtain ⟨h1, h2, l, h3, h5⟩ := callW_run R r rz hd hp h4
    exact run_any F hr tk hb I2 r1 r2 h1 h2 h3 h5
  · refine ho σ H _ B ρ Y τ R T (ReOk.imp ?_ (ReOk.bound h))
    rintro v H1 ⟨B1, ρ1, w, Y1, A, r, h1⟩
    cases w with
    | ref _ => exact h1.elim
    | val d =>
      cases d <;> first | exact h1.elim | skip
      rename_i x
      dsimp only at h1
      cases e : sel x with
      | none => rw [e] at h1; exact h1.elim
      | some q =>
        obtain ⟨bm, dd, fn⟩ := q
        rw [e] at h1
        obtain ⟨lev, hF, hr⟩ := hs x bm dd fn e
        cases r
        rename_i u rv hm
        refine ⟨x, u, lev, bm, dd, fn, hm, rv, hF, hr, ?_⟩
        refine ha σ H1 _ B1 ρ1 Y1 τ A.rel (T.aft A) (R2aOk.imp ?_ (R2aOk.bound h1))
        rintro vs us H2 ⟨B2, ρ2, ws, zs, Y2, A2, r2, rz, h2⟩
        exact ⟨B2, ρ2, ws, zs, Y2, A2.rel, r2, rz, h2⟩
end
end MV
set_option Elab.async false
set_option linter.all false
set_option maxRecDepth 100000
set_option maxHeartbeats 4000000
/-! MvKey: sorted(e, key=lambda pair: (KINDS.index(pair[0][0]), pair[0])). -/
namespace MV
open PySem PySem.Spec PyProof.Rows L2
/-- what the library's plain reading of a state asks -/
abbrev bodyK (kn pr : Str) (p1 p2 p3 p4 p5 p6 p7 p8 p9 p10 p11 p12 : Pos) (k1 k2 k3 : Nat) (x1 : Nat) : Expr :=
  .Tuple [.Call (.Attribute (.Name kn p1) "index" p2) [.Subscript (.Subscript (.Name pr p3) (.Constant (.int 0) k1 p4) p5) (.Constant (.int 0) k2 p6) p7] [] p8, .Subscript (.Name pr p9) (.Constant (.int 0) k3 p10) p11] x1 p12
section
variable {prog : Program} {w : World} {A : Around} {E : Value → Shared → Prop} {s : Shared} {env : Env}
/-- t[0] of a tuple -/
theorem first_of {e : Expr} {k : Nat} {p p' : Pos} {t : Addr} {items : Array Value} {x : Value} {Q : Value → Shared → Prop} (he : wpAny (model prog w) A (eval e env) (fun v s1 => v = .ref t ∧ IsTup s1.heap t items ∧ items[0]? = some x ∧ Q x { s1 with toks := s1.toks + 1 }) E s) :
    wpAny (model prog w) A (eval (.Subscript e (.Constant (.int 0) k p) p') env) Q E s := by
  refine Subscript_ (wpAny_mono he (fun v s1 ⟨ev, ht, hx, q⟩ => ?_) fun _ _ h => h)
  subst ev
  refine wpAny_Constant_int (subscriptTail_builtinR (x := x) (T := "tuple") (id := "tuple.__getitem__") ?_ slot_tuple_getitem.lookup (getItem_tuple (j := 0) (items := items) ?_ (by decide) (by decide) ?_ hx ⟨rfl, q⟩))
  · exact ht.typeIs
  · exact ht
  · have h0 : 0 < items.size := (Array.getElem?_eq_some_iff.mp hx).1
    unfold seqIndex?
    simp only [show ¬ ((0 : Int) < 0) by decide, if_false, Int.toNat_zero]
    rw [if_pos (by simpa using h0)]
theorem reads_strs {h : Heap} : ∀ {xs : List Str} {its : List Value}, Vals (xs.map V.str) its → ReadsAll h its (xs.map .str) []
  | [], _, .nil => .nil
  | x :: xs, _, .cons r t => by
    obtain ⟨t', rfl⟩ := r
    exact .cons (.str _ _) (reads_strs t)
theorem key_body {kn pr : Str} {p1 p2 p3 p4 p5 p6 p7 p8 p9 p10 p11 p12 : Pos} {k1 k2 k3 x1 : Nat} {P T Kt : Addr} {ps : Array Value} {its kits : List Value} {xs ks : List Str} {x0 : Str} {j : Nat} {m mg : Str → Option Value} {Q : Value → Shared → Prop}
    (hk : env.scope.kind = .function) (hl : env.kindOf pr = some .local) (hn : s.heap.Ns env.locals m) (hv : m pr = some (.ref P)) (hg : env.kindOf kn = some .globalImplicit) (hng : s.heap.Ns env.globals mg) (hm : mg kn = some (.ref Kt))
    (hP : IsTup s.heap P ps) (hP0 : ps[0]? = some (.ref T)) (hT : IsTup s.heap T its.toArray) (rT : Vals (xs.map V.str) its) (hx0 : xs.head? = some x0) (hK : IsTup s.heap Kt kits.toArray) (hKd : ∃ ob, s.heap.get? Kt = some ob ∧ ob.dict = none) (rK : Vals (ks.map V.str) kits)
    (hj : ks[j]? = some x0) (hno : ∀ m, m < j → ks[m]? ≠ some x0) (hline : (p2.endLine == p8.line) = true)
    (hd1 : (pr == ("__debug__" : Str)) = false) (hd2 : (kn == ("__debug__" : Str)) = false)
    (q : ∀ h' tk u, (∀ b o, s.heap.get? b = some o → h'.get? b = some o) → Reads h' u (.tuple [.int j, .tuple (xs.map .str)]) [] → Q u { s with heap := h', toks := tk }) :
    wpAny (model prog w) A (eval (bodyK kn pr p1 p2 p3 p4 p5 p6 p7 p8 p9 p10 p11 p12 k1 k2 k3 x1) env) Q E s := by
  obtain ⟨i0, r0, e0, t0, hi0⟩ : ∃ i0 r0, its = i0 :: r0 ∧ ∃ t, i0 = Value.str x0 t := by
    cases xs with
    | nil => cases hx0
    | cons y ys =>
      cases hx0
      cases rT with
      | cons r t => obtain ⟨t', e⟩ := r; exact ⟨_, _, rfl, t', e⟩
  subst e0
  have nm : ∀ {Q : Value → Shared → Prop} {tk : Nat} {pp : Pos}, Q (.ref P) { s with toks := tk } → wpAny (model prog w) A (eval (.Name pr pp) env) Q E { s with toks := tk } := fun q => wpAny_Name (wpAny_loadName_local hk hl hn hv q) hd1
  refine wpAny_Tuple_spliced ?_
  change wpAny _ _ (spliced ((false, eval (.Call (.Attribute (.Name kn p1) "index" p2) [.Subscript (.Subscript (.Name pr p3) (.Constant (.int 0) k1 p4) p5) (.Constant (.int 0) k2 p6) p7] [] p8) env) :: (false, eval (.Subscript (.Name pr p9) (.Constant (.int 0) k3 p10) p11) env) :: backTo p12 (starEach [] env))) _ _ _
  refine Calls.spliced_cons (wpAny_Call_method_late rfl rfl hline rfl (Calls.Name_function_global hk hg (Calls.loadGlobal_global hng hm ?_) hd2))
  refine ⟨"tuple", "tuple.index", PySem.F.plainAttrs_tuple, PySem.F.slot_tuple_index, PySem.F.type_tuple_index, hK.typeIs, fun a e => by cases e; exact hKd, ?_⟩
  refine Calls.callWith_builtin rfl (Calls.evalArgs_plain ?_)
  refine Calls.spliced_cons (first_of (t := T) (items := (i0 :: r0).toArray) (x := i0) (first_of (t := P) (items := ps) (x := .ref T) (nm (tk := s.toks) ⟨rfl, hP, hP0, rfl, hT, by simp, Calls.spliced_nil ?_⟩)))
  have hlen : kits.toArray.size = ks.length := by rw [List.size_toArray, ← rK.length, List.length_map]
  have hjl : j < kits.toArray.size := by rw [hlen]; exact (List.getElem?_eq_some_iff.mp hj).1
  have isStr : ∀ (m : Nat) (hm : m < kits.toArray.size), ∃ y t', ks[m]? = some y ∧ kits.toArray[m] = Value.str y t' := fun m hm => by
    have hm' : m < ks.length := by rw [← hlen]; exact hm
    obtain ⟨v, hv, t', hv'⟩ := rK.get (i := m) (x := .str ks[m]) (by simp [hm'])
    refine ⟨ks[m], t', List.getElem?_eq_getElem hm', ?_⟩
    rw [← hv', ← (List.getElem?_eq_some_iff.mp hv).2]
    simp
  obtain ⟨⟨ck, dk, dtk, sk⟩, hok, hck, nk, hdk⟩ := id hK
  simp only at hck hdk
  subst hck
  subst hdk
  subst hi0
  refine call_meets PySem.F.slot_tuple_index hK.typeIs PySem.F.entry_tuple_index (PySem.F.args_tuple_index_2 _ _) (TI.tuple_indexAt Kt kits.toArray nk dk sk (.str x0 t0) (eqU (.str x0)) j hjl ?_ ?_)
    ⟨hok, fun u hu => mem_eqAt (x := .str x0) ⟨t0, rfl⟩ rfl rK (flat_strs ks) u (by simpa using hu), ?_⟩
  · obtain ⟨y, t', h1, h2⟩ := isStr j hjl
    rw [hj] at h1
    cases h1
    rw [h2]
    exact beq_self_eq_true x0
  · intro m hm hmj
    obtain ⟨y, t', h1, h2⟩ := isStr m hm
    rw [h2]
    have hne : x0 ≠ y := fun z => hno m hmj (by rw [z]; exact h1)
    show (y == x0) = false
    exact beq_false_of_ne (Ne.symm hne)
  · refine Calls.spliced_cons (first_of (t := P) (items := ps) (x := .ref T) (nm (tk := _) ⟨rfl, hP, hP0, Calls.spliced_nil ⟨(show 2 ≤ sizeLine by decide), ?_⟩⟩))
    refine q _ _ _ (fun b o e => Heap.get?_push_of_some _ e) ?_
    obtain ⟨oT, hoT, hcT, nT, hdT⟩ := hT
    exact .tuple (as := []) (Heap.get?_push_size _ rfl) rfl rfl (.cons (.int _ _) (.cons (.tuple (as := []) (Heap.get?_push_of_some _ hoT) hcT hdT (reads_strs rT)) .nil))
end
end MV
set_option Elab.async false
set_option linter.all false
set_option maxRecDepth 100000
set_option maxHeartbeats 4000000
/-! MvSortK: sorted(e, key=lambda pair: (KINDS.index(pair[0][0]), pair[0])), the whole. -/
namespace MV
open PySem PySem.Spec PyProof.Rows L2
section
variable {prog : Program} {w : World} {A : Around} {E : Value → Shared → Prop} {s : Shared}
theorem key_call {q kn pr : Str} {params : Arguments} {scope : Scope} {pm ctv : Value} {f c' : Addr} {p1 p2 p3 p4 p5 p6 p7 p8 p9 p10 p11 p12 : Pos} {k1 k2 k3 x1 : Nat} {P T Kt : Addr} {ps : Array Value} {its kits : List Value} {xs ks : List Str} {x0 : Str} {j : Nat} {mg : Str → Option Value}
    (hroom : A.depth < recursionLimit) (hf : s.heap.get? f = some (PySem.W.kla_obj "<lambda>" q params (bodyK kn pr p1 p2 p3 p4 p5 p6 p7 p8 p9 p10 p11 p12 k1 k2 k3 x1) scope [] pm c' ctv))
    (hc : ∃ (oc : Obj) (vs : Array Value) (t : Tok), s.heap.get? c' = some oc ∧ oc.data = .fields vs ∧ vs[1]? = some (.str q t)) (lim : s.heap.NoLimit)
    (hbind : ∀ u, bindArgs (PySem.W.kla_fn "<lambda>" q params (bodyK kn pr p1 p2 p3 p4 p5 p6 p7 p8 p9 p10 p11 p12 k1 k2 k3 x1) scope [] pm (.ref c') ctv) ⟨[u], []⟩ = pure [(pr, u)])
    (kd : scope.kind = .function) (co : scope.isCoroutine = false) (gen : scope.isGenerator = false) (nc : ∀ x ∈ scope.names, x.2 ≠ .cell) (hl : scope.names.lookup pr = some .local) (hg : scope.names.lookup kn = some .globalImplicit)
    (hng : s.heap.Ns mainGlobals mg) (hm : mg kn = some (.ref Kt))
    (hP : IsTup s.heap P ps) (hP0 : ps[0]? = some (.ref T)) (hT : IsTup s.heap T its.toArray) (rT : Vals (xs.map V.str) its) (hx0 : xs.head? = some x0) (hK : IsTup s.heap Kt kits.toArray) (hKd : ∃ ob, s.heap.get? Kt = some ob ∧ ob.dict = none) (rK : Vals (ks.map V.str) kits)
    (hj : ks[j]? = some x0) (hno : ∀ m, m < j → ks[m]? ≠ some x0) (hline : (p2.endLine == p8.line) = true)
    (hd1 : (pr == ("__debug__" : Str)) = false) (hd2 : (kn == ("__debug__" : Str)) = false) :
    wpAny (model prog w) A (call (.ref f) [.ref P]) (PySem.W.KeyPure (.tuple [.int j, .tuple (xs.map .str)]) s) E s := by
  obtain ⟨oc, vs, t, hoc, hdc, hvc⟩ := hc
  refine wpAny_call (PySem.W.kla_callFunE hroom hf rfl co gen rfl ⟨c', oc, vs, t, rfl, hoc, hdc, hvc⟩ ?_)
  rw [hbind]
  refine wpAny_pure (wpAny_newFunctionEnv nc (fun y hy => ?_) (fun h₁ hns hsb => ⟨lim.fresh _ hsb, ?_⟩) kd)
  · rw [List.mem_singleton] at hy
    rw [hy]
    exact hl
  · have kp : ∀ b o, s.heap.get? b = some o → h₁.get? b = some o := fun b o e => hsb.extBut b o (Nat.ne_of_lt (Heap.lt_size e)) (Heap.get?_push_of_some _ e)
    obtain ⟨ob, hob, hod⟩ := hKd
    refine PySem.W.kla_codeExpr (key_body (m := fun x => [(pr, Value.ref P)].reverse.lookup x) kd hl hns ?_ hg (hng.keeps kp) hm (hP.keeps kp) hP0 (hT.keeps kp) rT hx0 (hK.keeps kp) ⟨ob, kp _ _ hob, hod⟩ rK hj hno hline hd1 hd2 fun h' tk u hx hr => ⟨h', tk, rfl, fun b o e => hx b o (kp b o e), hr⟩)
    show (([(pr, Value.ref P)].reverse).lookup pr) = _
    simp [List.lookup]
end
/-! ### the stable sort -/
theorem ins_filter {α : Type} {le : α → α → Bool} {p : α → Bool} {a : α} (h : ∀ b, p a = true → p b = true → le a b = true) : ∀ l : List α, (ins le a l).filter p = (a :: l).filter p
  | [] => rfl
  | b :: r => by
    unfold ins
    cases e : le a b with
    | true => rfl
    | false =>
      dsimp only
      have ih := ins_filter h r
      rw [List.filter_cons, ih]
      cases pa : p a with
      | false => simp [List.filter_cons, pa]
      | true =>
        have pb : p b = false := by
          cases q : p b with
          | false => rfl
          | true => rw [h b pa q] at e; cases e
        simp [List.filter_cons, pa, pb]
theorem srt_merge {α : Type} {le : α → α → Bool} (h : PySem.W.TotalLe le) (l : List α) : srt le l = l.mergeSort le := by
  have tot : ∀ a b, le a b = false → le b a = true := fun a b e => (h.total a b).elim (fun q => by rw [q] at e; cases e) id
  refine PySem.W.sort_unique h (srt_pw h.trans tot l) fun c => ?_
  induction l with
  | nil => rfl
  | cons a r ih =>
    unfold srt
    rw [ins_filter (fun b pa pb => ?_), List.filter_cons, List.filter_cons, ih]
    unfold PySem.W.sameRank at pa pb
    rw [Bool.and_eq_true] at pa pb
    exact h.trans a c b pa.2 pb.1
/-! ### the keys -/
def strsD : List D → Option (List Str)
  | [] => some []
  | .str x :: r => (match strsD r with
    | some l => some (x :: l)
    | none => none)
  | _ => none
def idxS : List Str → Str → Option Nat
  | [], _ => none
  | k :: r, x => (match sEq k x with
    | true => some 0
    | false => (match idxS r x with
      | some j => some (j + 1)
      | none => none))
theorem idxS_at : ∀ {ks : List Str} {x : Str} {j : Nat}, idxS ks x = some j → ks[j]? = some x ∧ ∀ m, m < j → ks[m]? ≠ some x
  | [], _, _, h => by cases h
  | k :: r, x, j, h => by
    unfold idxS at h
    cases e : sEq k x with
    | true =>
      rw [e] at h
      cases h
      rw [sEq_iff.mp e]
      exact ⟨rfl, fun m hm => absurd hm (Nat.not_lt_zero _)⟩
    | false =>
      rw [e] at h
      dsimp only at h
      cases e2 : idxS r x with
      | none => rw [e2] at h; cases h
      | some i =>
        rw [e2] at h
        cases h
        obtain ⟨h1, h2⟩ := idxS_at e2
        refine ⟨by simpa using h1, fun m hm => ?_⟩
        cases m with
        | zero =>
          intro z
          have : k = x := by simpa using z
          rw [sEq_iff.mpr this] at e
          cases e
        | succ m => simpa using h2 m (Nat.lt_of_succ_lt_succ hm)
def itemKey (ks : List Str) (d : D) : Option (Nat × Str × List Str) := match d with
  | .tup (.tup us :: _) => (match strsD us with
    | some (x :: r) => (match idxS ks x with
      | some j => some (j, x, r)
      | none => none)
    | _ => none)
  | _ => none
def keyData : Option (Nat × Str × List Str) → PyData
  | some (j, x, r) => .tuple [.int j, .tuple ((x :: r).map .str)]
  | none => .none
def leK (ks : List Str) (a b : D) : Bool := PySem.W.dataLe false (fun d => keyData (itemKey ks d)) a b
def haveKeys (ks : List Str) : List D → Bool
  | [] => true
  | d :: r => (match itemKey ks d with
    | some _ => haveKeys ks r
    | none => false)
theorem haveKeys_at {ks : List Str} : ∀ {ds : List D}, haveKeys ks ds = true → ∀ d ∈ ds, ∃ q, itemKey ks d = some q
  | [], _, d, h => by cases h
  | d :: r, e, d', h => by
    unfold haveKeys at e
    cases e2 : itemKey ks d with
    | none => rw [e2] at e; cases e
    | some q =>
      rw [e2] at e
      rcases List.mem_cons.mp h with z | z
      · rw [z]; exact ⟨q, e2⟩
      · exact haveKeys_at e d' z
theorem alike_strs : ∀ a b : List Str, PySem.W.alikeAll (a.map .str) (b.map .str) = true
  | [], _ => by unfold PySem.W.alikeAll; rfl
  | _ :: _, [] => by unfold PySem.W.alikeAll; rfl
  | x :: a, y :: b => by
    show PySem.W.alikeAll (.str x :: a.map .str) (.str y :: b.map .str) = true
    rw [PySem.W.alikeAll, alike_strs a b]
    rfl
theorem depth_strs : ∀ a : List Str, PyData.depthAll (a.map .str) = 0
  | [] => rfl
  | x :: a => by
    show max (PyData.depth (.str x)) (PyData.depthAll (a.map .str)) = 0
    rw [depth_strs a]
    rfl
theorem key_alike (a b : Nat × Str × List Str) : PySem.W.alike (keyData (some a)) (keyData (some b)) = true := by
  obtain ⟨i, x, r⟩ := a
  obtain ⟨j, y, t⟩ := b
  unfold keyData
  have := alike_strs (x :: r) (y :: t)
  simp only [PySem.W.alike, PySem.W.alikeAll, Bool.and_true, Bool.true_and]
  exact this
theorem key_depth (a : Nat × Str × List Str) : PyData.depth (keyData (some a)) ≤ 2 := by
  obtain ⟨i, x, r⟩ := a
  unfold keyData
  simp only [PyData.depth, PyData.depthAll]
  rw [depth_strs]
  decide
def dSortK (ks : List Str) (fe : Den) : Den := fun τ Y => (fe τ Y).bind fun w Y1 => match lsOf' Y1 w with
  | some ws => (match dats ws with
    | some ds => (match haveKeys ks ds with
      | true => .ok (.val (.lst (srt (leK ks) ds))) Y1
      | false => .bad)
    | none => .bad)
  | none => .bad
end MV
namespace MV
open PySem PySem.Spec PyProof.Rows L2
theorem strsD_at {G : Gx} {B : Hp} : ∀ {vs : List V} {ds : List D} {l : List Str}, Reps G B vs ds → strsD ds = some l → vs = l.map V.str
  | _, [], _, .nil, h => by cases h; rfl
  | _, d :: ds, l, .cons r t, h => by
    cases d <;> first | cases h | skip
    rename_i x
    unfold strsD at h
    cases e : strsD ds with
    | none => rw [e] at h; cases h
    | some m =>
      rw [e] at h
      cases h
      rw [strsD_at t e, rep_str r]
      rfl
theorem each_of {G : Gx} {B : Hp} : ∀ {vs : List V} {its : List Value} {ds : List D}, Vals vs its → Reps G B vs ds → PySem.W.EachIs (fun u d => ∃ v, RelV v u ∧ Rep G B v d) its ds
  | _, _, _, .nil, .nil => .nil
  | _, _, _, .cons r t, .cons r' t' => .cons ⟨_, r, r'⟩ (each_of t t')
theorem of_each {G : Gx} {B : Hp} : ∀ {its : List Value} {ds : List D}, PySem.W.EachIs (fun u d => ∃ v, RelV v u ∧ Rep G B v d) its ds → ∃ vs, Vals vs its ∧ Reps G B vs ds
  | _, _, .nil => ⟨[], .nil, .nil⟩
  | _, _, .cons ⟨v, r, r'⟩ t => let ⟨vs, h1, h2⟩ := of_each t; ⟨v :: vs, .cons r h1, .cons r' h2⟩
/-- a tuple of the written part -/
def KTup (K : PySem.W.Frag) (a : Addr) (vs : List V) : Prop := ∃ (o : Obj) (its : Array Value) (n : Nat), K.lookup a = some o ∧ o.cls = .type "tuple" ∧ o.dict = none ∧ o.data = .seq its n ∧ its.size ≤ sizeLine ∧ Vals vs its.toList
section
variable {cls : Cl} {X : Cx} {W : WX} {e : Expr} {fe : Den} {kn pr : Str} {p lp kp pos : Pos} {p1 p2 p3 p4 p5 p6 p7 p8 p9 p10 p11 p12 : Pos} {k1 k2 k3 x1 k : Nat} {Kt c P : Addr} {ks : List Str} {params : Arguments} {scope : Scope}
theorem d_sortK (he : DE cls X W e fe) (hm : X.mg "sorted" = none) (hmk : X.mg kn = some (.ref Kt)) (hkt : KTup X.K Kt (ks.map V.str)) (hr : Room 1 X.A)
    (TB : LamX.TabB X.base X.mg c P) (hcode : X.env.code = .ref c) (hmT : (P, X.env.qual ++ "<lambda>") ∈ cls.T) (hu : ∀ p ∈ cls.T, p.1 = P → p.2 = X.env.qual ++ "<lambda>")
    (nc : ∀ x ∈ scope.names, x.2 ≠ .cell := by decide +kernel) (nf : ∀ x ∈ scope.names, x.2 ≠ .free := by decide +kernel) (kd : scope.kind = .function := by rfl) (co : scope.isCoroutine = false := by rfl) (gen : scope.isGenerator = false := by rfl) (hl : scope.names.lookup pr = some .local := by rfl) (hgk : scope.names.lookup kn = some .globalImplicit := by rfl)
    (hg : Gl X "sorted" := by rfl) (hdef : defaultsOf params X.env = ([], []) := by rfl)
    (hbind : ∀ (q : Str) (pm cv ctv u : Value), bindArgs (PySem.W.kla_fn "<lambda>" q params (bodyK kn pr p1 p2 p3 p4 p5 p6 p7 p8 p9 p10 p11 p12 k1 k2 k3 x1) scope [] pm cv ctv) ⟨[u], []⟩ = pure [(pr, u)] := by intros; rfl)
    (hclo : ∀ cl, cloFrom cl scope.names [] = [] := by intro _; rfl) (hline : (p2.endLine == p8.line) = true := by rfl) (hd1 : (pr == ("__debug__" : Str)) = false := by decide) (hd2 : (kn == ("__debug__" : Str)) = false := by decide)
    (hs : backTo pos (starEach [e] X.env) = (false, eval e X.env) :: backTo pos (starEach [] X.env) := by rfl) (hpl : (backTo pos (starEach [e] X.env)).any (·.1) = false := by rfl) :
    DE cls X W (.Call (.Name "sorted" p) [e] [⟨some "key", .Lambda params (bodyK kn pr p1 p2 p3 p4 p5 p6 p7 p8 p9 p10 p11 p12 k1 k2 k3 x1) scope lp, kp⟩] pos) (dSortK ks fe) := by
  obtain ⟨te, pe, he⟩ := he
  refine ⟨canE (gx cls X) W (dSortK ks fe), ⟨fun pins s σ H Q I h => ?_⟩, fun σ H Q B ρ Y τ R T h => ⟨B, ρ, Y, τ, R, T, h⟩⟩
  obtain ⟨B, ρ, Y, τ, R, T, h⟩ := h
  refine wpAny_Call_Name_kw (ld_blt I hg hm rfl (PyProof.Rows.callWith_kw ?_ hs hpl rfl rfl) (by decide) (by decide))
  rw [hs]
  refine Calls.spliced_cons (thn (pe.run pins s σ H _ I (he σ H _ B ρ Y τ R T (ReOk.bound h))) fun u s1 ⟨v, H1, I1, r1, B1, ρ1, w, Y1, A, r, h1⟩ => Calls.spliced_nil ?_)
  change wpAny _ _ (evalAll [(do let v ← eval (.Lambda params (bodyK kn pr p1 p2 p3 p4 p5 p6 p7 p8 p9 p10 p11 p12 k1 k2 k3 x1) scope lp) X.env; standAt pos; pure v)]) _ _ _
  refine wpAny_evalAll_cons (wpAny_bind (LamX.lam_make2 I1 TB hcode hmT hu A.rel.tabs.1 hdef (fun y hy z => absurd z (nf y hy)) fun f c' pm' ctv H2 s2 I2 eN T2 hf hfn hfr hco => wpAny_bind (wpAny_standAt (wpAny_pure (wpAny_evalAll_nil ?_)))))
  have A2 := Aft.tab A.rel eN T2
  have h2 := ReOk.behind A2 h1
  have R2 := A2.rel
  have r2 := WRep.aft A2 r
  rw [hclo] at hf
  clear h h1
  cases e1 : lsOf' Y1 w with
  | none => rw [e1] at h2; exact h2.elim
  | some ws =>
    rw [e1] at h2
    dsimp only at h2
    cases e2 : dats ws with
    | none => rw [e2] at h2; exact h2.elim
    | some ds =>
      rw [e2] at h2
      dsimp only at h2
      cases e3 : haveKeys ks ds with
      | false => rw [e3] at h2; exact h2.elim
      | true =>
        rw [e3] at h2
        obtain ⟨l, vs, rfl, hl2, hz, rw2⟩ := lsOf'_at R2 r2 e1
        have rd := reps_dats rw2 e2
        obtain rfl : u = Value.ref l := r1
        obtain ⟨its, rv, pl, _⟩ := I2.list (.inl (.inl hl2))
        have hk := haveKeys_at e3
        obtain ⟨ot, kits, nt, ko1, ko2, ko3, ko4, ko5, rK⟩ := hkt
        have hKt : s2.heap.get? Kt = some ot := I2.kIn _ _ ko1
        obtain ⟨⟨oc, cvs, ct, hoc, hdc, hvc⟩, _, _⟩ := I2.hok c' _ hco
        have hlen : ds.length = vs.length := rd.length.symm
        refine PySem.W.sorted_key_data (β := D) (R := fun u d => ∃ v, RelV v u ∧ Rep (gx cls X) B1 v d) (vs := its) (bs := ds) (b := false) (f := .ref f) (fun d => keyData (itemKey ks d)) ?_ (each_of rv rd) ?_ ?_ ?_ ?_ (PyProof.Rows.ksk_s1 _ _) (fun _ => PyProof.Rows.ksk_l1 _ _) (fun x => PyProof.Rows.ksk_t1 f x) ?_ ?_
        · obtain ⟨o, n, q1, q2, _, q3⟩ := pl
          exact ⟨o, q1, q2, n, q3⟩
        · intro d hd d' hd'
          obtain ⟨a, ha, rfl⟩ := List.mem_map.mp hd
          obtain ⟨b, hb, rfl⟩ := List.mem_map.mp hd'
          obtain ⟨qa, ea⟩ := hk a ha
          obtain ⟨qb, eb⟩ := hk b hb
          rw [ea, eb]
          exact key_alike qa qb
        · refine .inl fun d hd => ?_
          obtain ⟨a, ha, rfl⟩ := List.mem_map.mp hd
          obtain ⟨⟨j, x, r⟩, ea⟩ := hk a ha
          rw [ea]
          exact ⟨_, _, rfl⟩
        · rw [hlen]; exact hz
        · intro a ha
          obtain ⟨qa, ea⟩ := hk a ha
          rw [ea]
          have := key_depth qa
          have := hr.un
          omega
        · intro u d hR hd h' tk ext
          obtain ⟨⟨j, x0, xr⟩, ea⟩ := hk d hd
          obtain ⟨v, rvu, rep⟩ := hR
          rw [ea]
          unfold itemKey at ea
          cases rep with
          | @tup P0 pvs pds hB hzz rps => ?_
          | _ => cases ea
          cases pds with
          | nil => cases ea
          | cons d0 dr =>
            cases rps with
            | cons rep0 rpr =>
              cases rep0 with
              | @tup T0 tvs us hBT hzT rts => ?_
              | _ => cases ea
              dsimp only at ea
              cases e5 : strsD us with
              | none => rw [e5] at ea; cases ea
              | some l5 =>
                rw [e5] at ea
                cases l5 with
                | nil => cases ea
                | cons y yr =>
                  dsimp only at ea
                  cases e6 : idxS ks y with
                  | none => rw [e6] at ea; cases ea
                  | some j' =>
                    rw [e6] at ea
                    cases ea
                    obtain ⟨hj, hno⟩ := idxS_at e6
                    obtain rfl : u = Value.ref P0 := rvu
                    obtain ⟨pits, prv, ptup, _⟩ := I2.tuple (.inl (.inl (R2.tup hB)))
                    obtain ⟨tits, trv, ttup, _⟩ := I2.tuple (.inl (.inl (R2.tup hBT)))
                    rw [strsD_at rts e5] at trv
                    have pits0 : pits.toArray[0]? = some (.ref T0) := by
                      cases prv with
                      | cons q _ =>
                        obtain rfl := (show _ = Value.ref T0 from q)
                        simp
                    have kb : ∀ b o, X.base.get? b = some o → h'.get? b = some o := fun b o q => ext b o (I2.bk b o q)
                    refine key_call (s := { s2 with heap := h', toks := tk }) (c' := c') (T := T0) (x0 := x0) (mg := X.mg) hr.depth (ext _ _ hf) ⟨oc, cvs, ct, ext _ _ hoc, hdc, hvc⟩ (I2.ok.mod.nolimit.keeps kb) (hbind _ _ _ _) kd co gen nc hl hgk (I2.mod.glob.keeps kb) hmk (ptup.keeps ext) pits0 (ttup.keeps ext) trv rfl ⟨ot, ext _ _ hKt, ko2, nt, by simpa using ko4⟩ ⟨ot, ext _ _ hKt, ko3⟩ rK hj hno hline hd1 hd2
        · intro out c0 h' tk ext fr hget hol each
          rw [← srt_merge (le := PySem.W.dataLe false fun d => keyData (itemKey ks d)) (PySem.W.sortLe_total _ _ _)] at each
          obtain ⟨vs', rv', rd'⟩ := of_each each
          have hf2 : H2 (s2.heap.objs.size + 1) = none := I2.hok.fresh (Nat.le_succ _)
          have hz' : vs'.length ≤ sizeLine := by
            rw [rv'.length, hol, hlen]
            exact hz
          refine ⟨.ref (s2.heap.objs.size + 1), upd H2 (s2.heap.objs.size + 1) (.lst vs'), I2.laid ext (Nat.le_succ _) ⟨hz', out, c0, rv', hget⟩, rfl, ?_⟩
          have A3 := Aft.new R2 (.lst vs') hf2
          exact h2 _ _ _ _ A3 (.lst upd_same hz' (rd'.le A3.le))
end
end MV
set_option Elab.async false
set_option linter.all false
set_option maxRecDepth 100000
set_option maxHeartbeats 4000000
/-! MvListIt: list(d.items()), the keys of d tuples. -/
namespace MV
open PySem PySem.Spec PyProof.Rows L2
def prsD : List (List Key × D) → List D
  | [] => []
  | (k, d) :: r => .tup [.tup (keyDs k), d] :: prsD r
theorem prsD_len : ∀ l : List (List Key × D), (prsD l).length = l.length
  | [] => rfl
  | _ :: r => congrArg (· + 1) (prsD_len r)
/-- the entries as data -/
def datsK {κ : Type} : List (κ × W) → Option (List (κ × D))
  | [] => some []
  | (k, .val d) :: r => (match datsK r with
    | some l => some ((k, d) :: l)
    | none => none)
  | (_, .ref _) :: _ => none
theorem datsK_at {G : Gx} {B : Hp} {ρ : Nat → Addr} {n : Nat} {κ : Type} : ∀ {kvs : List (κ × V)} {kws : List (κ × W)} {kds : List (κ × D)}, WRepK G B ρ n kvs kws → datsK kws = some kds → RepKV G B kvs kds
  | _, _, _, .nil, h => by cases h; exact .nil
  | (k0, v) :: _, (k, w) :: kws, _, .cons r t, h => by
    obtain ⟨e, r⟩ := r
    obtain rfl : k0 = k := e
    cases w with
    | ref _ => cases h
    | val d =>
      unfold datsK at h
      cases q : datsK kws with
      | none => rw [q] at h; cases h
      | some l =>
        rw [q] at h
        cases h
        exact .cons r (datsK_at t q)
def dTOf (Y : Ys) : W → Option (List (List Key × D))
  | .val (.dT kds) => some kds
  | .ref n => (match Y[n]? with
    | some (.dT kws) => datsK kws
    | _ => none)
  | _ => none
theorem dTOf_at {G : Gx} {B H : Hp} {ρ : Nat → Addr} {Y : Ys} (R : Rel G B H ρ Y) {x : V} {w : W} {kds : List (List Key × D)} (a : WRep G B ρ Y.length x w) (e : dTOf Y w = some kds) : ∃ p kvs, x = .ref p ∧ Rd H p (.dT kvs) ∧ RepKV G B kvs kds := by
  cases w with
  | val d =>
    cases d <;> first | cases e | skip
    cases a with
    | dT h r => exact ⟨_, _, rfl, R.dT h, r⟩
  | ref n =>
    obtain ⟨hn, rfl⟩ := a
    unfold dTOf at e
    dsimp only at e
    cases q : Y[n]? with
    | none => rw [q] at e; cases e
    | some yo =>
      rw [q] at e
      cases yo <;> first | cases e | skip
      rename_i kws
      obtain ⟨kvs, h1, h2⟩ := R.obj n _ q
      exact ⟨_, kvs, rfl, .inl h1, datsK_at h2 e⟩
section
variable {cls : Cl} {X : Cx}
theorem lay_rows {pins : List (Addr × Obj)} {σ : L2.St} {H0 : Hp} {s : Shared} {h' : Heap} {tk : Nat} (I0 : Inv X pins σ H0 s) : ∀ {kvs : List (List Key × V)} {xs : List (List Key × Addr × Value)} {kds : List (List Key × D)} {as : List Addr} {B H : Hp} {ρ : Nat → Addr} {Y : Ys}, KT H kvs xs → RepKV (gx cls X) B kvs kds →
    as.length = xs.length → (∀ (j : Nat) (a : Addr), as[j]? = some a → ∃ x, xs[j]? = some x ∧ h'.get? a = some { cls := .type "tuple", data := .seq #[.ref x.2.1, x.2.2] }) → as.Nodup → (∀ a ∈ as, s.heap.objs.size ≤ a ∧ H a = none) →
    Inv X pins σ H { s with heap := h', toks := tk } → Rel (gx cls X) B H ρ Y →
    ∃ H2 B2, Inv X pins σ H2 { s with heap := h', toks := tk } ∧ Aft (gx cls X) B H ρ Y B2 H2 ρ Y ∧ Reps (gx cls X) B2 (as.map V.ref) (prsD kds) ∧ ∀ b, b ∉ as → H2 b = H b
  | [], [], _, as, B, H, ρ, Y, .nil, r, hl, _, _, _, I, R => by
    cases r
    cases as with
    | nil => exact ⟨H, B, I, Aft.refl R, .nil, fun _ _ => rfl⟩
    | cons a as => cases hl
  | (k, v) :: kvs, (k', b, u) :: xs, _, as, B, H, ρ, Y, .cons ⟨hk, hb, hv⟩ t, r, hl, hp, hn, ha, I, R => by
    cases r with
    | @cons _ _ _ d _ ds r1 rt =>
      cases as with
      | nil => cases hl
      | cons a as =>
        dsimp only at hk hb hv
        subst hk
        rw [List.nodup_cons] at hn
        obtain ⟨hsz, hna⟩ := ha a (List.mem_cons_self ..)
        obtain ⟨x, ex, hobj⟩ := hp 0 a rfl
        cases ex
        obtain ⟨B1, A1, hB1⟩ := Aft.seen R hb
        obtain ⟨hkl, _⟩ := I.hok b _ hb
        have A2 := Aft.new A1.rel (.tup [.ref b, v]) hna
        have A := A1.trans A2
        have I2 : Inv X pins σ (upd H a (.tup [.ref b, v])) { s with heap := h', toks := tk } := I.take (h' := h') (t' := tk) (fun _ _ _ e => e) (I0.fpOk hsz hna) ⟨(show 2 ≤ sizeLine by decide), [.ref b, u], .cons rfl (.cons hv .nil), ⟨_, hobj, rfl, _, rfl⟩⟩
        obtain ⟨H2, B2, I3, A3, rs, off⟩ := lay_rows (h' := h') (tk := tk) (as := as) I0 (KT.keeps t fun c ys e => by rw [upd_ne (ne_of_none e hna)]; exact e) (rt.le A.le) (Nat.succ.inj hl) (fun j c e => hp (j + 1) c e) hn.2
          (fun c hc => ⟨(ha c (List.mem_cons_of_mem _ hc)).1, by rw [upd_ne (fun z => hn.1 (by rw [← z]; exact hc))]; exact (ha c (List.mem_cons_of_mem _ hc)).2⟩) I2 A.rel
        refine ⟨H2, B2, I3, A.trans A3, .cons ?_ rs, fun c hc => ?_⟩
        · refine Rep.le A3.le (.tup upd_same (show 2 ≤ sizeLine by decide) (.cons ?_ (.cons (r1.le A.le) .nil)))
          exact .tup (A2.le _ _ hB1) hkl (kVs_keyDs k)
        · rw [off c (fun z => hc (List.mem_cons_of_mem _ z)), upd_ne (fun z => hc (by rw [z]; exact List.mem_cons_self ..))]
end
def dListItems (fe : Den) : Den := fun τ Y => (fe τ Y).bind fun w Y1 => match dTOf Y1 w with
  | some kds => .ok (.val (.lst (prsD kds))) Y1
  | none => .bad
section
variable {cls : Cl} {X : Cx} {W : WX} {e : Expr} {fe : Den} {p apos cpos pos : Pos}
theorem d_listItems (hc : X.calm = true) (he : DE cls X W e fe) (hm : X.mg "list" = none) (hg : Gl X "list" := by rfl) (hbase : attributeBase e "items" X.env (eval e X.env) = eval e X.env := by rfl) (hline : (apos.endLine == cpos.line) = true := by rfl)
    (hs : starEach [.Call (.Attribute e "items" apos) [] [] cpos] X.env = (false, eval (.Call (.Attribute e "items" apos) [] [] cpos) X.env) :: starEach [] X.env := by rfl) :
    DE cls X W (.Call (.Name "list" p) [.Call (.Attribute e "items" apos) [] [] cpos] [] pos) (dListItems fe) := by
  obtain ⟨te, pe, he⟩ := he
  refine ⟨canE (gx cls X) W (dListItems fe), ⟨fun pins s σ H Q I h => ?_⟩, fun σ H Q B ρ Y τ R T h => ⟨B, ρ, Y, τ, R, T, h⟩⟩
  obtain ⟨B, ρ, Y, τ, R, T, h⟩ := h
  refine wpAny_Call_Name_kw (ld_blt I hg hm rfl (PyProof.Rows.callWith_type1 ?_ hs rfl) (by decide) (by decide))
  rw [hs]
  change wpAny _ _ (spliced ((false, eval (.Call (.Attribute e "items" apos) [] [] cpos) X.env) :: backTo pos (starEach [] X.env))) _ _ _
  refine Calls.spliced_cons (wpAny_Call_method (T := "dict") (id := "dict.items") hbase rfl hline F.plainAttrs_dict F.slot_dict_items F.type_dict_items (thn (pe.run pins s σ H _ I (he σ H _ B ρ Y τ R T (ReOk.bound h))) fun u s1 ⟨v, H1, I1, r1, B1, ρ1, w, Y1, A, r, h1⟩ => ?_))
  cases e1 : dTOf Y1 w with
  | none => rw [e1] at h1; exact h1.elim
  | some kds =>
    rw [e1] at h1
    obtain ⟨d, kvs, rfl, hd, rk⟩ := dTOf_at A.rel r e1
    obtain rfl : u = Value.ref d := r1
    obtain ⟨hz, hs0, xs, kt, o, es, ep, ho, hx, hdat, hes, _⟩ := dt_rd I1.hok hd
    have raw : s1.heap.DictRaw d es ep := ⟨o, ho, hx, hdat⟩
    have lx : kvs.length = xs.length := Paired.length kt
    have les : es.size = xs.length := by rw [← Array.length_toList, hes, List.length_map]
    refine ⟨raw.typeIs, fun a ea => by cases ea; exact ⟨o, ho, hx.2.1⟩, ?_⟩
    refine method_meetsIn F.slot_dict_items F.entry_dict_items rfl (PySem.evalArgs_none ⟨rfl, raw.typeIs, F.args_dict_items_1 _, _, meets_dict_items_raw d hs0, ⟨es, ep, raw⟩, Calls.spliced_nil ?_⟩)
    have I2 : Inv X pins σ H1 { s1 with heap := s1.heap.push { cls := .type "dict_items", data := .fields #[.ref d] } } := I1.kept (t' := s1.toks) fun b ob q => Heap.get?_push_of_some _ q
    refine PySem.W.dil_call (es := es) (ep := ep) (I1.ok.hd hc) ⟨_, Heap.get?_push_size _ rfl, rfl, rfl⟩ (raw.at fun ob q => Heap.get?_push_of_some _ q) (by omega) fun h' tk acc c as hk hS hl hG hacc => ?_
    have I3 : Inv X pins σ H1 { s1 with heap := h', toks := tk } := I2.kept (t' := tk) hk
    have nd : as.Nodup := List.Pairwise.imp (fun {a b} (q : a < b) => Nat.ne_of_lt q) hG.rise
    have has : ∀ (j : Nat) (a : Addr), as[j]? = some a → ∃ x, xs[j]? = some x ∧ h'.get? a = some { cls := .type "tuple", data := .seq #[.ref x.2.1, x.2.2] } := fun j a e => by
      obtain ⟨hj, q⟩ := hG.pairs j a e
      have hjx : j < xs.length := by omega
      refine ⟨xs[j], List.getElem?_eq_getElem hjx, ?_⟩
      have e2 : es[j] = entryOfKey (tupleKind (mixKind X.prog X.w)) xs[j] := by
        have : es.toList[j]? = some es[j] := by simp
        rw [hes, List.getElem?_map, List.getElem?_eq_getElem hjx] at this
        exact (Option.some.inj this).symm
      rw [q, e2]
      rfl
    obtain ⟨H2, B2, I4, A4, rs, off⟩ := lay_rows (cls := cls) (h' := h') (tk := tk) (as := as) I2 kt rk (hl.trans les) has nd (fun a q => ⟨Nat.le_of_lt (hG.above a q), I2.hok.fresh (Nat.le_of_lt (hG.above a q))⟩) I3 A.rel
    have hS0 : H1 (s1.heap.push { cls := .type "dict_items", data := .fields #[.ref d] }).objs.size = none := I2.hok.fresh (Nat.le_refl _)
    have hS2 : H2 (s1.heap.push { cls := .type "dict_items", data := .fields #[.ref d] }).objs.size = none := by
      rw [off _ (fun z => Nat.lt_irrefl _ (hG.above _ z))]
      exact hS0
    have hlen : (as.map V.ref).length ≤ sizeLine := by
      rw [List.length_map]
      omega
    have I5 := I4.take (h' := h') (t' := tk) (it := (s1.heap.push { cls := .type "dict_items", data := .fields #[.ref d] }).objs.size) (o := .lst (as.map V.ref)) (fun _ _ _ e => e) (I2.fpOk (Nat.le_refl _) hS2)
      ⟨hlen, acc.toList, c, by rw [hacc]; exact LiI.vals_refs as, by rw [Array.toArray_toList]; exact hS⟩
    have A5 := Aft.new A4.rel (.lst (as.map V.ref)) hS2
    exact ⟨.ref _, _, I5, rfl, ReOk.behind A4 h1 _ _ _ _ A5 (.lst upd_same hlen (rs.le A5.le))⟩
end
end MV
set_option Elab.async false
set_option linter.all false
set_option maxRecDepth 100000
set_option maxHeartbeats 4000000
/-! MvDictP: dict(pairs), keys that are tuples; keys that are texts or ints. -/
namespace MV
open PySem PySem.Spec PyProof.Rows L2
def mergeT (kvs more : List (List Key × V)) : List (List Key × V) := more.foldl (fun acc kv => putK acc kv.1 kv.2) kvs
theorem mergeT_len : ∀ (more kvs : List (List Key × V)), (mergeT kvs more).length ≤ kvs.length + more.length
  | [], kvs => Nat.le_refl _
  | p :: r, kvs => by
    have h1 := mergeT_len r (putK kvs p.1 p.2)
    have h2 := length_putK kvs p.1 p.2
    simp only [List.length_cons]
    show (mergeT (putK kvs p.1 p.2) r).length ≤ _
    omega
theorem kt_merge {H : Hp} : ∀ {more : List (List Key × V)} {ys : List (List Key × Addr × Value)} {kvs : List (List Key × V)} {xs : List (List Key × Addr × Value)}, KT H more ys → KT H kvs xs → KT H (mergeT kvs more) (storedAllH xs ys)
  | _, _, _, _, .nil, q => q
  | _, _, _, _, .cons ⟨h1, h2, h3⟩ t, q => by
    show KT _ (mergeT (putK _ _ _) _) (storedAllH (storedH _ _ _ _) _)
    refine kt_merge t ?_
    rw [← h1]
    exact KT.put q _ h2 h3
theorem rows_of {P : Program} {w : World} {H : Hp} {h : Heap} (ok : HOk P w H h) : ∀ {qs : List Addr} {kvs : List (List Key × V)}, Paired (fun q kv => ∃ b, H q = some (.tup [.ref b, kv.2]) ∧ H b = some (.tup (kv.1.map kV))) qs kvs →
    ∃ xs, KT H kvs xs ∧ Paired (fun (q : Addr) (x : List Key × Addr × Value) => h.IsTuple q #[.ref x.2.1, x.2.2]) qs xs
  | _, _, .nil => ⟨[], .nil, .nil⟩
  | q :: _, kv :: _, .cons ⟨b, h1, h2⟩ t => by
    obtain ⟨xs, k, p⟩ := rows_of ok t
    obtain ⟨_, its, r, o, e1, e2, n, e3⟩ := ok q _ h1
    cases r with
    | cons r1 r' =>
      cases r' with
      | cons r2 r3 =>
        cases r3
        rename_i u1 u2
        obtain rfl : u1 = Value.ref b := r1
        exact ⟨(kv.1, b, u2) :: xs, .cons ⟨rfl, h2, r2⟩ k, .cons ⟨o, e1, e2, n, e3⟩ p⟩
abbrev rDictT (K : PySem.W.Frag) : List V → Hp → VK → Prop := fun xs H Q => ∃ (a : Addr) (qs : List Addr) (kvs : List (List Key × V)), xs = [.ref a] ∧ SqL K H a (qs.map V.ref) ∧ Paired (fun q kv => ∃ b, H q = some (.tup [.ref b, kv.2]) ∧ H b = some (.tup (kv.1.map kV))) qs kvs ∧
  ∀ p, H p = none → Q (.ref p) (upd H p (.dT (mergeT [] kvs)))
theorem call_dictT {X : Cx} (hcalm : X.calm = true) (hu : X.A.units + 2 < cLine) : CallR X (.type "dict") (rDictT X.K) := by
  intro pins s σ H xs us Q I r q
  obtain ⟨a, qs, kvs, rfl, hq, hp, q⟩ := q
  obtain ⟨u, rfl, rx⟩ := vals1 r
  obtain rfl : u = Value.ref a := rx
  obtain ⟨its, rv, pl, hz⟩ := I.list hq
  obtain rfl := refs_at rv
  rw [List.length_map] at hz
  obtain ⟨ys, kt, pr⟩ := rows_of I.hok hp
  obtain ⟨o, n, ho, hc, hd, hdat⟩ := pl
  have ly : qs.length = ys.length := Paired.length pr
  have lk : kvs.length = ys.length := Paired.length kt
  let ps : List (Value × Value) := ys.map fun x => (.ref x.2.1, x.2.2)
  have hps : ps.length = ys.length := List.length_map _
  have get : ∀ (j : Nat) (k v : Value), ps[j]? = some (k, v) → ∃ x, ys[j]? = some x ∧ k = .ref x.2.1 ∧ v = x.2.2 := fun j k v e => by
    rw [List.getElem?_map] at e
    cases e2 : ys[j]? with
    | none => rw [e2] at e; cases e
    | some x =>
      rw [e2] at e
      cases e
      exact ⟨x, rfl, rfl, rfl⟩
  refine PySem.call_dict_pairsH (knd := tupleKind (mixKind X.prog X.w)) (ps := ys) (PairArg.list a (qs.map Value.ref).toArray (fun j => qs.getD j 0) ps) (I.ok.hd hcalm) hu ⟨⟨o, n, ho, hc, hd, hdat⟩, ?_, fun j k v e => ?_⟩ ⟨hps.symm, fun i key v e => ?_⟩ (fun h' hk x hx => ?_) (by omega) fun h' tk hdo kp => ?_
  · rw [List.size_toArray, List.length_map, ly, hps]
  · obtain ⟨x, ex, rfl, rfl⟩ := get j k v e
    obtain ⟨qa, eq, ht⟩ := Paired.get pr ex
    refine ⟨?_, .inl ?_⟩
    · simp [eq]
    · dsimp only
      rw [List.getD_eq_getElem?_getD, eq]
      exact ht
  · obtain ⟨x, ex, rfl, rfl⟩ := get i key v e
    exact ⟨x.1, x.2.1, ex, rfl⟩
  · obtain ⟨j, hj⟩ := List.mem_iff_getElem?.mp hx
    obtain ⟨kv, ek, h1, h2, h3⟩ := Paired.get kt hj
    have hk2 := key_of I.hok h2
    rw [h1] at hk2
    obtain ⟨ob, its, n, e1, e2, e3, e4⟩ := hk2
    exact ⟨ob, its, n, hk _ _ (Nat.ne_of_lt (Heap.lt_size e1)) (by simp) e1, e2, e3, e4⟩
  · have kp' : ∀ b u, s.heap.get? b = some u → h'.get? b = some u := fun b u e => kp b u (by simp) e
    have hm : (s.heap.objs.size == sysModules) = false := beq_eq_false_iff_ne.mpr (Nat.ne_of_gt I.big)
    have hf : H s.heap.objs.size = none := I.hok.fresh (Nat.le_refl _)
    have hlen : (mergeT [] kvs).length ≤ sizeLine := by
      refine Nat.le_trans (mergeT_len kvs []) ?_
      rw [List.length_nil, Nat.zero_add]
      omega
    obtain ⟨od, es, ep, h1, h2, h3, h4, _, h5⟩ := hdo
    have kt' : KT (upd H s.heap.objs.size (.dT (mergeT [] kvs))) (mergeT [] kvs) (storedAllH [] ys) := KT.keeps (kt_merge kt .nil) fun b zs e => by rw [upd_ne (ne_of_none e hf)]; exact e
    exact ⟨.ref s.heap.objs.size, _, I.laid (t' := tk) kp' (Nat.le_refl _) (show ObjOk X.prog X.w _ _ _ (.dT (mergeT [] kvs)) from ⟨hlen, hm, storedAllH [] ys, kt', od, es, ep, h1, h2, h3, h4, h5⟩), rfl, q _ hf⟩

/-! ### by data -/
/-- the pairs, keys tuples -/
def pairsT : List D → Option (List (List Key × D))
  | [] => some []
  | .tup [.tup us, d] :: r => (match keysOf us, pairsT r with
    | some k, some l => some ((k, d) :: l)
    | _, _ => none)
  | _ => none
def mergeD {κ : Type} (eq : κ → κ → Bool) : List (κ × D) → List (κ × D) → List (κ × D)
  | acc, [] => acc
  | acc, (k, d) :: r => mergeD eq (kPut eq acc k d) r
def gDictT : GL := fun ws Y => match ws with
  | [w] => (match lsOf' Y w with
    | some us => (match dats us with
      | some ds => (match pairsT ds with
        | some l => .ok (.val (.dT (mergeD ksEq [] l))) Y
        | none => .bad)
      | none => .bad)
    | none => .bad)
  | _ => .bad
section
variable {G : Gx} {B H : Hp} {ρ : Nat → Addr} {Y : Ys}
theorem pairsT_at (R : Rel G B H ρ Y) : ∀ {vs : List V} {ds : List D} {l : List (List Key × D)}, Reps G B vs ds → pairsT ds = some l → ∃ qs kvs, vs = qs.map V.ref ∧ Paired (fun q (kv : List Key × V) => ∃ b, H q = some (.tup [.ref b, kv.2]) ∧ H b = some (.tup (kv.1.map kV))) qs kvs ∧ RepKV G B kvs l
  | _, _, _, .nil, h => by cases h; exact ⟨[], [], rfl, .nil, .nil⟩
  | _, d :: ds, l, .cons r t, h => by
    unfold pairsT at h
    split at h
    · rename_i e; cases e
    · rename_i us d' r' e
      cases e
      split at h
      · rename_i k l' hk hl
        cases h
        obtain ⟨qs, kvs, rfl, hp, hr⟩ := pairsT_at R t hl
        cases r with
        | @tup a vs _ hB hz rs =>
          cases rs with
          | @cons v1 _ vs1 _ r1 rs1 =>
            cases rs1 with
            | @cons v2 _ vs2 _ r2 rs2 =>
              cases rs2
              cases r1 with
              | @tup b us' _ hb hzb rb =>
                rw [keysOf_at rb hk] at hb
                exact ⟨a :: qs, (k, v2) :: kvs, rfl, .cons ⟨b, R.tup hB, R.tup hb⟩ hp, .cons r2 hr⟩
      · cases h
    · cases h
theorem mergeD_at {κ : Type} [DecidableEq κ] {eq : κ → κ → Bool} (he : ∀ {a b : κ}, eq a b = true ↔ a = b) : ∀ {more : List (κ × V)} {dm : List (κ × D)} {kvs : List (κ × V)} {kds : List (κ × D)}, RepKV G B more dm → RepKV G B kvs kds → RepKV G B (more.foldl (fun acc kv => putK acc kv.1 kv.2) kvs) (mergeD eq kds dm)
  | _, _, _, _, .nil, q => q
  | _, _, _, _, .cons (k := k) r t, q => by
    show RepKV _ _ (List.foldl _ (putK _ k _) _) (mergeD eq (kPut eq _ k _) _)
    exact mergeD_at he t (pair_repKV (kPut_rel he r k (repKV_pair q)))
end
theorem l_dictT {G : Gx} : RLD G (rDictT G.K) gDictT := by
  intro xs B H ρ Y Q ws w Y' R r e q
  unfold gDictT at e
  split at e
  · split at e
    · rename_i us hs
      split at e
      · rename_i ds hd
        split at e
        · rename_i l hl
          cases e
          obtain ⟨x, rfl, h⟩ := one_at r
          obtain ⟨p, vs, rfl, h2, h3, h4⟩ := lsOf'_at R h hs
          obtain ⟨qs, kvs, rfl, hp, hr⟩ := pairsT_at R (reps_dats h4 hd) hl
          refine ⟨p, qs, kvs, rfl, .inl (.inl h2), hp, fun a ha => ?_⟩
          have A := Aft.new R (.dT (mergeT [] kvs)) ha
          exact q _ _ _ ρ A (.dT upd_same (RepKV.le A.le (mergeD_at ksEq_iff hr .nil)))
        · cases e
      · cases e
    · cases e
  · cases e
/-- the pairs, keys texts or ints -/
def pairsK : List D → Option (List (Key × D))
  | [] => some []
  | .tup [k, d] :: r => (match keyOf (.val k), pairsK r with
    | some k, some l => some ((k, d) :: l)
    | _, _ => none)
  | _ => none
def gDictK : GL := fun ws Y => match ws with
  | [w] => (match lsOf' Y w with
    | some us => (match dats us with
      | some ds => (match pairsK ds with
        | some l => .ok (.val (.dK (mergeD kEq [] l))) Y
        | none => .bad)
      | none => .bad)
    | none => .bad)
  | _ => .bad
abbrev rDictK (K : PySem.W.Frag) : List V → Hp → VK → Prop := fun xs H Q => ∃ (a : Addr) (ps : List Addr) (kvs : List (Key × V)), xs = [.ref a] ∧ SqL K H a (ps.map V.ref) ∧ Paired (fun p kv => SqT K H p [kV kv.1, kv.2]) ps kvs ∧ ∀ p, H p = none → Q (.ref p) (upd H p (.dK (mergeK [] kvs)))
section
variable {G : Gx} {B H : Hp} {ρ : Nat → Addr} {Y : Ys}
theorem pairsK_at (R : Rel G B H ρ Y) : ∀ {vs : List V} {ds : List D} {l : List (Key × D)}, Reps G B vs ds → pairsK ds = some l → ∃ (qs : List Addr) (kvs : List (Key × V)), vs = qs.map V.ref ∧ Paired (fun q (kv : Key × V) => SqT G.K H q [kV kv.1, kv.2]) qs kvs ∧ RepKV G B kvs l
  | _, _, _, .nil, h => by cases h; exact ⟨[], [], rfl, .nil, .nil⟩
  | _, d :: ds, l, .cons r t, h => by
    unfold pairsK at h
    split at h
    · rename_i e; cases e
    · rename_i us d' r' e
      cases e
      split at h
      · rename_i k l' hk hl
        cases h
        obtain ⟨qs, kvs, rfl, hp, hr⟩ := pairsK_at R t hl
        cases r with
        | @tup a vs _ hB hz rs =>
          cases rs with
          | @cons v1 _ vs1 _ r1 rs1 =>
            cases rs1 with
            | @cons v2 _ vs2 _ r2 rs2 =>
              cases rs2
              have e1 := keyOf_at (ρ := ρ) (n := 0) (w := .val us) r1 hk
              subst e1
              exact ⟨a :: qs, (k, v2) :: kvs, rfl, .cons (.inl (.inl (R.tup hB))) hp, .cons r2 hr⟩
      · cases h
    · cases h
end
theorem l_dictK {G : Gx} : RLD G (rDictK G.K) gDictK := by
  intro xs B H ρ Y Q ws w Y' R r e q
  unfold gDictK at e
  split at e
  · split at e
    · rename_i us hs
      split at e
      · rename_i ds hd
        split at e
        · rename_i l hl
          cases e
          obtain ⟨x, rfl, h⟩ := one_at r
          obtain ⟨p, vs, rfl, h2, h3, h4⟩ := lsOf'_at R h hs
          obtain ⟨qs, kvs, rfl, hp, hr⟩ := pairsK_at R (reps_dats h4 hd) hl
          refine ⟨p, qs, kvs, rfl, .inl (.inl h2), hp, fun a ha => ?_⟩
          have A := Aft.new R (.dK (mergeK [] kvs)) ha
          exact q _ _ _ ρ A (.dK upd_same (RepKV.le A.le (mergeD_at kEq_iff hr .nil)))
        · cases e
      · cases e
    · cases e
  · cases e
def gDict : GL := orL gDictT gDictK
section
variable {cls : Cl} {X : Cx} {W : WX} {p pos : Pos} {e : Expr} {fa : ADen}
theorem d_dict (hcalm : X.calm = true) (hr : Room 1 X.A) (hm : X.mg "dict" = none) (ha : DA cls X W [e] fa) (hg : Gl X "dict" := by rfl) (he : starEach [e] X.env = (false, eval e X.env) :: starEach [] X.env := by rfl) :
    DE cls X W (.Call (.Name "dict" p) [e] [] pos) (dBlt gDict fa) :=
  d_tyn (T := "dict") (CallR.or (call_dictT hcalm (by have := hr.un; omega)) (call_dictP hcalm)) (RLD.or l_dictT l_dictK) hm rfl ha hg (by decide) (by decide) he rfl
end
end MV
set_option Elab.async false
set_option linter.all false
set_option maxRecDepth 100000
set_option maxHeartbeats 4000000
/-! MvStar: def x(*v), called with so many values. -/
namespace MV
open PySem PySem.Spec PyProof.Rows L2
def FnS (P : Program) (w : World) (K : PySem.W.Frag) (mg : Str → Option Value) (base : Heap) (cls : Cl) (x : Str) (fn : FDen) (lev : Nat) : Prop :=
  ∃ f, FnR P w K mg base (L2.CX P w) lev f (fun vs H Q E => vs.length ≤ sizeLine ∧ ∀ p, H p = none → spW ⟨K, mg, cls.at_, cls.fs, cls.T⟩ 1 fn [.ref p] (upd H p (.tup vs)) Q E) ∧ mg x = some (.ref f) ∧ PySem.W.keepIn K (.ref f) = true
section
variable {P : Program} {w : World} {K : PySem.W.Frag} {mg : Str → Option Value} {base : Heap} {x qual pv : Str} {params : Arguments} {body : List Stmt} {scope : Scope} {dvs : List V} {kws : List (Str × V)} {f : Addr} {fd : FuncData} {N : List Str} {k : Nat} {cls : Cl}
theorem fn_s {fn : FDen} (FD : FunD K x qual params body scope [] kws f fd) (S : FnScope N [pv] scope)
    (hb : ∀ (kV doc pm : Value) (an : Option Addr) (cdv ct : Value) (us : List Value), bindArgs (PySem.W.fnOf x qual params body scope .none kV doc pm an cdv ct) ⟨us, []⟩ = (newTuple us >>= fun t => pure [(pv, t)]))
    (hf : ∀ (cdv : Value) (A : Around) (outer : List Env) (s : Shared) (H : Hp) (vs : List V) (Q : VK) (E : XK), Room k (A.deeper (envOfC qual scope s.heap.objs.size f cdv)) → spW ⟨K, mg, cls.at_, cls.fs, cls.T⟩ 1 fn vs H Q E →
      ∃ t, PSs (cxOf (L2.CX P w) P w K mg base N qual scope f cdv A outer s H E) body t ∧ t { nx := fun _ H' => Q .non H', rt := Q } (L2.start N vs) H) (hm : mg x = some (.ref f)) : FnS P w K mg base cls x fn (k + 1) := by
  obtain ⟨oc, od, dV, kV, doc, pm, an, cdv, ct, osl, rfl, lk, hcd, hD, _⟩ := id FD.ex
  have hD0 : dV = .none := by
    rcases hD with ⟨_, z⟩ | ⟨z, _⟩
    · exact z
    · exact absurd rfl z
  subst hD0
  refine ⟨f, ?_, hm, FD.kp⟩
  have F := StX.fn_star (ps := []) (sp := spW ⟨K, mg, cls.at_, cls.fs, cls.T⟩ 1 fn) (CX := L2.CX P w) (base := base) lk hcd S StX.cxUp (fun us rest hl => by cases us with | nil => exact hb kV doc pm an cdv ct rest | cons a r => cases hl) (fun A outer s H vs Q E hr h => hf cdv A outer s H vs Q E hr h)
  intro A outer s H us vs Q E hr e0 r h
  exact F A outer s H us vs Q E hr e0 r ⟨[], vs, rfl, rfl, h.1, h.2⟩
end
def dCallS (fa : CDen) (fn : FDen) : Den := fun τ Y => (fa τ Y).bind fun ws zs Y1 => match zs, dats ws, lines ws.length with
  | [], some ds, true => fn [.val (.tup ds)] Y1
  | _, _, _ => .bad
section
variable {cls : Cl} {X : Cx} {W : WX} {x : Str} {p pos : Pos} {args : List Expr} {fa : CDen} {fn : FDen} {lev : Nat}
theorem d_callS (h : FnS X.prog X.w X.K X.mg X.base cls x fn lev) (hr : Room lev X.A) (tk : Takes X W) (ha : DCa cls X W args [] [] fa) (hg : Gl X x := by rfl) (hdb : (x == ("__debug__" : Str)) = false := by decide) :
    DE cls X W (.Call (.Name x p) args [] pos) (dCallS fa fn) := by
  obtain ⟨f, F, hm, hk⟩ := h
  obtain ⟨t, ca, ha⟩ := ha
  refine ⟨fun σ H Q => t σ H fun vs zs H1 => zs = [] ∧ vs.length ≤ sizeLine ∧ ∀ p, H1 p = none → spW (gx cls X) 1 fn [.ref p] (upd H1 p (.tup vs)) Q (WE W σ), ⟨fun pins s σ H Q I h => ?_⟩, fun σ H Q B ρ Y τ R T h => ?_⟩
  · refine wpAny_Call_Name_kw (ld_glob I hg hm ?_ hdb)
    refine ca.run pos (.ref f) [] _ pins s σ H hk I _ h ?_
    rintro vs zs H1 us ws s1 ⟨rfl, h1, h2⟩ I1 r1 r2
    cases r2
    refine wpAny_call (codeAny_mono (F X.A X.stack s1 H1 us vs Q (WE W σ) hr I1.env0 r1 ⟨h1, h2⟩) fun r s' hq => ?_)
    cases r with
    | error e => exact passAt tk σ pins H1 s1 e s' I1 hq
    | ok fl =>
      cases fl with
      | ret u => exact I1.after hq
      | next => exact False.elim hq
      | brk => exact False.elim hq
      | cont => exact False.elim hq
  · refine ha σ H _ B ρ Y τ R T (R2aOk.imp ?_ (R2aOk.bound h))
    rintro vs us H1 ⟨B1, ρ1, ws, zs, Y1, A, r, rz, h1⟩
    cases zs with
    | cons _ _ => exact h1.elim
    | nil =>
      cases rz
      cases e1 : dats ws with
      | none => rw [e1] at h1; exact h1.elim
      | some ds =>
        rw [e1] at h1
        cases e2 : lines ws.length with
        | false => rw [e2] at h1; exact h1.elim
        | true =>
          rw [e2] at h1
          have hz : vs.length ≤ sizeLine := by rw [Paired.length r]; exact lines_ok e2
          refine ⟨rfl, hz, fun q hq => ⟨rfl, ?_⟩⟩
          have A2 := Aft.new A.rel (.tup vs) hq
          exact ⟨_, ρ1, Y1, [.val (.tup ds)], A2.rel, .cons (Rep.tup upd_same hz ((reps_dats r e1).le A2.le)) .nil, (ReOk.behind A2 h1).toE⟩
end
end MV
set_option Elab.async false
set_option linter.all false
set_option maxRecDepth 100000
set_option maxHeartbeats 4000000
/-! MvOwnEq: == and != by an own __eq__. -/
namespace MV
open PySem PySem.Spec PyProof.Rows L2
section
variable {prog : Program} {w : World} {A : Around} {E : Value → Shared → Prop} {s : Shared} {K : PySem.W.Frag} {a C f : Addr} {oa : Obj} {oo : Option Obj} {b tb : Value}
theorem bound_ne {vs : List Value} {R : Option Value → Shared → Prop} (kin : K.In s.heap) (J : PySem.W.InstAt s.heap a oa C oo) (hn : PySem.W.findIn K (.ref C) "__ne__" = some (some (.builtin "object.__ne__")))
    (h : wpAny (model prog w) A (call (.builtin "object.__ne__") (.ref a :: vs)) (fun v => R (some v)) E s) : wpAny (model prog w) A (callSpecialIfBound? (.ref a) "__ne__" vs) R E s := by
  simp only [callSpecialIfBound?, bindSpecialIfBound?]
  refine wpAny_holding (wpAny_bind (wpAny_bind (wpAny_bind (J.type.here ((PySem.W.looks_findIn kin hn).here (wpAny_bind (wpAny_askSetting (wpAny_ite ?_))))))))
  have last : wpAny (model prog w) A (call (.builtin "object.__ne__") ([.ref a] ++ vs) >>= fun v => pure (some v)) R E s := wpAny_bind (wpAny_mono h (fun _ _ q => wpAny_pure q) fun _ _ q => q)
  split
  · exact wpAny_bind (wpAny_of_eq (F.cmp_object.ne.bind _) (wpAny_pure (by exact last)))
  · exact wpAny_tryCatch (wpAny_bind (wpAny_of_eq (F.cmp_object.ne.bind _) (wpAny_pure (by exact last))))
theorem ne_body {Q : Fin → Shared → Prop} (hu : A.units < cLine) (kin : K.In s.heap) (J : PySem.W.InstAt s.heap a oa C oo) (he : PySem.W.findIn K (.ref C) "__eq__" = some (some (.ref f))) (hf : PySem.W.isFn K (.ref f) = true)
    (h : wpAny (model prog w) A (call (.ref f) [.ref a, b]) (fun v s' => ∃ r, v = .bool r ∧ Q (.done (.ret (.bool (!r)))) s') E s) : wpAny (model prog w) A (Builtin.«object.__ne__» ⟨[.ref a, b], []⟩) Q E s := by
  unfold Builtin.«object.__ne__»
  have one : wpAny (model prog w) A (callSpecialIfBound? (.ref a) "__eq__" [b]) (fun v s' => ∃ r, v = some (.bool r) ∧ Q (.done (.ret (.bool (!r)))) s') E s :=
    PySem.W.ifBound_K kin J he hf (wpAny_mono h (fun v s' ⟨r, e, q⟩ => ⟨r, by rw [e], q⟩) fun _ _ q => q)
  change wpAny _ _ (do
    cRoomFor "comparison" [.ref a, b]
    match ← callSpecialIfBound? (.ref a) "__eq__" [b] with
    | some .notImplemented | none => ret .notImplemented
    | some r => ret (.bool (!(← truthy r)))) _ _ _
  refine wpAny_bind (wpAny_cRoomFor hu (wpAny_bind (wpAny_mono one (fun v s' ⟨r, e, q⟩ => ?_) fun _ _ q => q)))
  subst e
  exact wpAny_bind (wpAny_of_eq (rfl : truthy (.bool r) = pure r) (wpAny_pure q))
theorem ne_K {Q : Value → Shared → Prop} (hu : A.units + 1 < cLine) (kin : K.In s.heap) (J : PySem.W.InstAt s.heap a oa C oo) (ht : PySem.W.Looks (model prog w) s.heap (typeOf b) tb) (hfst : PySem.W.notFirst K C tb = true)
    (hn : PySem.W.findIn K (.ref C) "__ne__" = some (some (.builtin "object.__ne__"))) (hm : PySem.W.mroIn K C (.type "object") = some true) (he : PySem.W.findIn K (.ref C) "__eq__" = some (some (.ref f))) (hf : PySem.W.isFn K (.ref f) = true)
    (h : wpAny (model prog w) A.in1 (call (.ref f) [.ref a, b]) (fun v s' => ∃ r, v = .bool r ∧ Q (.bool (!r)) s') E s) : wpAny (model prog w) A (richCompare .NotEq (.ref a) b) Q E s := by
  have one : wpAny (model prog w) A (tryCompare (.ref a) "__ne__" b) (fun r s' => ∃ v, r = some v ∧ Q v s') E s := by
    unfold tryCompare
    refine wpAny_bind (bound_ne kin J hn (wpAny_call (codeAny_call_builtin F.cmp_object.ne.plain F.cmpEntry_ne (PySem.W.check_slot F.cmpKind_ne F.cmpSplit_ne (J.type.andThen (PySem.W.looks_mroIn kin hm)) (F.cmpArgs_ne _ _)
      (ne_body (A := A.in1) hu kin J he hf (wpAny_mono h (fun v s' ⟨r, e, q⟩ => ⟨r, e, wpAny_pure ⟨_, rfl, q⟩⟩) fun _ _ q => q))))))
  unfold richCompare
  simp only [oneThing_ref]
  refine wpAny_holding (wpAny_bind (wpAny_cRoomFor (Nat.lt_of_succ_lt hu) (wpAny_bind (J.type.here (wpAny_bind (ht.here ?_))))))
  split
  · rename_i q
    have e : PySem.W.subIn K tb (.ref C) = some false := by
      rcases Bool.or_eq_true_iff.mp hfst with e | e
      · rw [beq_iff_eq.mp e] at q
        simp at q
      · exact beq_iff_eq.mp e
    refine wpAny_bind ((PySem.W.looks_subIn kin e).here ?_)
    simp only [Bool.false_eq_true, if_false]
    exact wpAny_bind (wpAny_mono one (fun r s' ⟨v, z, hq⟩ => by subst z; exact wpAny_pure hq) fun _ _ e => e)
  · refine wpAny_bind (wpAny_pure ?_)
    simp only [Bool.false_eq_true, if_false]
    exact wpAny_bind (wpAny_mono one (fun r s' ⟨v, z, hq⟩ => by subst z; exact wpAny_pure hq) fun _ _ e => e)
end

/-! ### by denotations -/
def negB (neg r : Bool) : Bool := match neg with
  | true => !r
  | false => r
def gOwn (neg : Bool) (sel : Nat → Option FDen) (kt : Kd → Bool) : G2 := fun a b Y => match clsW a Y with
  | some c => (match sel c, kdOf Y b with
    | some fn, some kd => (match kt kd with
      | true => (match fn [a, b] Y with
        | .ok (.val (.bl r)) Y1 => .ok (.val (.bl (negB neg r))) Y1
        | _ => .bad)
      | false => .bad)
    | _, _ => .bad)
  | none => .bad
/-- what K has of a class with an own __eq__ -/
structure EqC (X : Cx) (cls : Cl) (c : Nat) (fn : FDen) (lev : Nat) (kt : Kd → Bool) : Prop where
  mt : MtX X.prog X.w X.K X.mg X.base cls c "__eq__" 1 [] [.p 0, .p 1] [] fn lev
  room : Room (lev + 1) X.A
  ne : PySem.W.findIn X.K (.ref (cls.at_ c)) "__ne__" = some (some (.builtin "object.__ne__"))
  obj : PySem.W.mroIn X.K (cls.at_ c) (.type "object") = some true
  kds : ∀ kd, kt kd = true → PySem.W.notFirst X.K (cls.at_ c) (tyKd cls.at_ kd) = true ∧ ∀ c', kd = .ins c' → InsK X.K (cls.at_ c')
def rOwn (cls : Cl) (X : Cx) (neg : Bool) (sel : Nat → Option FDen) (kt : Kd → Bool) : R2 := fun x y H Q => ∃ B ρ Y wa wb w Y', Rel (gx cls X) B H ρ Y ∧ WRep (gx cls X) B ρ Y.length x wa ∧ WRep (gx cls X) B ρ Y.length y wb ∧ gOwn neg sel kt wa wb Y = .ok w Y' ∧
  ∀ v B' H' ρ', Aft (gx cls X) B H ρ Y B' H' ρ' Y' → WRep (gx cls X) B' ρ' Y'.length v w → Q v H'
theorem r_own {cls : Cl} {X : Cx} {neg : Bool} {sel : Nat → Option FDen} {kt : Kd → Bool} : R2D (gx cls X) (rOwn cls X neg sel kt) (gOwn neg sel kt) :=
  fun x y B H ρ Y Q w1 w2 w Y' R a b e q => ⟨B, ρ, Y, w1, w2, w, Y', R, a, b, e, q⟩
section
variable {cls : Cl} {X : Cx} {W : WX} {sel : Nat → Option FDen} {kt : Kd → Bool}
theorem own_call {A : Around} {pins : List (Addr × Obj)} {s : Shared} {σ : L2.St} {H : Hp} {x y : V} {u : Value} {neg : Bool} {Q : VK} (tk : Takes X W) (hs : ∀ c fn, sel c = some fn → ∃ lev, EqC X cls c fn lev kt) (I : Inv X pins σ H s) (ry : RelV y u) (h : rOwn cls X neg sel kt x y H Q) (hA : A = X.A ∨ A = X.A.in1) :
    ∃ (a C f : Addr) (oa : Obj) (od : Obj) (tb : Value), x = .ref a ∧ PySem.W.InstAt s.heap a oa C od ∧ PySem.W.Looks (model X.prog X.w) s.heap (typeOf u) tb ∧ PySem.W.notFirst X.K C tb = true ∧ PySem.W.findIn X.K (.ref C) "__eq__" = some (some (.ref f)) ∧ PySem.W.isFn X.K (.ref f) = true ∧
      PySem.W.findIn X.K (.ref C) "__ne__" = some (some (.builtin "object.__ne__")) ∧ PySem.W.mroIn X.K C (.type "object") = some true ∧
      wpAny (model X.prog X.w) A (call (.ref f) [.ref a, u]) (fun v s' => ∃ r, v = .bool r ∧ EP X pins σ Q (.bool (negB neg r)) s') X.xe s := by
  obtain ⟨B, ρ, Y, wa, wb, w, Y', R, ra, rb, e, q⟩ := h
  unfold gOwn at e
  cases e1 : clsW wa Y with
  | none => rw [e1] at e; cases e
  | some c =>
    rw [e1] at e
    dsimp only at e
    cases e2 : sel c with
    | none => rw [e2] at e; cases e
    | some fn =>
      rw [e2] at e
      cases e3 : kdOf Y wb with
      | none => rw [e3] at e; cases e
      | some kd =>
        rw [e3] at e
        dsimp only at e
        cases e4 : kt kd with
        | false => rw [e4] at e; cases e
        | true =>
          rw [e4] at e
          dsimp only at e
          obtain ⟨lev, ⟨g, fd, ps, dvs, hc, hme, _, F, hb, hd, hp⟩, room, hne, hob, hkd⟩ := hs c fn e2
          obtain ⟨a, dx, vs, rfl, ha⟩ := clsW_at R ra e1
          obtain ⟨mA, J, _⟩ := ins_get I.hok ha
          obtain ⟨od, J, _⟩ := J.look
          obtain ⟨k1, k2⟩ := hkd kd e4
          obtain ⟨P, kx, hP, _⟩ := kit_of I ry (kd_ty R rb e3 k2)
          refine ⟨a, _, g, _, od, _, rfl, J, kx.ty _ _ I.kIn hP, k1, hme.at_, hme.fn, hne, hob, ?_⟩
          have e0 : Env0 X.prog X.w X.K X.mg X.base A X.stack s H := by
            have e := I.env0
            refine ⟨?_, e.mod, e.bs, e.bsz, e.funs, e.frf, e.hok, e.bare⟩
            rcases hA with z | z <;> rw [z] <;> exact e.frames
          have hr : Room lev A := by
            rcases hA with z | z
            · rw [z]; exact room.mono (Nat.le_succ _)
            · rw [z]; exact room.in1
          obtain ⟨its, hds, hb⟩ := hb
          have bb := hb s [.ref a, u] [] [.ref a, u] I.kIn rfl rfl rfl
          have hfn : ∃ r Y1, fn [wa, wb] Y = .ok (.val (.bl r)) Y1 ∧ w = .val (.bl (negB neg r)) ∧ Y' = Y1 := by
            cases e5 : fn [wa, wb] Y with
            | exc _ _ _ => rw [e5] at e; cases e
            | bad => rw [e5] at e; cases e
            | ok w5 Y5 =>
              rw [e5] at e
              cases w5 with
              | ref _ => cases e
              | val d5 =>
                cases d5 <;> first | cases e | skip
                exact ⟨_, _, rfl, rfl, rfl⟩
          obtain ⟨r, Y1, e5, rfl, rfl⟩ := hfn
          have hsp : spW (gx cls X) ps.length fn [.ref a, y] H (fun v H' => ∃ b, v = .bl b ∧ Q (.bl (negB neg b)) H') (WE W σ) := by
            refine ⟨hp, B, ρ, Y, [wa, wb], R, .cons ra (.cons rb .nil), ?_⟩
            rw [e5]
            intro v B' H' ρ' A' rv
            exact ⟨r, rep_bl rv, q _ B' H' ρ' A' (.bl _)⟩
          refine wpAny_call (codeAny_mono (F.run A X.stack s H ⟨[.ref a, u], []⟩ [.ref a, u] [.ref a, y] _ (WE W σ) hr e0 bb (.cons rfl (.cons ry .nil)) hsp) fun r s' hq => ?_)
          cases r with
          | error e => exact passAt tk σ pins H s e s' I hq
          | ok fl =>
            cases fl with
            | ret u' =>
              obtain ⟨z, H', I', rz, b, rfl, qq⟩ := I.after hq
              obtain rfl : u' = Value.bool b := rz
              exact ⟨b, rfl, .bl (negB neg b), H', I', rfl, qq⟩
            | next => exact False.elim hq
            | brk => exact False.elim hq
            | cont => exact False.elim hq
theorem op_ownEq (tk : Takes X W) (hs : ∀ c fn, sel c = some fn → ∃ lev, EqC X cls c fn lev kt) (hr : Room 0 X.A) : OpR X (compareOp .Eq) (rOwn cls X false sel kt) := by
  intro pins s σ H x y v u Q I rx ry h
  obtain ⟨a, C, f, oa, od, tb, rfl, J, ht, h1, h2, h3, _, _, hw⟩ := own_call tk hs I ry h (.inl rfl)
  obtain rfl : v = Value.ref a := rx
  obtain ⟨m, hF⟩ := I.fr
  change wpAny (model X.prog X.w) X.A (richCompare .Eq (.ref a) u) _ _ _
  refine PySem.W.cmp_K (op := .Eq) hr.units0 hF I.ok.mod.kin J ht h1 h2 h3 (wpAny_mono hw (fun w s' ⟨r, e, q⟩ => ?_) fun _ _ z => z)
  rw [e]
  exact q
theorem op_ownNe (tk : Takes X W) (hs : ∀ c fn, sel c = some fn → ∃ lev, EqC X cls c fn lev kt) (hr : Room 0 X.A) : OpR X (compareOp .NotEq) (rOwn cls X true sel kt) := by
  intro pins s σ H x y v u Q I rx ry h
  obtain ⟨a, C, f, oa, od, tb, rfl, J, ht, h1, h2, h3, h4, h5, hw⟩ := own_call tk hs I ry h (.inr rfl)
  obtain rfl : v = Value.ref a := rx
  change wpAny (model X.prog X.w) X.A (richCompare .NotEq (.ref a) u) _ _ _
  exact ne_K (by have := hr.un; omega) I.kIn J ht h1 h4 h5 h2 h3 hw
end
end MV
set_option Elab.async false
set_option linter.all false
set_option maxRecDepth 100000
set_option maxHeartbeats 4000000
/-! MvDictEq: == of two dicts whose keys are tuples and whose values are flat. -/
namespace MV
open PySem PySem.Spec PyProof.Rows L2
section
variable {prog : Program} {w : World} {κ : Type} [DecidableEq κ] {knd : HeapKind prog w κ} {A : Around} {E : Value → Shared → Prop} {s : Shared}
/-- what the walk over the first dict's entries meets in the second -/
inductive Hits (A : Around) (s : Shared) (ys : List (κ × Addr × Value)) : List (κ × Addr × Value) → Bool → Prop
  | nil : Hits A s ys [] true
  | miss {k : κ} {p : Addr × Value} {r : List (κ × Addr × Value)} (h : ∀ (j : Nat) (q : Addr × Value), ys[j]? ≠ some (k, q)) : Hits A s ys ((k, p) :: r) false
  | hit {k : κ} {p : Addr × Value} {r : List (κ × Addr × Value)} {b c : Bool} (h : ∀ (j : Nat) (q : Addr × Value), ys[j]? = some (k, q) → SeqAt.EqAt A s p.2 q.2 b) (he : ∃ (j : Nat) (q : Addr × Value), ys[j]? = some (k, q)) (t : Hits A s ys r c) : Hits A s ys ((k, p) :: r) (b && c)
theorem samePairsH {nm : String} {a b : Addr} {xs ys : List (κ × Addr × Value)} {r : Bool} {Q : Bool → Shared → Prop} (ha : (a == sysModules) = false) (hb : (b == sysModules) = false) (hu : knd.room A) (da : s.heap.DictOfH knd a xs) (db : s.heap.DictOfH knd b ys)
    (hits : xs.length = ys.length → Hits A s ys xs r) (h : Q (xs.length == ys.length && r) s) : wpAny (model prog w) A (Builtin.Dict.samePairs nm a b) Q E s := by
  obtain ⟨oa, es, ep, hoa, _, hda, hea, hia, _⟩ := da
  obtain ⟨ob, fs, fp, hob, _, hdb, heb, hib, hnb⟩ := db
  have lx : xs.length = es.size := by rw [← Array.length_toList, hea, List.length_map]
  have ly : ys.length = fs.size := by rw [← Array.length_toList, heb, List.length_map]
  have ent : ∀ (zs : List (κ × Addr × Value)) (gs : Array DictEntry) (j : Nat) (hj : j < gs.size) (hz : gs.toList = zs.map (entryOfKey knd)) (hl : j < zs.length), gs[j] = entryOfKey knd zs[j] := fun zs gs j hj hz hl => by
    have : gs.toList[j]? = some gs[j] := by simp
    rw [hz, List.getElem?_map, List.getElem?_eq_getElem hl] at this
    exact (Option.some.inj this).symm
  unfold Builtin.Dict.samePairs Builtin.Dict.showsAll
  rw [if_neg (show ¬ (a == sysModules) = true by simp [ha]), if_neg (show ¬ (b == sysModules) = true by simp [hb])]
  refine wpAny_bind (wpAny_pure (wpAny_bind (wpAny_pure (wpAny_bind (wpAny_dictEntries hoa hda ?_)))))
  dsimp only
  refine wpAny_bind (wpAny_dictEntries hob hdb ?_)
  by_cases hsz : es.size = fs.size
  · have hl : xs.length = ys.length := by omega
    have q0 : Q r s := by simpa [hl] using h
    rw [if_neg (by simp [hsz])]
    refine wpAny_bind (wpAny_dictEpoch hoa hda (wpAny_bind ?_))
    rw [Std.Legacy.Range.forIn_eq_forIn_range']
    simp only [Std.Legacy.Range.size, Nat.sub_zero, Nat.add_sub_cancel, Nat.div_one]
    refine wpAny_forIn_list _ (fun rest u z => z = s ∧ u = (none, ()) ∧ ∃ i, rest = List.range' i (es.size - i) ∧ i ≤ es.size ∧ Hits A s ys (xs.drop i) r) _ ?_ ?_ _ _ ⟨rfl, rfl, 0, by simp, Nat.zero_le _, hits hl⟩
    · rintro i rest u z ⟨rfl, rfl, i', hr, hi, hh⟩
      obtain ⟨hlt, rfl, hrest⟩ : i' < es.size ∧ i = i' ∧ rest = List.range' (i' + 1) (es.size - (i' + 1)) := by
        rcases Nat.lt_or_ge i' es.size with hlt | hge
        · rw [show es.size - i' = (es.size - (i' + 1)) + 1 by omega, List.range'_succ] at hr
          injection hr with h1 h2
          exact ⟨hlt, h1, h2⟩
        · rw [Nat.sub_eq_zero_of_le hge] at hr
          cases hr
      have hix : i < xs.length := by omega
      refine wpAny_bind (wpAny_dictEntries hoa hda ?_)
      rw [Array.getElem?_eq_getElem hlt]
      have ee := ent xs es i hlt hea hix
      rw [List.drop_eq_getElem_cons hix] at hh
      have hkey := hia xs[i] (List.getElem_mem hix)
      obtain ⟨k, p0, hkp⟩ : ∃ k p0, xs[i] = (k, p0) := ⟨_, _, rfl⟩
      rw [hkp] at hh ee hkey
      change wpAny _ _ (holding [es[i].key, es[i].val] _ >>= _) _ _ _
      rw [ee]
      refine wpAny_bind (wpAny_holding (wpAny_bind (wpAny_dictFind_heap hu hkey hob hdb heb hib hnb (fun hn => ?_) fun j p hj => ?_)))
      · cases hh with
        | miss _ =>
          refine wpAny_pure ?_
          change wpAny _ _ (if (!false) = true then _ else _) _ _ _
          rw [if_pos (by decide)]
          exact wpAny_pure (wpAny_pure q0)
        | hit _ he _ =>
          obtain ⟨j, q, hq⟩ := he
          exact absurd hq (hn j q)
      · have hjy : j < ys.length := (List.getElem?_eq_some_iff.mp hj).1
        have hjf : j < fs.size := by omega
        refine wpAny_bind (wpAny_dictEntries hob hdb ?_)
        rw [Array.getElem?_eq_getElem hjf]
        have ef := ent ys fs j hjf heb hjy
        have ej : ys[j] = (k, p) := (List.getElem?_eq_some_iff.mp hj).2
        dsimp only
        rw [ef, ej]
        cases hh with
        | miss hm => exact absurd hj (hm j p)
        | @hit _ _ _ e c hv _ t =>
          refine wpAny_holding (hv j p hj prog w _ _ ?_)
          cases e with
          | false =>
            change wpAny _ _ (if (!false) = true then _ else _) _ _ _
            rw [if_pos (by decide)]
            exact wpAny_pure (wpAny_pure q0)
          | true =>
            change wpAny _ _ (if (!true) = true then _ else _) _ _ _
            rw [if_neg (by decide)]
            refine wpAny_bind (wpAny_dictEpoch hoa hda ?_)
            rw [if_neg (by simp)]
            exact wpAny_pure ⟨rfl, rfl, i + 1, hrest, hlt, t⟩
    · rintro u z ⟨rfl, rfl, i, hr, hi, hh⟩
      have hie : i = es.size := by
        rcases Nat.lt_or_ge i es.size with hlt | hge
        · rw [show es.size - i = (es.size - (i + 1)) + 1 by omega, List.range'_succ] at hr
          cases hr
        · omega
      refine wpAny_pure ?_
      rw [hie, ← lx, List.drop_length] at hh
      cases hh
      exact q0
  · rw [if_pos (by simpa using hsz)]
    have hf : (xs.length == ys.length) = false := by
      rw [lx, ly]
      simpa using hsz
    rw [hf, Bool.false_and] at h
    exact wpAny_bind (wpAny_rule (wpAny_pure h))
theorem dictH_eq {a b : Addr} {xs ys : List (κ × Addr × Value)} {r : Bool} {Q : Value → Shared → Prop} (ha : (a == sysModules) = false) (hb : (b == sysModules) = false) (hk : knd.room A.in1) (da : s.heap.DictOfH knd a xs) (db : s.heap.DictOfH knd b ys) (hu : A.units < cLine)
    (hits : xs.length = ys.length → Hits A.in1 s ys xs r) (h : Q (.bool (xs.length == ys.length && r)) s) : wpAny (model prog w) A (compareOp .Eq (.ref a) (.ref b)) Q E s := by
  refine wpAny_richCompare_same_room (op := .Eq) da.typeIs db.typeIs PySem.F.slot_dict_eq (wpAny_call_entry PySem.F.slot_dict_eq da.typeIs PySem.F.entry_dict_eq ?_ (PySem.F.args_dict_eq_2 _ _)) hu
  change wpAny _ _ (Builtin.Dict.dictSlotArgs "__eq__" ⟨[.ref a, .ref b], []⟩ >>= _) _ _ s
  refine wpAny_bind ?_
  unfold Builtin.Dict.dictSlotArgs
  refine wpAny_bind (wpAny_notOrdered_dict da.typeIs ?_)
  change wpAny _ _ (pure (Value.ref a, Value.ref b)) _ _ s
  refine wpAny_pure (wpAny_bind (wpAny_isInstance (T := "dict") db.typeIs PySem.F.sub_dict_dict ?_))
  simp only [Bool.not_true, Bool.false_eq_true, if_false]
  exact wpAny_bind (wpAny_pure (wpAny_bind (wpAny_pure (wpAny_bind (samePairsH ha hb hk da db hits (wpAny_pure ⟨_, rfl, (fun x => nomatch x), by simpa using h⟩))))))
end

/-! ### by data -/
/-- the entries of the first one, each among those of the second -/
def hitsD (ys : List (List Key × D)) : List (List Key × D) → Option Bool
  | [] => some true
  | (k, d) :: r => (match kGet ksEq ys k with
    | none => some false
    | some e => (match flatD (.val d), flatD (.val e), hitsD ys r with
      | true, true, some c => some (eqFl (.val d) (.val e) && c)
      | _, _, _ => none))
def natEq (a b : Nat) : Bool := Nat.beq a b
def gEqDT : G2 := fun a b Y => match a, b with
  | .val (.dT xs), .val (.dT ys) => (match natEq xs.length ys.length with
    | false => .ok (.val (.bl false)) Y
    | true => (match hitsD ys xs with
      | some c => .ok (.val (.bl c)) Y
      | none => .bad))
  | _, _ => .bad
def rEqDT (G : Gx) : R2 := fun x y H Q => ∃ B ρ Y xs ys w Y', Rel G B H ρ Y ∧ Rep G B x (.dT xs) ∧ Rep G B y (.dT ys) ∧ gEqDT (.val (.dT xs)) (.val (.dT ys)) Y = .ok w Y' ∧ ∀ v B' H' ρ', Aft G B H ρ Y B' H' ρ' Y' → WRep G B' ρ' Y'.length v w → Q v H'
theorem r_eqDT {G : Gx} : R2D G (rEqDT G) gEqDT := fun x y B H ρ Y Q w1 w2 w Y' R a b e q => by
  cases w1 with
  | ref _ => cases e
  | val d1 =>
    cases d1 <;> first | cases e | skip
    cases w2 with
    | ref _ => cases e
    | val d2 =>
      cases d2 <;> first | cases e | skip
      exact ⟨B, ρ, Y, _, _, w, Y', R, a, b, e, q⟩
/-- the entry of a key in three readings -/
theorem get_rel {G : Gx} {B H : Hp} : ∀ {kvs : List (List Key × V)} {ys : List (List Key × D)} {xs : List (List Key × Addr × Value)} {k : List Key}, RepKV G B kvs ys → KT H kvs xs →
    (kGet ksEq ys k = none → ∀ (j : Nat) (q : Addr × Value), xs[j]? ≠ some (k, q)) ∧ (∀ e, kGet ksEq ys k = some e → (∃ (j : Nat) (q : Addr × Value), xs[j]? = some (k, q)))
  | _, _, _, _, .nil, .nil => ⟨fun _ j q => by simp, fun e h => by cases h⟩
  | _, _, x :: xs, k, .cons (k := k0) r t, .cons ⟨h1, h2, h3⟩ t' => by
    obtain ⟨k1, p1⟩ := x
    obtain rfl : k0 = k1 := h1
    obtain ⟨i1, i2⟩ := get_rel (k := k) t t'
    unfold kGet
    cases e : ksEq k0 k with
    | true =>
      have := ksEq_iff.mp e
      subst this
      exact ⟨(fun z => by cases z), fun _ _ => ⟨0, p1, rfl⟩⟩
    | false =>
      refine ⟨fun z j q => ?_, fun d z => ?_⟩
      · cases j with
        | zero =>
          intro w
          have : k0 = k := by cases w; rfl
          rw [ksEq_iff.mpr this] at e
          cases e
        | succ j => simpa using i1 z j q
      · obtain ⟨j, q, hj⟩ := i2 d z
        exact ⟨j + 1, q, by simpa using hj⟩
theorem kt_val {G : Gx} {B H : Hp} : ∀ {kvs : List (List Key × V)} {ys : List (List Key × D)} {xs : List (List Key × Addr × Value)} {k : List Key} {e : D} {j : Nat} {q : Addr × Value}, RepKV G B kvs ys → KT H kvs xs → (xs.map (·.1)).Nodup → kGet ksEq ys k = some e → xs[j]? = some (k, q) → ∃ v, RelV v q.2 ∧ Rep G B v e
  | _, _, _, _, _, _, _, .nil, .nil, _, h, _ => by cases h
  | _, _, x :: xs, k, e, j, q, .cons (k := k0) (v := v0) (d := d0) r t, .cons ⟨h1, h2, h3⟩ t', hn, h, hj => by
    obtain ⟨k1, p1⟩ := x
    obtain rfl : k0 = k1 := h1
    rw [List.map_cons, List.nodup_cons] at hn
    unfold kGet at h
    cases e2 : ksEq k0 k with
    | true =>
      have := ksEq_iff.mp e2
      subst this
      rw [e2] at h
      cases h
      cases j with
      | zero =>
        cases hj
        exact ⟨v0, h3, r⟩
      | succ j =>
        have : (k0, q) ∈ xs := List.mem_of_getElem? (i := j) (by simpa using hj)
        exact absurd (List.mem_map.mpr ⟨_, this, rfl⟩) hn.1
    | false =>
      rw [e2] at h
      cases j with
      | zero =>
        cases hj
        rw [ksEq_iff.mpr rfl] at e2
        cases e2
      | succ j => exact kt_val t t' hn.2 h (by simpa using hj)
theorem hits_of {G : Gx} {B H : Hp} {A : Around} {s : Shared} {kvb : List (List Key × V)} {ysd : List (List Key × D)} {ys : List (List Key × Addr × Value)} (rb : RepKV G B kvb ysd) (kb : KT H kvb ys) (hn : (ys.map (·.1)).Nodup) :
    ∀ {kva : List (List Key × V)} {xsd : List (List Key × D)} {xs : List (List Key × Addr × Value)} {c : Bool}, RepKV G B kva xsd → KT H kva xs → hitsD ysd xsd = some c → Hits A s ys xs c
  | _, _, _, c, .nil, .nil, h => by cases h; exact .nil
  | _, _, x :: xs, c, .cons (k := k0) (v := v0) (d := d0) (ds := ds) r t, .cons ⟨h1, h2, h3⟩ t', h => by
    obtain ⟨k1, p1⟩ := x
    obtain rfl : k0 = k1 := h1
    unfold hitsD at h
    obtain ⟨g1, g2⟩ := get_rel (k := k0) rb kb
    cases e : kGet ksEq ysd k0 with
    | none =>
      rw [e] at h
      cases h
      exact .miss (g1 e)
    | some e0 =>
      rw [e] at h
      dsimp only at h
      cases f1 : flatD (.val d0) with
      | false => rw [f1] at h; cases h
      | true =>
        rw [f1] at h
        cases f2 : flatD (.val e0) with
        | false => rw [f2] at h; cases h
        | true =>
          rw [f2] at h
          cases f3 : hitsD ysd ds with
          | none => rw [f3] at h; cases h
          | some c' =>
            rw [f3] at h
            cases h
            refine .hit (fun j q hj => ?_) (g2 e0 e) (hits_of rb kb hn t t' f3)
            obtain ⟨v, rv, re⟩ := kt_val rb kb hn e hj
            have w1 : WRep G B (fun _ => 0) 0 v0 (.val d0) := r
            have w2 : WRep G B (fun _ => 0) 0 v (.val e0) := re
            rw [← eqFl_at w1 w2 f1 f2]
            exact eqAt_V h3 rv (flat_at' w1 f1) (flat_at' w2 f2)
theorem op_eqDT {cls : Cl} {X : Cx} (hr : Room 0 X.A) : OpR X (compareOp .Eq) (rEqDT (gx cls X)) := by
  intro pins s σ H x y v u Q I rx ry h
  obtain ⟨B, ρ, Y, xs, ys, w, Y', R, ra, rb, e, q⟩ := h
  cases ra with
  | dT ha ra =>
    cases rb with
    | dT hb rb =>
      obtain ⟨z1, y1, xa, ka, da⟩ := dt_rd I.hok (R.dT ha)
      obtain ⟨z2, y2, xb, kb, db⟩ := dt_rd I.hok (R.dT hb)
      cases rx
      cases ry
      have la : xa.length = xs.length := by rw [← Paired.length ka, ra.length]
      have lb : xb.length = ys.length := by rw [← Paired.length kb, rb.length]
      obtain ⟨_, _, _, _, _, _, _, _, hnb⟩ := id db
      have fin : ∀ c : Bool, w = .val (.bl c) → Y' = Y → EP X pins σ Q (.bool c) s := fun c e1 e2 => by
        subst e1
        subst e2
        exact ⟨.bl c, H, I, rfl, q _ B H ρ (Aft.refl R) (.bl c)⟩
      unfold gEqDT at e
      dsimp only at e
      cases e1 : natEq xs.length ys.length with
      | false =>
        rw [e1] at e
        cases e
        have hne : xs.length ≠ ys.length := fun z => by
          unfold natEq at e1
          rw [z, Nat.beq_refl] at e1
          cases e1
        refine dictH_eq (r := false) y1 y2 (tupleKind_room_in1 (by have := hr.un; omega)) da db hr.units0 (fun z => absurd (by rw [← la, ← lb]; exact z) hne) ?_
        rw [Bool.and_false]
        exact fin false rfl rfl
      | true =>
        rw [e1] at e
        dsimp only at e
        cases e2 : hitsD ys xs with
        | none => rw [e2] at e; cases e
        | some c =>
          rw [e2] at e
          cases e
          have hl : xa.length = xb.length := by
            rw [la, lb]
            exact Nat.eq_of_beq_eq_true e1
          refine dictH_eq (r := c) y1 y2 (tupleKind_room_in1 (by have := hr.un; omega)) da db hr.units0 (fun _ => hits_of rb kb hnb ra ka e2) ?_
          rw [hl, beq_self_eq_true, Bool.true_and]
          exact fin c rfl rfl
end MV
set_option Elab.async false
set_option linter.all false
set_option maxRecDepth 100000
set_option maxHeartbeats 4000000
/-! MvWrap: short words for what is called often. -/
namespace MV
open PySem PySem.Spec PyProof.Rows L2
theorem In.u1 {X : Cx} {W : WX} {k : Nat} (i : In X W k) : X.A.units + 100 < cLine := by have := i.room.un; omega
theorem In.mono {X : Cx} {W : WX} {k j : Nat} (i : In X W k) (h : j ≤ k) : In X W j := ⟨i.calm, i.tk, i.room.mono h⟩
theorem In.r0 {X : Cx} {W : WX} {k : Nat} (i : In X W k) : Room 0 X.A := i.room.mono (Nat.zero_le _)
section
variable {cls : Cl} {X : Cx} {W : WX} {k : Nat} {pos p : Pos} {e a b c : Expr} {fa : ADen} {f1 f2 f3 : Den}
/-! ### built-ins -/
theorem d_len (hm : X.mg "len" = none) (ha : DA cls X W [e] fa) (hg : Gl X "len" := by rfl) (he : starEach [e] X.env = (false, eval e X.env) :: starEach [] X.env := by rfl) : DE cls X W (.Call (.Name "len" p) [e] [] pos) (dBlt (orL gLen gLenD) fa) :=
  d_bltn' (CallR.or call_len call_lenD) (RLD.or l_len l_lenD) hm rfl ha hg (by decide) (by decide) he rfl
theorem d_abs (hm : X.mg "abs" = none) (ha : DA cls X W [e] fa) (hg : Gl X "abs" := by rfl) (he : starEach [e] X.env = (false, eval e X.env) :: starEach [] X.env := by rfl) : DE cls X W (.Call (.Name "abs" p) [e] [] pos) (dBlt gAbs fa) :=
  d_bltn' call_abs l_abs hm rfl ha hg (by decide) (by decide) he rfl
theorem d_intc (hm : X.mg "int" = none) (ha : DA cls X W [e] fa) (hg : Gl X "int" := by rfl) (he : starEach [e] X.env = (false, eval e X.env) :: starEach [] X.env := by rfl) : DE cls X W (.Call (.Name "int" p) [e] [] pos) (dBlt gInt fa) :=
  d_tyn call_int1 l_int hm rfl ha hg (by decide) (by decide) he rfl
theorem d_list (hm : X.mg "list" = none) (ha : DA cls X W [e] fa) (hg : Gl X "list" := by rfl) (he : starEach [e] X.env = (false, eval e X.env) :: starEach [] X.env := by rfl) : DE cls X W (.Call (.Name "list" p) [e] [] pos) (dBlt gList fa) :=
  d_tyn call_list_of l_list hm rfl ha hg (by decide) (by decide) he rfl
theorem d_listR (hm : X.mg "list" = none) (ha : DA cls X W [e] fa) (hg : Gl X "list" := by rfl) (he : starEach [e] X.env = (false, eval e X.env) :: starEach [] X.env := by rfl) : DE cls X W (.Call (.Name "list" p) [e] [] pos) (dBlt gListR fa) :=
  d_tyn call_list_of l_listR hm rfl ha hg (by decide) (by decide) he rfl
theorem d_tuple (hm : X.mg "tuple" = none) (ha : DA cls X W [e] fa) (hg : Gl X "tuple" := by rfl) (he : starEach [e] X.env = (false, eval e X.env) :: starEach [] X.env := by rfl) : DE cls X W (.Call (.Name "tuple" p) [e] [] pos) (dBlt gTup fa) :=
  d_tyn call_tuple_of l_tup hm rfl ha hg (by decide) (by decide) he rfl
theorem d_sum (i : In X W k) (hm : X.mg "sum" = none) (ha : DA cls X W [e] fa) (hg : Gl X "sum" := by rfl) (he : starEach [e] X.env = (false, eval e X.env) :: starEach [] X.env := by rfl) : DE cls X W (.Call (.Name "sum" p) [e] [] pos) (dBlt gSum fa) :=
  d_bltn' (cr_sum i.calm) l_sum hm rfl ha hg (by decide) (by decide) he rfl
theorem d_any (i : In X W k) (hm : X.mg "any" = none) (ha : DA cls X W [e] fa) (hg : Gl X "any" := by rfl) (he : starEach [e] X.env = (false, eval e X.env) :: starEach [] X.env := by rfl) : DE cls X W (.Call (.Name "any" p) [e] [] pos) (dBlt gAny fa) :=
  d_bltn' (cr_any i.calm) l_any hm rfl ha hg (by decide) (by decide) he rfl
theorem d_all (i : In X W k) (hm : X.mg "all" = none) (ha : DA cls X W [e] fa) (hg : Gl X "all" := by rfl) (he : starEach [e] X.env = (false, eval e X.env) :: starEach [] X.env := by rfl) : DE cls X W (.Call (.Name "all" p) [e] [] pos) (dBlt gAll fa) :=
  d_bltn' (cr_all i.calm) l_all hm rfl ha hg (by decide) (by decide) he rfl
theorem d_sorted (hm : X.mg "sorted" = none) (ha : DA cls X W [e] fa) (hg : Gl X "sorted" := by rfl) (he : starEach [e] X.env = (false, eval e X.env) :: starEach [] X.env := by rfl) : DE cls X W (.Call (.Name "sorted" p) [e] [] pos) (dBlt (orL gSortS gSortI) fa) :=
  d_bltn' (CallR.or cr_sortedS cr_sorted) (RLD.or l_sortS l_sortI) hm rfl ha hg (by decide) (by decide) he rfl
def gMin2 : GL := fun ws Y => match ws with
  | [.val (.int i), .val (.int j)] => mkI (match iLt j i with
    | true => j
    | false => i) Y
  | _ => .bad
theorem l_min2 {G : Gx} : RLD G (fun xs H Q => ∃ i j, xs = [.int i, .int j] ∧ Q (.int (if j < i then j else i)) H) gMin2 := by
  intro xs B H ρ Y Q ws w Y' R r e q
  unfold gMin2 at e
  split at e
  · rename_i i j
    cases e
    obtain ⟨x, y, rfl, h1, h2⟩ := two_at r
    rw [rep_int h1, rep_int h2]
    refine ⟨i, j, rfl, ?_⟩
    have hh := q _ B H ρ (Aft.refl R) (.int _)
    by_cases z : j < i
    · rw [if_pos z]
      have : iLt j i = true := by rw [← iLt_dec]; exact decide_eq_true z
      rw [this] at hh
      exact hh
    · rw [if_neg z]
      have : iLt j i = false := by rw [← iLt_dec]; exact decide_eq_false z
      rw [this] at hh
      exact hh
  · cases e
theorem d_min2 (i : In X W k) (hm : X.mg "min" = none) (ha : DA cls X W [a, b] fa) (hg : Gl X "min" := by rfl) (he : starEach [a, b] X.env = (false, eval a X.env) :: starEach [b] X.env := by rfl) (hpl : (backTo pos (starEach [b] X.env)).any (·.1) = false := by rfl) : DE cls X W (.Call (.Name "min" p) [a, b] [] pos) (dBlt gMin2 fa) :=
  d_bltn' (call_min2 i.calm) l_min2 hm rfl ha hg (by decide) (by decide) he hpl
/-! ### comparisons -/
def gEqD0 : G2 := fun a b Y => match a, b with
  | .val (.dK []), .val (.dK []) => .ok (.val (.bl true)) Y
  | _, _ => .bad
def rEqD0 : R2 := fun x y H Q => ∃ a b, x = .ref a ∧ y = .ref b ∧ Rd H a (.dK []) ∧ Rd H b (.dK []) ∧ Q (.bl true) H
theorem r_eqD0 {G : Gx} : R2D G rEqD0 gEqD0 := by
  intro x y B H ρ Y Q w1 w2 w Y' R ra rb e q
  unfold gEqD0 at e
  split at e
  · cases e
    cases ra with
    | dK h1 r1 =>
      cases r1
      cases rb with
      | dK h2 r2 =>
        cases r2
        exact ⟨_, _, rfl, rfl, R.dK h1, R.dK h2, q _ B H ρ (Aft.refl R) (.bl true)⟩
  · cases e
theorem op_eqD0 (hr : Room 0 X.A) : OpR X (compareOp .Eq) rEqD0 := by
  intro pins s σ H x y v u Q I rx ry h
  obtain ⟨a, b, rfl, rfl, ha, hb, q⟩ := h
  cases rx
  cases ry
  obtain ⟨_, y1, vs, kv, da⟩ := dk_rd I.hok ha
  obtain ⟨_, y2, us, ku, db⟩ := dk_rd I.hok hb
  cases kv
  cases ku
  exact PySem.W.keq_eq (r := true) y1 y2 da db hr.units0 (fun _ => .nil) ⟨.bl true, H, I, rfl, q⟩
/-- lists of two lengths -/
def gEqL : G2 := fun a b Y => match lsOf Y a, lsOf Y b with
  | some xs, some ys => (match natEq xs.length ys.length with
    | false => .ok (.val (.bl false)) Y
    | true => .bad)
  | _, _ => .bad
def rEqL (K : PySem.W.Frag) : R2 := fun x y H Q => ∃ a b xs ys, x = .ref a ∧ y = .ref b ∧ SqL K H a xs ∧ SqL K H b ys ∧ xs.length ≠ ys.length ∧ Q (.bl false) H
theorem r_eqL {G : Gx} : R2D G (rEqL G.K) gEqL := by
  intro x y B H ρ Y Q w1 w2 w Y' R ra rb e q
  unfold gEqL at e
  split at e
  · rename_i xs ys h1 h2
    split at e
    · rename_i h
      cases e
      obtain ⟨a, vs, rfl, s1, _, r1⟩ := lsOf_at R ra h1
      obtain ⟨b, us, rfl, s2, _, r2⟩ := lsOf_at R rb h2
      refine ⟨a, b, vs, us, rfl, rfl, s1, s2, fun z => ?_, q _ B H ρ (Aft.refl R) (.bl false)⟩
      rw [Paired.length r1, Paired.length r2] at z
      unfold natEq at h
      rw [z, Nat.beq_refl] at h
      cases h
    · cases e
  · cases e
theorem op_eqL (hr : Room 0 X.A) : OpR X (compareOp .Eq) (rEqL X.K) := by
  intro pins s σ H x y v u Q I rx ry h
  obtain ⟨a, b, xs, ys, rfl, rfl, ha, hb, hn, q⟩ := h
  cases (show v = Value.ref a from rx)
  cases (show u = Value.ref b from ry)
  obtain ⟨us, r1, p1, _⟩ := I.list ha
  obtain ⟨ws, r2, p2, _⟩ := I.list hb
  exact SeqAt.RcAt.lists_lengths p1.isList p2.isList (by
    rw [List.size_toArray, List.size_toArray, ← r1.length, ← r2.length]
    simpa using hn) hr.units0 X.prog X.w _ _ ⟨.bl false, H, I, rfl, q⟩
def gEqA : G2 := orG gEqL (orG gEq (orG gEqDT gEqD0))
abbrev rEqA (cls : Cl) (X : Cx) : R2 := fun x y H Q => rEqL X.K x y H Q ∨ (rEq x y H Q ∨ rEqD X.K x y H Q) ∨ rEqDT (gx cls X) x y H Q ∨ rEqD0 x y H Q
theorem opEqA (i : In X W k) : OpR X (compareOp .Eq) (rEqA cls X) := fun pins s σ H x y v u Q I rx ry h => by
  rcases h with h | h | h | h
  · exact op_eqL i.r0 pins s σ H x y v u Q I rx ry h
  · exact opEq (by have := i.u1; omega) pins s σ H x y v u Q I rx ry h
  · exact op_eqDT i.r0 pins s σ H x y v u Q I rx ry h
  · exact op_eqD0 i.r0 pins s σ H x y v u Q I rx ry h
theorem r_eqA : R2D (gx cls X) (rEqA cls X) gEqA := R2D.or r_eqL (R2D.or r_eq (R2D.or r_eqDT r_eqD0))
/-- with own == -/
def gEqO (sel : Nat → Option FDen) (kt : Kd → Bool) : G2 := orG gEqA (gOwn false sel kt)
def gNeO (sel : Nat → Option FDen) (kt : Kd → Bool) : G2 := orG gNe (gOwn true sel kt)
theorem opEqO {sel : Nat → Option FDen} {kt : Kd → Bool} (i : In X W k) (hs : ∀ c fn, sel c = some fn → ∃ lev, EqC X cls c fn lev kt) : OpR X (compareOp .Eq) (fun x y H Q => rEqA cls X x y H Q ∨ rOwn cls X false sel kt x y H Q) := fun pins s σ H x y v u Q I rx ry h => by
  rcases h with h | h
  · exact opEqA i pins s σ H x y v u Q I rx ry h
  · exact op_ownEq i.tk hs i.r0 pins s σ H x y v u Q I rx ry h
theorem r_eqO {sel : Nat → Option FDen} {kt : Kd → Bool} : R2D (gx cls X) (fun x y H Q => rEqA cls X x y H Q ∨ rOwn cls X false sel kt x y H Q) (gEqO sel kt) := R2D.or r_eqA r_own
theorem opNeO {sel : Nat → Option FDen} {kt : Kd → Bool} (i : In X W k) (hs : ∀ c fn, sel c = some fn → ∃ lev, EqC X cls c fn lev kt) : OpR X (compareOp .NotEq) (fun x y H Q => (rNe x y H Q ∨ rNeD X.K x y H Q) ∨ rOwn cls X true sel kt x y H Q) := fun pins s σ H x y v u Q I rx ry h => by
  rcases h with h | h
  · exact opNe (by have := i.u1; omega) pins s σ H x y v u Q I rx ry h
  · exact op_ownNe i.tk hs i.r0 pins s σ H x y v u Q I rx ry h
theorem r_neO {sel : Nat → Option FDen} {kt : Kd → Bool} : R2D (gx cls X) (fun x y H Q => (rNe x y H Q ∨ rNeD X.K x y H Q) ∨ rOwn cls X true sel kt x y H Q) (gNeO sel kt) := R2D.or r_ne r_own
theorem opNeA (i : In X W k) : OpR X (compareOp .NotEq) (fun x y H Q => rNe x y H Q ∨ rNeD X.K x y H Q) := opNe (by have := i.u1; omega)
theorem opInA (i : In X W k) : OpR X (compareOp .In) (fun x y H Q => rIn X.K false x y H Q ∨ rInDct false x y H Q ∨ rInSgn false x y H Q ∨ rInD X.K x y H Q) := opIn (by have := i.u1; omega)
theorem opNotInA (i : In X W k) : OpR X (compareOp .NotIn) (fun x y H Q => rIn X.K true x y H Q ∨ rInDct true x y H Q ∨ rInSgn true x y H Q ∨ rNotInD X.K x y H Q) := opNotIn (by have := i.u1; omega)
/-- a op b op' c -/
theorem chain_run {r r' : R2} {g g' : G2} {ta tb tc : TE} (hr : R2D (gx cls X) r g) (hr' : R2D (gx cls X) r' g') (ha : ∀ σ H Q B ρ Y τ, Rel (gx cls X) B H ρ Y → TR (gx cls X) B ρ Y.length σ τ → ReOk (gx cls X) W σ B H ρ Y Q (f1 τ Y) → ta σ H Q) (hb : ∀ σ H Q B ρ Y τ, Rel (gx cls X) B H ρ Y → TR (gx cls X) B ρ Y.length σ τ → ReOk (gx cls X) W σ B H ρ Y Q (f2 τ Y) → tb σ H Q)
    (hc : ∀ σ H Q B ρ Y τ, Rel (gx cls X) B H ρ Y → TR (gx cls X) B ρ Y.length σ τ → ReOk (gx cls X) W σ B H ρ Y Q (f3 τ Y) → tc σ H Q) : ∀ σ H Q B ρ Y τ, Rel (gx cls X) B H ρ Y → TR (gx cls X) B ρ Y.length σ τ → ReOk (gx cls X) W σ B H ρ Y Q (dChain g g' f1 f2 f3 τ Y) → tChain r r' ta tb tc σ H Q := by
  intro σ H Q B ρ Y τ R T h
  refine ha σ H _ B ρ Y τ R T (ReOk.imp ?_ (ReOk.bound h))
  rintro x H1 ⟨B1, ρ1, w1, Y1, A1, r1, h1⟩
  refine hb σ H1 _ B1 ρ1 Y1 τ A1.rel (T.aft A1) (ReOk.imp ?_ (ReOk.bound h1))
  rintro y H2 ⟨B2, ρ2, w2, Y2, A2, r2, h2⟩
  refine hr.run (W := W) (σ := σ) A2.rel (WRep.aft A2 r1) r2 (ReOk.imp ?_ (ReOk.bound h2))
  rintro z H3 ⟨B3, ρ3, w3, Y3, A3, r3, h3⟩
  split at h3
  · refine ⟨true, rep_bl r3, ?_⟩
    rw [if_pos rfl]
    refine hc σ H3 _ B3 ρ3 Y3 τ A3.rel (((T.aft A1).aft A2).aft A3) (ReOk.imp ?_ (ReOk.bound h3))
    rintro z' H4 ⟨B4, ρ4, w4, Y4, A4, r4, h4⟩
    exact hr'.run (W := W) (σ := σ) A4.rel (WRep.aft A4 (WRep.aft A3 r2)) r4 h4
  · refine ⟨false, rep_bl r3, ?_⟩
    rw [if_neg (by decide)]
    exact h3 _ B3 H3 ρ3 (Aft.refl A3.rel) (.bl false)
  · exact h3.elim
theorem d_chain {op op' : CmpOp} {r r' : R2} {g g' : G2} (ho : OpR X (compareOp op) r) (ho' : OpR X (compareOp op') r') (hr : R2D (gx cls X) r g) (hr' : R2D (gx cls X) r' g') (ha : DE cls X W a f1) (hb : DE cls X W b f2) (hc : DE cls X W c f3) (hm : lastMarks [op, op'] [b, c] = false := by rfl) :
    DE cls X W (.Compare a [op, op'] [b, c] pos) (dChain g g' f1 f2 f3) := by
  obtain ⟨ta, pa, ha⟩ := ha
  obtain ⟨tb, pb, hb⟩ := hb
  obtain ⟨tc, pc, hc⟩ := hc
  exact ⟨_, pe_chain ho ho' pa pb pc hm, chain_run hr hr' ha hb hc⟩
theorem dt_chain {op op' : CmpOp} {r r' : R2} {g g' : G2} (ho : OpR X (compareOp op) r) (ho' : OpR X (compareOp op') r') (hr : R2D (gx cls X) r g) (hr' : R2D (gx cls X) r' g') (ha : DE cls X W a f1) (hb : DE cls X W b f2) (hc : DE cls X W c f3) (hm : lastMarks [op, op'] [b, c] = false := by rfl) :
    DT cls X W (.Compare a [op, op'] [b, c] pos) (dTest (dChain g g' f1 f2 f3)) := by
  obtain ⟨ta, pa, ha⟩ := ha
  obtain ⟨tb, pb, hb⟩ := hb
  obtain ⟨tc, pc, hc⟩ := hc
  exact dt_of (pt_chain ho ho' pa pb pc hm) (chain_run hr hr' ha hb hc)
/-- powers -/
def gPow : G2 := gI fun i j Y => match iLe 0 j, iLe j 1000, small64 i with
  | true, true, true => mkI (i ^ j.toNat) Y
  | _, _, _ => .bad
theorem r_pow {G : Gx} : R2D G (rI CPow fun i j => .int (i ^ j.toNat)) gPow := by
  intro x y B H ρ Y Q w1 w2 w Y' R ra rb e q
  obtain ⟨i, j, rfl, rfl, e⟩ := gI_run ra rb e
  split at e
  · rename_i h1 h2 h3
    cases e
    have h3' := small64_ok h3
    have h1' := iLe_iff.mp h1
    have h2' := iLe_iff.mp h2
    exact ⟨i, j, rfl, rfl, ⟨h1', by omega, by omega⟩, q _ B H ρ (Aft.refl R) (.int _)⟩
  · cases e
theorem d_pow (ha : DE cls X W a f1) (hb : DE cls X W b f2) : DE cls X W (.BinOp a .Pow b pos) (dOp gPow f1 f2) := d_op op_pow r_pow ha hb
/-- {} as data -/
theorem d_dct0 : DE cls X W (.Dict [] [] pos) (dC (.dK [])) := by
  refine ⟨_, pe_dnewK, fun σ H Q B ρ Y τ R T hq p hn => ?_⟩
  have A := Aft.new R (.dK []) hn
  exact hq _ _ _ _ A (.dK upd_same .nil)
end
end MV
set_option Elab.async false
set_option linter.all false
set_option maxRecDepth 100000
set_option maxHeartbeats 4000000
/-! MvEnd: the law's call. -/
namespace MV
open PySem PySem.Spec PyProof.Rows L2
/-- the script alone is data at the start -/
theorem rel_start {G : Gx} {H : Hp} {a : Addr} {ns : List Int} (hT : ∀ p ∈ G.T, H p.1 = some (.tbl #[])) (hS : SqL G.K H a (ns.map V.int)) (hl : ns.length ≤ sizeLine) : ∃ B, Rel G B H (fun _ => 0) [] ∧ Rep G B (.ref a) (.scr ns) := by
  have tabs : LamX.Tabs G.T H := fun p hp => LamX.TabS.nil (hT p hp)
  have mk : ∀ B : Hp, (∀ b o, B b = some o → H b = some o ∧ ∀ ps, o ≠ .tbl ps) → SqL G.K B a (ns.map V.int) → ∃ B, Rel G B H (fun _ => 0) [] ∧ Rep G B (.ref a) (.scr ns) := fun B hB hS =>
    ⟨B, ⟨fun b o e => .inl (hB b o e).1, fun n ⟨_, e, _⟩ => by simp at e, fun n yo e => by simp at e, fun n m ⟨_, e, _⟩ => by simp at e, tabs, fun b ps e => (hB b _ e).2 ps rfl⟩, .scr hS hl⟩
  have one : ∀ o : HO, H a = some o → (∀ ps, o ≠ .tbl ps) → ∀ b u, (if b = a then some o else none) = some u → H b = some u ∧ ∀ ps, u ≠ .tbl ps := fun o h n b u e => by
    by_cases hb : b = a
    · rw [if_pos hb] at e
      cases e
      rw [hb]
      exact ⟨h, n⟩
    · rw [if_neg hb] at e
      cases e
  rcases hS with (h | ⟨o, h⟩) | h
  · exact mk (fun b => if b = a then some (.lst (ns.map V.int)) else none) (one _ h nofun) (.inl (.inl (if_pos rfl)))
  · exact mk (fun b => if b = a then some (.frz o (.lst (ns.map V.int))) else none) (one _ h nofun) (.inl (.inr ⟨o, if_pos rfl⟩))
  · exact mk (fun _ => none) (fun b o e => by cases e) (.inr h)
theorem law_sp {G : Gx} {H : Hp} {a : Addr} {ns : List Int} {fn : FDen} {Y : Ys} (hT : ∀ p ∈ G.T, H p.1 = some (.tbl #[])) (hS : SqL G.K H a (ns.map V.int)) (hl : ns.length ≤ sizeLine) (h : fn [.val (.scr ns)] [] = .ok (.val (.bl true)) Y) : spW G 1 fn [.ref a] H (fun v _ => v = .bl true) (fun _ _ _ => False) := by
  obtain ⟨B, R, r⟩ := rel_start hT hS hl
  refine ⟨rfl, B, _, [], [.val (.scr ns)], R, .cons r .nil, ?_⟩
  rw [h]
  exact fun v B' H' ρ' A rv => rep_bl rv
end MV
set_option Elab.async false
set_option linter.all false
set_option maxRecDepth 100000
set_option maxHeartbeats 4000000
/-! MvHook: what the head tells: facts by names, defs, the error classes, tables of code objects, one Bool more. -/
namespace MV
open PySem PySem.Spec PyProof.Rows L2 He
/-! ### error classes -/
structure ErrD where
  x : Str
  f : Str
  y : Str
  txt : Str
  init : Stmt
def oexI (C : Addr) (cd : ClassData) (sl : Array (Option Value)) : Bool := match cd.mro, sl.toList with
  | .ref C' :: bm, [_, _, _, _, some (.builtin n), _] => decide (C' = C) && (decide (n = "ValueError.__new__") && (!cd.hasDel && (cd.hasDict && PySem.HandSPX.refsVE bm)))
  | _, _ => false
def oexB (K : PySem.W.Frag) (C : Addr) : Bool := match K.lookup C with
  | some ⟨.type t, _, .cls cd, sl⟩ => decide (t = "type") && oexI C cd sl
  | _ => false
theorem oexB_ok {K : PySem.W.Frag} {C : Addr} (h : oexB K C = true) : ∃ nm q N bs bm sn sub ab col dd k0 k1 k2 k3 k5, K.lookup C = some (excClassObj nm q C N bs bm true sn sub ab col dd k0 k1 k2 k3 k5 "ValueError.__new__") ∧ PySem.HandSPX.refsVE bm = true := by
  unfold oexB at h
  split at h
  · rename_i t dd cd sl ho
    obtain ⟨ht, g⟩ := ba h
    have et := of_decide_eq_true ht
    subst et
    clear h ht
    unfold oexI at g
    split at g
    · rename_i C' bm k0 k1 k2 k3 n k5 hm hs
      obtain ⟨h1, g⟩ := ba g
      obtain ⟨h2, g⟩ := ba g
      obtain ⟨h3, g⟩ := ba g
      obtain ⟨h4, h5⟩ := ba g
      have e1 := of_decide_eq_true h1
      have e2 := of_decide_eq_true h2
      subst e1
      subst e2
      obtain ⟨nm, bs, mro, ns, qn, hd, sn, sub, ab, col, del⟩ := cd
      dsimp only at hm h3 h4
      subst hm
      subst h4
      have h3' : del = false := by simpa using h3
      subst h3'
      have hsl : sl = #[k0, k1, k2, k3, some (.builtin "ValueError.__new__"), k5] := by
        obtain ⟨l⟩ := sl
        simp only at hs
        rw [hs]
      subst hsl
      exact ⟨nm, qn, ns, bs, bm, sn, sub, ab, col, dd, k0, k1, k2, k3, k5, ho, h5⟩
    · cases g
  · cases h
abbrev FnE : Type := Option (Str × Str × Arguments × FuncBody × Scope × Addr × List Str × Addr)
def fnE (K : PySem.W.Frag) (x : Str) : FnE := match K.lookup (ma K (ga K x) "__init__") with
  | some ⟨_, _, .func fd, _⟩ => some (fd.name, fd.qualname, fd.params, fd.body, fd.scope, fd.globals, fd.closure.map (·.1), fd.builtins)
  | _ => none
def ErrD.val (d : ErrD) : FnE := some ("__init__", d.x ++ ".__init__", defArgs d.init, .stmts (defBody d.init), defScope d.init, mainGlobals, ["__class__"], builtinsNs)
def isTxt (x : Str) : Option Value → Bool
  | some (.str z _) => decide (x = z)
  | _ => false
def errFnB (file : Str) (K : PySem.W.Frag) (C : Addr) (f : Addr) : Bool := match K.lookup f with
  | some ⟨_, _, .func fd, _⟩ => (match fd.code, fd.closure, fd.defaults with
    | .ref c, [(_, cc)], .none => PySem.W.codeIn K (.ref c) fd.qualname && ((match K.lookup c with
      | some ⟨_, _, .fields vs, _⟩ => isTxt file vs[2]?
      | _ => false) && (match K.lookup cc with
      | some ⟨_, _, .cell (some (.ref D)), _⟩ => decide (D = C)
      | _ => false))
    | _, _, _ => false)
  | _ => false
def ErrD.ok (file : Str) (K : PySem.W.Frag) (d : ErrD) : Bool :=
  eqO (PySem.W.findIn K (.ref (ga K d.x)) "__init__") (some (some (.ref (ma K (ga K d.x) "__init__")))) && (decide (PySem.W.typeIn K (.ref (ma K (ga K d.x) "__init__")) = some (.type "function")) && (errFnB file K (ga K d.x) (ma K (ga K d.x) "__init__") && (oexB K (ga K d.x) &&
  (eqO (PySem.W.findIn K (.ref (ga K d.x)) "__setattr__") (some (some (.builtin "object.__setattr__"))) && (decide (PySem.W.subIn K (.ref (ga K d.x)) (.type "BaseException") = some true) && (decide (PySem.W.typeIn K (.ref (ga K d.x)) = some (.type "type")) && (PySem.W.keepIn K (.ref (ga K d.x)) &&
  (eqO (PySem.W.findIn K (.ref (ga K d.x)) d.f) (some none) && (decide (PySem.W.subIn K (.ref (ga K d.x)) (.type "ValueError") = some true) && (decide (PySem.W.mroIn K (ga K d.x) (.ref (ga K d.x)) = some true) && (eqO (PySem.W.ks_superIn K (ga K d.x) (ga K d.x) "__init__") (some (some (.builtin "ValueError.__init__"))) &&
  (eqO (PySem.W.nsIn K cStatics "thirdparty.any") (some none) && xfB K (ga K d.x)))))))))))))
/-- what the text must have -/
structure ErrT (d : ErrD) : Prop where
  body : ∃ j p0 p1 p2 p3 p4 p5 p6 p7 p8 p9, defBody d.init = errBody "self" d.y d.f d.txt j p0 p1 p2 p3 p4 p5 p6 p7 p8 p9 ∧ (p2.endLine == p4.line) = true
  arg : ∃ ar : Arg, ((defArgs d.init).posonlyargs ++ (defArgs d.init).args).head? = some ar ∧ ar.arg = "self"
  ne : ("self" : Str) ≠ d.y
  bind : ∀ (bd : List Stmt) (q : Str) (kV doc pm : Value) (an : Option Addr) (c ct : Value) (cc : Addr) (a u : Value), bindArgs (PySem.W.ksFn "__init__" q (defArgs d.init) bd (defScope d.init) .none kV doc pm an c ct cc) ⟨[a, u], []⟩ = pure [(("self" : Str), a), (d.y, u)] ∧ bindArgs (PySem.W.ksFn "__init__" q (defArgs d.init) bd (defScope d.init) .none kV doc pm an c ct cc) ⟨[a], [(d.f, u)]⟩ = pure [(("self" : Str), a), (d.y, u)]
  sup : (defScope d.init).names.lookup ("super" : Str) = some .globalImplicit
  cls : (defScope d.init).names.lookup ("__class__" : Str) = some .free
  slf : (defScope d.init).names.lookup ("self" : Str) = some .local
  yy : (defScope d.init).names.lookup d.y = some .local
  kind : (defScope d.init).kind = .function
  noc : ∀ x ∈ (defScope d.init).names, x.2 ≠ .cell
  co : (defScope d.init).isCoroutine = false
  gen : (defScope d.init).isGenerator = false
  dbg : (d.y == ("__debug__" : Str)) = false
theorem ErrD.errK {P : Program} {K : PySem.W.Frag} {mg : Str → Option Value} {d : ErrD} (e : fnE K d.x = d.val) (c : d.ok P.main.file K = true) (T : ErrT d) (ms : mg "super" = none) (top : (P.main.scope.names.lookup ("super" : Str)).isSome = false) : ErrK P K mg (ga K d.x) d.f ∧ XfC K (ga K d.x) := by
  unfold ErrD.ok at c
  obtain ⟨c1, c⟩ := ba c
  obtain ⟨c2, c⟩ := ba c
  obtain ⟨c3, c⟩ := ba c
  obtain ⟨c4, c⟩ := ba c
  obtain ⟨c5, c⟩ := ba c
  obtain ⟨c6, c⟩ := ba c
  obtain ⟨c7, c⟩ := ba c
  obtain ⟨c8, c⟩ := ba c
  obtain ⟨c9, c⟩ := ba c
  obtain ⟨c10, c⟩ := ba c
  obtain ⟨c11, c⟩ := ba c
  obtain ⟨c12, c⟩ := ba c
  obtain ⟨c13, c14⟩ := ba c
  refine ⟨⟨⟨oexB_ok c4, eqO_ok c5, of_decide_eq_true c6, of_decide_eq_true c7, c8⟩, eqO_ok c9, of_decide_eq_true c10, of_decide_eq_true c11, eqO_ok c12, eqO_ok c13, ms, top, ?_⟩, xfB_ok c14⟩
  unfold errFnB at c3
  unfold fnE at e
  cases lk : K.lookup (ma K (ga K d.x) "__init__") with
  | none => rw [lk] at c3; cases c3
  | some o =>
    obtain ⟨oc, od, dt, osl⟩ := o
    rw [lk] at c3 e
    cases dt <;> first | cases c3 | skip
    rename_i fd
    dsimp only at c3 e
    obtain ⟨nm, qn, pr, bd, sc, gl, clo, df, kd, dc, pm, an, cd, ct, bl⟩ := fd
    dsimp only at c3 e
    unfold ErrD.val at e
    obtain ⟨hb1, p0, p1, p2, p3, p4, p5, p6, p7, p8, p9, hb, hln⟩ := T.body
    obtain ⟨ar, ha1, ha2⟩ := T.arg
    injection e with e
    injection e with e1 e
    injection e with e2 e
    injection e with e3 e
    injection e with e4 e
    injection e with e5 e
    injection e with e6 e
    injection e with e7 e8
    subst e1
    subst e2
    subst e3
    subst e4
    subst e5
    subst e6
    subst e8
    cases cd <;> first | cases c3 | skip
    rename_i ca
    cases clo with
    | nil => cases e7
    | cons q0 qr =>
      cases qr with
      | cons _ _ => cases c3
      | nil =>
        obtain ⟨qn0, cc⟩ := q0
        have hq : qn0 = "__class__" := by
          injection e7
        subst hq
        cases df <;> first | cases c3 | skip
        dsimp only at c3
        obtain ⟨d1, c3⟩ := ba c3
        obtain ⟨d2, d3⟩ := ba c3
        cases lc : K.lookup ca with
        | none => rw [lc] at d2; cases d2
        | some o2 =>
          obtain ⟨ccl, cdd, cdt, ccs⟩ := o2
          rw [lc] at d2
          cases cdt <;> first | cases d2 | skip
          rename_i vs
          dsimp only at d2
          cases l2 : vs[2]? with
          | none => rw [l2] at d2; unfold isTxt at d2; cases d2
          | some z =>
            rw [l2] at d2
            unfold isTxt at d2
            cases z <;> first | cases d2 | skip
            rename_i file tf
            cases lcc : K.lookup cc with
            | none => rw [lcc] at d3; cases d3
            | some o3 =>
              obtain ⟨cl, cld, cldt, csl⟩ := o3
              rw [lcc] at d3
              cases cldt <;> first | cases d3 | skip
              rename_i ov
              cases ov with
              | none => cases d3
              | some v3 =>
                cases v3 <;> first | cases d3 | skip
                rename_i D
                have hD : D = ga K d.x := of_decide_eq_true d3
                subst hD
                have hfile : P.main.file = file := of_decide_eq_true d2
                rw [hb] at lk
                refine ⟨ma K (ga K d.x) "__init__", ca, cc, _, "self", d.y, d.txt, hb1, p0, p1, p2, p3, p4, p5, p6, p7, p8, p9, defArgs d.init, defScope d.init, .none, kd, dc, pm, ct, oc, ccl, cl, an, od, cdd, cld, osl, ccs, csl, ar, vs, file, tf,
                  eqO_ok c1, of_decide_eq_true c2, lk, d1, lc, l2, by rw [hfile]; exact beq_self_eq_true _, lcc, ha1, ha2, T.ne, fun a u => T.bind _ _ _ _ _ _ _ _ _ a u, T.sup, T.cls, T.slf, T.yy, T.kind, T.noc, T.co, T.gen, by decide, T.dbg, hln⟩

/-! ### the Hook -/
def asM (g : Addr → Option Obj) : Nat → List Addr
  | 0 => [mainGlobals, cStatics]
  | n + 1 => growD g (asM g n)
abbrev AlM : Type := Bool × List FnW × List FnE
def obsM (n : Nat) (file : Str) (fa : List Fa) (fn : List DefD) (er : List ErrD) (tf : List Defn) (ex : PySem.W.Frag → Bool) (g : Addr → Option Obj) : AlM :=
  let K := frT g (asM g n)
  ((fa.all fun f => f.ok K) && ((fn.all fun d => d.ok K) && ((er.all fun d => d.ok file K) && (ex K && tabsB g tf K))), fn.map fun d => fnW K d.at_, er.map fun d => fnE K d.x)
def valM (fn : List DefD) (er : List ErrD) : AlM := (true, fn.map DefD.val, er.map ErrD.val)
structure SaysM (file : Str) (fa : List Fa) (fn : List DefD) (er : List ErrD) (tf : List Defn) (ex : PySem.W.Frag → Bool) (h : Heap) (K : PySem.W.Frag) : Prop where
  fact : ∀ f ∈ fa, f.ok K = true
  defs : ∀ d ∈ fn, ∃ fd, FunD K d.name d.qual d.params d.body d.scope (d.dvs K) (d.kws K) (fAd K d.at_) fd
  errs : ∀ d ∈ er, fnE K d.x = d.val ∧ d.ok file K = true
  more : ex K = true
  hd : ∀ p ∈ tf, PySem.W.codeHdIn K (cT K p).1 (cT K p).2 = true
  out : ∀ p ∈ tf, K.lookup (cT K p).2 = none
  empty : ∀ p ∈ tf, h.get? (cT K p).2 = some { cls := .none, data := .fields #[] }
theorem map_eq_mem {α β : Type} {f g : α → β} : ∀ {l : List α}, l.map f = l.map g → ∀ x ∈ l, f x = g x
  | [], _, x, h => by cases h
  | a :: r, e, x, h => by
    rw [List.map_cons, List.map_cons] at e
    injection e with e1 e2
    rcases List.mem_cons.mp h with z | z
    · rw [z]; exact e1
    · exact map_eq_mem e2 x z
theorem saysM_of {n : Nat} {file : Str} {fa : List Fa} {fn : List DefD} {er : List ErrD} {tf : List Defn} {ex : PySem.W.Frag → Bool} {h : Heap} (e : obsM n file fa fn er tf ex h.get? = valM fn er) : SaysM file fa fn er tf ex h (frT h.get? (asM h.get? n)) := by
  unfold obsM valM at e
  injection e with e1 e
  injection e with e2 e3
  obtain ⟨h1, e1⟩ := ba e1
  obtain ⟨h2, e1⟩ := ba e1
  obtain ⟨h3, e1⟩ := ba e1
  obtain ⟨h4, h5⟩ := ba e1
  have key : ∀ p ∈ tf, PySem.W.codeHdIn (frT h.get? (asM h.get? n)) (cT (frT h.get? (asM h.get? n)) p).1 (cT (frT h.get? (asM h.get? n)) p).2 = true ∧ ∃ o, h.get? (cT (frT h.get? (asM h.get? n)) p).2 = some o ∧ emptyTab o = true := fun p hp => by
    obtain ⟨h6, h7⟩ := ba (List.all_eq_true.mp h5 p hp)
    refine ⟨h6, ?_⟩
    cases q : h.get? (cT (frT h.get? (asM h.get? n)) p).2 with
    | none => rw [q] at h7; cases h7
    | some o => rw [q] at h7; exact ⟨o, rfl, h7⟩
  refine ⟨fun f hf => List.all_eq_true.mp h1 f hf, fun d hd => DefD.funD (map_eq_mem e2 d hd) (List.all_eq_true.mp h2 d hd), fun d hd => ⟨map_eq_mem e3 d hd, List.all_eq_true.mp h3 d hd⟩, h4, fun p hp => (key p hp).1, fun p hp => ?_, fun p hp => ?_⟩
  · obtain ⟨_, o, q, z⟩ := key p hp
    exact frT_none q z
  · obtain ⟨_, o, q, z⟩ := key p hp
    rw [q, emptyTab_eq z]
def hookM (n : Nat) (file : Str) (fa : List Fa) (fn : List DefD) (er : List ErrD) (tf : List Defn) (ex : PySem.W.Frag → Bool) : PySem.W.Hook where
  α := AlM
  obs := fun s => obsM n file fa fn er tf ex s.heap.get?
  val := fun _ => valM fn er
  says := fun _ h => ∃ K : PySem.W.Frag, K.In h ∧ SaysM file fa fn er tf ex h K
  of := fun _ _ e => ⟨_, frT_in, saysM_of e⟩
  keeps := fun _ _ _ ⟨K, hK, c⟩ k => ⟨K, PySem.W.Frag.In.keeps hK k, ⟨c.fact, c.defs, c.errs, c.more, c.hd, c.out, fun p hp => k _ _ (c.empty p hp)⟩⟩
theorem obsM_eq {n : Nat} {file : Str} {fa : List Fa} {fn : List DefD} {er : List ErrD} {tf : List Defn} {ex : PySem.W.Frag → Bool} {g : Addr → Option Obj} {s : Shared} (h : ∀ a, g a = s.heap.get? a) : obsM n file fa fn er tf ex g = (hookM n file fa fn er tf ex).obs s := by
  have e : g = s.heap.get? := funext h
  rw [e]
  rfl
/-! ### further facts, as Bools of K -/
def ktupB (K : PySem.W.Frag) (x : Str) (vs : List Str) : Bool := match K.lookup (ga K x) with
  | some ⟨.type c, none, .seq its _, _⟩ => decide (c = "tuple") && (decide (its.size ≤ sizeLine) && relAll (vs.map V.str) its.toList)
  | _ => false
theorem ktupB_ok {K : PySem.W.Frag} {x : Str} {vs : List Str} (h : ktupB K x vs = true) : KTup K (ga K x) (vs.map V.str) := by
  unfold ktupB at h
  split at h
  · rename_i c its n sl ho
    obtain ⟨h1, h⟩ := ba h
    obtain ⟨h2, h3⟩ := ba h
    have e1 := of_decide_eq_true h1
    subst e1
    exact ⟨_, its, n, ho, rfl, rfl, rfl, of_decide_eq_true h2, relAll_ok h3⟩
  · cases h
def insB (K : PySem.W.Frag) (x : Str) : Bool := eqO (PySem.W.findIn K (.ref (ga K x)) "__class__") (some (some (.builtin "object.__class__"))) && (eqO (PySem.W.specialIn K (.builtin "object.__class__") "__get__") (some (some (.builtin "getset_descriptor.__get__"))) &&
  (decide (PySem.W.takesIn K (.builtin "object.__class__") = some true) && decide (PySem.W.mroIn K (ga K x) (.type "object") = some true)))
theorem insB_ok {K : PySem.W.Frag} {x : Str} (hc : Cls K (ga K x)) (h : insB K x = true) : InsK K (ga K x) := by
  obtain ⟨h1, h⟩ := ba h
  obtain ⟨h2, h⟩ := ba h
  obtain ⟨h3, h4⟩ := ba h
  exact ⟨hc, eqO_ok h1, eqO_ok h2, of_decide_eq_true h3, of_decide_eq_true h4⟩
end MV
set_option Elab.async false
set_option linter.all false
set_option maxRecDepth 100000
set_option maxHeartbeats 4000000
/-! MvClo: wishes that do not mind locks; what a body's derivation uses. -/
namespace MV
open PySem PySem.Spec PyProof.Rows L2
/-- so many locks opened -/
inductive UnS (X : Cx) : Hp → Hp → Prop
  | refl {H : Hp} : UnS X H H
  | step {L : Lk} {H H' : Hp} (h : UnO X L H) (r : UnS X (unlk L H) H') : UnS X H H'
def clo (X : Cx) (W : WX) : WX := fun c d σ H => ∃ H', UnS X H H' ∧ W c d σ H'
theorem UnS.inv {X : Cx} {pins : List (Addr × Obj)} {σ : L2.St} {s : Shared} : ∀ {H H' : Hp}, UnS X H H' → Inv X pins σ H s → Inv X pins σ H' s
  | _, _, .refl, I => I
  | _, _, .step h r, I => r.inv (MV.Inv.un I h)
theorem UnS.none {X : Cx} {a : Addr} : ∀ {H H' : Hp}, UnS X H H' → H a = none → H' a = none
  | _, _, .refl, e => e
  | H, _, .step (L := L) h r, e => r.none (by
    cases L with
    | none => exact e
    | some p =>
      obtain ⟨b, od, u⟩ := p
      have : H b = some (.frz od u) := h.1
      show upd H b u a = _
      rw [upd_ne (fun z => by rw [z, this] at e; cases e)]
      exact e)
theorem takes_clo {X : Cx} {W : WX} (t : Takes X W) : Takes X (clo X W) := fun u s' ⟨a, B, sI, pins, σ, H, cls, d, e, I, nb, up, sky, na, os, ag, H', us, w⟩ => t u s' ⟨a, B, sI, pins, σ, H', cls, d, e, us.inv I, nb, up, sky, us.none na, os, ag, w⟩
/-- what a body's derivation uses -/
structure InC (X : Cx) (W : WX) (k : Nat) : Prop extends In X W k where
  po : PassesOwn (model X.prog X.w) X.A X.env X.xe
  cl : ∀ c d σ H L, UnO X L H → W c d σ (unlk L H) → W c d σ H
theorem In.clo {X : Cx} {W : WX} {k : Nat} (i : In X W k) (po : PassesOwn (model X.prog X.w) X.A X.env X.xe) : InC X (clo X W) k :=
  ⟨⟨i.calm, takes_clo i.tk, i.room⟩, po, fun c d σ H L h ⟨H', us, w⟩ => ⟨H', .step h us, w⟩⟩
theorem InC.mono {X : Cx} {W : WX} {k j : Nat} (i : InC X W k) (h : j ≤ k) : InC X W j := ⟨i.toIn.mono h, i.po, i.cl⟩
theorem le_clo {X : Cx} {W : WX} : ∀ c d σ H, W c d σ H → clo X W c d σ H := fun c d σ H w => ⟨H, .refl, w⟩
theorem OutOk.wider {G : Gx} {W W' : WX} {σ : L2.St} {B H : Hp} {ρ : Nat → Addr} {Y : Ys} {E : Ends} (h : ∀ c d σ H, W c d σ H → W' c d σ H) : ∀ {r : Out}, OutOk G W σ B H ρ Y E r → OutOk G W' σ B H ρ Y E r
  | .next _ _, q => q
  | .ret _ _, q => q
  | .brk _ _, q => q
  | .cont _ _, q => q
  | .exc _ _ _ _, q => fun d σ' B' H' ρ' A T x => h _ _ _ _ (q d σ' B' H' ρ' A T x)
  | .bad, q => q
theorem DSs.mono {cls : Cl} {X : Cx} {W W' : WX} {sts : List Stmt} {F : SDen} (h : ∀ c d σ H, W c d σ H → W' c d σ H) (q : DSs cls X W' sts F) : DSs cls X W sts F :=
  let ⟨t, p, q⟩ := q
  ⟨t, p, fun σ H E B ρ Y τ R T o => q σ H E B ρ Y τ R T (OutOk.wider h o)⟩
theorem ReOk.wider {G : Gx} {W W' : WX} {σ : L2.St} {B H : Hp} {ρ : Nat → Addr} {Y : Ys} {Q : VK} (h : ∀ c d σ H, W c d σ H → W' c d σ H) : ∀ {r : Re}, ReOk G W σ B H ρ Y Q r → ReOk G W' σ B H ρ Y Q r
  | .ok _ _, q => q
  | .exc _ _ _, q => fun d B' H' ρ' A x => h _ _ _ _ (q d B' H' ρ' A x)
  | .bad, q => q
theorem DE.wider {cls : Cl} {X : Cx} {W W' : WX} {e : Expr} {f : Den} (h : ∀ c d σ H, W c d σ H → W' c d σ H) (q : DE cls X W' e f) : DE cls X W e f :=
  let ⟨t, p, q⟩ := q
  ⟨t, p, fun σ H Q B ρ Y τ R T o => q σ H Q B ρ Y τ R T (ReOk.wider h o)⟩
/-- a body from its derivation -/
theorem body_of {P : Program} {w : World} {K : PySem.W.Frag} {mg : Str → Option Value} {base : Heap} {cls : Cl} {N : List Str} {qual : Str} {scope : Scope} {f : Addr} {k : Nat} {body : List Stmt} {F : SDen}
    (h : ∀ (cdv : Value) (A : Around) (outer : List Env) (s : Shared) (H : Hp) (E : XK) (W : WX), InC (cxOf (L2.CX P w) P w K mg base N qual scope f cdv A outer s H E) W k → DSs cls (cxOf (L2.CX P w) P w K mg base N qual scope f cdv A outer s H E) W body F) : Body P w K mg base cls N qual scope f k body F :=
  fun cdv A outer s H E hr => DSs.mono le_clo (h cdv A outer s H E _ ((in_body hr).clo pass_body))
/-- within a try -/
theorem in_tr {X : Cx} {W : WX} {k : Nat} {pl : List (Addr × Obj)} {xe : Value → Shared → Prop} (i : In X W k) {W' : WX} (tk : Takes (X.tr pl xe) W') (po : PassesOwn (model X.prog X.w) X.A X.env xe) : InC (X.tr pl xe) (clo (X.tr pl xe) W') k :=
  In.clo (X := X.tr pl xe) ⟨i.calm, tk, i.room⟩ po
/-- in a comprehension's block -/
theorem InC.blk {X : Cx} {W : WX} {k : Nat} (i : InC X W k) {s : Shared} {H : Hp} {scope : Scope} {cenv : Env} {fp : List Addr} : In (X.blk s H scope cenv fp) W0 k := i.toIn.blk
/-- in a lambda's body -/
theorem in_lam {X : Cx} {A : Around} {outer : List Env} {s : Shared} {H : Hp} {E : XK} {scope : Scope} {f c' : Addr} {k : Nat} (hr : Room k (A.deeper (LamX.lamEnv X scope s.heap.objs.size f c'))) : In (LamX.lamCx X A outer s H E scope f c') (fun c d _ H => E c d H) k :=
  ⟨rfl, takes_of rfl rfl rfl rfl, hr⟩
end MV
set_option Elab.async false
set_option linter.all false
set_option maxRecDepth 100000
set_option maxHeartbeats 4000000
/-! MvGen: what the written derivations use. -/
namespace MV
open PySem PySem.Spec PyProof.Rows L2
/-- what a list, a tuple, a text, a dict gives -/
abbrev dIt (f : Den) : IDen := fun τ Y => (f τ Y).iter itOf
theorem In.uu {X : Cx} {W : WX} {k : Nat} (i : In X W k) : X.A.units + 1 < cLine := by have := i.u1; omega
/-! ### binding by place -/
def bmN (n : Nat) : List Bd := (List.range n).map .p
theorem bnd_range {α : Type} {us ws ds : List α} : ∀ (is : List Nat), (∀ i ∈ is, i < us.length) → ∃ l, bnd us ws ds (is.map .p) = some l ∧ l.length = is.length ∧ ∀ (j : Nat), j < is.length → l[j]? = is[j]?.bind (us[·]?)
  | [], _ => ⟨[], rfl, rfl, fun j h => absurd h (Nat.not_lt_zero _)⟩
  | i :: is, h => by
    obtain ⟨l, e, hl, hj⟩ := bnd_range (us := us) (ws := ws) (ds := ds) is fun k hk => h k (List.mem_cons_of_mem _ hk)
    have hi := h i List.mem_cons_self
    refine ⟨us[i] :: l, ?_, by simp [hl], fun j hj' => ?_⟩
    · show bnd us ws ds (.p i :: is.map .p) = _
      unfold bnd bnd1
      dsimp only
      rw [List.getElem?_eq_getElem hi]
      dsimp only
      rw [e]
    · cases j with
      | zero => simp [List.getElem?_eq_getElem hi]
      | succ j => simpa using hj j (by simpa using hj')
theorem bnd_all {α : Type} {us ws ds : List α} {n : Nat} (h : us.length = n) : bnd us ws ds (bmN n) = some us := by
  obtain ⟨l, e, hl, hj⟩ := bnd_range (us := us) (ws := ws) (ds := ds) (List.range n) fun i hi => by rw [h]; exact List.mem_range.mp hi
  unfold bmN
  rw [e]
  congr 1
  rw [List.length_range] at hl hj
  refine List.ext_getElem? fun j => ?_
  by_cases hjn : j < n
  · rw [hj j hjn, List.getElem?_range hjn]
    rfl
  · rw [List.getElem?_eq_none (by omega), List.getElem?_eq_none (by omega)]
theorem bmN_len (n : Nat) : (bmN n).length = n := by simp [bmN]
theorem callW_all {n : Nat} {fn : FDen} {ws : List W} {Y : Ys} (h : ws.length = n) : callW n 0 (bmN n) [] fn ws [] Y = fn ws Y := by
  unfold callW
  rw [bnd_all h, h, Nat.beq_refl]
  rfl
theorem mbn {K : PySem.W.Frag} {x qual : Str} {params : Arguments} {body : List Stmt} {scope : Scope} {kws : List (Str × V)} {f : Addr} {fd : FuncData} {ps : List Str} {n : Nat} (FD : FunD K x qual params body scope [] kws f fd) (hn : ps.length = n)
    (h : ∀ (kV doc pm : Value) (an : Option Addr) (cdv ct : Value) (us : List Value), us.length = ps.length → bindArgs (PySem.W.fnOf x qual params body scope .none kV doc pm an cdv ct) ⟨us, []⟩ = pure (ps.zip us)) : MBn K fd ps n [] (bmN n) [] := by
  refine ⟨[], .nil, fun s us ws l _ hl hw e => ?_⟩
  rw [bnd_all hl] at e
  cases e
  exact FD.bindsA h s us (by omega)
section
variable {P : Program} {w : World} {K : PySem.W.Frag} {mg : Str → Option Value} {base : Heap} {x qual : Str} {params : Arguments} {body : List Stmt} {scope : Scope} {kws : List (Str × V)} {f : Addr} {fd : FuncData} {N ps : List Str} {k n c : Nat} {cls : Cl} {F : SDen}
abbrev BindsN (x qual : Str) (params : Arguments) (body : List Stmt) (scope : Scope) (ps : List Str) : Prop := ∀ (kV doc pm : Value) (an : Option Addr) (cdv ct : Value) (us : List Value), us.length = ps.length → bindArgs (PySem.W.fnOf x qual params body scope .none kV doc pm an cdv ct) ⟨us, []⟩ = pure (ps.zip us)
theorem fnx_w (FD : FunD K x x params body scope [] kws f fd) (hm : mg x = some (.ref f)) (S : FnScope N ps scope) (hn : ps.length = n) (hb : BindsN x x params body scope ps) (B : Body P w K mg base cls N x scope f k body F) : FnX P w K mg base cls x n [] (bmN n) [] (runW F N.length) (k + 1) :=
  ⟨f, fd, ps, [], fn_w FD S B, hm, FD.kp, mbn FD hn hb, fun _ => .nil, by rw [bmN_len, hn]⟩
theorem fnx_p (FD : FunD K x x params body scope [] kws f fd) (hm : mg x = some (.ref f)) (S : FnScope N ps scope) (hn : ps.length = n) (hb : BindsN x x params body scope ps) (B : Body P w K mg base cls N x scope f k body F) : FnX P w K mg base cls x n [] (bmN n) [] (liftP (runP F N.length)) (k + 1) :=
  ⟨f, fd, ps, [], fn_p FD S B, hm, FD.kp, mbn FD hn hb, fun _ => .nil, by rw [bmN_len, hn]⟩
/-- a def whose code object is known -/
theorem fnx_pc {p : He.Defn} (FD : FunD K x x params body scope [] kws (He.fAd K p) fd) (hm : mg x = some (.ref (He.fAd K p))) (S : FnScope N ps scope) (hn : ps.length = n) (hb : BindsN x x params body scope ps) (B : BodyAt P w K mg base cls N x scope (He.fAd K p) k body F (.ref (He.cT K p).1)) : FnX P w K mg base cls x n [] (bmN n) [] (liftP (runP F N.length)) (k + 1) := by
  obtain ⟨oc, od, dV, kV, doc, pm, an, cdv, ct, osl, rfl, lk, hcd, _, _⟩ := id FD.ex
  obtain ⟨c, rfl⟩ := He.codeIn_ref hcd
  have e := He.codeOf_eq lk rfl
  rw [show (He.cT K p).1 = c from e] at B
  exact ⟨_, _, ps, [], fn_of lk hcd S (fun vs H Q E h => h.1) fun A outer s H vs Q E hr h => run_p S _ B A outer s H vs Q E hr h, hm, FD.kp, mbn FD hn hb, fun _ => .nil, by rw [bmN_len, hn]⟩
theorem fn_wc {p : He.Defn} (FD : FunD K x x params body scope [] kws (He.fAd K p) fd) (S : FnScope N ps scope) (B : BodyAt P w K mg base cls N x scope (He.fAd K p) k body F (.ref (He.cT K p).1)) : FnOk P w K mg base (L2.CX P w) (k + 1) (He.fAd K p) fd ps (spW ⟨K, mg, cls.at_, cls.fs, cls.T⟩ ps.length (runW F N.length)) := by
  obtain ⟨oc, od, dV, kV, doc, pm, an, cdv, ct, osl, rfl, lk, hcd, _, _⟩ := id FD.ex
  obtain ⟨c, rfl⟩ := He.codeIn_ref hcd
  have e := He.codeOf_eq lk rfl
  rw [show (He.cT K p).1 = c from e] at B
  exact fn_of lk hcd S (fun vs H Q E h => h.1) fun A outer s H vs Q E hr h => run_w S _ B A outer s H vs Q E hr h
theorem mtx_p (FD : FunD K x qual params body scope [] kws f fd) (hc : Cls K (cls.at_ c)) (hm : Meth K (cls.at_ c) x f) (hx : x ∉ cls.fs c) (S : FnScope N ps scope) (hn : ps.length = n + 1) (hb : BindsN x qual params body scope ps) (B : Body P w K mg base cls N qual scope f k body F) : MtX P w K mg base cls c x n [] (bmN (n + 1)) [] (liftP (runP F N.length)) (k + 1) :=
  ⟨f, fd, ps, [], hc, hm, hx, fn_p FD S B, mbn FD hn hb, fun _ => .nil, by rw [bmN_len, hn]⟩
theorem mkx_w {y : Str} (FD : FunD K x qual params body scope [] kws f fd) (hk : Mk K (cls.at_ c) f) (hm : mg y = some (.ref (cls.at_ c))) (S : FnScope N ps scope) (hn : ps.length = n + 1) (hb : BindsN x qual params body scope ps) (B : Body P w K mg base cls N qual scope f k body F) : MkX P w K mg base cls c y n [] (bmN (n + 1)) [] (runW F N.length) (k + 1) :=
  ⟨f, fd, ps, [], hk, fn_w FD S B, hm, mbn FD hn hb, fun _ => .nil, by rw [bmN_len, hn]⟩
theorem fns_p {pv : Str} (FD : FunD K x x params body scope [] kws f fd) (S : FnScope N [pv] scope) (hb : ∀ (kV doc pm : Value) (an : Option Addr) (cdv ct : Value) (us : List Value), bindArgs (PySem.W.fnOf x x params body scope .none kV doc pm an cdv ct) ⟨us, []⟩ = (newTuple us >>= fun t => pure [(pv, t)]))
    (hm : mg x = some (.ref f)) (B : Body P w K mg base cls N x scope f k body F) : FnS P w K mg base cls x (liftP (runP F N.length)) (k + 1) :=
  fn_s FD S hb (fun cdv A outer s H vs Q E hr h => run_p S cdv (B cdv) A outer s H vs Q E hr h) hm
/-- a def that is not yet told -/
theorem fnx_bad (FD : FunD K x x params body scope [] kws f fd) (hm : mg x = some (.ref f)) (S : FnScope N ps scope) (hn : ps.length = n) (hb : BindsN x x params body scope ps) : FnX P w K mg base cls x n [] (bmN n) [] (fun _ _ => .bad) (k + 1) :=
  ⟨f, fd, ps, [], FD.ok S (fun vs H Q E h => h.1) (fun cdv A outer s H vs Q E hr h => by obtain ⟨_, _, _, _, _, _, _, z⟩ := h; exact z.elim), hm, FD.kp, mbn FD hn hb, fun _ => .nil, by rw [bmN_len, hn]⟩
theorem body_at {cdv : Value} (h : ∀ (A : Around) (outer : List Env) (s : Shared) (H : Hp) (E : XK) (W : WX), InC (cxOf (L2.CX P w) P w K mg base N qual scope f cdv A outer s H E) W k → DSs cls (cxOf (L2.CX P w) P w K mg base N qual scope f cdv A outer s H E) W body F) : BodyAt P w K mg base cls N qual scope f k body F cdv :=
  fun A outer s H E hr => DSs.mono le_clo (h A outer s H E _ ((in_body hr).clo pass_body))
end
/-! ### names of the module -/
section
variable {cls : Cl} {X : Cx} {W : WX} {pos p p2 : Pos} {x : Str} {e : Expr} {fe : Den} {kt : Kd → Option Bool}
theorem d_gInt {i : Int} (h : ∃ t, X.mg x = some (.int i t)) (hg : Gl X x := by rfl) (hd : (x == ("__debug__" : Str)) = false := by decide) : DE cls X W (.Name x pos) (dC (.int i)) :=
  let ⟨t, hm⟩ := h
  d_glob hm (v := .int i) ⟨t, rfl⟩ (fun _ => .int i) hg hd
theorem d_gStr {z : Str} (h : ∃ t, X.mg x = some (.str z t)) (hg : Gl X x := by rfl) (hd : (x == ("__debug__" : Str)) = false := by decide) : DE cls X W (.Name x pos) (dC (.str z)) :=
  let ⟨t, hm⟩ := h
  d_glob hm (v := .str z) ⟨t, rfl⟩ (fun _ => .str z) hg hd
theorem d_gFn {f : Addr} (h : X.mg x = some (.ref f)) (hg : Gl X x := by rfl) (hd : (x == ("__debug__" : Str)) = false := by decide) : DE cls X W (.Name x pos) (dC (.gl x)) :=
  d_glob h (v := .ref f) rfl (fun _ => .gl h rfl) hg hd
/-! ### isinstance -/
theorem pe_ty {T : String} (hm : X.mg x = none) (hv : bootBuiltins x = some (.type T)) (hg : Gl X x := by rfl) (hn : x ≠ "__name__" := by decide) (hd : (x == ("__debug__" : Str)) = false := by decide) : PE X (.Name x pos) (tC (.ty T)) := pe_bltn hg hm hv rfl hn hd
/-- which kinds are of the built-in types Ts -/
def ktB (Ts : List String) : Kd → Option Bool
  | .non => some false
  | .bl => some (Ts.contains "bool" || Ts.contains "int")
  | .int => some (Ts.contains "int")
  | .str => some (Ts.contains "str")
  | .lst => some (Ts.contains "list")
  | .tup => some (Ts.contains "tuple")
  | .dct => some (Ts.contains "dict")
  | .ins _ => none
theorem kdB {K : PySem.W.Frag} {Ts : List String} (h : ∀ kd b, ktB Ts kd = some b → PySem.W.kitAny K (tyKd cls.at_ kd) (Ts.map Value.type) = some b) : KdOk cls K (Ts.map Value.type) (ktB Ts) := fun kd b e => ⟨h kd b e, fun c z => by subst z; cases e⟩
theorem kd1 {K : PySem.W.Frag} {T : String} (hT : T = "str" ∨ T = "int" ∨ T = "bool" ∨ T = "list" ∨ T = "tuple" ∨ T = "dict") : KdOk cls K [.type T] (ktB [T]) := by
  refine kdB (Ts := [T]) fun kd b e => ?_
  rcases hT with rfl | rfl | rfl | rfl | rfl | rfl <;> cases kd <;> cases e <;> rfl
theorem kdLT {K : PySem.W.Frag} : KdOk cls K [.type "list", .type "tuple"] (ktB ["list", "tuple"]) := by
  refine kdB (Ts := ["list", "tuple"]) fun kd b e => ?_
  cases kd <;> cases e <;> rfl
theorem kdBI {K : PySem.W.Frag} : KdOk cls K [.type "bool", .type "int"] (ktB ["bool", "int"]) := by
  refine kdB (Ts := ["bool", "int"]) fun kd b e => ?_
  cases kd <;> cases e <;> rfl
theorem kdBILT {K : PySem.W.Frag} : KdOk cls K [.type "bool", .type "int", .type "list", .type "tuple"] (ktB ["bool", "int", "list", "tuple"]) := by
  refine kdB (Ts := ["bool", "int", "list", "tuple"]) fun kd b e => ?_
  cases kd <;> cases e <;> rfl
/-- isinstance(e, T) -/
theorem d_isi1 {T : String} (hk : KdOk cls X.K [.type T] kt) (hm : X.mg "isinstance" = none) (hmT : X.mg x = none) (hv : bootBuiltins x = some (.type T)) (he : DE cls X W e fe) (hg : Gl X "isinstance" := by rfl) (hgT : Gl X x := by rfl) (hn : x ≠ "__name__" := by decide) (hd : (x == ("__debug__" : Str)) = false := by decide)
    (hs : starEach [e, .Name x p2] X.env = (false, eval e X.env) :: starEach [.Name x p2] X.env := by rfl) : DE cls X W (.Call (.Name "isinstance" p) [e, .Name x p2] [] pos) (dIsi kt fe) :=
  d_isi hk hm he (pe_ty hmT hv hgT hn hd) (.ty T) hg hs rfl rfl
/-- isinstance(e, C), an own class -/
theorem d_isiC {C : Addr} (hk : KdOk cls X.K [.ref C] kt) (hm : X.mg "isinstance" = none) (hmC : X.mg x = some (.ref C)) (he : DE cls X W e fe) (hg : Gl X "isinstance" := by rfl) (hgT : Gl X x := by rfl) (hd : (x == ("__debug__" : Str)) = false := by decide)
    (hs : starEach [e, .Name x p2] X.env = (false, eval e X.env) :: starEach [.Name x p2] X.env := by rfl) : DE cls X W (.Call (.Name "isinstance" p) [e, .Name x p2] [] pos) (dIsi kt fe) :=
  d_isi hk hm he (pe_glob (v := .ref C) hgT hmC rfl hd) (.own C) hg hs rfl rfl
end
end MV
set_option Elab.async false
set_option linter.all false
set_option maxRecDepth 100000
set_option maxHeartbeats 4000000
/-! MvErrV: error objects as values. -/
namespace MV
open PySem PySem.Spec PySem.W PySem.Calls PyProof.Rows L2
section
variable {prog : Program} {w : World} {A : Around} {E : Value → Shared → Prop} {s : Shared} {K : Frag} {x C : Addr} {ox : Obj} {od : Option Obj}
/-- e.__class__, e an error with or without a dict -/
theorem err_class {Q : Option Value → Shared → Prop} (c : ExcC K C) (X : K.In s.heap) (J : InstAt s.heap x ox C od) (h : Q (some (.ref C)) { s with toks := s.toks + 1 }) : wpAny (model prog w) A (getAttr? (.ref x) "__class__") Q E s := by
  have some_cls : (clsIn K C).isSome = true := by
    obtain ⟨_, z, _⟩ := any_some c.hd
    rw [z]
    rfl
  have found : findObj K C od "__class__" = some (.bind (.builtin "getset_descriptor.__get__") (.builtin "object.__class__")) := by
    cases od with
    | none => exact findObj_dataN some_cls c.ha c.hn c.ht
    | some _ => exact findObj_data some_cls c.ha c.hn c.ht
  obtain ⟨hp, gs, dd, tk, o⟩ := s
  have T := J.type (M := model prog w)
  have own : (Value.builtin "BaseException.__getattribute__" == Value.builtin "object.__getattribute__") = false := by decide +kernel
  unfold getAttr? getAttrBy? getAttrBy
  refine wpAny_bind (wpAny_mkText (wpAny_bind (wpAny_attempt (wpAny_holding (wpAny_bind (T.at (wpAny_bind ((looks_findIn (M := model prog w) X c.hg).at ?_))))))))
  show wpAny _ _ (if (onTheHeap (Value.ref C) && (Value.builtin "BaseException.__getattribute__" == Value.builtin "object.__getattribute__")) = true then _ else _) _ _ _
  rw [own, Bool.and_false, if_neg Bool.false_ne_true]
  unfold getAttrByItsOwn hookBefore
  refine wpAny_bind ?_
  rw [if_pos (show onTheHeap (Value.ref C) = true by rfl)]
  refine (looks_findIn (M := model prog w) X c.hk).at (wpAny_bind (wpAny_attempt (wpAny_holding ?_)))
  unfold callGetattribute
  rw [show (false && onTheHeap (Value.builtin "BaseException.__getattribute__")) = false by rfl, if_neg Bool.false_ne_true]
  unfold boundAndCalled
  rw [F.excAttr_ValueError.ga.bind (.ref x)]
  refine wpAny_bind (wpAny_pure ?_)
  refine wpAny_call (codeAny_call_builtin F.excAttr_ValueError.ga.plain F.entry_bexc_ga ?_)
  refine @check_slot (model prog w) _ _ ⟨hp, gs, dd, tk + 1, o⟩ "BaseException.__getattribute__" "BaseException" "__getattribute__" (.ref x) [.str "__class__" tk] [] _ (by decide +kernel) (by decide +kernel) (T.andThen (looks_subIn X c.hs)) (F.args_bexc_ga _ _) ?_
  unfold Builtin.«object.__getattribute__»
  refine wpAny_bind (wpAny_of_eq (a := ((Value.ref x : Value), [Value.str "__class__" tk])) (by first | rfl | (simp only [slotArgs]; rfl)) (wpAny_bind (wpAny_pure (wpAny_bind (T.at (wpAny_bind ((looks_find (M := model prog w) X J found).at ?_)))))))
  refine wpAny_bind (wpAny_holding (wpAny_call (class_get (s := ⟨hp, gs, dd, tk + 1, o⟩) (ox := ox) (od := od) X J c.hm ?_)))
  refine wpAny_pure ?_
  show wpAny _ _ (handedOut (.ref C)) _ _ _
  rw [handedOut_of (v := .ref C) rfl]
  first
    | exact wpAny_pure (wpAny_pure h)
    | exact wpAny_pure h
    | exact wpAny_pure (wpAny_bind (wpAny_pure (wpAny_pure h)))
theorem err_kit (c : ExcC K C) : KitX K (.ref x) (.ref C) (fun h => InstAt h x ox C od) := by
  obtain ⟨cd, hcd, _⟩ := any_some c.hd
  have cls : ∃ c' d' sl', K.lookup C = some ⟨c', d', .cls cd, sl'⟩ := by
    unfold clsIn at hcd
    split at hcd
    · rename_i c' d' cd' sl' ho
      cases hcd
      exact ⟨c', d', sl', ho⟩
    · cases hcd
  obtain ⟨c', d', sl', ho⟩ := cls
  refine ⟨fun _ _ _ J => J.type, fun _ _ X _ A' Q' E' s' k q => ?_, fun h tp dd its n sl X htp => ?_, fun X J k => err_class c X J k⟩
  · unfold isType loadHead
    exact wpAny_bind (wpAny_loadPart (k _ _ (X _ _ ho)) (wpAny_pure q))
  · refine Bool.eq_false_iff.mpr fun z => ?_
    rw [← Value.ref.inj (beq_iff_eq.mp z), X _ _ ho] at htp
    cases htp
end
end MV
namespace MV
open PySem PySem.Spec PyProof.Rows L2
section
variable {X : Cx} {pins : List (Addr × Obj)} {σ : L2.St} {H : Hp} {s : Shared}
theorem inv_same {s' : Shared} (I : Inv X pins σ H s) (h : s'.heap = s.heap) (os : s'.os = s.os) (ag : AllBare s'.gens) : Inv X pins σ H s' := by
  obtain ⟨hp, g, d, t, o⟩ := s
  obtain ⟨hp', g', d', t', o'⟩ := s'
  dsimp only at h os
  subst h os
  exact ⟨I.ok, I.os, ag, I.base, I.loc, I.cell, I.free, I.freeC, I.pin, I.hok, I.len⟩
theorem erO_ok {P : Program} {w : World} {H : Hp} {h : Heap} {a C : Addr} {d : Option Addr} {oe : Obj} {vs : Array Value} (e : h.get? a = some oe) (z : Zc (.ref C) d oe) (hd : oe.data = .fields vs) : ObjOk P w H h a (ErO C d a) :=
  ⟨⟨oe, vs, e, z, hd⟩, ⟨oe, e⟩, fun _ _ ⟨o, v, q, r⟩ k => ⟨o, v, k o q, r⟩⟩
/-- a made error, as a value -/
theorem pe_mk {e : Expr} {t : L2.St → Hp → XK → Prop} (h : PMk X e t) : PE X e (fun σ H Q => t σ H fun cls d H1 => ∃ C, cls = .ref C ∧ ∀ a, H1 a = none → Q (.ref a) (upd H1 a (ErO C d a))) := by
  refine ⟨fun pins s σ H Q I ht => wpAny_mono (h pins s σ H _ I ht) (fun u s1 hu => ?_) fun _ _ x => x⟩
  obtain ⟨a, oe, vs, sI, H', cls, d, rfl, J, k, hne, ha, hz, hd, h1, na, os, ag, r, C, rfl, q⟩ := hu
  have J' := J.laidN (t' := sI.toks) (o := ErO C d a) k hne na (erO_ok ha hz hd)
  exact ⟨.ref a, _, inv_same J' rfl os ag, rfl, q a na⟩
end
end MV
namespace MV
open PySem PySem.Spec PyProof.Rows L2
section
variable {G : Gx} {B H : Hp} {ρ : Nat → Addr} {Y : Ys}
/-- what the heap tells of is data from now on -/
theorem Aft.adopt (R : Rel G B H ρ Y) {c : Addr} {φ : Heap → Prop} (h : H c = some (.ext φ)) : Aft G B H ρ Y (upd B c (.ext φ)) H ρ Y := by
  cases e : B c with
  | some o =>
    have eo : o = .ext φ := by
      rcases R.sub c o e with z | ⟨_, ob, z⟩
      · rw [h] at z
        exact (Option.some.inj z).symm
      · rw [h] at z
        cases z
    have : upd B c (.ext φ) = B := by
      funext b
      by_cases z : b = c
      · rw [z, upd_same, e, eo]
      · rw [upd_ne z]
    rw [this]
    exact Aft.refl R
  | none =>
    refine ⟨⟨fun a u z => ?_, fun n l => ?_, fun n yo z => (R.obj n yo z).le' (le_upd e) (Nat.le_refl _) fun _ _ => rfl, R.inj, R.tabs.same fun b ps z => ?_⟩, le_upd e, fun a u z _ _ => z, fun a u z n => ?_, fun _ _ => rfl, fun n l => .inl ⟨l.lt, l⟩, Nat.le_refl _, fun a z => z⟩
    · by_cases ha : a = c
      · rw [ha, upd_same] at z
        cases z
        exact .inl (by rw [ha]; exact h)
      · rw [upd_ne ha] at z
        exact R.sub a u z
    · rw [upd_ne (fun q => by rw [← q] at h; exact R.noTb l h trivial)]
      exact R.non n l
    · by_cases hb : b = c
      · rw [hb, upd_same] at z
        cases z
      · rwa [upd_ne hb] at z
    · by_cases ha : a = c
      · exact .inr (.inr ⟨.ext φ, by rw [ha]; exact h, trivial⟩)
      · rw [upd_ne ha, n] at z
        cases z
end
/-! ### C(e) as a value -/
def dErr (c : Nat) (fa : ADen) : Den := fun τ Y => (fa τ Y).bind fun ws Y1 => match ws with
  | [w] => (match frzW 20 Y1 w with
    | some (d, Y2) => .ok (.val (.err c [d])) Y2
    | none => .bad)
  | _ => .bad
section
variable {cls : Cl} {X : Cx} {W : WX} {pos p : Pos} {e : Expr} {fa : ADen} {x f : Str}
theorem d_err (c : Nat) (hr : Room 1 X.A) (E : ErrK X.prog X.K X.mg (cls.at_ c) f) (hf : cls.fs c = [f]) (hm : X.mg x = some (.ref (cls.at_ c))) (ha : DA cls X W [e] fa) (hg : Gl X x := by rfl) (hdb : (x == ("__debug__" : Str)) = false := by decide)
    (he : starEach [e] X.env = (false, eval e X.env) :: starEach [] X.env := by rfl) : DE cls X W (.Call (.Name x p) [e] [] pos) (dErr c fa) := by
  obtain ⟨t, pa, ha⟩ := ha
  refine ⟨_, pe_mk (pmk_err E hr hm pa hg hdb he), fun σ H Q B ρ Y τ R T h => ?_⟩
  refine ha σ H _ B ρ Y τ R T (RaOk.imp ?_ (RaOk.bound h))
  rintro vs H1 ⟨B1, ρ1, ws, Y1, A, r, h1⟩
  split at h1
  · rename_i w
    cases r with
    | @cons v _ _ _ rv rr =>
    cases rr
    cases e2 : frzW 20 Y1 w with
    | none => rw [e2] at h1; exact h1.elim
    | some pr =>
      obtain ⟨dd, Y2⟩ := pr
      rw [e2] at h1
      obtain ⟨B2, A2, r2⟩ := frzW_at (G := gx cls X) 20 B1 ρ1 Y1 v w dd Y2 A.rel rv e2
      refine ⟨v, rfl, fun dx hn => ⟨_, rfl, fun a ha => ?_⟩⟩
      have A3 := Aft.new A2.rel (.xd [(f, v)]) hn
      have A4 := Aft.new A3.rel (ErO (cls.at_ c) (some dx) a) ha (by intro _ z; unfold ErO at z; cases z)
      refine h1 (.ref a) _ _ ρ1 (A2.trans (A3.trans A4)) (Rep.err (dx := dx) (vs := [v]) upd_same ?_ ?_ (.cons (r2.le (A3.trans A4).le) .nil))
      · have ne : dx ≠ a := fun z => by
          rw [← z, upd_same] at ha
          cases ha
        rw [upd_ne ne, upd_same]
        show some (HO.xd [(f, v)]) = some (HO.xd ((cls.fs c).zip [v]))
        rw [hf]
        rfl
      · show 1 = (cls.fs c).length
        rw [hf]
        rfl
  · exact h1.elim
end
end MV
set_option Elab.async false
set_option linter.all false
set_option maxRecDepth 100000
set_option maxHeartbeats 4000000
/-! MvLamV: lambdas that read a field, kept as data. -/
namespace MV
open PySem PySem.Spec PyProof.Rows L2
section
variable {X : Cx} {pins : List (Addr × Obj)} {σ : L2.St} {H : Hp} {s : Shared}
/-- (lambda y: y.f)(e), e an error: its field -/
theorem lam_run {a c e dx C : Addr} {f q : Str} {fs : List (Str × V)} {v : V} {Q : Value → Shared → Prop} {E : Value → Shared → Prop} (I : Inv X pins σ H s) (hr : Room 1 X.A) (ha : H a = some (LmO f q c a)) (hc : H c = some (LamX.CodeO c q)) (he : H e = some (ErO C (some dx) e)) (hx : H dx = some (.xd fs)) (hl : fs.lookup f = some v)
    (T : XfC X.K C) (hno : PySem.W.findIn X.K (.ref C) f = some none) (hQ : ∀ u s', Inv X pins σ H s' → RelV v u → Q u s') : wpAny (model X.prog X.w) X.A (call (.ref a) [.ref e]) Q E s := by
  obtain ⟨⟨params, body, scope, pm, ctv, L, oa⟩, _, _⟩ := I.hok a _ ha
  obtain ⟨⟨oc, vs, t, hoc, hdc, hvc⟩, _, _⟩ := I.hok c _ hc
  obtain ⟨⟨oe, ws, hoe, hz, hd⟩, _, _⟩ := I.hok e _ he
  obtain ⟨y, p1, p2, rfl, hb, hn, hdb⟩ := L.ex
  have hx' : ObjOk X.prog X.w H s.heap dx (.xd fs) := I.hok dx _ hx
  obtain ⟨mA, hns, hrr⟩ := hx'
  obtain ⟨u, hu, ru⟩ := RelO.some_of (v := v) (o := mA f) (by rw [← hl]; exact hrr f)
  refine wpAny_call (PySem.W.kla_callFunE hr.depth oa rfl L.co L.gen rfl ⟨c, oc, vs, t, rfl, hoc, hdc, hvc⟩ ?_)
  rw [hb]
  refine wpAny_pure (wpAny_newFunctionEnv (fun x hx => ?_) (fun x hx => ?_) (fun h₁ hns1 hsb => ⟨I.nolimit.fresh _ hsb, ?_⟩) L.kind)
  · rw [hn] at hx
    rw [List.mem_singleton.mp hx]
    exact fun z => nomatch z
  · rw [hn, List.mem_singleton.mp hx]
    simp [List.lookup]
  · have kp : ∀ b o, s.heap.get? b = some o → h₁.get? b = some o := fun b o z => hsb.extBut b o (Nat.ne_of_lt (Heap.lt_size z)) (Heap.get?_push_of_some _ z)
    have J := I.kept (h' := h₁) (t' := s.toks + ([(y, Value.ref e)] : List (Str × Value)).length) kp
    refine PySem.W.kla_codeExpr (attr_of rfl ?_)
    refine wpAny_Name (wpAny_loadName_local (m := fun x => ([(y, Value.ref e)] : List (Str × Value)).reverse.lookup x) (v := .ref e) L.kind ?_ hns1 (by simp [List.lookup]) ?_) hdb
    · show scope.names.lookup y = some .local
      rw [hn]
      simp [List.lookup]
    · obtain ⟨od, ho, hlk⟩ := lookIn_ns (hns.keeps kp)
      have Je : PySem.W.InstAt h₁ e oe C (some od) := ⟨kp _ _ hoe, hz.1, by unfold PySem.W.notCls; rw [hd] <;> rfl, by rw [hz.2]; exact ho⟩
      refine HandSPX.exc_get (s := { s with heap := h₁, toks := s.toks + ([(y, Value.ref e)] : List (Str × Value)).length }) J.kIn Je T.ga T.gg T.exC (PySem.W.findObj_own T.hdC hno rfl (by rw [hlk, hu])) (handed_of ru) ?_
      exact hQ u _ (J.tok _) ru
end
end MV
namespace MV
open PySem PySem.Spec PyProof.Rows L2
section
variable {X : Cx} {pins : List (Addr × Obj)} {σ : L2.St} {H : Hp} {s : Shared}
theorem lmO_ok {P : Program} {w : World} {H : Hp} {h : Heap} {a c : Addr} {f q : Str} {params : Arguments} {body : Expr} {scope : Scope} {pm ctv : Value} (L : FldLam f params body scope) (e : h.get? a = some (PySem.W.kla_obj "<lambda>" q params body scope [] pm c ctv)) : ObjOk P w H h a (LmO f q c a) :=
  ⟨⟨params, body, scope, pm, ctv, L, e⟩, ⟨_, e⟩, fun _ _ ⟨p, b, sc, m, v, l, z⟩ k => ⟨p, b, sc, m, v, l, k _ z⟩⟩
theorem FldLam.clo {f : Str} {params : Arguments} {body : Expr} {scope : Scope} (L : FldLam f params body scope) (cells : List (Str × Addr)) : cloFrom cells scope.names [] = [] := by
  obtain ⟨y, _, _, _, _, hn, _⟩ := L.ex
  rw [hn]
  rfl
theorem FldLam.free {f : Str} {params : Arguments} {body : Expr} {scope : Scope} (L : FldLam f params body scope) {env : Env} : ∀ y ∈ scope.names, y.2 = .free → ∃ c, env.cells.lookup y.1 = some c := fun y hy e => by
  obtain ⟨z, _, _, _, _, hn, _⟩ := L.ex
  rw [hn] at hy
  rw [List.mem_singleton.mp hy] at e
  cases e
/-- a field's lambda is made and kept -/
theorem lam_kept {T : List (Addr × Str)} {k P : Addr} {fl : Str} {params : Arguments} {body : Expr} {scope : Scope} {pos : Pos} {E Q : Value → Shared → Prop} (I : Inv X pins σ H s) (TB : LamX.TabB X.base X.mg k P) (hk : X.env.code = .ref k) (mem : (P, X.env.qual ++ "<lambda>") ∈ T)
    (one : ∀ p ∈ T, p.1 = P → p.2 = X.env.qual ++ "<lambda>") (tabs : LamX.Tabs T H) (nodef : defaultsOf params X.env = ([], [])) (L : FldLam fl params body scope)
    (go : ∀ (a c : Addr) (H1 : Hp) (s' : Shared), LamX.ExtN H H1 → LamX.Tabs T H1 → H1 a = none → H1 c = some (LamX.CodeO c (X.env.qual ++ "<lambda>")) → Inv X pins σ (upd H1 a (LmO fl (X.env.qual ++ "<lambda>") c a)) s' → Q (.ref a) s') :
    wpAny (model X.prog X.w) X.A (eval (.Lambda params body scope pos) X.env) Q E s := by
  obtain ⟨ps, atP, trip, held⟩ := tabs _ mem
  have bP : s.heap.BuiltinsAt X.mg P := TB.bm.keeps I.bk
  have oP : s.heap.get? P = some { cls := .none, data := .fields ps } := I.hok P _ atP
  have clos := closure_ok (env := X.env) L.free
  rw [L.clo] at clos
  refine PySem.W.kla_eval nodef ?_
  cases among : codeAmong pos ps.toList with
  | some cv =>
    obtain ⟨c, rfl, codeAt⟩ := held pos cv among
    refine PySem.W.kla_makeFunctionHit (mg := X.mg) (c := k) (P := P) (ps := ps) clos I.ok.glob (I.mod.glob.keeps I.bk) hk (TB.code.keeps I.bk) oP trip among bP fun ctv h' tk keep le => ?_
    have I1 : Inv X pins σ H { s with heap := h', toks := tk } := I.kept keep
    exact go _ c H _ (LamX.ExtN.refl H) tabs (I.hok.fresh le) codeAt (I1.laid (fun b o z => Heap.get?_push_of_some _ z) (Nat.le_refl _) (lmO_ok L (Heap.get?_push_size _ rfl)))
  | none =>
    refine PySem.W.kla_makeFunction (mg := X.mg) (c := k) (P := P) (ps := ps) clos I.ok.glob (I.mod.glob.keeps I.bk) hk (TB.code.keeps I.bk) oP trip among TB.gP bP fun c ctv h' tk ext ge lt rec tab => ?_
    obtain ⟨c2, oc, vs, t, same, ho, hd, hv⟩ := rec
    cases same
    have nC : H c = none := I.hok.fresh ge
    have le : s.heap.objs.size ≤ h'.objs.size := Nat.le_trans ge (Nat.le_of_lt lt)
    have I1 := LamX.inv_table (t' := tk) (more := #[rawInt pos.line, rawInt pos.col, .ref c]) (q := X.env.qual ++ "<lambda>") I atP (fun b o hb z => ext b o hb z) tab ge ⟨oc, vs, t, ho, hd, hv⟩
    have grow : LamX.ExtN H (upd (upd H P (.tbl (ps ++ #[rawInt pos.line, rawInt pos.col, .ref c]))) c (LamX.CodeO c (X.env.qual ++ "<lambda>"))) := fun b o e n => by
      have nP : b ≠ P := fun z => by
        rw [z, atP] at e
        exact n ps (Option.some.inj e).symm
      rw [upd_ne (ne_of_none e nC), upd_ne nP]
      exact e
    have flat : (ps ++ #[rawInt pos.line, rawInt pos.col, .ref c]).toList = ps.toList ++ [rawInt pos.line, rawInt pos.col, .ref c] := by simp
    refine go h'.objs.size c _ _ grow (fun p hp => ?_) ?_ upd_same (I1.laid (fun b o z => Heap.get?_push_of_some _ z) (Nat.le_refl _) (lmO_ok L (Heap.get?_push_size _ rfl)))
    · by_cases hb : p.1 = P
      · rw [one p hp hb, hb]
        refine ⟨_, by rw [upd_ne (ne_of_none atP nC), upd_same], by rw [flat]; exact PySem.TriplesOk_snoc _ _ _ _ trip, fun at_ cv z => ?_⟩
        rw [flat] at z
        rcases LamX.among_app _ trip z with old | new
        · obtain ⟨d, e1, e2⟩ := held at_ cv old
          exact ⟨d, e1, grow _ _ e2 LamX.codeO_ne⟩
        · exact ⟨c, new, upd_same⟩
      · obtain ⟨qs, b1, b2, b3⟩ := tabs p hp
        refine ⟨qs, by rw [upd_ne (ne_of_none b1 nC), upd_ne hb]; exact b1, b2, fun at_ cv z => ?_⟩
        obtain ⟨d, e1, e2⟩ := b3 at_ cv z
        exact ⟨d, e1, grow _ _ e2 LamX.codeO_ne⟩
    · rw [upd_ne (Nat.ne_of_gt lt), upd_ne (Nat.ne_of_gt (Nat.lt_of_lt_of_le (Heap.lt_size oP) le))]
      exact I.hok.fresh le
end
end MV
namespace MV
open PySem PySem.Spec PyProof.Rows L2
def dLamF (f : Str) : Den := fun _ Y => .ok (.val (.lam f)) Y
def dCallL (nm : Nat → Option Str) (fo : Den) (fa : ADen) : Den := fun τ Y => (fo τ Y).bind fun w Y1 => match w with
  | .val (.lam f) => (fa τ Y1).bind fun ws Y2 => (match ws with
    | [.val (.err c [d])] => (match nm c with
      | some g => (match sEq g f with
        | true => .ok (.val d) Y2
        | false => .bad)
      | none => .bad)
    | _ => .bad)
  | _ => .bad
section
variable {cls : Cl} {X : Cx} {W : WX} {pos : Pos} {o e : Expr} {fo : Den} {fa : ADen} {nm : Nat → Option Str} {k P : Addr} {fl : Str} {params : Arguments} {body : Expr} {scope : Scope}
theorem d_lamF (TB : LamX.TabB X.base X.mg k P) (hk : X.env.code = .ref k) (mem : (P, X.env.qual ++ "<lambda>") ∈ cls.T) (one : ∀ p ∈ cls.T, p.1 = P → p.2 = X.env.qual ++ "<lambda>") (L : FldLam fl params body scope) (nodef : defaultsOf params X.env = ([], []) := by rfl) :
    DE cls X W (.Lambda params body scope pos) (dLamF fl) := by
  refine ⟨canE (gx cls X) W (dLamF fl), ⟨fun pins s σ H Q I h => ?_⟩, fun σ H Q B ρ Y τ R T h => ⟨B, ρ, Y, τ, R, T, h⟩⟩
  obtain ⟨B, ρ, Y, τ, R, T, h⟩ := h
  refine lam_kept I TB hk mem one R.tabs.1 nodef L fun a c H1 s' eN T1 hn hc I1 => ?_
  have A1 := Aft.tab R eN T1
  have A2 := Aft.adopt A1.rel hc
  have A3 := Aft.new A2.rel (LmO fl (X.env.qual ++ "<lambda>") c a) hn (by intro _ z; unfold LmO at z; cases z)
  have ne : c ≠ a := fun z => by rw [z, hn] at hc; cases hc
  exact ⟨.ref a, _, I1, rfl, h (.ref a) _ _ ρ (A1.trans (A2.trans A3)) (Rep.lam (q := X.env.qual ++ "<lambda>") (c := c) upd_same (by rw [upd_ne ne]; exact upd_same))⟩
theorem d_callL (hs : ∀ c g, nm c = some g → cls.fs c = [g] ∧ XfC X.K (cls.at_ c) ∧ PySem.W.findIn X.K (.ref (cls.at_ c)) g = some none) (hr : Room 1 X.A) (ho : DE cls X W o fo) (ha : DA cls X W [e] fa)
    (ht : eval (.Call o [e] [] pos) X.env = (do callWith pos (← eval o X.env) [] (backTo pos (starEach [e] X.env)) (backToKw pos (keywordEach [] X.env))) := by rfl) (he : starEach [e] X.env = (false, eval e X.env) :: starEach [] X.env := by rfl) :
    DE cls X W (.Call o [e] [] pos) (dCallL nm fo fa) := by
  obtain ⟨to, po, ho⟩ := ho
  obtain ⟨ta, pa, ha⟩ := ha
  refine ⟨fun σ H Q => to σ H fun v H1 => ∃ a c f q, v = .ref a ∧ H1 a = some (LmO f q c a) ∧ H1 c = some (LamX.CodeO c q) ∧ ta σ H1 fun vs H2 => ∃ b dx C fs u, vs = [.ref b] ∧ H2 a = some (LmO f q c a) ∧ H2 c = some (LamX.CodeO c q) ∧ H2 b = some (ErO C (some dx) b) ∧ H2 dx = some (.xd fs) ∧ fs.lookup f = some u ∧ XfC X.K C ∧ PySem.W.findIn X.K (.ref C) f = some none ∧ Q u H2, ⟨fun pins s σ H Q I h => ?_⟩, fun σ H Q B ρ Y τ R T h => ?_⟩
  · rw [ht]
    refine wpAny_bind (thn (po.run pins s σ H _ I h) fun u s1 ⟨v, H1, I1, r1, a, c, f, q, ev, h1, h2, h3⟩ => ?_)
    subst ev
    cases (show u = Value.ref a from r1)
    have fnA : ∀ {H : Hp} {s : Shared}, Inv X pins σ H s → H a = some (LmO f q c a) → PySem.W.FnAt a s.heap := fun I z => by
      obtain ⟨⟨_, _, _, _, _, _, oa⟩, _, _⟩ := I.hok a _ z
      exact ⟨_, _, _, _, oa⟩
    refine PySem.W.callWith_F (fnA I1 h1) (thn (pa.run pos pins s1 σ H1 _ I1 h3) fun us s2 hh => ?_) he rfl
    obtain ⟨vs, H2, I2, r2, b, dx, C, fs, u, ev, g1, g2, g3, g4, g5, g6, g7, qq⟩ := hh
    subst ev
    rw [Vals.ref1 r2]
    exact ⟨fnA I2 g1, lam_run I2 hr g1 g2 g3 g4 g5 g6 g7 fun z s' J rz => ⟨u, H2, J, rz, qq⟩⟩
  · refine ho σ H _ B ρ Y τ R T (ReOk.imp ?_ (ReOk.bound h))
    rintro v H1 ⟨B1, ρ1, w, Y1, A1, r1, h1⟩
    split at h1
    · rename_i f
      cases r1 with
      | @lam a c _ q la lc =>
      have at1 : ∀ {B H : Hp} {ρ : Nat → Addr} {Y : Ys} {z : Addr} {φ : Heap → Prop}, Rel (gx cls X) B H ρ Y → B z = some (.ext φ) → H z = some (.ext φ) := fun R e => by
        rcases R.sub _ _ e with y | ⟨y, _⟩
        · exact y
        · exact y.elim
      refine ⟨a, c, f, q, rfl, at1 A1.rel la, at1 A1.rel lc, ?_⟩
      refine ha σ H1 _ B1 ρ1 Y1 τ A1.rel (T.aft A1) (RaOk.imp ?_ (RaOk.bound h1))
      rintro vs H2 ⟨B2, ρ2, ws, Y2, A2, r2, h2⟩
      split at h2
      · rename_i cc d
        cases e1 : nm cc with
        | none => rw [e1] at h2; exact h2.elim
        | some g =>
          rw [e1] at h2
          dsimp only at h2
          cases e2 : sEq g f with
          | false => rw [e2] at h2; exact h2.elim
          | true =>
            rw [e2] at h2
            have eg : g = f := sEq_iff.mp e2
            subst eg
            obtain ⟨f1, f2, f3⟩ := hs cc g e1
            cases r2 with
            | @cons v0 _ _ _ rv rr =>
            cases rr
            cases rv with
            | @err b dx _ vs0 _ ha hx hl rs =>
            cases rs with
            | @cons u _ _ _ ru rn =>
            cases rn
            have hx' : H2 dx = some (.xd ((cls.fs cc).zip [u])) := by
              rcases A2.rel.sub _ _ hx with y | ⟨y, _⟩
              · exact y
              · exact y.elim
            refine ⟨b, dx, _, _, u, rfl, at1 A2.rel (A2.le _ _ la), at1 A2.rel (A2.le _ _ lc), at1 A2.rel ha, hx', ?_, f2, f3, h2 u B2 H2 ρ2 (Aft.refl A2.rel) ru⟩
            rw [f1]
            simp [List.lookup]
      · exact h2.elim
    · exact h1.elim
end
end MV
set_option Elab.async false
set_option linter.all false
set_option maxRecDepth 100000
set_option maxHeartbeats 4000000
/-! MvIsE: isinstance of an error object. -/
namespace MV
open PySem PySem.Spec PyProof.Rows L2
def rIsV (K : PySem.W.Frag) : List V → Hp → VK → Prop := fun xs H Q => ∃ (a C : Addr) (d : Option Addr) (c : V) (cv : Value) (b : Bool), xs = [.ref a, c] ∧ ClsV c cv ∧ H a = some (ErO C d a) ∧ (∀ dx, d = some dx → ∃ fs, H dx = some (.xd fs)) ∧ ExcC K C ∧ PySem.W.kitOne K (.ref C) cv = some b ∧ Q (.bl b) H
theorem call_isV {X : Cx} : CallR X (.builtin "isinstance") (rIsV X.K) := by
  intro pins s σ H xs us Q I r h
  obtain ⟨a, C, d, c, cv, b, rfl, hcv, ha, hx, ex, e, q⟩ := h
  obtain ⟨u1, u2, rfl, r1, r2⟩ := vals2 r
  cases (show u1 = Value.ref a from r1)
  have ec : u2 = cv := by
    cases hcv <;> exact r2
  subst ec
  obtain ⟨⟨oe, vs, ho, hz, hd⟩, _, _⟩ := I.hok a _ ha
  have J : ∃ od, PySem.W.InstAt s.heap a oe C od := by
    cases d with
    | none =>
      obtain ⟨oc, od, oda, osl⟩ := oe
      obtain ⟨z1, z2⟩ := hz
      dsimp only at z1 z2 hd
      subst z1 z2 hd
      exact ⟨none, ho, rfl, rfl, trivial⟩
    | some dx =>
      obtain ⟨fs, hdx⟩ := hx dx rfl
      have hx' : ObjOk X.prog X.w H s.heap dx (.xd fs) := I.hok dx _ hdx
      obtain ⟨mA, hns, _⟩ := hx'
      obtain ⟨od, hod, _⟩ := lookIn_ns hns
      exact ⟨some od, ho, hz.1, by unfold PySem.W.notCls; rw [hd] <;> rfl, by rw [hz.2]; exact hod⟩
  obtain ⟨od, J⟩ := J
  exact PySem.W.kia_one (err_kit ex) I.kIn J e (fun z => nomatch z) fun tk => ⟨.bl b, H, I.kept (t' := tk) fun _ _ z => z, rfl, q⟩
def dIsiE (kt : Nat → Option Bool) (fe : Den) : Den := fun τ Y => (fe τ Y).bind fun w Y1 => match w with
  | .val (.err c _) => (match kt c with
    | some b => .ok (.val (.bl b)) Y1
    | none => .bad)
  | _ => .bad
section
variable {cls : Cl} {X : Cx} {W : WX} {pos p : Pos} {e c : Expr} {fe : Den} {kt : Nat → Option Bool}
theorem d_isiE {v : V} {u : Value} (hk : ∀ n b, kt n = some b → ExcC X.K (cls.at_ n) ∧ PySem.W.kitOne X.K (.ref (cls.at_ n)) u = some b) (hm : X.mg "isinstance" = none) (he : DE cls X W e fe) (hc : PE X c (tC v)) (hv : ClsV v u) (hg : Gl X "isinstance" := by rfl)
    (hs : starEach [e, c] X.env = (false, eval e X.env) :: starEach [c] X.env := by rfl) (hs2 : starEach [c] X.env = (false, eval c X.env) :: starEach [] X.env := by rfl) (hpl : (backTo pos (starEach [c] X.env)).any (·.1) = false := by rfl) :
    DE cls X W (.Call (.Name "isinstance" p) [e, c] [] pos) (dIsiE kt fe) := by
  obtain ⟨t, pe, he⟩ := he
  refine ⟨_, pe_callB call_isV hg hm (by rfl) (pa_cons pe (pa_cons hc pa_nil hs2) hs) (by decide) (by decide) hs hpl, fun σ H Q B ρ Y τ R T h => ?_⟩
  refine he σ H _ B ρ Y τ R T (ReOk.imp ?_ (ReOk.bound h))
  rintro x H1 ⟨B1, ρ1, w, Y1, A, r, h1⟩
  split at h1
  · rename_i n ds
    cases e1 : kt n with
    | none => rw [e1] at h1; exact h1.elim
    | some b =>
      rw [e1] at h1
      obtain ⟨k1, k2⟩ := hk n b e1
      have up : ∀ {z : Addr} {φ : Heap → Prop}, B1 z = some (.ext φ) → H1 z = some (.ext φ) := fun e => by
        rcases A.rel.sub _ _ e with y | ⟨y, _⟩
        · exact y
        · exact y.elim
      cases r with
      | @err a dx _ vs0 _ ha hx hl rs =>
        refine ⟨a, _, some dx, v, u, b, rfl, hv, up ha, fun z e => ?_, k1, k2, h1 _ B1 H1 ρ1 (Aft.refl A.rel) (.bl b)⟩
        cases e
        rcases A.rel.sub _ _ hx with y | ⟨y, _⟩
        · exact ⟨_, y⟩
        · exact y.elim
      | @err0 a _ ha => exact ⟨a, _, none, v, u, b, rfl, hv, up ha, fun z e => (by cases e), k1, k2, h1 _ B1 H1 ρ1 (Aft.refl A.rel) (.bl b)⟩
  · exact h1.elim
end
end MV
set_option Elab.async false
set_option linter.all false
set_option maxRecDepth 100000
set_option maxHeartbeats 4000000
/-! MvErrK: an own error called by keyword. -/
namespace PySem.HandSPX
open PySem PySem.Spec PySem.Calls PyProof.Rows
section
variable {M : Model} {prog : Program} {w : World} {A : Around} {E : Value → Shared → Prop} {R : Result → Shared → Prop} {h : Heap} {g : Array GenState} {d : Drawn} {t : Nat} {os : OsState}
variable {nm q y : Str} {C N fI : Addr} {bs bm bmB : List Value} {hdct : Bool} {sn : List Str} {sub : List Value} {ab : Bool} {col : Option Bool} {dd : Option Addr} {k0 k1 k2 k3 k5 : Option Value} {B newId initId : String} {u : Value}
theorem kw_check (F : ExcBaseFacts B newId initId bmB) (hT : ∀ X : String, bm.contains (.type X) = bmB.contains (.type X)) {Q : Unit → Shared → Prop}
    (hC : h.get? C = some (excClassObj nm q C N bs bm hdct sn sub ab col dd k0 k1 k2 k3 k5 newId)) (hq : Q () ⟨h, g, d, t, os⟩) : wpAny M A (checkBuiltinCall newId ⟨[.ref C], [(y, u)]⟩) Q E ⟨h, g, d, t, os⟩ := by
  have inB : (Value.ref C :: bm).contains (.type B) = true := by rw [List.contains_cons, hT, F.hasB, Bool.or_true]
  have star := F.noStar
  simp only [checkBuiltinCall, F.newKind, F.newSplit, F.newRow]
  repeat (first | refine wpAny_loadPart_at hC ?_ | (refine wpAny_isSubtype_exc hC ?_; rw [inB]) | refine wpAny_staticBase_exc hC ?_ | refine wpAny_madeBy_exc hC ?_ | simp only [bne_self_eq_false, Bool.false_eq_true, if_false] | wp_step)
  exact hq
theorem kw_new (F : ExcBaseFacts B newId initId bmB) (hT : ∀ X : String, bm.contains (.type X) = bmB.contains (.type X)) (hC : h.get? C = some (excClassObj nm q C N bs bm hdct sn sub ab col dd k0 k1 k2 k3 k5 newId))
    (hq : R (.ok (.ret (.ref (h.objs.size + 1)))) ⟨(h.push (W.kdv_tup [])).push (excO C h.objs.size), g, d, t, os⟩) :
    codeAny (model prog w) A (.builtin newId ⟨[.ref C], [(y, u)]⟩) R ⟨h, g, d, t, os⟩ := by
  have ends := F.ends
  have inB : (Value.ref C :: bm).contains (.type B) = true := by rw [List.contains_cons, hT, F.hasB, Bool.or_true]
  have noA : (Value.ref C :: bm).contains (.type "AttributeError") = false := by rw [List.contains_cons, hT, F.noAttr]; rfl
  have noN : (Value.ref C :: bm).contains (.type "NameError") = false := by rw [List.contains_cons, hT, F.noName]; rfl
  refine codeAny_builtinAt F.entry ?_
  unfold Builtin.«BaseException.__new__»
  refine wpAt_bind ?_
  show wpAt _ _ _ (stack >>= _) _ _ _
  refine wpAt_bind (wpAt_stack fun p below => wpAt_of_wpAny ?_)
  wp_walk
  refine wpAt_of_wpAny ?_
  rw [F.owner]
  repeat (first | with_reducible refine wpAny_madeHere_exc F.canon hC ?_ | with_reducible refine wpAny_loadPart_at hC ?_ | (with_reducible refine wpAny_isSubtype_exc hC ?_; first | rw [inB] | rw [noA] | rw [noN]) | wp_step)
  show R _ _
  rw [Heap.size_push]
  exact hq
theorem kw_type (F : ExcBaseFacts B newId initId bmB) (hT : ∀ X : String, bm.contains (.type X) = bmB.contains (.type X)) {Q : Fin → Shared → Prop} (hC : h.get? C = some (excClassObj nm q C N bs bm hdct sn sub ab col dd k0 k1 k2 k3 k5 newId))
    (hi : W.Looks (model prog w) h (typeLookup (.ref C) "__init__") (some (.ref fI))) (hb : ∀ self, W.Looks (model prog w) h (bindSpecial (.ref fI) self) (.ref fI, [self]))
    (hq : codeAny (model prog w) A (.call (.ref fI) ⟨[.ref (h.objs.size + 1)], [(y, u)]⟩) (fun r s' => match r with | .ok (.ret v) => v = .none ∧ Q (.done (.ret (.ref (h.objs.size + 1)))) s' | .ok _ => False | .error e => E e s')
      ⟨(h.push (W.kdv_tup [])).push (excO C h.objs.size), g, d, t, os⟩) :
    wpAny (model prog w) A (Builtin.«type.__call__» ⟨[.ref C], [(y, u)]⟩) Q E ⟨h, g, d, t, os⟩ := by
  repeat (first | with_reducible refine wpAny_loadPart_at hC ?_ | with_reducible refine wpAny_madeBy_exc hC ?_ | wp_step)
  refine codeAny_call_builtin_code (Code.quiet_builtin _ F.quiet) (kw_check F hT hC (kw_new F hT hC ?_))
  show wpAny _ _ _ _ _ _
  have up : ∀ b o, h.get? b = some o → ((h.push (W.kdv_tup [])).push (excO C h.objs.size)).get? b = some o := fun b o e => Heap.get?_push_of_some _ (Heap.get?_push_of_some _ e)
  have atC := up _ _ hC
  have atE : ((h.push (W.kdv_tup [])).push (excO C h.objs.size)).get? (h.objs.size + 1) = some (excO C h.objs.size) := by heap_get
  have inC : (Value.ref C :: bm).contains (.ref C) = true := by simp
  unfold isInstance
  repeat (first | with_reducible refine wpAny_loadPart_at atE ?_ | (with_reducible refine wpAny_isSubtype_exc atC ?_; rw [inC]) | wp_step)
  show wpAny _ _ (typeLookup (.ref C) _) _ _ _
  refine (hi.keeps up).at (wpAny_holding (wpAny_bind (((hb (.ref (h.objs.size + 1))).keeps up).at ?_)))
  refine wpAny_bind (wpAny_call (codeAny_mono hq fun r s' z => ?_))
  rcases r with e | (v | _ | _ | _) <;> first | exact z | exact z.elim | skip
  obtain ⟨rfl, z⟩ := z
  first
    | exact wpAny_pure (wpAny_pure z)
    | (wp_walk; exact z)
theorem kw_tc {Q : Unit → Shared → Prop} (hC : h.get? C = some (excClassObj nm q C N bs bm hdct sn sub ab col dd k0 k1 k2 k3 k5 newId)) (hq : Q () ⟨h, g, d, t, os⟩) : wpAny M A (checkBuiltinCall "type.__call__" ⟨[.ref C], [(y, u)]⟩) Q E ⟨h, g, d, t, os⟩ := by
  have f3 := tc_sub
  have ty : (⟨h, g, d, t, os⟩ : Shared).TypeIs (.ref C) "type" := ⟨_, hC, rfl⟩
  simp only [checkBuiltinCall, tc_kind, tc_split]
  repeat (any_goals (first | assumption | with_reducible refine wpAny_loadPart_at hC ?_ | with_reducible refine wpAny_onRaise ?_ | with_reducible refine wpAny_map ?_ | wp_step))
theorem kw_call (F : ExcBaseFacts B newId initId bmB) (hT : ∀ X : String, bm.contains (.type X) = bmB.contains (.type X)) (hC : h.get? C = some (excClassObj nm q C N bs bm hdct sn sub ab col dd k0 k1 k2 k3 k5 newId))
    (hi : W.Looks (model prog w) h (typeLookup (.ref C) "__init__") (some (.ref fI))) (hb : ∀ self, W.Looks (model prog w) h (bindSpecial (.ref fI) self) (.ref fI, [self]))
    (hq : codeAny (model prog w) (A.under (.builtin "type.__call__" ⟨[.ref C], [(y, u)]⟩)) (.call (.ref fI) ⟨[.ref (h.objs.size + 1)], [(y, u)]⟩) (W.InitBack (h.objs.size + 1) R) ⟨(h.push (W.kdv_tup [])).push (excO C h.objs.size), g, d, t, os⟩) :
    codeAny (model prog w) A (.call (.ref C) ⟨[], [(y, u)]⟩) R ⟨h, g, d, t, os⟩ := by
  have f1 := tc_lookup
  have f2 := tc_bind (.ref C)
  have ty : (⟨h, g, d, t, os⟩ : Shared).TypeIs (.ref C) "type" := ⟨_, hC, rfl⟩
  refine codeAny_of_tree ?_
  show wpAny _ _ (callAny (.ref C) _) _ _ _
  repeat (any_goals (first | assumption | with_reducible refine wpAny_loadPart_at hC ?_ | wp_step))
  refine ⟨rfl, ?_⟩
  refine codeAny_call_builtin_at (Code.quiet_builtin _ (by decide +kernel)) entry_typeCall (kw_tc hC (kw_type F hT hC hi hb ?_))
  refine codeAny_mono hq fun r s' z => ?_
  rcases r with e | (v | _ | _ | _) <;> exact z
end
end PySem.HandSPX
set_option Elab.async false
set_option linter.all false
set_option maxRecDepth 100000
set_option maxHeartbeats 4000000
/-! MvErrM: C(f=e), an own error by keyword; as a value. -/
namespace MV
open PySem PySem.Spec PyProof.Rows L2
section
variable {X : Cx} {x f : Str} {C : Addr} {kws : List Keyword} {t : TA2} {p pos : Pos}
theorem pmk_errK (E : ErrK X.prog X.K X.mg C f) (hr : Room 1 X.A) (hm : X.mg x = some (.ref C)) (ca : PCa X [] kws [f] t) (hg : Gl X x := by rfl) (hdb : (x == ("__debug__" : Str)) = false := by decide) :
    PMk X (.Call (.Name x p) [] kws pos) (fun σ H Q => t σ H fun vs zs H1 => vs = [] ∧ ∃ v, zs = [v] ∧ ∀ dx, H1 dx = none → Q (.ref C) (some dx) (upd H1 dx (.xd [(f, v)]))) := by
  intro pins s σ H Q I h
  have T := E.oex
  obtain ⟨nm, q, N, bs, bm, sn, sub, ab, col, dd, k0, k1, k2, k3, k5, hC, hbm⟩ := T.cls
  obtain ⟨fI, cda, cc, qual, self, y, txt, j, p0, p1, p2, p3, p4, p5, p6, p7, p8, p9, params, scope, dV, kV, doc, pm, ct, oc, ccl, cl, an, od, cdd, cld, osl, ccs, csl, ar, vs0, file, tf, iC, tI, irest⟩ := E.init
  refine wpAny_Call_Name_kw (ld_glob I hg hm ?_ hdb)
  refine ca.run pos (.ref C) [] _ pins s σ H T.kC I _ h ?_
  rintro vs zs H1 us ws s1 ⟨rfl, v, rfl, q1⟩ I1 r1 r2
  cases r1
  cases r2 with
  | @cons _ u _ ur ra rw' =>
  cases rw'
  show wpAny _ _ (call (.ref C) [] [(f, u)]) _ _ _
  obtain ⟨hp, g, dr, tk, os⟩ := s1
  have bsr := I1.env0.bs
  have kk : ∀ b o, hp.get? b = some o → ((hp.push (PySem.W.kdv_tup [])).push (PySem.HandSPX.excO C hp.objs.size)).get? b = some o := fun b o e => Heap.get?_push_of_some _ (Heap.get?_push_of_some _ e)
  have hget : ((hp.push (PySem.W.kdv_tup [])).push (PySem.HandSPX.excO C hp.objs.size)).get? (hp.objs.size + 1) = some (PySem.HandSPX.excO C hp.objs.size) := by heap_get
  have hsz : hp.objs.size ≤ hp.objs.size + 1 := Nat.le_succ _
  have hna : X.base.get? (hp.objs.size + 1) = none := by
    cases z : X.base.get? (hp.objs.size + 1) with
    | none => rfl
    | some o =>
      have := Heap.lt_size (bsr _ _ z).1
      exact absurd (show hp.objs.size + 1 < hp.objs.size from this) (by omega)
  refine wpAny_call (PySem.HandSPX.kw_call F.excBase_ValueError (fun Y => PySem.HandSPX.refsVE_contains Y bm hbm) (I1.kIn _ _ hC) (PySem.W.looks_findIn I1.kIn iC) (fun self => PySem.W.bind_fn I1.kIn self tI)
    (err_init (.inr rfl) E I1.ok.mod (fun b o e => kk b o (bsr b o e).1) (hr.make C [] [(f, u)]).depth hna hget iC fun h' tk' dx t1 kb hdx dne ha' hn' => ?_))
  obtain ⟨G, g1, g2⟩ := restrict h' fun b => decide (b ≠ hp.objs.size + 1)
  have gk : ∀ b, b ≠ hp.objs.size + 1 → G.get? b = h'.get? b := fun b hb => g1 b (decide_eq_true hb)
  have ge : G.get? (hp.objs.size + 1) = none := g2 _ (by simp)
  have nha : ∀ {b : Addr} {o : Obj}, hp.get? b = some o → b ≠ hp.objs.size + 1 := fun {b o} z => Nat.ne_of_lt (Nat.lt_of_lt_of_le (Heap.lt_size z) hsz)
  have hdx' : hp.objs.size ≤ dx := Nat.le_trans (Nat.le_of_lt (Nat.lt_trans (Nat.lt_succ_self _) (Heap.lt_size hget))) hdx
  have J := I1.laid (t' := tk') (a := dx) (o := .xd [(f, v)]) (h' := G) (fun b o z => by rw [gk b (nha z)]; exact kb b o (nha z) (kk b o z)) hdx'
    ⟨_, hn'.at fun o y => (gk dx dne).trans y, relO_put (fs := []) ra fun g => True.intro⟩
  have nd : H1 dx = none := I1.hok.fresh hdx'
  have na : (upd H1 dx (.xd [(f, v)])) (hp.objs.size + 1) = none := by
    rw [upd_ne (Ne.symm dne)]
    exact I1.hok.fresh hsz
  refine ⟨rfl, hp.objs.size + 1, _, _, _, _, .ref C, some dx, rfl, J, fun b o z => ?_, ge, ha', ⟨rfl, rfl⟩, rfl, rfl, na, rfl, I1.bare, raises_own T.exC T.tyC, q1 dx nd⟩
  by_cases hb : b = hp.objs.size + 1
  · subst hb
    rw [show (Heap.get? _ _ : Option Obj) = none from ge] at z
    cases z
  · exact (gk b hb).symm.trans z
end
def dErrK (c : Nat) (fa : CDen) : Den := fun τ Y => (fa τ Y).bind fun ws zs Y1 => match ws, zs with
  | [], [w] => (match frzW 20 Y1 w with
    | some (d, Y2) => .ok (.val (.err c [d])) Y2
    | none => .bad)
  | _, _ => .bad
section
variable {cls : Cl} {X : Cx} {W : WX} {pos p : Pos} {kws : List Keyword} {fa : CDen} {x f : Str}
theorem d_errK (c : Nat) (hr : Room 1 X.A) (E : ErrK X.prog X.K X.mg (cls.at_ c) f) (hf : cls.fs c = [f]) (hm : X.mg x = some (.ref (cls.at_ c))) (ha : DCa cls X W [] kws [f] fa) (hg : Gl X x := by rfl) (hdb : (x == ("__debug__" : Str)) = false := by decide) :
    DE cls X W (.Call (.Name x p) [] kws pos) (dErrK c fa) := by
  obtain ⟨t, ca, ha⟩ := ha
  refine ⟨_, pe_mk (pmk_errK E hr hm ca hg hdb), fun σ H Q B ρ Y τ R T h => ?_⟩
  refine ha σ H _ B ρ Y τ R T (R2aOk.imp ?_ (R2aOk.bound h))
  rintro vs us H1 ⟨B1, ρ1, ws, zs, Y1, A, r, rz, h1⟩
  split at h1
  · rename_i w
    cases r
    cases rz with
    | @cons v _ _ _ rv rr =>
    cases rr
    cases e2 : frzW 20 Y1 w with
    | none => rw [e2] at h1; exact h1.elim
    | some pr =>
      obtain ⟨dd, Y2⟩ := pr
      rw [e2] at h1
      obtain ⟨B2, A2, r2⟩ := frzW_at (G := gx cls X) 20 B1 ρ1 Y1 v w dd Y2 A.rel rv e2
      refine ⟨rfl, v, rfl, fun dx hn => ⟨_, rfl, fun a ha => ?_⟩⟩
      have A3 := Aft.new A2.rel (.xd [(f, v)]) hn
      have A4 := Aft.new A3.rel (ErO (cls.at_ c) (some dx) a) ha (by intro _ z; unfold ErO at z; cases z)
      refine h1 (.ref a) _ _ ρ1 (A2.trans (A3.trans A4)) (Rep.err (dx := dx) (vs := [v]) upd_same ?_ ?_ (.cons (r2.le (A3.trans A4).le) .nil))
      · have ne : dx ≠ a := fun z => by
          rw [← z, upd_same] at ha
          cases ha
        rw [upd_ne ne, upd_same]
        show some (HO.xd [(f, v)]) = some (HO.xd ((cls.fs c).zip [v]))
        rw [hf]
        rfl
      · show 1 = (cls.fs c).length
        rw [hf]
        rfl
  · exact h1.elim
end
end MV
set_option Elab.async false
set_option linter.all false
set_option maxRecDepth 100000
set_option maxHeartbeats 4000000
/-! MvErr0: C(), an own error without an own __init__, as a value. -/
namespace MV
open PySem PySem.Spec PyProof.Rows L2
section
variable {X : Cx} {x : Str} {C : Addr} {bmB : List Value} {Bs newId initId : String} {p pos : Pos}
theorem pe_err0 (F : ExcBaseFacts Bs newId initId bmB) (q : PySem.W.excIn X.K C bmB newId = true) (hm : X.mg x = some (.ref C)) (kC : PySem.W.keepIn X.K (.ref C) = true) (hg : Gl X x := by rfl) (hdb : (x == ("__debug__" : Str)) = false := by decide) :
    PE X (.Call (.Name x p) [] [] pos) (fun σ H Q => ∀ a, H a = none → Q (.ref a) (upd H a (ErO C none a))) := by
  refine ⟨fun pins s σ H Q I h => ?_⟩
  refine wpAny_Call_Name_kw (ld_glob I hg hm ?_ hdb)
  refine PySem.W.callWith_K0 I.kIn kC ?_
  show wpAny _ _ (call (.ref C) []) _ _ _
  obtain ⟨bm, N, nm, qn, bs, hdct, sn, sub, ab, col, dd, k0, k1, k2, k3, k5, mN, hC, hN, hni, T⟩ := exc_obj I.kIn q
  refine wpAny_call_exc_subT F T hC hN hni (fun h' a hm => ?_) (by show 0 ≤ sizeLine; exact Nat.zero_le _)
  have hn : H a = none := I.hok.gone hm.new
  obtain ⟨t, ht, _, _⟩ := hm.there
  exact ⟨.ref a, upd H a (ErO C none a), I.laidN hm.keeps hm.new hn (erO_ok ht ⟨rfl, rfl⟩ rfl), rfl, h a hn⟩
end
section
variable {cls : Cl} {X : Cx} {W : WX} {pos p : Pos} {x : Str} {bmB : List Value} {Bs newId initId : String}
def dErr0 (c : Nat) : Den := fun _ Y => .ok (.val (.err c [])) Y
theorem d_err0 (c : Nat) (F : ExcBaseFacts Bs newId initId bmB) (q : PySem.W.excIn X.K (cls.at_ c) bmB newId = true) (hm : X.mg x = some (.ref (cls.at_ c))) (kC : PySem.W.keepIn X.K (.ref (cls.at_ c)) = true) (hg : Gl X x := by rfl) (hdb : (x == ("__debug__" : Str)) = false := by decide) :
    DE cls X W (.Call (.Name x p) [] [] pos) (dErr0 c) := by
  refine ⟨_, pe_err0 F q hm kC hg hdb, fun σ H Q B ρ Y τ R T h a ha => ?_⟩
  have A := Aft.new R (ErO (cls.at_ c) none a) ha (by intro _ z; unfold ErO at z; cases z)
  exact h (.ref a) _ _ ρ A (Rep.err0 upd_same)
end
end MV
set_option Elab.async false
set_option linter.all false
set_option maxRecDepth 100000
set_option maxHeartbeats 4000000
/-! MvOwnOp: a + b, a - b, a * b by own __add__, __rmul__ and their like. -/
namespace MV
open PySem PySem.Spec PyProof.Rows L2
/-! ### int op object: the int declines, the object's reflected method answers -/
theorem mul_declines (i : Int) (t : Tok) (x C dx : Addr) : Meets (Builtin.«int.__mul__» ⟨[.int i t, .ref x], []⟩) (fun _ R s => s.heap.get? x = some (PySem.W.instObj C dx) ∧ R (.ok (.ret Value.notImplemented)) s) :=
  .of_wp fun prog w A R s h => by obtain ⟨hp, g, d, tk, os⟩ := s; obtain ⟨hl, h⟩ := h; unfold PySem.W.instObj at hl; wp_walk; exact ⟨_, rfl, h⟩
theorem add_declines (i : Int) (t : Tok) (x C dx : Addr) : Meets (Builtin.«int.__add__» ⟨[.int i t, .ref x], []⟩) (fun _ R s => s.heap.get? x = some (PySem.W.instObj C dx) ∧ R (.ok (.ret Value.notImplemented)) s) :=
  .of_wp fun prog w A R s h => by obtain ⟨hp, g, d, tk, os⟩ := s; obtain ⟨hl, h⟩ := h; unfold PySem.W.instObj at hl; wp_walk; exact ⟨_, rfl, h⟩
theorem sub_declines (i : Int) (t : Tok) (x C dx : Addr) : Meets (Builtin.«int.__sub__» ⟨[.int i t, .ref x], []⟩) (fun _ R s => s.heap.get? x = some (PySem.W.instObj C dx) ∧ R (.ok (.ret Value.notImplemented)) s) :=
  .of_wp fun prog w A R s h => by obtain ⟨hp, g, d, tk, os⟩ := s; obtain ⟨hl, h⟩ := h; unfold PySem.W.instObj at hl; wp_walk; exact ⟨_, rfl, h⟩
/-- an int declines -/
def Declines (op : Operator) : Prop := fillsNumberSlot (.type "int") op.info.2 = pure true ∧ ∃ id, Slot "int" (PySem.dunder op.info.2) id ∧ ∀ (prog : Program) (w : World) (A : Around) (E : Value → Shared → Prop) (s : Shared) (i : Int) (t : Tok) (x C dx : Addr) (Q : Value → Shared → Prop), s.heap.get? x = some (PySem.W.instObj C dx) → Q .notImplemented s →
  wpAny (model prog w) A (call (.builtin id) [.int i t, .ref x]) Q E s
theorem decl_mul : Declines .Mult := ⟨F.fills_int_mul, _, F.slot_int_mul, fun prog w A E s i t x C dx Q h q => call_meets F.slot_int_mul (typeIs_int s i t) F.entry_int_mul (F.args_int_mul_2 _ _) (mul_declines i t x C dx) ⟨h, q⟩⟩
theorem decl_add : Declines .Add := ⟨F.fills_int_add, _, F.slot_int_add, fun prog w A E s i t x C dx Q h q => call_meets F.slot_int_add (typeIs_int s i t) F.entry_int_add (F.args_int_add_2 _ _) (add_declines i t x C dx) ⟨h, q⟩⟩
theorem decl_sub : Declines .Sub := ⟨F.fills_int_sub, _, F.slot_int_sub, fun prog w A E s i t x C dx Q h q => call_meets F.slot_int_sub (typeIs_int s i t) F.entry_int_sub (F.args_int_sub_2 _ _) (sub_declines i t x C dx) ⟨h, q⟩⟩
section
variable {prog : Program} {w : World} {A : Around} {E : Value → Shared → Prop} {s : Shared} {K : PySem.W.Frag} {x C f g dx : Addr} {od : Option Obj}
theorem bin_right {op : Operator} {i : Int} {t : Tok} {Q : Value → Shared → Prop} (D : Declines op) (X : K.In s.heap) (J : PySem.W.InstAt s.heap x (PySem.W.instObj C dx) C od) (hc : PySem.W.selfFirst K C = true)
    (hs : PySem.W.findIn K (.ref C) (PySem.dunder op.info.2) = some (some (.ref f))) (hr : PySem.W.findIn K (.ref C) (dunderR op.info.2) = some (some (.ref g))) (hg : PySem.W.isFn K (.ref g) = true) (hsub : PySem.W.subIn K (.ref C) (.type "int") = some false)
    (h : wpAny (model prog w) A (call (.ref g) [.ref x, .int i t]) (PySem.W.CmpBack Q) E s) : wpAny (model prog w) A (binaryOp op (.int i t) (.ref x)) Q E s := by
  obtain ⟨cd, rest, hcd, hm⟩ := PySem.W.ksp_first hc
  obtain ⟨hf, id, sl, dc⟩ := D
  rcases hi : op.info with ⟨sym, nm'⟩
  rw [hi] at hs hr hf sl
  dsimp only at hs hr hf sl
  have one := PySem.W.ksp_try X J hr hg h
  have obj := J.1
  obtain ⟨hh, gg, d, tt, os⟩ := s
  have L1 : PySem.W.Looks (model prog w) hh (typeOf (.ref x)) (.ref C) := J.type
  have L2 : PySem.W.Looks (model prog w) hh (typeOf (.int i t)) (.type "int") := PySem.W.Looks.of_pure rfl
  have L3 : PySem.W.Looks (model prog w) hh (fillsNumberSlot (.ref C) nm') true := PySem.W.fills_K X hcd hm hs
  have L4 : PySem.W.Looks (model prog w) hh (fillsNumberSlot (.type "int") nm') true := PySem.W.Looks.of_pure hf
  have L5 : PySem.W.Looks (model prog w) hh (isSubtype (.ref C) (.type "int")) false := PySem.W.looks_subIn X hsub
  have L7 : PySem.W.Looks (model prog w) hh (numberSlotInPython (.type "int") nm') false := PySem.W.Looks.of_pure rfl
  have hne : (Value.type "int" == Value.ref C) = false := Bool.eq_false_iff.mpr fun q => by cases beq_iff_eq.mp q
  simp only [binaryOp, hi]
  refine wpAny_holding (wpAny_bind ?_)
  unfold binaryOp1
  refine wpAny_bind (L2.at (wpAny_bind (L1.at (wpAny_bind (L4.at ?_)))))
  simp only [hne, Bool.false_eq_true, if_false]
  refine wpAny_bind (L3.at ?_)
  simp only [Bool.and_self, if_true]
  refine wpAny_bind (L5.at ?_)
  simp only [Bool.false_eq_true, if_false]
  refine wpAny_bind (wpAny_pure ?_)
  simp only [Bool.and_self, Bool.not_false, if_true, Bool.false_eq_true, if_false]
  refine wpAny_bind (wpAny_tryMethod_declines (typeIs_int _ i t) sl (dc prog w A E ⟨hh, gg, d, tt, os⟩ i t x C dx _ obj ⟨rfl, ?_⟩))
  dsimp only
  refine wpAny_bind (wpAny_mono one (fun r s' hr' => ?_) fun _ _ e => e)
  obtain ⟨v, rfl, hq⟩ := hr'
  exact wpAny_bind (wpAny_rule (wpAny_pure (wpAny_pure hq)))
end
/-! ### by denotations -/
/-- which def answers: of the left one's class for the other of a class or an int; of the right one's class for an int -/
def gBin (sel rsel : Nat → Option FDen) : G2 := fun a b Y => match clsW a Y with
  | some c => (match sel c with
    | some fn => (match clsW b Y with
      | some c' => (match Nat.beq c c' with
        | true => noX (fn [a, b] Y)
        | false => .bad)
      | none => (match b with
        | .val (.int _) => noX (fn [a, b] Y)
        | _ => .bad))
    | none => .bad)
  | none => (match a, clsW b Y with
    | .val (.int _), some c => (match rsel c with
      | some fn => noX (fn [b, a] Y)
      | none => .bad)
    | _, _ => .bad)
/-- what K has of a class with own operators -/
structure BinC (X : Cx) (cls : Cl) (op : Operator) (sel rsel : Nat → Option FDen) : Prop where
  lf : ∀ c fn, sel c = some fn → ∃ lev, MtX X.prog X.w X.K X.mg X.base cls c (PySem.dunder op.info.2) 1 [] [.p 0, .p 1] [] fn lev ∧ Room lev X.A ∧ PySem.W.selfFirst X.K (cls.at_ c) = true ∧ (∃ rc, PySem.W.findIn X.K (.ref (cls.at_ c)) (dunderR op.info.2) = some rc ∧ (rc = none ∨ ∃ g : Addr, rc = some (.ref g))) ∧
    (∃ fo, PySem.W.findIn X.K (.type "int") (PySem.dunder op.info.2) = some fo) ∧ (∃ ro, PySem.W.findIn X.K (.type "int") (dunderR op.info.2) = some ro) ∧ PySem.W.subIn X.K (.type "int") (.ref (cls.at_ c)) = some false
  rt : ∀ c fn, rsel c = some fn → Declines op ∧ ∃ lev, MtX X.prog X.w X.K X.mg X.base cls c (dunderR op.info.2) 1 [] [.p 0, .p 1] [] fn lev ∧ Room lev X.A ∧ PySem.W.selfFirst X.K (cls.at_ c) = true ∧ (∃ f, PySem.W.findIn X.K (.ref (cls.at_ c)) (PySem.dunder op.info.2) = some (some (.ref f))) ∧ PySem.W.subIn X.K (.ref (cls.at_ c)) (.type "int") = some false
def rBin (cls : Cl) (X : Cx) (sel rsel : Nat → Option FDen) : R2 := fun x y H Q => ∃ B ρ Y wa wb w Y', Rel (gx cls X) B H ρ Y ∧ WRep (gx cls X) B ρ Y.length x wa ∧ WRep (gx cls X) B ρ Y.length y wb ∧ gBin sel rsel wa wb Y = .ok w Y' ∧
  ∀ v B' H' ρ', Aft (gx cls X) B H ρ Y B' H' ρ' Y' → WRep (gx cls X) B' ρ' Y'.length v w → Q v H'
theorem r_bin {cls : Cl} {X : Cx} {sel rsel : Nat → Option FDen} : R2D (gx cls X) (rBin cls X sel rsel) (gBin sel rsel) :=
  fun x y B H ρ Y Q w1 w2 w Y' R a b e q => ⟨B, ρ, Y, w1, w2, w, Y', R, a, b, e, q⟩
section
variable {cls : Cl} {X : Cx} {W : WX} {sel rsel : Nat → Option FDen}
theorem noX_ok {r : Re} {w : MV.W} {Y : Ys} (h : noX r = .ok w Y) : r = .ok w Y := by
  cases r <;> first | exact h | cases h
/-- a method of two is called -/
theorem mt_call {pins : List (Addr × Obj)} {s : Shared} {σ : L2.St} {H B : Hp} {ρ : Nat → Addr} {Y Y' : Ys} {a : Addr} {y : V} {u : Value} {Q : VK} {c lev : Nat} {m : Str} {fn : FDen} {wa wb w : MV.W} (tk : Takes X W) (M : MtX X.prog X.w X.K X.mg X.base cls c m 1 [] [.p 0, .p 1] [] fn lev) (hr : Room lev X.A) (I : Inv X pins σ H s)
    (R : Rel (gx cls X) B H ρ Y) (ra : WRep (gx cls X) B ρ Y.length (.ref a) wa) (rb : WRep (gx cls X) B ρ Y.length y wb) (ry : RelV y u) (e : fn [wa, wb] Y = .ok w Y') (q : ∀ v B' H' ρ', Aft (gx cls X) B H ρ Y B' H' ρ' Y' → WRep (gx cls X) B' ρ' Y'.length v w → Q v H') :
    ∃ g, PySem.W.findIn X.K (.ref (cls.at_ c)) m = some (some (.ref g)) ∧ PySem.W.isFn X.K (.ref g) = true ∧ wpAny (model X.prog X.w) X.A (call (.ref g) [.ref a, u]) (PySem.W.CmpBack (EP X pins σ Q)) X.xe s := by
  obtain ⟨g, fd, ps, dvs, hc, hme, _, F, hb, hd, hp⟩ := M
  refine ⟨g, hme.at_, hme.fn, ?_⟩
  obtain ⟨its, hds, hb⟩ := hb
  have bb := hb s [.ref a, u] [] [.ref a, u] I.kIn rfl rfl rfl
  have hsp : spW (gx cls X) ps.length fn [.ref a, y] H Q (WE W σ) := by
    refine ⟨hp, B, ρ, Y, [wa, wb], R, .cons ra (.cons rb .nil), ?_⟩
    rw [e]
    exact q
  refine wpAny_call (codeAny_mono (F.run X.A X.stack s H ⟨[.ref a, u], []⟩ [.ref a, u] [.ref a, y] _ (WE W σ) hr I.env0 bb (.cons rfl (.cons ry .nil)) hsp) fun r s' hq => ?_)
  cases r with
  | error e => exact passAt tk σ pins H s e s' I hq
  | ok fl =>
    cases fl with
    | ret u' =>
      have z := I.after hq
      obtain ⟨v, H', I', rv, qq⟩ := id z
      show PySem.W.CmpBack (EP X pins σ Q) u' s'
      unfold PySem.W.CmpBack
      split
      · cases v <;> first | exact nomatch (show Value.notImplemented = _ from rv) | (obtain ⟨_, rv⟩ := rv; exact nomatch rv)
      · exact z
    | next => exact False.elim hq
    | brk => exact False.elim hq
    | cont => exact False.elim hq
theorem op_bin {op : Operator} (tk : Takes X W) (h : BinC X cls op sel rsel) : OpR X (binaryOp op) (rBin cls X sel rsel) := by
  intro pins s σ H x y v u Q I rx ry hh
  obtain ⟨B, ρ, Y, wa, wb, w, Y', R, ra, rb, e, q⟩ := hh
  unfold gBin at e
  cases e1 : clsW wa Y with
  | some c =>
    rw [e1] at e
    dsimp only at e
    cases e2 : sel c with
    | none => rw [e2] at e; cases e
    | some fn =>
      rw [e2] at e
      dsimp only at e
      obtain ⟨lev, M, hr, sf, ⟨rc, hrc, hp⟩, ⟨fo, hfo⟩, ⟨ro, hro⟩, hsub⟩ := h.lf c fn e2
      obtain ⟨a, dx, vs, rfl, ha⟩ := clsW_at R ra e1
      obtain rfl : v = Value.ref a := rx
      obtain ⟨mA, J, _⟩ := ins_get I.hok ha
      obtain ⟨od, J, _⟩ := J.look
      obtain ⟨m, hF⟩ := I.fr
      cases e3 : clsW wb Y with
      | some c' =>
        rw [e3] at e
        dsimp only at e
        cases e4 : Nat.beq c c' with
        | false => rw [e4] at e; cases e
        | true =>
          rw [e4] at e
          obtain rfl : c = c' := Nat.eq_of_beq_eq_true e4
          obtain ⟨b, dx', vs', rfl, hb⟩ := clsW_at R rb e3
          obtain rfl : u = Value.ref b := ry
          obtain ⟨mB, J', _⟩ := ins_get I.hok hb
          obtain ⟨od', J', _⟩ := J'.look
          obtain ⟨g, h1, h2, h3⟩ := mt_call tk M hr I R ra rb rfl (noX_ok e) q
          exact PySem.W.binop_K hF I.ok.mod.kin J J'.type sf h1 h2 h3
      | none =>
        rw [e3] at e
        dsimp only at e
        split at e
        · have ey := rep_int rb
          subst ey
          obtain ⟨t, rfl⟩ := ry
          obtain ⟨g, h1, h2, h3⟩ := mt_call tk M hr I R ra rb ⟨t, rfl⟩ (noX_ok e) q
          exact PySem.W.ksp_binT (T := "int") hF I.ok.mod.kin J rfl sf h1 h2 hrc hp hfo hro hsub h3
        · cases e
  | none =>
    rw [e1] at e
    dsimp only at e
    split at e
    · rename_i _ _ i c e3
      cases e2 : rsel c with
      | none => rw [e2] at e; cases e
      | some fn =>
        rw [e2] at e
        dsimp only at e
        obtain ⟨D, lev, M, hr, sf, ⟨f, hf⟩, hsub⟩ := h.rt c fn e2
        obtain ⟨b, dx, vs, rfl, hb⟩ := clsW_at R rb e3
        obtain rfl : u = Value.ref b := ry
        obtain ⟨mB, J, _⟩ := ins_get I.hok hb
        obtain ⟨od, J, _⟩ := J.look
        have ex := rep_int ra
        subst ex
        obtain ⟨t, rfl⟩ := rx
        obtain ⟨g, h1, h2, h3⟩ := mt_call tk M hr I R rb ra ⟨t, rfl⟩ (noX_ok e) q
        exact bin_right D I.kIn J sf hf h1 h2 hsub h3
    · cases e
/-- a op b: plain values first -/
theorem d_binO {op : Operator} {r : R2} {g : G2} {a b : Expr} {f1 f2 : Den} {pos : Pos} (ho : OpR X (binaryOp op) r) (hr : R2D (gx cls X) r g) (tk : Takes X W) (h : BinC X cls op sel rsel) (ha : DE cls X W a f1) (hb : DE cls X W b f2) : DE cls X W (.BinOp a op b pos) (dOp (orG g (gBin sel rsel)) f1 f2) :=
  d_op (r := fun x y H Q => r x y H Q ∨ rBin cls X sel rsel x y H Q) (fun pins s σ H x y v u Q I rx ry z => by
    rcases z with z | z
    · exact ho pins s σ H x y v u Q I rx ry z
    · exact op_bin tk h pins s σ H x y v u Q I rx ry z) (R2D.or hr r_bin) ha hb
end
end MV
set_option Elab.async false
set_option linter.all false
set_option maxRecDepth 100000
set_option maxHeartbeats 4000000
/-! MvFrz: what a slot holds of the store is told as data from here on. -/
namespace MV
open PySem PySem.Spec PyProof.Rows L2
def frzSlot (k : Nat) (τ : Ts) (Y : Ys) : Option (Ts × Ys) := match τ[k]? with
  | some (some w) => (match frzW 20 Y w with
    | some (d, Y2) => some (τ.set k (some (.val d)), Y2)
    | none => none)
  | _ => none
def sPre (k : Nat) (F : SDen) : SDen := fun τ Y => match frzSlot k τ Y with
  | some (τ2, Y2) => F τ2 Y2
  | none => .bad
theorem frzSlot_at {G : Gx} {B H : Hp} {ρ : Nat → Addr} {Y Y2 : Ys} {k : Nat} {σ : L2.St} {τ τ2 : Ts} (R : Rel G B H ρ Y) (T : TR G B ρ Y.length σ τ) (e : frzSlot k τ Y = some (τ2, Y2)) : ∃ B2, Aft G B H ρ Y B2 H ρ Y2 ∧ TR G B2 ρ Y2.length σ τ2 := by
  unfold frzSlot at e
  split at e
  · rename_i w hw
    split at e
    · rename_i d Y3 hd
      cases e
      obtain ⟨v, hv, rv⟩ := T.at_ k w hw
      obtain ⟨B2, A2, r2⟩ := frzW_at (G := G) 20 B ρ Y v w d _ R rv hd
      refine ⟨B2, A2, ?_⟩
      have T2 := T.aft A2
      refine ⟨by rw [List.length_set]; exact T2.len, fun i u hu => ?_⟩
      by_cases hi : k = i
      · subst hi
        have hk : k < τ.length := (List.getElem?_eq_some_iff.mp hw).1
        rw [List.getElem?_set_self hk] at hu
        cases hu
        exact ⟨v, hv, r2⟩
      · rw [List.getElem?_set_ne hi] at hu
        exact T2.at_ i u hu
    · cases e
  · cases e
section
variable {cls : Cl} {X : Cx} {W : WX} {sts : List Stmt} {F : SDen}
theorem ss_frz (k : Nat) (h : DSs cls X W sts F) : DSs cls X W sts (sPre k F) := by
  obtain ⟨t, p, h⟩ := h
  refine ⟨t, p, fun σ H E B ρ Y τ R T hq => ?_⟩
  unfold sPre at hq
  split at hq
  · rename_i τ2 Y2 e
    obtain ⟨B2, A2, T2⟩ := frzSlot_at R T e
    exact h σ H E B2 ρ Y2 τ2 A2.rel T2 (OutOk.behind A2 hq)
  · exact hq.elim
end
end MV
set_option Elab.async false
set_option linter.all false
set_option maxRecDepth 100000
set_option maxHeartbeats 4000000
/-! MvOwn: statements run in a store of their own. -/
namespace MV
open PySem PySem.Spec PyProof.Rows L2
/-- the slots that hold data -/
def datT : Ts → Ts
  | [] => []
  | some (.val d) :: r => some (.val d) :: datT r
  | _ :: r => none :: datT r
theorem datT_len : ∀ τ : Ts, (datT τ).length = τ.length
  | [] => rfl
  | some (.val d) :: r => congrArg (· + 1) (datT_len r)
  | some (.ref n) :: r => congrArg (· + 1) (datT_len r)
  | none :: r => congrArg (· + 1) (datT_len r)
theorem datT_get : ∀ {τ : Ts} {i : Nat} {w : W}, (datT τ)[i]? = some (some w) → ∃ d, w = .val d ∧ τ[i]? = some (some (.val d))
  | [], i, w, h => by simp [datT] at h
  | some (.val d) :: r, 0, w, h => by
    simp [datT] at h
    exact ⟨d, h.symm, rfl⟩
  | some (.ref n) :: r, 0, w, h => by simp [datT] at h
  | none :: r, 0, w, h => by simp [datT] at h
  | some (.val d) :: r, i + 1, w, h => by
    obtain ⟨d, h1, h2⟩ := datT_get (τ := r) (i := i) (w := w) (by simpa [datT] using h)
    exact ⟨d, h1, by simpa using h2⟩
  | some (.ref n) :: r, i + 1, w, h => by
    obtain ⟨d, h1, h2⟩ := datT_get (τ := r) (i := i) (w := w) (by simpa [datT] using h)
    exact ⟨d, h1, by simpa using h2⟩
  | none :: r, i + 1, w, h => by
    obtain ⟨d, h1, h2⟩ := datT_get (τ := r) (i := i) (w := w) (by simpa [datT] using h)
    exact ⟨d, h1, by simpa using h2⟩
theorem TR.dat {G : Gx} {B : Hp} {ρ ρ' : Nat → Addr} {n m : Nat} {σ : L2.St} {τ : Ts} (T : TR G B ρ n σ τ) : TR G B ρ' m σ (datT τ) := by
  refine ⟨by rw [datT_len]; exact T.len, fun i w e => ?_⟩
  obtain ⟨d, rfl, h⟩ := datT_get e
  obtain ⟨v, hv, r⟩ := T.at_ i _ h
  exact ⟨v, hv, r⟩
def sOwn (F : SDen) : SDen := fun τ Y => match F (datT τ) [] with
  | .next τ1 _ => .next (datT τ1) Y
  | .ret w Y1 => (match frzW 20 Y1 w with
    | some (d, _) => .ret (.val d) Y
    | none => .bad)
  | .exc c fs τ1 _ => .exc c fs (datT τ1) Y
  | .brk τ1 _ => .brk (datT τ1) Y
  | .cont τ1 _ => .cont (datT τ1) Y
  | .bad => .bad
section
variable {cls : Cl} {X : Cx} {W : WX} {sts : List Stmt} {F : SDen}
theorem ss_own (h : DSs cls X W sts F) : DSs cls X W sts (sOwn F) := by
  obtain ⟨t, p, h⟩ := h
  refine ⟨t, p, fun σ H E B ρ Y τ R T q => ?_⟩
  have R0 : Rel (gx cls X) B H ρ [] := ⟨R.sub, fun n ⟨_, e, _⟩ => by simp at e, fun n yo e => by simp at e, fun n m ⟨_, e, _⟩ => by simp at e, R.tabs⟩
  refine h σ H E B ρ [] (datT τ) R0 T.dat ?_
  unfold sOwn at q
  cases e : F (datT τ) [] with
  | bad => rw [e] at q; exact q.elim
  | next τ1 Y1 =>
    rw [e] at q
    exact fun σ' B' H' ρ' A T' => q σ' B' H' ρ (Aft.own_store R A) T'.dat
  | brk τ1 Y1 =>
    rw [e] at q
    exact fun σ' B' H' ρ' A T' => q σ' B' H' ρ (Aft.own_store R A) T'.dat
  | cont τ1 Y1 =>
    rw [e] at q
    exact fun σ' B' H' ρ' A T' => q σ' B' H' ρ (Aft.own_store R A) T'.dat
  | exc c fs τ1 Y1 =>
    rw [e] at q
    exact fun d σ' B' H' ρ' A T' x => q d σ' B' H' ρ (Aft.own_store R A) T'.dat x
  | ret w' Y1 =>
    rw [e] at q
    dsimp only at q
    cases e2 : frzW 20 Y1 w' with
    | none => rw [e2] at q; exact q.elim
    | some pr =>
      obtain ⟨d, Y2⟩ := pr
      rw [e2] at q
      intro v B' H' ρ' A r'
      obtain ⟨B1, A1, r1⟩ := frzW_at (G := gx cls X) 20 B' ρ' Y1 v w' d Y2 A.rel r' e2
      exact q v B1 H' ρ (Aft.own_store R (A.trans A1)) r1
end
end MV
set_option Elab.async false
set_option linter.all false
set_option maxRecDepth 100000
set_option maxHeartbeats 4000000
/-! MvForN: for over a list of the store, read as it stands at each turn. -/
namespace MV
open PySem PySem.Spec PyProof.Rows L2
/-- the i-th item by the store; some none: none is left -/
abbrev Nx := Nat → Ys → Option (Option W)
inductive Rn where
  | ok (nx : Nx) (k : Nat) (Y : Ys) | exc (c : Nat) (fs : Option (List (Str × D))) (Y : Ys) | bad
abbrev NDen := Ts → Ys → Rn
def ItN (G : Gx) (B1 H1 : Hp) (ρ1 : Nat → Addr) (Y1 : Ys) (J : It) (nx : Nx) : Prop := ∀ B H ρ Y, Aft G B1 H1 ρ1 Y1 B H ρ Y → ∀ i,
  (∀ w, nx i Y = some (some w) → J.go i H ∧ ∀ x H', J.yld i H x H' → ∃ B', Aft G B H ρ Y B' H' ρ Y ∧ WRep G B' ρ Y.length x w) ∧ (nx i Y = some none → J.stop i H)
def RnOk (X : Cx) (G : Gx) (W : WX) (σ : L2.St) (B H : Hp) (ρ : Nat → Addr) (Y : Ys) (R : It → Hp → Prop) : Rn → Prop
  | .ok nx _ Y' => ∀ J B' H' ρ' L, Aft G B H ρ Y B' (unlk L H') ρ' Y' → LkOk X L B' H' → ItN G B' H' ρ' Y' J nx → R J H'
  | .exc c fs Y' => ∀ d B' H' ρ', Aft G B H ρ Y B' H' ρ' Y' → ExcAt G B' H' d fs → W (.ref (G.cls c)) d σ H'
  | .bad => False
def DN (cls : Cl) (X : Cx) (W : WX) (tg iter : Expr) (f : NDen) : Prop :=
  ∃ t : TI, PI X tg iter t ∧ ∀ σ H R B ρ Y τ, Rel (gx cls X) B H ρ Y → TR (gx cls X) B ρ Y.length σ τ → RnOk X (gx cls X) W σ B H ρ Y R (f τ Y) → t σ H R
def nxL (ws : List W) : Nx := fun i _ => some ws[i]?
theorem ItR.toN {G : Gx} {B1 H1 : Hp} {ρ1 : Nat → Addr} {Y1 : Ys} {J : It} {ws : List W} (h : ItR G B1 H1 ρ1 Y1 J ws) : ItN G B1 H1 ρ1 Y1 J (nxL ws) := fun B H ρ Y A i =>
  ⟨fun w e => (h B H ρ Y A i).1 w (Option.some.inj e), fun e => (h B H ρ Y A i).2 (List.getElem?_eq_none_iff.mp (Option.some.inj e))⟩
/-- a list of the store -/
def nxR (n : Nat) : Nx := fun i Y => match Y[n]? with
  | some (.lst ws) => some ws[i]?
  | _ => none
def nxE (n : Nat) : Nx := fun i Y => match Y[n]? with
  | some (.lst ws) => (match ws[i]? with
    | some (.val d) => some (some (.val (.tup [.int i, d])))
    | some (.ref _) => none
    | none => some none)
  | _ => none
def dItN (f : Den) : NDen := fun τ Y => match f τ Y with
  | .ok (.ref n) Y1 => (match Y1[n]? with
    | some (.lst ws) => .ok (nxR n) (ws.length + 1) Y1
    | _ => .bad)
  | .ok w Y1 => (match itOf w Y1 with
    | some ws => .ok (nxL ws) (ws.length + 1) Y1
    | none => .bad)
  | .exc c fs Y1 => .exc c fs Y1
  | .bad => .bad
def dEnumN (f : ADen) : NDen := fun τ Y => match f τ Y with
  | .ok [.ref n] Y1 => (match Y1[n]? with
    | some (.lst ws) => .ok (nxE n) (ws.length + 1) Y1
    | _ => .bad)
  | .ok [w] Y1 => (match rowOf w with
    | some (_, ds) => .ok (nxL (numd 0 ds)) (ds.length + 1) Y1
    | none => .bad)
  | .ok _ _ => .bad
  | .exc c fs Y1 => .exc c fs Y1
  | .bad => .bad
section
variable {G : Gx} {B1 H1 : Hp} {ρ1 : Nat → Addr} {Y1 : Ys}
theorem obj_lst {n : Nat} {ws : List W} {B H : Hp} {ρ : Nat → Addr} {Y : Ys} (R : Rel G B H ρ Y) (e : Y[n]? = some (.lst ws)) : ∃ vs, H (ρ n) = some (.lst vs) ∧ WReps G B ρ Y.length vs ws := by
  obtain ⟨vs, h1, _, h3⟩ := R.obj n _ e
  exact ⟨vs, h1, h3⟩
theorem it_ref {n : Nat} (hn : n < Y1.length) : ItN G B1 H1 ρ1 Y1 (Itl G.K (ρ1 n)) (nxR n) := by
  intro B H ρ Y A i
  have ea := A.adr n hn
  refine ⟨fun w e => ?_, fun e => ?_⟩
  · unfold nxR at e
    split at e
    · rename_i ws hw
      have e' := Option.some.inj e
      obtain ⟨vs, h1, h3⟩ := obj_lst A.rel hw
      rw [ea] at h1
      have q : SqL G.K H (ρ1 n) vs := .inl (.inl h1)
      obtain ⟨x, hx, rx⟩ := Paired.get h3 e'
      refine ⟨⟨vs, x, q, hx⟩, fun y H' hy => ?_⟩
      obtain ⟨rfl, hy⟩ := hy
      have := hy vs q
      rw [hx] at this
      cases this
      exact ⟨B, Aft.refl A.rel, rx⟩
    · cases e
  · unfold nxR at e
    split at e
    · rename_i ws hw
      have e' := Option.some.inj e
      obtain ⟨vs, h1, h3⟩ := obj_lst A.rel hw
      rw [ea] at h1
      exact ⟨vs, .inl (.inl h1), by rw [Paired.length h3]; exact List.getElem?_eq_none_iff.mp e'⟩
    · cases e
theorem it_refE {n : Nat} (hn : n < Y1.length) : ItN G B1 H1 ρ1 Y1 (Ite G.K (ρ1 n)) (nxE n) := by
  intro B H ρ Y A i
  have ea := A.adr n hn
  refine ⟨fun w e => ?_, fun e => ?_⟩
  · unfold nxE at e
    split at e
    · rename_i ws hw
      obtain ⟨vs, h1, h3⟩ := obj_lst A.rel hw
      rw [ea] at h1
      have q : SqL G.K H (ρ1 n) vs := .inl (.inl h1)
      split at e
      · rename_i d hd
        cases e
        obtain ⟨x, hx, rx⟩ := Paired.get h3 hd
        refine ⟨⟨vs, x, q, hx⟩, fun y H' hy => ?_⟩
        obtain ⟨T, z, rfl, hT, rfl, hz⟩ := hy
        have := hz vs q
        rw [hx] at this
        cases this
        have := pair_new A.rel hT (Rep.int (G := G) (B := B) (i : Nat)) rx
        simpa using this
      · cases e
      · cases e
    · cases e
  · unfold nxE at e
    split at e
    · rename_i ws hw
      obtain ⟨vs, h1, h3⟩ := obj_lst A.rel hw
      rw [ea] at h1
      split at e
      · cases e
      · cases e
      · rename_i hd
        exact ⟨vs, .inl (.inl h1), by rw [Paired.length h3]; exact List.getElem?_eq_none_iff.mp hd⟩
    · cases e
end
section
variable {cls : Cl} {X : Cx} {W : WX} {pos p tpos : Pos} {tg e a : Expr} {fe : Den} {fa : ADen} {elts : List Expr} {kk : Nat}
theorem dn_seq (he : DE cls X W e fe) : DN cls X W tg e (dItN fe) := by
  obtain ⟨ti, pi, hi⟩ := di_seq (tg := tg) he
  obtain ⟨t, p, he⟩ := he
  refine ⟨_, PI.or (pi_list p) pi, fun σ H R B ρ Y τ Rl T h => ?_⟩
  unfold dItN at h
  split at h
  · rename_i n Y1 e1
    split at h
    · rename_i ws hw
      refine .inl (he σ H _ B ρ Y τ Rl T ?_)
      rw [e1]
      rintro v B' H' ρ' A ⟨hn, rfl⟩
      obtain ⟨vs, h1, h3⟩ := obj_lst A.rel hw
      exact ⟨_, rfl, ⟨vs, .inl (.inl h1)⟩, h _ B' H' ρ' none A trivial (it_ref (G := gx cls X) hn)⟩
    · exact h.elim
  · rename_i w Y1 hne e1
    refine .inr (hi σ H R B ρ Y τ Rl T ?_)
    dsimp only
    rw [e1]
    unfold Re.iter
    dsimp only
    split at h
    · rename_i ws hw
      try rw [hw]
      intro J B' H' ρ' L A k it
      exact h J B' H' ρ' L A k it.toN
    · exact h.elim
  · rename_i c fs Y1 e1
    refine .inl (he σ H _ B ρ Y τ Rl T ?_)
    rw [e1]
    exact h
  · exact h.elim
theorem dn_enum (hm : X.mg "enumerate" = none) (ha : DA cls X W [a] fa) (hg : Gl X "enumerate" := by rfl) (hs : starEach [a] X.env = [(false, eval a X.env)] := by rfl) :
    DN cls X W (.Tuple elts kk tpos) (.Call (.Name "enumerate" p) [a] [] pos) (dEnumN fa) := by
  obtain ⟨ti, pi, hi⟩ := di_enum (elts := elts) (kk := kk) (tpos := tpos) (pos := pos) (p := p) hm ha hg hs
  obtain ⟨t, pa, ha⟩ := ha
  refine ⟨_, PI.or (pi_enum hg hm pa hs) pi, fun σ H R B ρ Y τ Rl T h => ?_⟩
  unfold dEnumN at h
  split at h
  · rename_i n Y1 e1
    split at h
    · rename_i ws hw
      refine .inl (ha σ H _ B ρ Y τ Rl T ?_)
      rw [e1]
      intro vs B' H' ρ' A r
      cases r with
      | cons r rr =>
        cases rr
        obtain ⟨hn, rfl⟩ := r
        obtain ⟨vs, h1, h3⟩ := obj_lst A.rel hw
        exact ⟨_, vs, rfl, .inl (.inl h1), h _ B' H' ρ' none A trivial (it_refE (G := gx cls X) hn)⟩
    · exact h.elim
  · rename_i w Y1 hne e1
    refine .inr (hi σ H R B ρ Y τ Rl T ?_)
    unfold dEnum
    rw [e1]
    dsimp only
    split at h
    · rename_i k ds hw
      try rw [hw]
      intro J B' H' ρ' L A kk it
      exact h J B' H' ρ' L A kk it.toN
    · exact h.elim
  · exact h.elim
  · rename_i c fs Y1 e1
    refine .inr (hi σ H R B ρ Y τ Rl T ?_)
    unfold dEnum
    rw [e1]
    exact h
  · exact h.elim
end
/-! ### for -/
def sForNL (nx : Nx) (g : W → Ts → Ys → Option Ts) (b : SDen) : Nat → Nat → Ts → Ys → Out
  | 0, _, _, _ => .bad
  | k + 1, i, τ, Y => (match nx i Y with
    | some (some w) => (match g w τ Y with
      | some τ1 => (match b τ1 Y with
        | .next τ2 Y2 => sForNL nx g b k (i + 1) τ2 Y2
        | .cont τ2 Y2 => sForNL nx g b k (i + 1) τ2 Y2
        | .brk τ2 Y2 => .next τ2 Y2
        | .ret v Y2 => .ret v Y2
        | .exc c fs τ2 Y2 => .exc c fs τ2 Y2
        | .bad => .bad)
      | none => .bad)
    | some none => .next τ Y
    | none => .bad)
def sForN (f : NDen) (g : W → Ts → Ys → Option Ts) (b : SDen) : SDen := fun τ Y => match f τ Y with
  | .ok nx k Y1 => sForNL nx g b k 0 τ Y1
  | .exc c fs Y1 => .exc c fs τ Y1
  | .bad => .bad
section
variable {cls : Cl} {X : Cx} {W : WX} {pos : Pos}
theorem s_forN {tg iter : Expr} {body : List Stmt} {f : NDen} {g : MV.W → Ts → Ys → Option Ts} {b : SDen} (hp : PassesOwn (model X.prog X.w) X.A X.env X.xe) (hc : X.calm = true) (hi : DN cls X W tg iter f) (hg : DG cls X tg g) (hb : DSs cls X W body b)
    (hW : ∀ c d σ H L, UnO X L H → W c d σ (unlk L H) → W c d σ H) (hs : ∀ x, foldedSetIterable iter X.env x = pure x := by intro _; rfl) : DS cls X W (.For tg iter body [] pos) (sForN f g b) := by
  obtain ⟨ti, pi, hi⟩ := hi
  obtain ⟨tg', pg, hg⟩ := hg
  obtain ⟨tb, pb, hb⟩ := hb
  refine ⟨_, ps_un (ps_for hp hc pi pg pb hs), fun σ H E B ρ Y τ R T h => ?_⟩
  refine hi σ H _ B ρ Y τ R T ?_
  unfold sForN at h
  cases e : f τ Y with
  | bad =>
    rw [e] at h
    exact h.elim
  | exc c fs Y1 =>
    rw [e] at h
    intro d B' H' ρ' A x
    exact h d σ B' H' ρ' A (T.aft A) x
  | ok nx k Y1 =>
    rw [e] at h
    dsimp only at h
    generalize hr : sForNL nx g b k 0 τ Y1 = r at h
    intro J B1 H1 ρ1 L A1 k1 it
    have R1 : Rel (gx cls X) B1 H1 ρ1 Y1 := A1.rel.lk k1
    refine ⟨fun i m σ' H' => ∃ B' ρ' Y' τ', Aft (gx cls X) B1 H1 ρ1 Y1 B' H' ρ' Y' ∧ TR (gx cls X) B' ρ' Y'.length σ' τ' ∧ r = sForNL nx g b m i τ' Y',
      ⟨k, B1, ρ1, Y1, τ, Aft.refl R1, T.aft A1, hr.symm⟩, ?_⟩
    rintro i m σ2 H2 ⟨B2, ρ2, Y2, τ2, A2, T2, e2⟩
    obtain ⟨A2u, k2⟩ := A2.unlk k1 A1.rel
    cases m with
    | zero =>
      unfold sForNL at e2
      rw [e2] at h
      exact h.elim
    | succ m =>
    unfold sForNL at e2
    cases en : nx i Y2 with
    | none =>
      rw [en] at e2
      rw [e2] at h
      exact h.elim
    | some o =>
    rw [en] at e2
    cases o with
    | none =>
      dsimp only at e2
      refine .inl ⟨(it B2 H2 ρ2 Y2 A2 i).2 en, L, k2.un, ?_⟩
      rw [e2] at h
      exact h σ2 B2 _ ρ2 (A1.trans A2u) T2
    | some w =>
      dsimp only at e2
      obtain ⟨go, step⟩ := (it B2 H2 ρ2 Y2 A2 i).1 w en
      refine .inr ⟨go, fun σ3 H3 => ∃ B' ρ' Y' τ', Aft (gx cls X) B1 H1 ρ1 Y1 B' H3 ρ' Y' ∧ TR (gx cls X) B' ρ' Y'.length σ3 τ' ∧ r = sForNL nx g b m (i + 1) τ' Y', fun σ3 H3 h3 => ⟨m, Nat.lt_succ_self m, h3⟩, fun x H3 hy => ?_⟩
      obtain ⟨B3, A3, r3⟩ := step x H3 hy
      have T3 := T2.aft A3
      cases eg : g w τ2 Y2 with
      | none =>
        rw [eg] at e2
        rw [e2] at h
        exact h.elim
      | some τ3 =>
        rw [eg] at e2
        dsimp only at e2
        refine hg x σ2 H3 _ B3 ρ2 Y2 τ2 w τ3 A3.rel T3 r3 eg fun σ4 T4 => ?_
        refine hb σ4 H3 _ B3 ρ2 Y2 τ3 A3.rel T4 ?_
        have A13 := A2.trans A3
        cases eb : b τ3 Y2 with
        | bad =>
          rw [eb] at e2
          rw [e2] at h
          exact h.elim
        | next τ5 Y5 =>
          rw [eb] at e2
          intro σ5 B5 H5 ρ5 A5 T5
          exact ⟨B5, ρ5, Y5, τ5, A13.trans A5, T5, e2⟩
        | cont τ5 Y5 =>
          rw [eb] at e2
          intro σ5 B5 H5 ρ5 A5 T5
          exact ⟨B5, ρ5, Y5, τ5, A13.trans A5, T5, e2⟩
        | brk τ5 Y5 =>
          rw [eb] at e2
          rw [e2] at h
          intro σ5 B5 H5 ρ5 A5 T5
          obtain ⟨Au, ku⟩ := (A13.trans A5).unlk k1 A1.rel
          exact ⟨L, ku.un, h σ5 B5 _ ρ5 (A1.trans Au) T5⟩
        | ret v Y5 =>
          rw [eb] at e2
          rw [e2] at h
          intro u B5 H5 ρ5 A5 r5
          obtain ⟨Au, ku⟩ := (A13.trans A5).unlk k1 A1.rel
          exact ⟨L, ku.un, h u B5 _ ρ5 (A1.trans Au) r5⟩
        | exc c fs τ5 Y5 =>
          rw [eb] at e2
          rw [e2] at h
          intro d σ5 B5 H5 ρ5 A5 T5 x5
          obtain ⟨Au, ku⟩ := (A13.trans A5).unlk k1 A1.rel
          refine hW _ _ _ _ L ku.un (h d σ5 B5 _ ρ5 (A1.trans Au) T5 ?_)
          cases fs with
          | none => exact x5
          | some fs =>
            obtain ⟨dx, vs, z1, z2, z3⟩ := x5
            refine ⟨dx, vs, z1, ?_, z3⟩
            cases L with
            | none => exact z2
            | some p =>
              obtain ⟨a, od, u⟩ := p
              have : dx ≠ a := fun z => by
                rw [z, ku.1] at z2
                cases z2
              show upd H5 a u dx = _
              rw [upd_ne this]
              exact z2
end
end MV
set_option Elab.async false
set_option linter.all false
set_option maxRecDepth 100000
set_option maxHeartbeats 4000000
/-! MvDictC: dict(d), d with at most one key, a tuple: a copy in the store. -/
namespace PySem
section
variable {prog : Program} {w : World} {A : Around} {E : Value → Shared → Prop} {s : Shared} {K : Type} [DecidableEq K] {knd : HeapKind prog w K}
theorem call_dict_dictH {o : Addr} {more : List (K × Addr × Value)} {Q : Value → Shared → Prop} (hu : knd.room A.in1.in1) (hoS : (o == sysModules) = false) (ho : s.heap.DictOfH knd o more) (hst : ∀ h' : Heap, (∀ b o, s.heap.get? b = some o → h'.get? b = some o) → h'.DictOfH knd o more)
    (hty : ∀ x ∈ more, s.TypeIs (.ref x.2.1) "tuple") (hap : (more.map fun x => knd.hash x.1).Nodup) (hsz : more.length ≤ sizeLine)
    (h : ∀ h', h'.DictOfH knd s.heap.objs.size (storedAllH [] more) → (∀ b o, s.heap.get? b = some o → h'.get? b = some o) → Q (.ref s.heap.objs.size) { s with heap := h' }) :
    wpAny (model prog w) A (call (.type "dict") [.ref o]) Q E s := by
  refine callType_codes (Q₁ := fun obj s₁ => obj = .ref s.heap.objs.size ∧ s₁ = { s with heap := s.heap.push { cls := .type "dict", data := .dict #[] } }) F.kt_called_dict (F.kt_typeCall_dict_1 _) F.entry_dict_init (kt_code_dict_new _ ⟨rfl, rfl⟩) ?_
  rintro obj s₁ ⟨rfl, rfl⟩
  have hT : Shared.TypeIs { s with heap := s.heap.push { cls := .type "dict", data := .dict #[] } } (.ref s.heap.objs.size) "dict" := ⟨_, Heap.get?_push_size _ rfl, rfl⟩
  refine ⟨hT, F.args_dict_init_2 _ _, ?_⟩
  unfold Builtin.«dict.__init__»
  refine wpAny_bind ?_
  unfold Builtin.Dict.selfAndRest
  refine wpAny_bind (wpAny_notOrdered_dict hT ?_)
  show wpAny _ _ (pure (s.heap.objs.size, [Value.ref o])) _ _ _
  refine wpAny_pure ?_
  have up : ∀ b u, s.heap.get? b = some u → (s.heap.push { cls := .type "dict", data := .dict #[] }).get? b = some u := fun b u e => Heap.get?_push_of_some _ e
  have hne : s.heap.objs.size ≠ o := Nat.ne_of_gt ho.lt_size
  refine updateFrom_dictH (A := A.in1) (knd := knd) (kvs := []) .none hu hne hoS (Heap.DictOfH.new s.heap) (hst _ up) (.inr ⟨fun x hx => ?_, hap⟩) (by simpa using hsz) fun h' hd' ho' hs' => ?_
  · obtain ⟨ob, e1, e2⟩ := hty x hx
    exact ⟨ob, up _ _ e1, e2⟩
  · exact ⟨rfl, h h' hd' fun b u e => hs'.extBut b u (Nat.ne_of_lt (Heap.lt_size e)) (up b u e)⟩
end
end PySem
namespace MV
open PySem PySem.Spec PyProof.Rows L2
abbrev rDictC : List V → Hp → VK → Prop := fun xs H Q => ∃ (a : Addr) (kvs : List (List Key × V)), xs = [.ref a] ∧ Rd H a (.dT kvs) ∧ kvs.length ≤ 1 ∧ ∀ p, H p = none → Q (.ref p) (upd H p (.dT kvs))
theorem call_dictC {X : Cx} (hu : X.A.units + 2 < cLine) : CallR X (.type "dict") rDictC := by
  intro pins s σ H xs us Q I r q
  obtain ⟨a, kvs, rfl, hd, hl, q⟩ := q
  obtain ⟨u, rfl, rx⟩ := vals1 r
  obtain rfl : u = Value.ref a := rx
  obtain ⟨hz, hm, ys, kt, dd⟩ := dt_rd I.hok hd
  have lk : kvs.length = ys.length := Paired.length kt
  have hty : ∀ x ∈ ys, s.TypeIs (.ref x.2.1) "tuple" := fun x hx => by
    obtain ⟨j, hj⟩ := List.mem_iff_getElem?.mp hx
    obtain ⟨kv, ek, h1, h2, h3⟩ := Paired.get kt hj
    have hk2 := key_of I.hok h2
    obtain ⟨ob, its, n, e1, e2, e3, e4⟩ := hk2
    exact ⟨ob, e1, e2⟩
  have hst : ∀ h' : Heap, (∀ b o, s.heap.get? b = some o → h'.get? b = some o) → h'.DictOfH (tupleKind (mixKind X.prog X.w)) a ys := fun h' hk => by
    obtain ⟨od, es, ep, h1, h2, h3, h4, h5, h6⟩ := dd
    refine ⟨od, es, ep, hk _ _ h1, h2, h3, h4, fun x hx => ?_, h6⟩
    obtain ⟨ob, its, n, e1, e2, e3, e4⟩ := h5 x hx
    exact ⟨ob, its, n, hk _ _ e1, e2, e3, e4⟩
  have hlist : ys = [] ∨ ∃ y, ys = [y] := by
    cases ys with
    | nil => exact .inl rfl
    | cons y t =>
      cases t with
      | nil => exact .inr ⟨y, rfl⟩
      | cons _ _ => rw [lk] at hl; simp at hl
  have hap : (ys.map fun x => (tupleKind (mixKind X.prog X.w)).hash x.1).Nodup := by
    rcases hlist with rfl | ⟨y, rfl⟩
    · exact List.nodup_nil
    · simp
  have hsame : storedAllH [] ys = ys := by
    rcases hlist with rfl | ⟨y, rfl⟩ <;> rfl
  refine PySem.call_dict_dictH (knd := tupleKind (mixKind X.prog X.w)) hu hm dd hst hty hap (by omega) fun h' hdo kp => ?_
  rw [hsame] at hdo
  have hms : (s.heap.objs.size == sysModules) = false := beq_eq_false_iff_ne.mpr (Nat.ne_of_gt I.big)
  have hf : H s.heap.objs.size = none := I.hok.fresh (Nat.le_refl _)
  obtain ⟨od, es, ep, h1, h2, h3, h4, _, h5⟩ := hdo
  have kt' : KT (upd H s.heap.objs.size (.dT kvs)) kvs ys := KT.keeps kt fun b zs e => by rw [upd_ne (ne_of_none e hf)]; exact e
  exact ⟨.ref s.heap.objs.size, _, I.laid (t' := s.toks) kp (Nat.le_refl _) (show ObjOk X.prog X.w _ _ _ (.dT kvs) from ⟨hz, hms, ys, kt', od, es, ep, h1, h2, h3, h4, h5⟩), rfl, q _ hf⟩
/-- a copy, as a thing of the store -/
def wrapK : List (List Key × D) → List (List Key × W)
  | [] => []
  | (k, d) :: r => (k, .val d) :: wrapK r
theorem wrapK_at {G : Gx} {B : Hp} {ρ : Nat → Addr} {n : Nat} : ∀ {kvs : List (List Key × V)} {kds : List (List Key × D)}, RepKV G B kvs kds → WRepK G B ρ n kvs (wrapK kds)
  | _, _, .nil => .nil
  | _, _, .cons h r => .cons ⟨rfl, h⟩ (wrapK_at r)
def gDictC : GL := fun ws Y => match ws with
  | [.val (.dT [])] => .ok (.ref Y.length) (Y ++ [.dT []])
  | [.val (.dT [(k, d)])] => .ok (.ref Y.length) (Y ++ [.dT [(k, .val d)]])
  | _ => .bad
theorem l_dictC {G : Gx} : RLD G rDictC gDictC := by
  intro xs B H ρ Y Q ws w Y' R r e q
  have go : ∀ (kds : List (List Key × D)), kds.length ≤ 1 → ws = [.val (.dT kds)] → Re.ok (.ref Y.length) (Y ++ [.dT (wrapK kds)]) = .ok w Y' → rDictC xs H Q := fun kds hl ew ee => by
    clear e
    subst ew
    cases ee
    obtain ⟨x, rfl, h⟩ := one_at r
    cases h with
    | @dT a kvs _ hh rr =>
      refine ⟨a, kvs, rfl, ?_, by rw [rr.length]; exact hl, fun l hn => ?_⟩
      · rcases R.sub _ _ hh with z | ⟨_, ob, z⟩
        · exact .inl z
        · exact .inr ⟨ob, z⟩
      · have A := Aft.newR R (p := l) (o := .dT kvs) (yo := .dT (wrapK kds)) hn ⟨kvs, rfl, wrapK_at rr⟩
        exact q _ _ _ _ A ⟨by simp, by rw [extR_at]⟩
  unfold gDictC at e
  split at e
  · exact go [] (Nat.zero_le _) rfl e
  · exact go [_] (Nat.le_refl _) rfl e
  · cases e
section
variable {cls : Cl} {X : Cx} {W : WX} {p pos : Pos} {e : Expr} {fa : ADen}
theorem d_dictC (hr : Room 1 X.A) (hm : X.mg "dict" = none) (ha : DA cls X W [e] fa) (hg : Gl X "dict" := by rfl) (he : starEach [e] X.env = (false, eval e X.env) :: starEach [] X.env := by rfl) :
    DE cls X W (.Call (.Name "dict" p) [e] [] pos) (dBlt gDictC fa) :=
  d_tyn (T := "dict") (call_dictC (by have := hr.un; omega)) l_dictC hm rfl ha hg (by decide) (by decide) he rfl
end
end MV
set_option Elab.async false
set_option linter.all false
set_option maxRecDepth 100000
set_option maxHeartbeats 4000000
/-! MvEqSeq: == and in of rows whose items have an own ==. -/
namespace MVQ
open PySem PySem.SeqAt
open AutoSeq1 (wpAny_loadPart')
open MeetsSeq MeetsSeq2 MeetsSeq3 SeqRoads2
section
variable {prog : Program} {w : World} {A : Around} {R : Result → Shared → Prop} {E : Value → Shared → Prop}
/-- a tuple's ==: pair by pair, to the first that differs -/
theorem tup_eq (l b : Addr) (us vs : Array Value) (n n2 : Nat) (dd dd2 : Option Addr) (sl sl2 : Array (Option Value)) (P : List Value → List Value → Shared → Prop) (N : Shared → Prop)
    (turn : ∀ x y xs ys s, P (x :: xs) (y :: ys) s → wpAny (model prog w) A.in1 (eqBool x y) (fun r s' => match r with | true => P xs ys s' | false => N s') (fun e s' => R (.error e) s') s)
    (fin : ∀ xs ys s, P xs ys s → xs.zip ys = [] → R (.ok (.ret (.bool (us.size == vs.size)))) s) (no : ∀ s, N s → R (.ok (.ret (.bool false))) s)
    {s : Shared} (hl : s.heap.get? l = some { cls := .type "tuple", dict := dd, data := .seq us n, slots := sl }) (hb : s.heap.get? b = some { cls := .type "tuple", dict := dd2, data := .seq vs n2, slots := sl2 }) (h : P us.toList vs.toList s) :
    wpAny (model prog w) A.in1 (Builtin.«tuple.__eq__» ⟨[.ref l, .ref b], []⟩) (GQ.FinOf prog w A R) (fun e s' => R (.error e) s') s := by
  have sub := AutoSeq1.sub_tuple_tuple
  have start := h
  obtain ⟨hp, gs, dr, tk, os⟩ := s
  wp_walk using wpAny_loadPart' hl, wpAny_loadPart' hb, wpAny_forIn_list _ (fun rest c s' => c.1 = none ∧ ∃ xs ys, rest = xs.zip ys ∧ P xs ys s') _
  case turn =>
    rintro ⟨y, x⟩ rest c s' ⟨hc, xs, ys, hz, hP⟩
    cases xs with
    | nil => simp at hz
    | cons x0 xs =>
      cases ys with
      | nil => simp at hz
      | cons y0 ys =>
        rw [List.zip_cons_cons] at hz
        injection hz with h1 h2
        cases h1
        refine wpAny_bind (wpAny_mono (turn _ _ _ _ s' hP) (fun r s2 q => ?_) fun _ _ z => z)
        cases r with
        | true =>
          wp_walk
          exact ⟨rfl, xs, ys, h2, q⟩
        | false =>
          have hR := no s2 q
          wp_walk
          exact hR
  case fin =>
    rintro ⟨c1, c2⟩ s' ⟨hc, xs, ys, hz, hP⟩
    simp only at hc
    subst hc
    have hR := fin xs ys s' hP hz.symm
    wp_walk
    simpa [Builtin.Tuple.tupleCompareSizes] using hR
  case h => exact ⟨rfl, _, _, rfl, start⟩
/-- two lists as they lie: so many items each -/
def Two (l b : Addr) (N : Nat) (s : Shared) (us vs : Array Value) : Prop := (∃ n, s.heap.get? l = some { cls := .type "list", data := .seq us n }) ∧ (∃ n, s.heap.get? b = some { cls := .type "list", data := .seq vs n }) ∧ us.size = N ∧ vs.size = N
theorem lst_loop (l b : Addr) (N : Nat) (P : Nat → Shared → Prop) (Fd : Nat → Shared → Prop)
    (turn : ∀ i s, P i s → ∃ us vs, Two l b N s us vs ∧ ∀ (h1 : i < us.size) (h2 : i < vs.size), wpAny (model prog w) A.in1 (eqBool us[i] vs[i]) (fun r s' => match r with | true => P (i + 1) s' | false => Fd i s') (fun e s' => R (.error e) s') s)
    (fin : ∀ s, P N s → R (.ok (.ret (.bool true))) s) (no : ∀ i s, Fd i s → (∃ us vs, Two l b N s us vs) ∧ R (.ok (.ret (.bool false))) s) (k : Nat) : ∀ i : Nat, N - i = k → i ≤ N → ∀ s, P i s →
      wpAny (model prog w) A.in1 (Builtin.«list.__eq__.loop» ⟨[.ref l, .ref b, rawInt i, rawInt 2], []⟩) (GQ.FinOf prog w A R) (fun e s' => R (.error e) s') s := by
  induction k with
  | zero =>
    intro i hk hi s h
    obtain ⟨us, vs, ⟨⟨n, hl⟩, ⟨n2, hb⟩, z1, z2⟩, _⟩ := turn i s h
    have ei : i = N := by omega
    subst ei
    have hR := fin s h
    obtain ⟨hp, gs, dr, tk, os⟩ := s
    wp_walk using wpAny_loadPart' hl, wpAny_loadPart' hb
    have g1 : us[((i : Nat) : Int).toNat]? = none := by simp; omega
    have g2 : vs[((i : Nat) : Int).toNat]? = none := by simp; omega
    rw [g1, g2]
    wp_walk using wpAny_loadPart' hl, wpAny_loadPart' hb
    show R (.ok (.ret (.bool (us.size == vs.size)))) _
    rw [z1, z2]
    simpa using hR
  | succ k ih =>
    intro i hk hi s h
    obtain ⟨us, vs, ⟨⟨n, hl⟩, ⟨n2, hb⟩, z1, z2⟩, go⟩ := turn i s h
    have i1 : i < us.size := by omega
    have i2 : i < vs.size := by omega
    have ht := go i1 i2
    obtain ⟨hp, gs, dr, tk, os⟩ := s
    wp_walk using wpAny_loadPart' hl, wpAny_loadPart' hb
    have g1 : us[((i : Nat) : Int).toNat]? = some us[i] := by simp [i1]
    have g2 : vs[((i : Nat) : Int).toNat]? = some vs[i] := by simp [i2]
    have cast : ((i : Int) + 1) = ((i + 1 : Nat) : Int) := by omega
    rw [g1, g2]
    refine wpAny_bind (wpAny_mono ht (fun r s2 q => ?_) fun _ _ z => z)
    cases r with
    | true =>
      have rest := ih (i + 1) (by omega) (by omega) s2 q
      obtain ⟨hp2, gs2, dr2, tk2, os2⟩ := s2
      wp_walk
      rw [cast]
      refine ⟨plainId_quiet plain_eq_loop _, codeAny_builtin entry_eq_loop ?_⟩
      rw [Around.under_plainId plain_eq_loop _]
      exact rest
    | false =>
      obtain ⟨⟨us', vs', ⟨m, hl'⟩, ⟨m2, hb'⟩, z3, z4⟩, hR⟩ := no i s2 q
      obtain ⟨hp2, gs2, dr2, tk2, os2⟩ := s2
      wp_walk using wpAny_loadPart' hl', wpAny_loadPart' hb'
      have g3 : us'[((i : Nat) : Int).toNat]? = some us'[i] := by simp
      have g4 : vs'[((i : Nat) : Int).toNat]? = some vs'[i] := by simp
      rw [g3, g4]
      wp_walk
      exact hR
theorem lst_eq (l b : Addr) (N : Nat) (P : Nat → Shared → Prop) (Fd : Nat → Shared → Prop)
    (turn : ∀ i s, P i s → ∃ us vs, Two l b N s us vs ∧ ∀ (h1 : i < us.size) (h2 : i < vs.size), wpAny (model prog w) A.in1 (eqBool us[i] vs[i]) (fun r s' => match r with | true => P (i + 1) s' | false => Fd i s') (fun e s' => R (.error e) s') s)
    (fin : ∀ s, P N s → R (.ok (.ret (.bool true))) s) (no : ∀ i s, Fd i s → (∃ us vs, Two l b N s us vs) ∧ R (.ok (.ret (.bool false))) s) {s : Shared} (h : P 0 s) :
    wpAny (model prog w) A.in1 (Builtin.«list.__eq__» ⟨[.ref l, .ref b], []⟩) (GQ.FinOf prog w A R) (fun e s' => R (.error e) s') s := by
  have rest := lst_loop (A := A) (R := R) l b N P Fd turn fin no _ 0 rfl (Nat.zero_le _) s h
  obtain ⟨us, vs, ⟨⟨n, hl⟩, ⟨n2, hb⟩, z1, z2⟩, _⟩ := turn 0 s h
  obtain ⟨hp, gs, dr, tk, os⟩ := s
  have sub := AutoSeq1.sub_list_list
  have same : ¬ (us.size != vs.size) = true := by simp [z1, z2]
  wp_walk using wpAny_loadPart' hl, wpAny_loadPart' hb
  refine ⟨plainId_quiet plain_eq_loop _, codeAny_builtin entry_eq_loop ?_⟩
  rw [Around.under_plainId plain_eq_loop _]
  exact rest
end
section
variable {prog : Program} {w : World} {A : Around} {E : Value → Shared → Prop} {s : Shared}
theorem rc_lst {l b : Addr} {N : Nat} {Q : Value → Shared → Prop} (hu : A.units < cLine) (P : Nat → Shared → Prop) (Fd : Nat → Shared → Prop)
    (turn : ∀ i s, P i s → ∃ us vs, Two l b N s us vs ∧ ∀ (h1 : i < us.size) (h2 : i < vs.size), wpAny (model prog w) A.in1 (eqBool us[i] vs[i]) (fun r s' => match r with | true => P (i + 1) s' | false => Fd i s') E s)
    (fin : ∀ s, P N s → Q (.bool true) s) (no : ∀ i s, Fd i s → (∃ us vs, Two l b N s us vs) ∧ Q (.bool false) s) (h : P 0 s) : wpAny (model prog w) A (richCompare .Eq (.ref l) (.ref b)) Q E s := by
  obtain ⟨us, vs, ⟨⟨n, hl⟩, ⟨n2, hb⟩, _⟩, _⟩ := turn 0 s h
  refine wpAny_richCompare_same_room (op := .Eq) ⟨_, hl, rfl⟩ ⟨_, hb, rfl⟩ F.slot_list_eq (GQ.call_here F.slot_list_eq ⟨_, hl, rfl⟩ F.entry_list_eq (F.args_list_eq_2 _ _) ?_) hu
  exact lst_eq (R := wants (fun v s' => v ≠ .notImplemented ∧ Q v s') E) l b N P Fd turn (fun s' q => ⟨(fun z => nomatch z), fin s' q⟩) (fun i s' q => ⟨(no i s' q).1, (fun z => nomatch z), (no i s' q).2⟩) h
theorem rc_tup {l b : Addr} {us vs : Array Value} {Q : Value → Shared → Prop} (hu : A.units < cLine) (P : List Value → List Value → Shared → Prop) (N : Shared → Prop) (hl : s.heap.IsTuple l us) (hb : s.heap.IsTuple b vs)
    (turn : ∀ x y xs ys s, P (x :: xs) (y :: ys) s → wpAny (model prog w) A.in1 (eqBool x y) (fun r s' => match r with | true => P xs ys s' | false => N s') E s)
    (fin : ∀ xs ys s, P xs ys s → xs.zip ys = [] → Q (.bool (us.size == vs.size)) s) (no : ∀ s, N s → Q (.bool false) s) (h : P us.toList vs.toList s) : wpAny (model prog w) A (richCompare .Eq (.ref l) (.ref b)) Q E s := by
  obtain ⟨⟨c1, d1, e1, s1⟩, ho, hc, n, hd⟩ := id hl
  obtain ⟨⟨c2, d2, e2, s2⟩, ho2, hc2, n2, hd2⟩ := id hb
  dsimp only at hc hd hc2 hd2
  subst hc hd hc2 hd2
  refine wpAny_richCompare_same_room (op := .Eq) ⟨_, ho, rfl⟩ ⟨_, ho2, rfl⟩ F.slot_tuple_eq (GQ.call_here F.slot_tuple_eq ⟨_, ho, rfl⟩ F.entry_tuple_eq (F.args_tuple_eq_2 _ _) ?_) hu
  exact tup_eq (R := wants (fun v s' => v ≠ .notImplemented ∧ Q v s') E) l b us vs n n2 d1 d2 s1 s2 P N turn (fun xs ys s' q z => ⟨(fun z => nomatch z), fin xs ys s' q z⟩) (fun s' q => ⟨(fun z => nomatch z), no s' q⟩) ho ho2 h
/-- x in a tuple -/
theorem tup_in (l : Addr) (us : Array Value) (n : Nat) (dd : Option Addr) (sl : Array (Option Value)) (x : Value) (P : List Value → Shared → Prop) (N : Shared → Prop) {R : Result → Shared → Prop}
    (turn : ∀ y ys s, P (y :: ys) s → wpAny (model prog w) A.in1 (eqBool y x) (fun r s' => match r with | true => N s' | false => P ys s') (fun e s' => R (.error e) s') s)
    (fin : ∀ s, P [] s → R (.ok (.ret (.bool false))) s) (yes : ∀ s, N s → R (.ok (.ret (.bool true))) s) (hl : s.heap.get? l = some { cls := .type "tuple", dict := dd, data := .seq us n, slots := sl }) (h : P us.toList s) :
    wpAny (model prog w) A.in1 (Builtin.«tuple.__contains__» ⟨[.ref l, x], []⟩) (GQ.FinOf prog w A R) (fun e s' => R (.error e) s') s := by
  have start := h
  obtain ⟨hp, gs, dr, tk, os⟩ := s
  wp_walk using wpAny_loadPart' hl, wpAny_forIn_array _ (fun rest c s' => c.1 = none ∧ P rest s') _
  case turn =>
    rintro y rest c s' ⟨hc, hP⟩
    refine wpAny_bind (wpAny_mono (turn _ _ s' hP) (fun r s2 q => ?_) fun _ _ z => z)
    cases r with
    | true =>
      have hR := yes s2 q
      wp_walk
      exact hR
    | false =>
      wp_walk
      exact ⟨rfl, q⟩
  case fin =>
    rintro ⟨c1, c2⟩ s' ⟨hc, hP⟩
    simp only at hc
    subst hc
    have hR := fin s' hP
    wp_walk
    exact hR
  case h => exact ⟨rfl, start⟩
/-- x in a list -/
theorem lst_in (l : Addr) (N : Nat) (x : Value) (P : Nat → Shared → Prop) (Y : Shared → Prop) {R : Result → Shared → Prop}
    (turn : ∀ i s, P i s → ∃ us n, s.heap.get? l = some { cls := .type "list", data := .seq us n } ∧ us.size = N ∧ ∀ h1 : i < us.size, wpAny (model prog w) A.in1 (eqBool us[i] x) (fun r s' => match r with | true => Y s' | false => P (i + 1) s') (fun e s' => R (.error e) s') s)
    (fin : ∀ s, P N s → R (.ok (.ret (.bool false))) s) (yes : ∀ s, Y s → R (.ok (.ret (.bool true))) s) (k : Nat) : ∀ i : Nat, N - i = k → i ≤ N → ∀ s, P i s →
      wpAny (model prog w) A.in1 (Builtin.«list.__contains__.loop» ⟨[.ref l, x, rawInt i], []⟩) (GQ.FinOf prog w A R) (fun e s' => R (.error e) s') s := by
  induction k with
  | zero =>
    intro i hk hi s h
    obtain ⟨us, n, hl, z1, _⟩ := turn i s h
    have ei : i = N := by omega
    subst ei
    have hR := fin s h
    obtain ⟨hp, gs, dr, tk, os⟩ := s
    wp_walk using wpAny_loadPart' hl
    have g1 : us[((i : Nat) : Int).toNat]? = none := by simp; omega
    rw [g1]
    wp_walk
    exact hR
  | succ k ih =>
    intro i hk hi s h
    obtain ⟨us, n, hl, z1, go⟩ := turn i s h
    have i1 : i < us.size := by omega
    have ht := go i1
    obtain ⟨hp, gs, dr, tk, os⟩ := s
    wp_walk using wpAny_loadPart' hl
    have g1 : us[((i : Nat) : Int).toNat]? = some us[i] := by simp [i1]
    have cast : ((i : Int) + 1) = ((i + 1 : Nat) : Int) := by omega
    rw [g1]
    refine wpAny_bind (wpAny_mono ht (fun r s2 q => ?_) fun _ _ z => z)
    cases r with
    | false =>
      have rest := ih (i + 1) (by omega) (by omega) s2 q
      obtain ⟨hp2, gs2, dr2, tk2, os2⟩ := s2
      wp_walk
      rw [cast]
      refine ⟨plainId_quiet plain_contains_loop _, codeAny_builtin entry_contains_loop ?_⟩
      rw [Around.under_plainId plain_contains_loop _]
      exact rest
    | true =>
      have hR := yes s2 q
      obtain ⟨hp2, gs2, dr2, tk2, os2⟩ := s2
      wp_walk
      exact hR
theorem in_lst {l : Addr} {N : Nat} {x : Value} {Q : Bool → Shared → Prop} (P : Nat → Shared → Prop) (Y : Shared → Prop)
    (turn : ∀ i s, P i s → ∃ us n, s.heap.get? l = some { cls := .type "list", data := .seq us n } ∧ us.size = N ∧ ∀ h1 : i < us.size, wpAny (model prog w) A.in1 (eqBool us[i] x) (fun r s' => match r with | true => Y s' | false => P (i + 1) s') E s)
    (fin : ∀ s, P N s → Q false s) (yes : ∀ s, Y s → Q true s) (h : P 0 s) : wpAny (model prog w) A (contains (.ref l) x) Q E s := by
  obtain ⟨us, n, hl, _, _⟩ := turn 0 s h
  have rest := lst_in (A := A) (R := wants (fun v s' => wpAny (model prog w) A (truthy v) Q E s') E) l N x P Y turn (fun s' q => wpAny_truthy_bool (fin s' q)) (fun s' q => wpAny_truthy_bool (yes s' q)) _ 0 rfl (Nat.zero_le _) s h
  refine wpAny_contains_slot ⟨_, hl, rfl⟩ F.slot_list_contains (GQ.call_here F.slot_list_contains ⟨_, hl, rfl⟩ F.entry_list_contains (F.args_list_contains_2 _ _) ?_)
  obtain ⟨hp, gs, dr, tk, os⟩ := s
  wp_walk using wpAny_loadPart' hl
  refine ⟨plainId_quiet plain_contains_loop _, codeAny_builtin entry_contains_loop ?_⟩
  rw [Around.under_plainId plain_contains_loop _]
  exact rest
theorem in_tup {l : Addr} {us : Array Value} {x : Value} {Q : Bool → Shared → Prop} (P : List Value → Shared → Prop) (N : Shared → Prop) (hl : s.heap.IsTuple l us)
    (turn : ∀ y ys s, P (y :: ys) s → wpAny (model prog w) A.in1 (eqBool y x) (fun r s' => match r with | true => N s' | false => P ys s') E s)
    (fin : ∀ s, P [] s → Q false s) (yes : ∀ s, N s → Q true s) (h : P us.toList s) : wpAny (model prog w) A (contains (.ref l) x) Q E s := by
  obtain ⟨⟨c1, d1, e1, s1⟩, ho, hc, n, hd⟩ := id hl
  dsimp only at hc hd
  subst hc hd
  refine wpAny_contains_slot ⟨_, ho, rfl⟩ F.slot_tuple_contains (GQ.call_here F.slot_tuple_contains ⟨_, ho, rfl⟩ F.entry_tuple_contains (F.args_tuple_contains_2 _ _) ?_)
  exact tup_in (R := wants (fun v s' => wpAny (model prog w) A (truthy v) Q E s') E) l us n d1 s1 x P N turn (fun s' q => wpAny_truthy_bool (fin s' q)) (fun s' q => wpAny_truthy_bool (yes s' q)) ho h
end
end MVQ
set_option Elab.async false
set_option linter.all false
set_option maxRecDepth 100000
set_option maxHeartbeats 4000000
/-! MvEqD: == and in of data with own ==. -/
namespace MV
open PySem PySem.Spec PyProof.Rows L2
/-! ### two data that are never one object -/
def kdN : D → Nat
  | .non => 1
  | .bl _ => 2
  | .int _ => 3
  | .str _ => 4
  | .lst _ => 5
  | .tup _ => 6
  | .ins _ _ => 7
  | _ => 0
def anyP (f : D → D → Bool) : List D → List D → Bool
  | a :: r, b :: s => (match f a b with
    | true => true
    | false => anyP f r s)
  | _, _ => false
def sepD : Nat → D → D → Bool
  | 0, _, _ => false
  | k + 1, a, b => (match a, b with
    | .int i, .int j => !iEq i j
    | .str x, .str y => !sEq x y
    | .bl x, .bl y => !(x == y)
    | .lst xs, .lst ys => (match Nat.beq xs.length ys.length with
      | true => anyP (sepD k) xs ys
      | false => true)
    | .tup xs, .tup ys => (match Nat.beq xs.length ys.length with
      | true => anyP (sepD k) xs ys
      | false => true)
    | .ins c xs, .ins c' ys => (match Nat.beq c c' with
      | true => anyP (sepD k) xs ys
      | false => false)
    | a, b => (match kdN a, kdN b with
      | 0, _ => false
      | _, 0 => false
      | n, m => !Nat.beq n m))
section
variable {G : Gx} {B : Hp}
theorem anyP_no {f : D → D → Bool} (hf : ∀ a b v, f a b = true → Rep G B v a → Rep G B v b → False) : ∀ {xs ys : List D} {vs : List V}, anyP f xs ys = true → Reps G B vs xs → Reps G B vs ys → False
  | [], _, _, h, _, _ => by simp [anyP] at h
  | _ :: _, [], _, h, _, _ => by simp [anyP] at h
  | a :: r, b :: s, _, h, .cons h1 t1, .cons h2 t2 => by
    unfold anyP at h
    split at h
    · rename_i e
      exact hf a b _ e h1 h2
    · exact anyP_no hf h t1 t2
theorem zip_inj {fs : List Str} : ∀ {vs us : List V}, vs.length ≤ fs.length → us.length ≤ fs.length → fs.zip vs = fs.zip us → vs = us := by
  induction fs with
  | nil =>
    intro vs us h1 h2 _
    rw [List.length_nil] at h1 h2
    have e1 : vs = [] := List.eq_nil_of_length_eq_zero (by omega)
    have e2 : us = [] := List.eq_nil_of_length_eq_zero (by omega)
    rw [e1, e2]
  | cons f r ih =>
    intro vs us h1 h2 e
    cases vs with
    | nil =>
      cases us with
      | nil => rfl
      | cons u us => simp at e
    | cons v vs =>
      cases us with
      | nil => simp at e
      | cons u us =>
        simp only [List.zip_cons_cons, List.cons.injEq, Prod.mk.injEq, true_and] at e
        rw [e.1, ih (by simpa using h1) (by simpa using h2) e.2]
/-- the kind by how it lies -/
def kdV (B : Hp) : V → Nat
  | .non => 1
  | .bl _ => 2
  | .int _ => 3
  | .str _ => 4
  | .ref a => (match B a with
    | some (.lst _) => 5
    | some (.tup _) => 6
    | some (.ins _ _ _) => 7
    | _ => 0)
  | _ => 0
theorem kdN_at {v : V} {d : D} (h : Rep G B v d) : kdN d = 0 ∨ kdV B v = kdN d := by
  cases h <;> first | exact .inl rfl | exact .inr rfl | (refine .inr ?_; unfold kdV; simp only [*, kdN])
theorem sepD_no : ∀ (k : Nat) (a b : D) (v : V), sepD k a b = true → Rep G B v a → Rep G B v b → False
  | 0, _, _, _, h, _, _ => by simp [sepD] at h
  | k + 1, a, b, v, h, ra, rb => by
    have ih := sepD_no k
    unfold sepD at h
    split at h
    · have e1 := rep_int ra
      have e2 := rep_int rb
      rw [e1] at e2
      cases e2
      rw [iEq_iff.mpr rfl] at h
      cases h
    · have e1 := rep_str ra
      have e2 := rep_str rb
      rw [e1] at e2
      cases e2
      rw [sEq_iff.mpr rfl] at h
      cases h
    · have e1 := rep_bl ra
      have e2 := rep_bl rb
      rw [e1] at e2
      cases e2
      simp at h
    · cases ra with
      | @lst p vs _ h1 _ r1 =>
      cases rb with
      | @lst _ us _ h2 _ r2 =>
      rw [h1] at h2
      cases h2
      split at h
      · exact anyP_no ih h r1 r2
      · rename_i e
        rw [← r1.length, ← r2.length, Nat.beq_refl] at e
        cases e
    · cases ra with
      | @tup p vs _ h1 _ r1 =>
      cases rb with
      | @tup _ us _ h2 _ r2 =>
      rw [h1] at h2
      cases h2
      split at h
      · exact anyP_no ih h r1 r2
      · rename_i e
        rw [← r1.length, ← r2.length, Nat.beq_refl] at e
        cases e
    · split at h
      · rename_i e
        obtain rfl := Nat.eq_of_beq_eq_true e
        cases ra with
        | @ins p dx _ vs _ h1 l1 r1 =>
        cases rb with
        | @ins _ dx' _ us _ h2 l2 r2 =>
        rw [h1] at h2
        injection h2 with h2
        injection h2 with h3 h4 h5
        have := zip_inj l1 l2 h5
        subst this
        exact anyP_no ih h r1 r2
      · cases h
    · have h1 := kdN_at ra
      have h2 := kdN_at rb
      split at h
      · cases h
      · cases h
      · rename_i n0 m0
        rcases h1 with h1 | h1
        · exact n0 h1
        · rcases h2 with h2 | h2
          · exact m0 h2
          · rw [← h1, ← h2, Nat.beq_refl] at h
            cases h
end
/-! ### equal or not -/
def rowEq (f : D → D → Option Bool) : List D → List D → Option Bool
  | a :: r, b :: s => (match f a b with
    | some true => rowEq f r s
    | some false => some false
    | none => none)
  | [], [] => some true
  | [], _ :: _ => some false
  | _ :: _, [] => some false
def eqv (sel : Nat → Option PDen) (kt : Kd → Bool) : Nat → D → D → Option Bool
  | 0, _, _ => none
  | k + 1, a, b => (match a, b with
    | .tup xs, .tup ys => rowEq (eqv sel kt k) xs ys
    | .lst xs, .lst ys => (match Nat.beq xs.length ys.length with
      | true => rowEq (eqv sel kt k) xs ys
      | false => some false)
    | .ins c xs, b => (match sel c, kdOf [] (.val b) with
      | some f, some kd => (match kt kd with
        | true => (match f [.ins c xs, b] with
          | .ok (.bl true) => some true
          | .ok (.bl false) => (match sepD 8 (.ins c xs) b with
            | true => some false
            | false => none)
          | _ => none)
        | false => none)
      | _, _ => none)
    | a, b => (match flatD (.val a), flatD (.val b) with
      | true, true => some (eqFl (.val a) (.val b))
      | _, _ => none))
theorem rowEq_no {G : Gx} {B : Hp} {f : D → D → Option Bool} (hf : ∀ a b v, f a b = some false → Rep G B v a → Rep G B v b → False) : ∀ {xs ys : List D} {vs : List V}, rowEq f xs ys = some false → Reps G B vs xs → Reps G B vs ys → False
  | [], [], _, h, _, _ => by simp [rowEq] at h
  | [], _ :: _, _, _, h1, h2 => by cases h1; cases h2
  | _ :: _, [], _, _, h1, h2 => by cases h2; cases h1
  | a :: r, b :: s, _, h, .cons h1 t1, .cons h2 t2 => by
    unfold rowEq at h
    split at h
    · exact rowEq_no hf h t1 t2
    · rename_i e
      exact hf a b _ e h1 h2
    · cases h
theorem flat_no {G : Gx} {B : Hp} {a b : D} {v : V} (h1 : flatD (.val a) = true) (h2 : flatD (.val b) = true) (h : eqFl (.val a) (.val b) = false) (ra : Rep G B v a) (rb : Rep G B v b) : False := by
  have e := eqFl_at (ρ := fun _ => 0) (n := 0) (x := v) (y := v) (w1 := .val a) (w2 := .val b) ra rb h1 h2
  have f1 := flat_at' (ρ := fun _ => 0) (n := 0) (x := v) (w := .val a) ra h1
  rw [h] at e
  cases v <;> simp [eqV, flatV] at e f1
theorem eqv_no {G : Gx} {B : Hp} {sel : Nat → Option PDen} {kt : Kd → Bool} : ∀ (k : Nat) (a b : D) (v : V), eqv sel kt k a b = some false → Rep G B v a → Rep G B v b → False
  | 0, _, _, _, h, _, _ => by simp [eqv] at h
  | k + 1, a, b, v, h, ra, rb => by
    have ih := eqv_no (G := G) (B := B) (sel := sel) (kt := kt) k
    unfold eqv at h
    split at h
    · cases ra with
      | @tup p vs _ h1 _ r1 =>
      cases rb with
      | @tup _ us _ h2 _ r2 =>
      rw [h1] at h2
      cases h2
      exact rowEq_no ih h r1 r2
    · cases ra with
      | @lst p vs _ h1 _ r1 =>
      cases rb with
      | @lst _ us _ h2 _ r2 =>
      rw [h1] at h2
      cases h2
      split at h
      · exact rowEq_no ih h r1 r2
      · rename_i e
        rw [← r1.length, ← r2.length, Nat.beq_refl] at e
        cases e
    · split at h
      · split at h
        · split at h
          · cases h
          · split at h
            · rename_i e
              exact sepD_no 8 _ _ _ e ra rb
            · cases h
          · cases h
        · cases h
      · cases h
    · split at h
      · rename_i f1 f2
        exact flat_no f1 f2 (Option.some.inj h) ra rb
      · cases h
end MV
set_option Elab.async false
set_option linter.all false
set_option maxRecDepth 100000
set_option maxHeartbeats 4000000
/-! MvEqE: == and in of data with own ==, walked. -/
namespace MV
open PySem PySem.Spec PyProof.Rows L2
/-- what a comparison leaves: the store as it was -/
def LI (cls : Cl) (X : Cx) (pins : List (Addr × Obj)) (σ : L2.St) (B H : Hp) (ρ : Nat → Addr) (Y : Ys) (s' : Shared) : Prop := ∃ B' H', Inv X pins σ H' s' ∧ Aft (gx cls X) B H ρ Y B' H' ρ Y
/-- the classes with an own == that is a def of data -/
structure EqS (X : Cx) (cls : Cl) (n : Nat) (sel : Nat → Option PDen) (kt : Kd → Bool) : Prop where
  mt : ∀ c f, sel c = some f → ∃ lev, lev ≤ n ∧ MtX X.prog X.w X.K X.mg X.base cls c "__eq__" 1 [] [.p 0, .p 1] [] (liftP f) lev ∧ ∀ kd, kt kd = true → PySem.W.notFirst X.K (cls.at_ c) (tyKd cls.at_ kd) = true ∧ ∀ c', kd = .ins c' → InsK X.K (cls.at_ c')
theorem eqBool_any {prog : Program} {w : World} {A : Around} {E : Value → Shared → Prop} {s : Shared} {a : Addr} {v : Value} {Q : Bool → Shared → Prop} (ne : v ≠ .ref a) (h : wpAny (model prog w) A (richCompare .Eq (.ref a) v) (fun u s' => ∃ r, u = .bool r ∧ Q r s') E s) : wpAny (model prog w) A (eqBool (.ref a) v) Q E s := by
  unfold eqBool
  refine wpAny_holding (wpAny_ite_split (fun z => absurd (beq_iff_eq.mp z).symm ne) fun _ => ?_)
  refine wpAny_bind (wpAny_mono h (fun u s' ⟨r, e, q⟩ => ?_) fun _ _ z => z)
  subst e
  exact wpAny_truthy_bool q
section
variable {cls : Cl} {X : Cx} {W : WX} {n : Nat} {sel : Nat → Option PDen} {kt : Kd → Bool} {pins : List (Addr × Obj)} {σ : L2.St} {ρ : Nat → Addr} {Y : Ys}
/-- the own == is asked -/
theorem own_rc {A : Around} {s : Shared} {B H : Hp} {a : Addr} {y : V} {v : Value} {c : Nat} {xs : List D} {b : D} {f : PDen} {kd : Kd} {r : Bool} (tk : Takes X W) (hs : EqS X cls n sel kt) (sb : Sub X n A) (I : Inv X pins σ H s) (R : Rel (gx cls X) B H ρ Y)
    (ra : Rep (gx cls X) B (.ref a) (.ins c xs)) (rb : Rep (gx cls X) B y b) (ry : RelV y v) (e1 : sel c = some f) (e2 : kdOf [] (.val b) = some kd) (e3 : kt kd = true) (e4 : f [.ins c xs, b] = .ok (.bl r)) :
    wpAny (model X.prog X.w) A (richCompare .Eq (.ref a) v) (fun u s' => ∃ q, u = .bool q ∧ q = r ∧ LI cls X pins σ B H ρ Y s') X.xe s := by
  obtain ⟨lev, hl, ⟨g, fd, ps, dvs, hc, hme, _, F, hb, hd, hp⟩, hkd⟩ := hs.mt c f e1
  obtain ⟨a', dx, vs, ea, ha⟩ := clsW_at R (w := .val (.ins c xs)) (Y := Y) ra rfl
  cases ea
  obtain ⟨mA, J, _⟩ := ins_get I.hok ha
  obtain ⟨od, J, _⟩ := J.look
  obtain ⟨k1, k2⟩ := hkd kd e3
  have e2' : kdOf Y (.val b) = some kd := by
    cases b <;> exact e2
  obtain ⟨P, kx, hP, _⟩ := kit_of I ry (kd_ty R (w := .val b) rb e2' k2)
  obtain ⟨m, hF⟩ := I.fr
  refine PySem.W.cmp_K (op := .Eq) sb.room.units0 hF I.ok.mod.kin J (kx.ty _ _ I.kIn hP) k1 hme.at_ hme.fn ?_
  have e0 : Env0 X.prog X.w X.K X.mg X.base A X.stack s H := by
    have e := I.env0
    exact ⟨by rw [sb.fr]; exact e.frames, e.mod, e.bs, e.bsz, e.funs, e.frf, e.hok, e.bare⟩
  obtain ⟨its, hds, hb⟩ := hb
  have bb := hb s [.ref a, v] [] [.ref a, v] I.kIn rfl rfl rfl
  have hsp : spW (gx cls X) ps.length (liftP f) [.ref a, y] H (fun u H' => u = .bl r ∧ ∃ B', Aft (gx cls X) B H ρ Y B' H' ρ Y) (WE W σ) := by
    refine ⟨hp, B, ρ, Y, [.val (.ins c xs), .val b], R, .cons ra (.cons rb .nil), ?_⟩
    show ReE _ _ _ _ _ _ _ (match f [.ins c xs, b] with
      | .ok d => Re.ok (.val d) Y
      | .exc c fs => .exc c fs Y
      | .bad => .bad)
    rw [e4]
    intro u B' H' ρ' A' ru
    refine ⟨rep_bl ru, B', ?_⟩
    have same : ∀ m, m < Y.length → ρ' m = ρ m := A'.adr
    refine ⟨⟨A'.rel.sub, fun m l => ?_, fun m yo e => ?_, R.inj, A'.rel.tabs⟩, A'.le, A'.frame, A'.fresh, fun _ _ => rfl, fun m l => .inl ⟨l.lt, l⟩, Nat.le_refl _, A'.dom⟩
    · rw [← same m l.lt]
      exact A'.rel.non m l
    · have lt : m < Y.length := (List.getElem?_eq_some_iff.mp e).1
      rw [← same m lt]
      exact (A'.rel.obj m yo e).le' (Le.refl _) (Nat.le_refl _) fun j hj => (same j hj).symm
  refine wpAny_call (codeAny_mono (F.run A X.stack s H ⟨[.ref a, v], []⟩ [.ref a, v] [.ref a, y] _ (WE W σ) (sb.room.mono hl) e0 bb (.cons rfl (.cons ry .nil)) hsp) fun rr s' hq => ?_)
  cases rr with
  | error e => exact passAt tk σ pins H s e s' I hq
  | ok fl =>
    cases fl with
    | ret u' =>
      obtain ⟨z, H', I', rz, ez, B', A'⟩ := I.after hq
      subst ez
      cases rz
      exact ⟨r, rfl, rfl, B', H', I', A'⟩
    | next => exact False.elim hq
    | brk => exact False.elim hq
    | cont => exact False.elim hq
theorem LI.step {B H B1 H1 : Hp} {s' : Shared} (A : Aft (gx cls X) B H ρ Y B1 H1 ρ Y) (h : LI cls X pins σ B1 H1 ρ Y s') : LI cls X pins σ B H ρ Y s' :=
  let ⟨B', H', I, A'⟩ := h
  ⟨B', H', I, A.trans A'⟩
/-- what eqBool must give -/
def EqB (cls : Cl) (X : Cx) (pins : List (Addr × Obj)) (σ : L2.St) (ρ : Nat → Addr) (Y : Ys) (n : Nat) (f : D → D → Option Bool) : Prop :=
  ∀ (A : Around) (s : Shared) (B H : Hp) (x y : V) (u v : Value) (a b : D) (r : Bool), Sub X n A → Inv X pins σ H s → Rel (gx cls X) B H ρ Y → Rep (gx cls X) B x a → Rep (gx cls X) B y b → RelV x u → RelV y v → f a b = some r →
    wpAny (model X.prog X.w) A (eqBool u v) (fun q s' => q = r ∧ LI cls X pins σ B H ρ Y s') X.xe s
/-- two rows of values, pair by pair -/
theorem rc_tupD {f : D → D → Option Bool} {A : Around} {s : Shared} {B H : Hp} {a b : Addr} {xs ys : List D} {r : Bool} (hf : EqB cls X pins σ ρ Y n f) (sb : Sub X (n + 1) A) (I : Inv X pins σ H s) (R : Rel (gx cls X) B H ρ Y)
    (ra : Rep (gx cls X) B (.ref a) (.tup xs)) (rb : Rep (gx cls X) B (.ref b) (.tup ys)) (e : rowEq f xs ys = some r) : wpAny (model X.prog X.w) A (richCompare .Eq (.ref a) (.ref b)) (fun u s' => ∃ q, u = .bool q ∧ q = r ∧ LI cls X pins σ B H ρ Y s') X.xe s := by
  cases ra with
  | @tup _ vs _ h1 z1 r1 =>
  cases rb with
  | @tup _ us _ h2 z2 r2 =>
  obtain ⟨its, rv, t1, _⟩ := I.tuple (show SqT X.K H a vs from .inl (.inl (R.tup h1)))
  obtain ⟨its2, ru, t2, _⟩ := I.tuple (show SqT X.K H b us from .inl (.inl (R.tup h2)))
  refine MVQ.rc_tup sb.room.units0 (fun ps qs s' => ∃ B' H' vs' us' ds es m, Inv X pins σ H' s' ∧ Aft (gx cls X) B H ρ Y B' H' ρ Y ∧ Vals vs' ps ∧ Vals us' qs ∧ Reps (gx cls X) B' vs' ds ∧ Reps (gx cls X) B' us' es ∧ rowEq f ds es = some r ∧ its.length = m + ds.length ∧ its2.length = m + es.length) (fun s' => r = false ∧ LI cls X pins σ B H ρ Y s') t1 t2 ?_ ?_ ?_ ?_
  · rintro p q ps qs s' ⟨B', H', vs', us', ds, es, m, I', A', v1, v2, w1, w2, e', l1, l2⟩
    cases v1 with
    | @cons v0 _ vt _ rp tp =>
    cases v2 with
    | @cons u0 _ ut _ rq tq =>
    cases w1 with
    | @cons _ d0 _ dt hd0 td =>
    cases w2 with
    | @cons _ e0 _ et he0 te =>
    unfold rowEq at e'
    cases ef : f d0 e0 with
    | none => rw [ef] at e'; cases e'
    | some k =>
      rw [ef] at e'
      refine wpAny_mono (hf A.in1 s' B' H' v0 u0 p q d0 e0 k sb.in1 I' A'.rel hd0 he0 rp rq ef) (fun k' s2 ⟨ek, B2, H2, I2, A2⟩ => ?_) fun _ _ z => z
      subst ek
      cases k' with
      | true => exact ⟨B2, H2, vt, ut, dt, et, m + 1, I2, A'.trans A2, tp, tq, td.le A2.le, te.le A2.le, e', by rw [List.length_cons] at l1; omega, by rw [List.length_cons] at l2; omega⟩
      | false => exact ⟨(Option.some.inj e').symm, B2, H2, I2, A'.trans A2⟩
  · rintro ps qs s' ⟨B', H', vs', us', ds, es, m, I', A', v1, v2, w1, w2, e', l1, l2⟩ hz
    refine ⟨_, rfl, ?_, B', H', I', A'⟩
    have n1 : ps.length = ds.length := by rw [← v1.length, w1.length]
    have n2 : qs.length = es.length := by rw [← v2.length, w2.length]
    have hmin : min ps.length qs.length = 0 := by rw [← List.length_zip, hz]; rfl
    rw [List.size_toArray, List.size_toArray, l1, l2]
    cases ds with
    | nil =>
      cases es with
      | nil =>
        cases (Option.some.inj e')
        simp
      | cons e0 et =>
        cases (Option.some.inj e')
        simp
    | cons d0 dt =>
      cases es with
      | nil =>
        cases (Option.some.inj e')
        simp
      | cons e0 et =>
        rw [n1, n2, List.length_cons, List.length_cons] at hmin
        omega
  · rintro s' ⟨e', l⟩
    exact ⟨false, rfl, e'.symm, l⟩
  · refine ⟨B, H, vs, us, xs, ys, 0, I, Aft.refl R, ?_, ?_, r1, r2, e, ?_, ?_⟩
    · simpa using rv
    · simpa using ru
    · rw [← rv.length, r1.length, Nat.zero_add]
    · rw [← ru.length, r2.length, Nat.zero_add]
theorem rc_lstD {f : D → D → Option Bool} {A : Around} {s : Shared} {B H : Hp} {a b : Addr} {xs ys : List D} {r : Bool} (hf : EqB cls X pins σ ρ Y n f) (sb : Sub X (n + 1) A) (I : Inv X pins σ H s) (R : Rel (gx cls X) B H ρ Y)
    (ra : Rep (gx cls X) B (.ref a) (.lst xs)) (rb : Rep (gx cls X) B (.ref b) (.lst ys)) (hl : xs.length = ys.length) (e : rowEq f xs ys = some r) : wpAny (model X.prog X.w) A (richCompare .Eq (.ref a) (.ref b)) (fun u s' => ∃ q, u = .bool q ∧ q = r ∧ LI cls X pins σ B H ρ Y s') X.xe s := by
  cases ra with
  | @lst _ vs _ h1 z1 r1 =>
  cases rb with
  | @lst _ us _ h2 z2 r2 =>
  have two : ∀ {s' : Shared} {B' H' : Hp}, Inv X pins σ H' s' → Aft (gx cls X) B H ρ Y B' H' ρ Y → ∃ its its2, Vals vs its ∧ Vals us its2 ∧ MVQ.Two a b xs.length s' its.toArray its2.toArray := fun I' A' => by
    obtain ⟨_, its, k, rv, e1⟩ := I'.hok a _ (A'.rel.lst (A'.le _ _ h1))
    obtain ⟨_, its2, k2, ru, e2⟩ := I'.hok b _ (A'.rel.lst (A'.le _ _ h2))
    exact ⟨its, its2, rv, ru, ⟨k, e1⟩, ⟨k2, e2⟩, by rw [List.size_toArray, ← rv.length, r1.length], by rw [List.size_toArray, ← ru.length, r2.length, hl]⟩
  refine MVQ.rc_lst (N := xs.length) sb.room.units0 (fun i s' => i ≤ xs.length ∧ ∃ B' H', Inv X pins σ H' s' ∧ Aft (gx cls X) B H ρ Y B' H' ρ Y ∧ rowEq f (xs.drop i) (ys.drop i) = some r) (fun i s' => r = false ∧ LI cls X pins σ B H ρ Y s') ?_ ?_ ?_ ⟨Nat.zero_le _, B, H, I, Aft.refl R, by simpa using e⟩
  · rintro i s' ⟨hi, B', H', I', A', e'⟩
    obtain ⟨its, its2, rv, ru, t⟩ := two I' A'
    refine ⟨_, _, t, fun i1 i2 => ?_⟩
    have j1 : i < xs.length := by have := t.2.2.1; omega
    have j2 : i < ys.length := by omega
    have k1 : i < vs.length := by rw [r1.length]; exact j1
    have k2 : i < us.length := by rw [r2.length]; exact j2
    obtain ⟨v0, g1, w1⟩ := r1.get (i := i) (d := xs[i]) (by simp [j1])
    obtain ⟨u0, g2, w2⟩ := r2.get (i := i) (d := ys[i]) (by simp [j2])
    obtain ⟨p, g3, w3⟩ := rv.get g1
    obtain ⟨q, g4, w4⟩ := ru.get g2
    have ep : its.toArray[i] = p := by
      have : its[i]? = some its.toArray[i] := by simp
      rw [g3] at this
      exact (Option.some.inj this).symm
    have eq : its2.toArray[i] = q := by
      have : its2[i]? = some its2.toArray[i] := by simp
      rw [g4] at this
      exact (Option.some.inj this).symm
    rw [ep, eq]
    rw [List.drop_eq_getElem_cons j1, List.drop_eq_getElem_cons j2] at e'
    unfold rowEq at e'
    cases ef : f xs[i] ys[i] with
    | none => rw [ef] at e'; cases e'
    | some k =>
      rw [ef] at e'
      refine wpAny_mono (hf A.in1 s' B' H' v0 u0 p q _ _ k sb.in1 I' A'.rel (w1.le A'.le) (w2.le A'.le) w3 w4 ef) (fun k' s2 ⟨ek, B2, H2, I2, A2⟩ => ?_) fun _ _ z => z
      subst ek
      cases k' with
      | true => exact ⟨j1, B2, H2, I2, A'.trans A2, e'⟩
      | false => exact ⟨(Option.some.inj e').symm, B2, H2, I2, A'.trans A2⟩
  · rintro s' ⟨_, B', H', I', A', e'⟩
    rw [List.drop_length, hl, List.drop_length] at e'
    cases (Option.some.inj e')
    exact ⟨true, rfl, rfl, B', H', I', A'⟩
  · rintro i s' ⟨e', l⟩
    obtain ⟨B', H', I', A'⟩ := id l
    obtain ⟨its, its2, _, _, t⟩ := two I' A'
    exact ⟨⟨_, _, t⟩, false, rfl, e'.symm, l⟩
end
end MV
set_option Elab.async false
set_option linter.all false
set_option maxRecDepth 100000
set_option maxHeartbeats 4000000
/-! MvEqF: the rules: a == b, x in row, x not in row. -/
namespace MV
open PySem PySem.Spec PyProof.Rows L2
section
variable {cls : Cl} {X : Cx} {W : WX} {n : Nat} {sel : Nat → Option PDen} {kt : Kd → Bool} {pins : List (Addr × Obj)} {σ : L2.St} {ρ : Nat → Addr} {Y : Ys}
/-- a rich comparison by eqv, of what is no flat value on the left -/
theorem rc_at {k : Nat} {A : Around} {s : Shared} {B H : Hp} {a : Addr} {y : V} {v : Value} {d b : D} {r : Bool} (tk : Takes X W) (hs : EqS X cls n sel kt) (ih : EqB cls X pins σ ρ Y (n + k) (eqv sel kt k)) (sb : Sub X (n + (k + 1)) A) (I : Inv X pins σ H s) (R : Rel (gx cls X) B H ρ Y)
    (ra : Rep (gx cls X) B (.ref a) d) (rb : Rep (gx cls X) B y b) (ry : RelV y v) (hfl : flatD (.val d) = false) (e : eqv sel kt (k + 1) d b = some r) :
    wpAny (model X.prog X.w) A (richCompare .Eq (.ref a) v) (fun u s' => ∃ q, u = .bool q ∧ q = r ∧ LI cls X pins σ B H ρ Y s') X.xe s := by
  unfold eqv at e
  split at e
  · cases rb with
    | @tup b' us _ h2 z2 r2 =>
    cases ry
    exact rc_tupD ih sb I R ra (.tup h2 z2 r2) e
  · cases rb with
    | @lst b' us _ h2 z2 r2 =>
    cases ry
    split at e
    · rename_i hl
      exact rc_lstD ih sb I R ra (.lst h2 z2 r2) (Nat.eq_of_beq_eq_true hl) e
    · rename_i hl
      cases (Option.some.inj e)
      cases ra with
      | @lst _ vs _ h1 z1 r1 =>
      obtain ⟨its, rv, p1, _⟩ := I.list (show SqL X.K H a vs from .inl (.inl (R.lst h1)))
      obtain ⟨its2, ru, p2, _⟩ := I.list (show SqL X.K H b' us from .inl (.inl (R.lst h2)))
      refine SeqAt.RcAt.lists_lengths p1.isList p2.isList ?_ sb.room.units0 X.prog X.w _ _ ⟨false, rfl, rfl, B, H, I, Aft.refl R⟩
      rw [List.size_toArray, List.size_toArray, ← rv.length, ← ru.length, r1.length, r2.length]
      refine bne_iff_ne.mpr fun z => ?_
      rw [z, Nat.beq_refl] at hl
      cases hl
  · split at e
    · rename_i f kd e1 e2
      split at e
      · rename_i e3
        have sb' : Sub X n A := sb.mono (by omega)
        split at e
        · rename_i e4
          cases (Option.some.inj e)
          exact own_rc tk hs sb' I R ra rb ry e1 e2 e3 e4
        · rename_i e4
          split at e
          · cases (Option.some.inj e)
            exact own_rc tk hs sb' I R ra rb ry e1 e2 e3 e4
          · cases e
        · cases e
      · cases e
    · cases e
  · rw [hfl] at e
    cases e
theorem eqB_at (tk : Takes X W) (hs : EqS X cls n sel kt) : ∀ k, EqB cls X pins σ ρ Y (n + k) (eqv sel kt k)
  | 0 => fun A s B H x y u v a b r sb I R ra rb rx ry e => by simp [eqv] at e
  | k + 1 => fun A s B H x y u v a b r sb I R ra rb rx ry e => by
    have ih := eqB_at tk hs k
    by_cases hfl : flatD (.val a) = true
    · have e' : flatD (.val b) = true ∧ eqFl (.val a) (.val b) = r := by
        unfold eqv at e
        split at e
        · cases hfl
        · cases hfl
        · cases hfl
        · split at e
          · rename_i f2
            exact ⟨f2, Option.some.inj e⟩
          · cases e
      have q := eqAt_V (A := A) (s := s) rx ry (flat_at' (ρ := ρ) (n := Y.length) (w := .val a) ra hfl) (flat_at' (ρ := ρ) (n := Y.length) (w := .val b) rb e'.1)
      rw [eqFl_at (ρ := ρ) (n := Y.length) (w1 := .val a) (w2 := .val b) ra rb hfl e'.1, e'.2] at q
      exact q X.prog X.w X.xe _ ⟨rfl, B, H, I, Aft.refl R⟩
    · have hfl' : flatD (.val a) = false := by simpa using hfl
      have hx : ∃ p, x = .ref p := by
        have e' := e
        unfold eqv at e'
        split at e'
        · cases ra; exact ⟨_, rfl⟩
        · cases ra; exact ⟨_, rfl⟩
        · cases ra; exact ⟨_, rfl⟩
        · rw [hfl'] at e'
          cases e'
      obtain ⟨p, rfl⟩ := hx
      obtain rfl : u = Value.ref p := rx
      by_cases hv : v = .ref p
      · subst hv
        have hy : y = .ref p := by
          cases y <;> first | (obtain ⟨_, z⟩ := ry; cases z) | cases ry | skip
          rfl
        subst hy
        have hr : r = true := by
          cases r with
          | true => rfl
          | false => exact (eqv_no (k + 1) a b _ e ra rb).elim
        subst hr
        exact SeqAt.EqAt.same (A := A) (s := s) (.ref p) X.prog X.w X.xe _ ⟨rfl, B, H, I, Aft.refl R⟩
      · exact eqBool_any hv (wpAny_mono (rc_at tk hs ih sb I R ra rb ry hfl' e) (fun u s' ⟨q, e1, e2, l⟩ => ⟨q, e1, e2, l⟩) fun _ _ z => z)
end
/-! ### by denotations -/
def gEqQ (sel : Nat → Option PDen) (kt : Kd → Bool) (k : Nat) : G2 := fun a b Y => match a, b with
  | .val d, .val e => (match flatD (.val d) with
    | true => .bad
    | false => (match eqv sel kt k d e with
      | some r => mkB r Y
      | none => .bad))
  | _, _ => .bad
def rEqQ (cls : Cl) (X : Cx) (sel : Nat → Option PDen) (kt : Kd → Bool) (k : Nat) : R2 := fun x y H Q => ∃ B ρ Y d e r, Rel (gx cls X) B H ρ Y ∧ Rep (gx cls X) B x d ∧ Rep (gx cls X) B y e ∧ flatD (.val d) = false ∧ eqv sel kt k d e = some r ∧
  ∀ B' H', Aft (gx cls X) B H ρ Y B' H' ρ Y → Q (.bl r) H'
theorem r_eqQ {cls : Cl} {X : Cx} {sel : Nat → Option PDen} {kt : Kd → Bool} {k : Nat} : R2D (gx cls X) (rEqQ cls X sel kt k) (gEqQ sel kt k) := by
  intro x y B H ρ Y Q w1 w2 w Y' R a b e q
  unfold gEqQ at e
  split at e
  · split at e
    · cases e
    · rename_i hf
      split at e
      · rename_i r hr
        cases e
        exact ⟨B, ρ, Y, _, _, r, R, a, b, hf, hr, fun B' H' A => q _ B' H' ρ A (.bl r)⟩
      · cases e
  · cases e
theorem op_eqQ {cls : Cl} {X : Cx} {W : WX} {n k : Nat} {sel : Nat → Option PDen} {kt : Kd → Bool} (tk : Takes X W) (hs : EqS X cls n sel kt) (hr : Room (n + (k + 1)) X.A) : OpR X (compareOp .Eq) (rEqQ cls X sel kt (k + 1)) := by
  intro pins s σ H x y v u Q I rx ry h
  obtain ⟨B, ρ, Y, d, e, r, R, ra, rb, hf, he, q⟩ := h
  have hx : ∃ p, x = .ref p := by
    have e' := he
    unfold eqv at e'
    split at e'
    · cases ra; exact ⟨_, rfl⟩
    · cases ra; exact ⟨_, rfl⟩
    · cases ra; exact ⟨_, rfl⟩
    · rw [hf] at e'
      cases e'
  obtain ⟨p, rfl⟩ := hx
  obtain rfl : v = Value.ref p := rx
  change wpAny (model X.prog X.w) X.A (richCompare .Eq (.ref p) u) _ _ _
  refine wpAny_mono (rc_at tk hs (eqB_at tk hs k) ⟨hr, rfl⟩ I R ra rb ry hf he) (fun z s' ⟨r', e1, e2, B', H', I', A'⟩ => ?_) fun _ _ z => z
  subst e1 e2
  exact ⟨.bl r', H', I', rfl, q B' H' A'⟩
/-! ### in -/
def inv (f : D → D → Option Bool) (x : D) : List D → Option Bool
  | [] => some false
  | y :: r => (match f y x with
    | some true => some true
    | some false => inv f x r
    | none => none)
/-- the items of a row of data -/
def rowW (Y : Ys) : W → Option (Bool × List D)
  | .val (.tup ds) => some (false, ds)
  | .val (.lst ds) => some (true, ds)
  | .ref m => (match Y[m]? with
    | some (.lst ws) => (match dats ws with
      | some ds => some (true, ds)
      | none => none)
    | _ => none)
  | _ => none
def gInQ (neg : Bool) (sel : Nat → Option PDen) (kt : Kd → Bool) (k : Nat) : G2 := fun a b Y => match a, rowW Y b with
  | .val d, some (_, ds) => (match inv (eqv sel kt k) d ds with
    | some r => mkB (if neg then !r else r) Y
    | none => .bad)
  | _, _ => .bad
def rInQ (cls : Cl) (X : Cx) (neg : Bool) (sel : Nat → Option PDen) (kt : Kd → Bool) (k : Nat) : R2 := fun x y H Q => ∃ B ρ Y d wb l ds r, Rel (gx cls X) B H ρ Y ∧ Rep (gx cls X) B x d ∧ WRep (gx cls X) B ρ Y.length y wb ∧ rowW Y wb = some (l, ds) ∧ inv (eqv sel kt k) d ds = some r ∧
  ∀ B' H', Aft (gx cls X) B H ρ Y B' H' ρ Y → Q (.bl (if neg then !r else r)) H'
theorem r_inQ {cls : Cl} {X : Cx} {neg : Bool} {sel : Nat → Option PDen} {kt : Kd → Bool} {k : Nat} : R2D (gx cls X) (rInQ cls X neg sel kt k) (gInQ neg sel kt k) := by
  intro x y B H ρ Y Q w1 w2 w Y' R a b e q
  unfold gInQ at e
  split at e
  · rename_i d l ds hd
    split at e
    · rename_i r hr
      cases e
      exact ⟨B, ρ, Y, d, w2, l, ds, r, R, a, b, hd, hr, fun B' H' A => q _ B' H' ρ A (.bl _)⟩
    · cases e
  · cases e
section
variable {cls : Cl} {X : Cx} {W : WX} {n k : Nat} {sel : Nat → Option PDen} {kt : Kd → Bool}
theorem row_lst {B H : Hp} {ρ : Nat → Addr} {Y : Ys} {y : V} {w : MV.W} {ds : List D} (R : Rel (gx cls X) B H ρ Y) (rb : WRep (gx cls X) B ρ Y.length y w) (e : rowW Y w = some (true, ds)) :
    ∃ p, y = .ref p ∧ ∀ B' H', Aft (gx cls X) B H ρ Y B' H' ρ Y → ∃ vs, H' p = some (.lst vs) ∧ Reps (gx cls X) B' vs ds := by
  unfold rowW at e
  split at e
  · cases e
  · cases e
    cases rb with
    | @lst p vs _ h1 _ r1 => exact ⟨p, rfl, fun B' H' A => ⟨vs, A.rel.lst (A.le _ _ h1), r1.le A.le⟩⟩
  · rename_i m
    split at e
    · rename_i ws hw
      split at e
      · rename_i ds' hd
        cases e
        obtain ⟨_, rfl⟩ := rb
        refine ⟨_, rfl, fun B' H' A => ?_⟩
        obtain ⟨vs, h1, _, h3⟩ := A.rel.obj m _ hw
        exact ⟨vs, h1, reps_dats h3 hd⟩
      · cases e
    · cases e
  · cases e
theorem row_tup {B : Hp} {ρ : Nat → Addr} {Y : Ys} {y : V} {w : MV.W} {ds : List D} (rb : WRep (gx cls X) B ρ Y.length y w) (e : rowW Y w = some (false, ds)) : Rep (gx cls X) B y (.tup ds) := by
  unfold rowW at e
  split at e
  · cases e
    exact rb
  · cases e
  · split at e
    · split at e <;> cases e
    · cases e
  · cases e
theorem in_run {pins : List (Addr × Obj)} {σ : L2.St} {ρ : Nat → Addr} {Y : Ys} {A : Around} {s : Shared} {B H : Hp} {x y : V} {u v : Value} {d : D} {wb : MV.W} {l : Bool} {ds : List D} {r : Bool} (tk : Takes X W) (hs : EqS X cls n sel kt) (sb : Sub X (n + k + 1) A) (I : Inv X pins σ H s) (R : Rel (gx cls X) B H ρ Y)
    (ra : Rep (gx cls X) B x d) (rb : WRep (gx cls X) B ρ Y.length y wb) (rx : RelV x u) (ry : RelV y v) (e1 : rowW Y wb = some (l, ds)) (e2 : inv (eqv sel kt k) d ds = some r) :
    wpAny (model X.prog X.w) A (contains v u) (fun q s' => q = r ∧ LI cls X pins σ B H ρ Y s') X.xe s := by
  have hf := eqB_at (pins := pins) (σ := σ) (ρ := ρ) (Y := Y) tk hs k
  cases l with
  | false =>
    have rt := row_tup rb e1
    cases rt with
    | @tup p vs _ h1 z1 r1 =>
    obtain rfl : v = Value.ref p := ry
    obtain ⟨its, rv, t1, _⟩ := I.tuple (show SqT X.K H p vs from .inl (.inl (R.tup h1)))
    refine MVQ.in_tup (fun ps s' => ∃ B' H' vs' es, Inv X pins σ H' s' ∧ Aft (gx cls X) B H ρ Y B' H' ρ Y ∧ Vals vs' ps ∧ Reps (gx cls X) B' vs' es ∧ inv (eqv sel kt k) d es = some r) (fun s' => r = true ∧ LI cls X pins σ B H ρ Y s') t1 ?_ ?_ ?_ ⟨B, H, vs, ds, I, Aft.refl R, by simpa using rv, r1, e2⟩
    · rintro q qs s' ⟨B', H', vs', es, I', A', v1, w1, e'⟩
      cases v1 with
      | @cons v0 _ vt _ rp tp =>
      cases w1 with
      | @cons _ d0 _ dt hd0 td =>
      unfold inv at e'
      cases ef : eqv sel kt k d0 d with
      | none => rw [ef] at e'; cases e'
      | some m =>
        rw [ef] at e'
        refine wpAny_mono (hf A.in1 s' B' H' v0 x q u d0 d m sb.in1 I' A'.rel hd0 (ra.le A'.le) rp rx ef) (fun m' s2 ⟨ek, B2, H2, I2, A2⟩ => ?_) fun _ _ z => z
        subst ek
        cases m' with
        | false => exact ⟨B2, H2, vt, dt, I2, A'.trans A2, tp, td.le A2.le, e'⟩
        | true => exact ⟨(Option.some.inj e').symm, B2, H2, I2, A'.trans A2⟩
    · rintro s' ⟨B', H', vs', es, I', A', v1, w1, e'⟩
      cases v1
      cases w1
      cases (Option.some.inj e')
      exact ⟨rfl, B', H', I', A'⟩
    · rintro s' ⟨e', li⟩
      exact ⟨e'.symm, li⟩
  | true =>
    obtain ⟨p, rfl, hp⟩ := row_lst R rb e1
    obtain rfl : v = Value.ref p := ry
    refine MVQ.in_lst (N := ds.length) (fun i s' => i ≤ ds.length ∧ ∃ B' H', Inv X pins σ H' s' ∧ Aft (gx cls X) B H ρ Y B' H' ρ Y ∧ inv (eqv sel kt k) d (ds.drop i) = some r) (fun s' => r = true ∧ LI cls X pins σ B H ρ Y s') ?_ ?_ ?_ ⟨Nat.zero_le _, B, H, I, Aft.refl R, by simpa using e2⟩
    · rintro i s' ⟨hi, B', H', I', A', e'⟩
      obtain ⟨vs, h1, w1⟩ := hp B' H' A'
      obtain ⟨_, its, m, rv, o1⟩ := I'.hok p _ h1
      have hz : its.toArray.size = ds.length := by rw [List.size_toArray, ← rv.length, w1.length]
      refine ⟨its.toArray, m, o1, hz, fun i1 => ?_⟩
      have j1 : i < ds.length := by omega
      obtain ⟨v0, g1, w2⟩ := w1.get (i := i) (d := ds[i]) (by simp [j1])
      obtain ⟨q, g3, w3⟩ := rv.get g1
      have ep : its.toArray[i] = q := by
        have : its[i]? = some its.toArray[i] := by simp
        rw [g3] at this
        exact (Option.some.inj this).symm
      rw [ep]
      rw [List.drop_eq_getElem_cons j1] at e'
      unfold inv at e'
      cases ef : eqv sel kt k ds[i] d with
      | none => rw [ef] at e'; cases e'
      | some m =>
        rw [ef] at e'
        refine wpAny_mono (hf A.in1 s' B' H' v0 x q u _ d m sb.in1 I' A'.rel w2 (ra.le A'.le) w3 rx ef) (fun m' s2 ⟨ek, B2, H2, I2, A2⟩ => ?_) fun _ _ z => z
        subst ek
        cases m' with
        | false => exact ⟨j1, B2, H2, I2, A'.trans A2, e'⟩
        | true => exact ⟨(Option.some.inj e').symm, B2, H2, I2, A'.trans A2⟩
    · rintro s' ⟨_, B', H', I', A', e'⟩
      rw [List.drop_length] at e'
      cases (Option.some.inj e')
      exact ⟨rfl, B', H', I', A'⟩
    · rintro s' ⟨e', li⟩
      exact ⟨e'.symm, li⟩
theorem op_inQ (tk : Takes X W) (hs : EqS X cls n sel kt) (hr : Room (n + k + 1) X.A) : OpR X (compareOp .In) (rInQ cls X false sel kt k) := by
  intro pins s σ H x y u v Q I rx ry h
  obtain ⟨B, ρ, Y, d, wb, l, ds, r, R, ra, rb, e1, e2, q⟩ := h
  change wpAny (model X.prog X.w) X.A (contains v u >>= fun b => pure (Value.bool b)) _ _ _
  refine wpAny_bind (wpAny_mono (in_run tk hs ⟨hr, rfl⟩ I R ra rb rx ry e1 e2) (fun z s' ⟨ez, B', H', I', A'⟩ => ?_) fun _ _ z => z)
  subst ez
  exact wpAny_pure ⟨.bl z, H', I', rfl, q B' H' A'⟩
theorem op_notInQ (tk : Takes X W) (hs : EqS X cls n sel kt) (hr : Room (n + k + 1) X.A) : OpR X (compareOp .NotIn) (rInQ cls X true sel kt k) := by
  intro pins s σ H x y u v Q I rx ry h
  obtain ⟨B, ρ, Y, d, wb, l, ds, r, R, ra, rb, e1, e2, q⟩ := h
  change wpAny (model X.prog X.w) X.A (contains v u >>= fun b => pure (Value.bool (!b))) _ _ _
  refine wpAny_bind (wpAny_mono (in_run tk hs ⟨hr, rfl⟩ I R ra rb rx ry e1 e2) (fun z s' ⟨ez, B', H', I', A'⟩ => ?_) fun _ _ z => z)
  subst ez
  exact wpAny_pure ⟨.bl (!z), H', I', rfl, q B' H' A'⟩
end
end MV
set_option Elab.async false
set_option linter.all false
set_option maxRecDepth 100000
set_option maxHeartbeats 4000000
/-! MvSortT: sorted(t), t a tuple of texts; binding with defaults; several handlers. -/
namespace MV
open PySem PySem.Spec PyProof.Rows L2
def rSortT (K : PySem.W.Frag) : List V → Hp → VK → Prop := fun vs H Q => ∃ (a : Addr) (xs : List Str), vs = [V.ref a] ∧ SqT K H a (xs.map V.str) ∧ xs.length < 64 ∧ ∀ (ys : List Str) (p : Addr), ys.Perm xs → sortedS ys = true → H p = none → Q (.ref p) (upd H p (.lst (ys.map V.str)))
theorem cr_sortT {X : Cx} : CallR X (.builtin "sorted") (rSortT X.K) := by
  intro pins s σ H vs us Q I r h
  obtain ⟨a, xs, rfl, hs, h64, q⟩ := h
  obtain ⟨its, rv, ht, _⟩ := I.tuple hs
  rw [Vals.ref1 r]
  have ln : its.length = xs.length := by rw [← rv.length, List.length_map]
  have hS := rv.strs
  obtain ⟨o, ho, hc, n, hd⟩ := ht
  refine Calls.call_function_entry PyProof.Rows.kind_sorted PyProof.Rows.plain_sorted PyProof.Rows.entry_sorted (PyProof.Rows.args_sorted1 _) ?_
  unfold Builtin.«sorted»
  refine wpAny_bind (m := checkCount "sorted" 1 1 _) (wpAny_pure ?_)
  refine wpAny_bind (wpAny_collect_seq a (T := "tuple") (.inr rfl) ho hc hd (fun h' hk => ?_) (by rw [List.size_toArray, sizeLine_eq]; omega))
  have I1 : Inv X pins σ H { s with heap := h', toks := s.toks } := I.kept hk
  have et : its.toArray.toList = its := by simp
  rw [et]
  refine wpAny_bind (wpAny_newList ?_ (by rw [ln, sizeLine_eq]; omega))
  have hoL : (h'.push (seqObj "list" its.toArray 0)).get? h'.objs.size = some (seqObj "list" its.toArray 0) := Heap.get?_push_size _ rfl
  refine wpAny_bind (wpAny_holding (wpAny_call_entry PyProof.Rows.slot_list_sort ⟨_, hoL, rfl⟩ PyProof.Rows.entry_list_sort
    (list_sort_treeK strKind_oneLt (s := { s with heap := h'.push (seqObj "list" its.toArray 0) }) hoL hS.keysOf (fun v₁ v₂ rest e => keyKind_strs (by rw [← e]; exact hS)) (by rw [ln]; exact h64) fun st' hp hs => ⟨_, rfl, ?_⟩)
    (PyProof.Rows.args_list_sort _)))
  obtain ⟨ys, g1, g2, g3⟩ := sorted_out_str hS hp hs
  obtain ⟨e', he'⟩ := PyProof.Rows.sortedHeap_at (vs := its) (out := (arrOf st').map (·.2)) hoL
  have hlen : (ys.map V.str).length ≤ sizeLine := by
    rw [List.length_map, g2.length_eq, sizeLine_eq]
    omega
  refine wpAny_pure ⟨_, rfl, .ref h'.objs.size, upd H h'.objs.size (.lst (ys.map V.str)), I1.laid (t' := s.toks) (fun b u e => ?_) (Nat.le_refl _)
    (show ObjOk X.prog X.w _ _ _ (.lst (ys.map V.str)) from ⟨hlen, ((arrOf st').map (·.2)).toList, e', vals_of_strs g1, by rw [Array.toArray_toList]; exact he'⟩), rfl, q ys _ g2 g3 (I1.hok.fresh (Nat.le_refl _))⟩
  have hb : b < h'.objs.size := Heap.lt_size e
  rw [PyProof.Rows.sortedHeap_old (Nat.ne_of_lt hb) (by rw [size_push']; exact Nat.lt_succ_of_lt hb)]
  exact Heap.get?_push_of_some _ e
def gSortT : GL := fun ws Y => match ws with
  | [.val (.tup ds)] => (match strsOf (vals ds), below64 ds.length with
    | some l, true => .ok (.val (.lst (dStrs (srt sLe l)))) Y
    | _, _ => .bad)
  | [.val (.ktup ds)] => (match strsOf (vals ds), below64 ds.length with
    | some l, true => .ok (.val (.lst (dStrs (srt sLe l)))) Y
    | _, _ => .bad)
  | _ => .bad
theorem l_sortT {G : Gx} : RLD G (rSortT G.K) gSortT := by
  intro xs B H ρ Y Q ws w Y' R r e q
  have go : ∀ (ds : List D) (l : List Str) (a : Addr) (vs : List V), xs = [.ref a] → SqT G.K H a vs → Reps G B vs ds → strsOf (vals ds) = some l → below64 ds.length = true → Re.ok (.val (.lst (dStrs (srt sLe l)))) Y = .ok w Y' → rSortT G.K xs H Q := fun ds l a vs ex hs rr hl h64 ee => by
    cases ee
    subst ex
    have ev := strsOf_at (reps_vals (ρ := ρ) (n := Y.length) rr) hl
    subst ev
    have hlen : l.length < 64 := by
      have := rr.length
      rw [List.length_map] at this
      rw [this]
      exact Nat.blt_eq.mp h64
    refine ⟨a, l, rfl, hs, hlen, fun ys p hp hsd ha => ?_⟩
    rw [sortedS_srt hp hsd]
    have A := Aft.new R (.lst ((srt sLe l).map V.str)) ha
    refine q _ _ _ ρ A (.lst upd_same ?_ (reps_strs _))
    rw [List.length_map, (srt_perm l).length_eq, sizeLine_eq]
    omega
  unfold gSortT at e
  split at e
  · split at e
    · rename_i l hl h64
      obtain ⟨x, rfl, h⟩ := one_at r
      cases h with
      | @tup a vs _ h1 _ rr => exact go _ l a vs rfl (.inl (.inl (R.tup h1))) rr hl h64 e
    · cases e
  · split at e
    · rename_i l hl h64
      obtain ⟨x, rfl, h⟩ := one_at r
      cases h with
      | @ktup a vs _ h1 _ rr => exact go _ l a vs rfl (h1 H) rr hl h64 e
    · cases e
  · cases e
section
variable {cls : Cl} {X : Cx} {W : WX} {p pos : Pos} {e : Expr} {fa : ADen}
theorem d_sortedT (hm : X.mg "sorted" = none) (ha : DA cls X W [e] fa) (hg : Gl X "sorted" := by rfl) (he : starEach [e] X.env = (false, eval e X.env) :: starEach [] X.env := by rfl) : DE cls X W (.Call (.Name "sorted" p) [e] [] pos) (dBlt (orL gSortS gSortT) fa) :=
  d_bltn' (CallR.or cr_sortedS cr_sortT) (RLD.or l_sortS l_sortT) hm rfl ha hg (by decide) (by decide) he rfl
end
/-! ### binding with defaults -/
theorem mbnD {K : PySem.W.Frag} {x qual : Str} {params : Arguments} {body : List Stmt} {scope : Scope} {dvs : List V} {kws : List (Str × V)} {f : Addr} {fd : FuncData} {ps ks : List Str} {n : Nat} {bm : List Bd} (FD : FunD K x qual params body scope dvs kws f fd) (hd : dvs ≠ [])
    (h : ∀ (T : Addr) (kV doc pm : Value) (an : Option Addr) (cdv ct : Value) (us ws its l : List Value), us.length = n → ws.length = ks.length → its.length = dvs.length → bnd us ws its bm = some l →
      bindArgs (PySem.W.fnOf x qual params body scope (.ref T) kV doc pm an cdv ct) ⟨us, ks.zip ws⟩ = pure (ps.zip l) ∨ ∃ k, bindArgs (PySem.W.fnOf x qual params body scope (.ref T) kV doc pm an cdv ct) ⟨us, ks.zip ws⟩ = seqItems? (.ref T) >>= k ∧ k (some its.toArray) = pure (ps.zip l)) : MBn K fd ps n ks bm dvs := by
  obtain ⟨oc, od, dV, kV, doc, pm, an, cdv, ct, osl, rfl, lk, hcd, hD, hK⟩ := FD.ex
  rcases hD with ⟨e, _⟩ | ⟨_, T, o, its, m, rfl, lT, oT, rT⟩
  · exact absurd e hd
  · refine ⟨its, rT, fun s us ws l X h1 h2 h3 => ?_⟩
    rcases h T kV doc pm an cdv ct us ws its l h1 h2 rT.length.symm h3 with e | ⟨k, e1, e2⟩
    · exact .of_eq e
    · refine BindsTo.of_looks fun M => ?_
      rw [e1]
      exact looks_items X lT oT (.of_pure e2)
theorem mkx_d {P : Program} {w : World} {K : PySem.W.Frag} {mg : Str → Option Value} {base : Heap} {x qual y : Str} {params : Arguments} {body : List Stmt} {scope : Scope} {kws : List (Str × V)} {f : Addr} {fd : FuncData} {N ps ks : List Str} {k n c : Nat} {cls : Cl} {F : SDen} {dvs : List V} {dd : List D} {bm : List Bd}
    (FD : FunD K x qual params body scope dvs kws f fd) (hk : Mk K (cls.at_ c) f) (hm : mg y = some (.ref (cls.at_ c))) (S : FnScope N ps scope) (hn : bm.length = ps.length) (hb : MBn K fd ps (n + 1) ks bm dvs) (hd : ∀ B, Reps ⟨K, mg, cls.at_, cls.fs, cls.T⟩ B dvs dd) (B : Body P w K mg base cls N qual scope f k body F) : MkX P w K mg base cls c y n ks bm dd (runW F N.length) (k + 1) :=
  ⟨f, fd, ps, dvs, hk, fn_w FD S B, hm, hb, hd, hn⟩
/-- an empty tuple of the written part -/
def ktup0 (K : PySem.W.Frag) (a : Addr) : Bool := match K.lookup a with
  | some ⟨.type c, none, .seq its _, _⟩ => decide (c = "tuple") && decide (its.toList = [])
  | _ => false
theorem ktup0_ok {K : PySem.W.Frag} {a : Addr} (h : ktup0 K a = true) : KTup K a [] := by
  unfold ktup0 at h
  split at h
  · rename_i c its n sl ho
    obtain ⟨h1, h2⟩ := Bool.and_eq_true_iff.mp h
    have e1 := of_decide_eq_true h1
    have e2 := of_decide_eq_true h2
    subst e1
    obtain ⟨l⟩ := its
    simp only at e2
    subst e2
    exact ⟨_, _, n, ho, rfl, rfl, rfl, by simp, .nil⟩
  · cases h
end MV
set_option Elab.async false
set_option linter.all false
set_option maxRecDepth 100000
set_option maxHeartbeats 4000000
/-! MvOps: what the written texts use of own classes: operators, isinstance, ==; an expression's end told as data. -/
namespace MV
open PySem PySem.Spec PyProof.Rows L2 He
/-! ### an expression's end as data -/
def dFz (f : Den) : Den := fun τ Y => (f τ Y).bind fun w Y1 => match frzW 20 Y1 w with
  | some (d, Y2) => .ok (.val d) Y2
  | none => .bad
theorem d_fz {cls : Cl} {X : Cx} {W : WX} {e : Expr} {f : Den} (h : DE cls X W e f) : DE cls X W e (dFz f) := by
  obtain ⟨t, p, h⟩ := h
  refine ⟨t, p, fun σ H Q B ρ Y τ R T q => ?_⟩
  refine h σ H Q B ρ Y τ R T ?_
  unfold dFz at q
  cases e1 : f τ Y with
  | bad => rw [e1] at q; exact q.elim
  | exc c fs Y1 => rw [e1] at q; exact q
  | ok w Y1 =>
    rw [e1] at q
    intro v B1 H1 ρ1 A r
    unfold Re.bind at q
    dsimp only at q
    cases e2 : frzW 20 Y1 w with
    | none => rw [e2] at q; exact q.elim
    | some pr =>
      obtain ⟨d, Y2⟩ := pr
      rw [e2] at q
      obtain ⟨B2, A2, r2⟩ := frzW_at (G := gx cls X) 20 B1 ρ1 Y1 v w d Y2 A.rel r e2
      exact q v B2 H1 ρ1 (A.trans A2) r2
/-! ### operators -/
theorem nm_add : PySem.dunder Operator.Add.info.2 = ("__add__" : Str) := by decide +kernel
theorem nm_radd : PySem.dunderR Operator.Add.info.2 = ("__radd__" : Str) := by decide +kernel
theorem nm_sub : PySem.dunder Operator.Sub.info.2 = ("__sub__" : Str) := by decide +kernel
theorem nm_rsub : PySem.dunderR Operator.Sub.info.2 = ("__rsub__" : Str) := by decide +kernel
theorem nm_mul : PySem.dunder Operator.Mult.info.2 = ("__mul__" : Str) := by decide +kernel
theorem nm_rmul : PySem.dunderR Operator.Mult.info.2 = ("__rmul__" : Str) := by decide +kernel
/-- one class with own operators -/
def sel1 (c : Nat) (fn : FDen) : Nat → Option FDen := fun n => match Nat.beq n c with
  | true => some fn
  | false => none
theorem sel1_at {c n : Nat} {fn fn' : FDen} (h : sel1 c fn n = some fn') : n = c ∧ fn' = fn := by
  unfold sel1 at h
  split at h
  · rename_i e
    cases h
    exact ⟨Nat.eq_of_beq_eq_true e, rfl⟩
  · cases h
def opB (K : PySem.W.Frag) (x a r : Str) : Bool := PySem.W.selfFirst K (ga K x) && ((PySem.W.findIn K (.type "int") a).isSome && ((PySem.W.findIn K (.type "int") r).isSome && (decide (PySem.W.subIn K (.type "int") (.ref (ga K x)) = some false) && decide (PySem.W.subIn K (.ref (ga K x)) (.type "int") = some false))))
theorem binC_of {X : Cx} {cls : Cl} {op : Operator} {a r : Str} {c lev levr : Nat} {fn fr : FDen} {x : Str} (e1 : PySem.dunder op.info.2 = a) (e2 : PySem.dunderR op.info.2 = r) (D : Declines op) (hx : cls.at_ c = ga X.K x) (hB : opB X.K x a r = true)
    (m1 : MtX X.prog X.w X.K X.mg X.base cls c a 1 [] (bmN 2) [] fn lev) (m2 : MtX X.prog X.w X.K X.mg X.base cls c r 1 [] (bmN 2) [] fr levr) (r1 : Room lev X.A) (r2 : Room levr X.A) : BinC X cls op (sel1 c fn) (sel1 c fr) := by
  obtain ⟨b1, b⟩ := ba hB
  obtain ⟨b2, b⟩ := ba b
  obtain ⟨b3, b⟩ := ba b
  obtain ⟨b4, b5⟩ := ba b
  have f1 : ∃ g, PySem.W.findIn X.K (.ref (cls.at_ c)) a = some (some (.ref g)) := by
    obtain ⟨g, _, _, _, _, hm, _⟩ := m1
    exact ⟨g, hm.at_⟩
  have f2 : ∃ g, PySem.W.findIn X.K (.ref (cls.at_ c)) r = some (some (.ref g)) := by
    obtain ⟨g, _, _, _, _, hm, _⟩ := m2
    exact ⟨g, hm.at_⟩
  refine ⟨fun n fn' e => ?_, fun n fn' e => ?_⟩
  · obtain ⟨rfl, rfl⟩ := sel1_at e
    rw [e1, e2]
    obtain ⟨g, hg⟩ := f2
    exact ⟨lev, m1, r1, by rw [hx]; exact b1, ⟨_, hg, .inr ⟨g, rfl⟩⟩, Option.isSome_iff_exists.mp b2, Option.isSome_iff_exists.mp b3, by rw [hx]; exact of_decide_eq_true b4⟩
  · obtain ⟨rfl, rfl⟩ := sel1_at e
    rw [e1, e2]
    exact ⟨D, levr, m2, r2, by rw [hx]; exact b1, f1, by rw [hx]; exact of_decide_eq_true b5⟩
theorem d_addO {cls : Cl} {X : Cx} {W : WX} {a b : Expr} {f1 f2 : Den} {pos : Pos} {sel rsel : Nat → Option FDen} (tk : Takes X W) (h : BinC X cls .Add sel rsel) (ha : DE cls X W a f1) (hb : DE cls X W b f2) : DE cls X W (.BinOp a .Add b pos) (dOp (orG gAdd (gBin sel rsel)) f1 f2) :=
  d_binO (OpR.or op_add (OpR.or op_cat (OpR.or op_catA op_add_str))) (R2D.or (r_int fun i j => i + j) (R2D.or r_cat (R2D.or r_catT r_catS))) tk h ha hb
theorem d_subO {cls : Cl} {X : Cx} {W : WX} {a b : Expr} {f1 f2 : Den} {pos : Pos} {sel rsel : Nat → Option FDen} (tk : Takes X W) (h : BinC X cls .Sub sel rsel) (ha : DE cls X W a f1) (hb : DE cls X W b f2) : DE cls X W (.BinOp a .Sub b pos) (dOp (orG (gI fun i j Y => mkI (i - j) Y) (gBin sel rsel)) f1 f2) :=
  d_binO op_sub (r_int fun i j => i - j) tk h ha hb
theorem d_mulO {cls : Cl} {X : Cx} {W : WX} {a b : Expr} {f1 f2 : Den} {pos : Pos} {sel rsel : Nat → Option FDen} (tk : Takes X W) (h : BinC X cls .Mult sel rsel) (ha : DE cls X W a f1) (hb : DE cls X W b f2) : DE cls X W (.BinOp a .Mult b pos) (dOp (orG gMul (gBin sel rsel)) f1 f2) :=
  d_binO (OpR.or op_mul op_rep) (R2D.or r_mul r_rep) tk h ha hb
/-! ### own classes by number -/
def KT : List String := ["NoneType", "bool", "int", "str", "list", "tuple", "dict"]
def clsB (K : PySem.W.Frag) (cs : List Str) : Bool := cs.all fun x => insB K x && ((KT.all fun T => PySem.W.notFirst K (ga K x) (.type T)) && ((cs.all fun y => PySem.W.notFirst K (ga K x) (.ref (ga K y))) && (KT.all fun T => decide (PySem.W.kitAny K (.type T) [.ref (ga K x)] = some false))))
def kitB (K : PySem.W.Frag) (cs : List Str) : Bool := (List.range cs.length).all fun i => (List.range cs.length).all fun j => decide (PySem.W.kitAny K (.ref (ga K (cs.getD i ""))) [.ref (ga K (cs.getD j ""))] = some (Nat.beq i j))
def neB (K : PySem.W.Frag) (cs : List Str) : Bool := cs.all fun x => eqO (PySem.W.findIn K (.ref (ga K x)) "__ne__") (some (some (.builtin "object.__ne__")))
/-- isinstance(.., the j-th of n classes) -/
def ktC (n j : Nat) : Kd → Option Bool
  | .ins c => (match Nat.blt c n with
    | true => some (Nat.beq c j)
    | false => none)
  | _ => some false
/-- what may stand to the right of an own == -/
def ktQ (n : Nat) : Kd → Bool
  | .ins c => Nat.blt c n
  | _ => true
def kdS : Kd → String
  | .non => "NoneType"
  | .bl => "bool"
  | .int => "int"
  | .str => "str"
  | .lst => "list"
  | .tup => "tuple"
  | .dct => "dict"
  | .ins _ => ""
section
variable {K : PySem.W.Frag} {cls : Cl} {cs : List Str}
theorem getD_mem {n : Nat} (h : n < cs.length) : cs.getD n "" ∈ cs := by
  rw [List.getD_eq_getElem?_getD, List.getElem?_eq_getElem h]
  exact List.getElem_mem h
theorem clsB_at (h : clsB K cs = true) {x : Str} (hx : x ∈ cs) : insB K x = true ∧ (∀ T ∈ KT, PySem.W.notFirst K (ga K x) (.type T) = true) ∧ (∀ y ∈ cs, PySem.W.notFirst K (ga K x) (.ref (ga K y)) = true) ∧ ∀ T ∈ KT, PySem.W.kitAny K (.type T) [.ref (ga K x)] = some false := by
  obtain ⟨h1, h⟩ := ba (List.all_eq_true.mp h x hx)
  obtain ⟨h2, h⟩ := ba h
  obtain ⟨h3, h4⟩ := ba h
  exact ⟨h1, List.all_eq_true.mp h2, List.all_eq_true.mp h3, fun T hT => of_decide_eq_true (List.all_eq_true.mp h4 T hT)⟩
theorem kdS_mem {kd : Kd} (h : ∀ c, kd ≠ .ins c) : kdS kd ∈ KT ∧ tyKd cls.at_ kd = .type (kdS kd) := by
  cases kd <;> first | exact absurd rfl (h _) | exact ⟨by simp [KT, kdS], rfl⟩
theorem kdC (hc : ∀ n, n < cs.length → Cls K (cls.at_ n)) (ha : ∀ n, n < cs.length → cls.at_ n = ga K (cs.getD n "")) (h1 : clsB K cs = true) (h2 : kitB K cs = true) (j : Nat) (hj : j < cs.length) : KdOk cls K [.ref (cls.at_ j)] (ktC cs.length j) := fun kd b e => by
  by_cases hk : ∃ c, kd = .ins c
  · obtain ⟨c, rfl⟩ := hk
    unfold ktC at e
    dsimp only at e
    split at e
    · rename_i hlt
      cases e
      have hl : c < cs.length := Nat.le_of_ble_eq_true hlt
      refine ⟨?_, fun c' z => ?_⟩
      · show PySem.W.kitAny K (.ref (cls.at_ c)) [.ref (cls.at_ j)] = _
        rw [ha c hl, ha j hj]
        exact of_decide_eq_true (List.all_eq_true.mp (List.all_eq_true.mp h2 c (List.mem_range.mpr hl)) j (List.mem_range.mpr hj))
      · cases z
        have := insB_ok (by rw [← ha c hl]; exact hc c hl) (clsB_at h1 (getD_mem hl)).1
        rw [ha c hl]
        exact this
    · cases e
  · have hk' : ∀ c, kd ≠ .ins c := fun c z => hk ⟨c, z⟩
    obtain ⟨m, et⟩ := kdS_mem (cls := cls) hk'
    have eb : b = false := by
      cases kd <;> first | exact absurd rfl (hk' _) | (cases e; rfl)
    subst eb
    rw [et, ha j hj]
    exact ⟨(clsB_at h1 (getD_mem hj)).2.2.2 _ m, fun c z => absurd z (hk' c)⟩
theorem kdQ (hc : ∀ n, n < cs.length → Cls K (cls.at_ n)) (ha : ∀ n, n < cs.length → cls.at_ n = ga K (cs.getD n "")) (h1 : clsB K cs = true) {j : Nat} (hj : j < cs.length) : ∀ kd, ktQ cs.length kd = true → PySem.W.notFirst K (cls.at_ j) (tyKd cls.at_ kd) = true ∧ ∀ c', kd = .ins c' → InsK K (cls.at_ c') := fun kd e => by
  by_cases hk : ∃ c, kd = .ins c
  · obtain ⟨c, rfl⟩ := hk
    have hl : c < cs.length := Nat.le_of_ble_eq_true e
    refine ⟨?_, fun c' z => ?_⟩
    · show PySem.W.notFirst K (cls.at_ j) (.ref (cls.at_ c)) = true
      rw [ha c hl, ha j hj]
      exact (clsB_at h1 (getD_mem hj)).2.2.1 _ (getD_mem hl)
    · cases z
      have := insB_ok (by rw [← ha c hl]; exact hc c hl) (clsB_at h1 (getD_mem hl)).1
      rw [ha c hl]
      exact this
  · have hk' : ∀ c, kd ≠ .ins c := fun c z => hk ⟨c, z⟩
    obtain ⟨m, et⟩ := kdS_mem (cls := cls) hk'
    rw [et, ha j hj]
    exact ⟨(clsB_at h1 (getD_mem hj)).2.1 _ m, fun c z => absurd z (hk' c)⟩
/-- == by an own def, an expression's -/
theorem eqC_of {X : Cx} {cls : Cl} {cs : List Str} {j lev : Nat} {fn : FDen} (hc : ∀ n, n < cs.length → Cls X.K (cls.at_ n)) (ha : ∀ n, n < cs.length → cls.at_ n = ga X.K (cs.getD n "")) (h1 : clsB X.K cs = true) (h3 : neB X.K cs = true) (hj : j < cs.length)
    (m : MtX X.prog X.w X.K X.mg X.base cls j "__eq__" 1 [] (bmN 2) [] fn lev) (hr : Room (lev + 1) X.A) : EqC X cls j fn lev (ktQ cs.length) := by
  have i := insB_ok (by rw [← ha j hj]; exact hc j hj) (clsB_at h1 (getD_mem hj)).1
  refine ⟨m, hr, ?_, ?_, kdQ hc ha h1 hj⟩
  · rw [ha j hj]
    exact eqO_ok (List.all_eq_true.mp h3 _ (getD_mem hj))
  · rw [ha j hj]
    exact i.hm
end
/-! ### == and in with own == -/
section
variable {cls : Cl} {X : Cx} {W : WX} {k n m : Nat} {sel : Nat → Option PDen} {kt : Kd → Bool}
def gEqW (sel : Nat → Option PDen) (kt : Kd → Bool) (k : Nat) : G2 := orG gEqA (gEqQ sel kt k)
theorem opEqW (i : In X W m) (hs : EqS X cls n sel kt) (hr : n + (k + 1) ≤ m) : OpR X (compareOp .Eq) (fun x y H Q => rEqA cls X x y H Q ∨ rEqQ cls X sel kt (k + 1) x y H Q) := OpR.or (opEqA i) (op_eqQ i.tk hs (i.room.mono hr))
theorem r_eqW : R2D (gx cls X) (fun x y H Q => rEqA cls X x y H Q ∨ rEqQ cls X sel kt (k + 1) x y H Q) (gEqW sel kt (k + 1)) := R2D.or r_eqA r_eqQ
def gInW (sel : Nat → Option PDen) (kt : Kd → Bool) (k : Nat) : G2 := orG gIn (gInQ false sel kt k)
def gNotInW (sel : Nat → Option PDen) (kt : Kd → Bool) (k : Nat) : G2 := orG gNotIn (gInQ true sel kt k)
theorem opInW (i : In X W m) (hs : EqS X cls n sel kt) (hr : n + k + 1 ≤ m) : OpR X (compareOp .In) (fun x y H Q => (rIn X.K false x y H Q ∨ rInDct false x y H Q ∨ rInSgn false x y H Q ∨ rInD X.K x y H Q) ∨ rInQ cls X false sel kt k x y H Q) := OpR.or (opInA i) (op_inQ i.tk hs (i.room.mono hr))
theorem r_inW : R2D (gx cls X) (fun x y H Q => (rIn X.K false x y H Q ∨ rInDct false x y H Q ∨ rInSgn false x y H Q ∨ rInD X.K x y H Q) ∨ rInQ cls X false sel kt k x y H Q) (gInW sel kt k) := R2D.or r_in r_inQ
theorem opNotInW (i : In X W m) (hs : EqS X cls n sel kt) (hr : n + k + 1 ≤ m) : OpR X (compareOp .NotIn) (fun x y H Q => (rIn X.K true x y H Q ∨ rInDct true x y H Q ∨ rInSgn true x y H Q ∨ rNotInD X.K x y H Q) ∨ rInQ cls X true sel kt k x y H Q) := OpR.or (opNotInA i) (op_notInQ i.tk hs (i.room.mono hr))
theorem r_notInW : R2D (gx cls X) (fun x y H Q => (rIn X.K true x y H Q ∨ rInDct true x y H Q ∨ rInSgn true x y H Q ∨ rNotInD X.K x y H Q) ∨ rInQ cls X true sel kt k x y H Q) (gNotInW sel kt k) := R2D.or r_notIn r_inQ
end
/-! ### tables -/
theorem nodup_inj {α β : Type} {f : α → β} : ∀ {l : List α}, (l.map f).Nodup → ∀ x ∈ l, ∀ y ∈ l, f x = f y → x = y
  | [], _, x, hx, _, _, _ => by cases hx
  | a :: r, h, x, hx, y, hy, e => by
    rw [List.map_cons, List.nodup_cons] at h
    rcases List.mem_cons.mp hx with h1 | h1 <;> rcases List.mem_cons.mp hy with h2 | h2
    · rw [h1, h2]
    · exact (h.1 (List.mem_map.mpr ⟨y, h2, by rw [← h1]; exact e.symm⟩)).elim
    · exact (h.1 (List.mem_map.mpr ⟨x, h1, by rw [← h2]; exact e⟩)).elim
    · exact nodup_inj h.2 x h1 y h2 e
end MV
set_option Elab.async false
set_option linter.all false
set_option maxRecDepth 100000
set_option maxHeartbeats 0
namespace K5
open PySem PySem.Spec PyProof.Rows L2 He MV
def top (i : Nat) : Stmt := PySem.Challenge.pw_manyvoices_k05_rules_made.main.body.getD i (.Pass ⟨0, 0, 0, 0⟩)
def cbody : Stmt → List Stmt
  | .ClassDef _ _ _ b _ _ _ _ _ _ _ => b
  | _ => []
def mth (i j : Nat) : Stmt := (cbody (top i)).getD j (.Pass ⟨0, 0, 0, 0⟩)
def dd (x : Str) (i : Nat) : DefD := ⟨(x, none), x, x, defArgs (top i), defBody (top i), defScope (top i), [], []⟩
def dm (c m : Str) (i j : Nat) : DefD := ⟨(c, some m), m, c ++ "." ++ m, defArgs (mth i j), defBody (mth i j), defScope (mth i j), [], []⟩
def fn : List DefD := [dm "Form" "__init__" 14 0, dm "Form" "terms" 14 1, dm "Form" "__add__" 14 2, dm "Form" "__radd__" 14 3, dm "Form" "__mul__" 14 6, dm "Form" "__rmul__" 14 7, dm "Comparison" "__init__" 15 0, dm "Comparison" "terms" 15 1, dm "Comparison" "__eq__" 15 2, { dm "Rule" "__init__" 31 0 with dfl := [.adr (dflAt ("Rule", some "__init__") 0), .adr (dflAt ("Rule", some "__init__") 1)] }, dm "Rule" "__eq__" 31 1, dd "is_integer" 11, dd "is_list" 12, dd "is_word" 13, dd "ordered_pairs" 16, dd "form_of" 17, dd "form_sum" 18, dd "form_times" 19, dd "divisor_of" 20, dd "compared" 21, dd "term_of" 22, dd "members" 23, dd "bound" 24, dd "at_least" 25, dd "at" 26, dd "heard" 27, dd "is_condition" 29, dd "check_unlike" 30, dd "_law_source" 33, dd "_law_draw" 34, dd "_law_pick" 35, dd "_law_same" 36, dd "_law_tried" 37, dd "_law_is_word" 38, dd "_law_due" 39, dd "_law_some" 40, dd "_law_needs" 41, dd "_law_equal_right" 42, dd "law" 43]
def fa : List Fa := [.glo "Form", .glo "Comparison", .glo "Rule", .glo "BadWord", .glo "BadCondition", .glo "KINDS", .glo "is_integer", .glo "is_list", .glo "is_word", .glo "ordered_pairs", .glo "form_of", .glo "form_sum", .glo "form_times", .glo "divisor_of", .glo "compared", .glo "term_of", .glo "members", .glo "bound", .glo "at_least", .glo "at", .glo "heard", .glo "is_condition", .glo "check_unlike", .glo "_law_source", .glo "_law_draw", .glo "_law_pick", .glo "_law_same", .glo "_law_tried", .glo "_law_is_word", .glo "_law_due", .glo "_law_some", .glo "_law_needs", .glo "_law_equal_right", .glo "law", .free "isinstance", .free "len", .free "all", .free "any", .free "abs", .free "dict", .free "list", .free "tuple", .free "sorted", .free "int", .free "bool", .free "str", .free "min", .free "range", .free "zip", .free "enumerate", .free "super", .int "LONGEST_WORD" 8, .str "LETTERS" "abcdefghijklmnopqrstuvwxyz", .cls "Form", .noat "Form" "parts", .noat "Form" "rest", .mkr "Form", .cls "Comparison", .noat "Comparison" "pairs", .noat "Comparison" "constant", .mkr "Comparison", .cls "Rule", .noat "Rule" "name", .noat "Rule" "start", .noat "Rule" "end", .noat "Rule" "when", .noat "Rule" "says", .mkr "Rule", .meth "Form" "terms", .meth "Form" "__add__", .meth "Form" "__radd__", .meth "Form" "__mul__", .meth "Form" "__rmul__", .meth "Comparison" "terms", .meth "Comparison" "__eq__", .meth "Rule" "__eq__", .exm "BadWord" "BadWord" true, .exm "BadCondition" "BadWord" false, .exm "BadCondition" "BadCondition" true]
def er : List ErrD := [⟨"BadWord", "word", "word", "this is no word, or it stood before", mth 2 0⟩, ⟨"BadCondition", "index", "index", "there is no condition at this place", mth 5 0⟩]
def tf : List Defn := [("ordered_pairs", none), ("law", none)]
def csN : List Str := ["Form", "Comparison", "Rule"]
def clsN : List Str := ["Form", "Comparison", "Rule", "BadWord", "BadCondition"]
def cfs : List (List Str) := [["parts", "rest"], ["pairs", "constant"], ["name", "start", "end", "when", "says"], ["word"], ["index"]]
def ex_cls (K : PySem.W.Frag) : Bool := clsB K csN
def ex_kit (K : PySem.W.Frag) : Bool := kitB K csN
def ex_tne (K : PySem.W.Frag) : Bool := decide ((tf.map fun p => (cT K p).2).Nodup)
def ex_ne (K : PySem.W.Frag) : Bool := neB K csN
def ex_kt_KINDS (K : PySem.W.Frag) : Bool := ktupB K "KINDS" ["n", "t", "f", "at", "begun", "said", "heard", "u"]
def ex_df0 (K : PySem.W.Frag) : Bool := ktup0 K (dflAt ("Rule", some "__init__") 0 K)
def ex_df1 (K : PySem.W.Frag) : Bool := ktup0 K (dflAt ("Rule", some "__init__") 1 K)
def ex_opadd (K : PySem.W.Frag) : Bool := opB K "Form" "__add__" "__radd__"
def ex_opmul (K : PySem.W.Frag) : Bool := opB K "Form" "__mul__" "__rmul__"
def exL : List (PySem.W.Frag → Bool) := [ex_cls, ex_kit, ex_tne, ex_ne, ex_kt_KINDS, ex_df0, ex_df1, ex_opadd, ex_opmul]
def ex (K : PySem.W.Frag) : Bool := exL.all fun e => e K
def file : Str := PySem.Challenge.pw_manyvoices_k05_rules_made.main.file
abbrev hk : PySem.W.Hook := hookM 5 file fa fn er tf ex
abbrev R : PySem.W.OpenRow := PySem.W.OpenLaw.row PySem.Challenge.rw_manyvoices_k05_rules_made
def loose : List Str := [("VoiceError" : Str), ("BadWord" : Str), ("BadForm" : Str), ("BadConstant" : Str), ("BadCondition" : Str), ("NoTerms" : Str), ("KINDS" : Str), ("LETTERS" : Str), ("LONGEST_WORD" : Str), ("is_integer" : Str), ("is_list" : Str), ("is_word" : Str), ("Form" : Str), ("Comparison" : Str), ("ordered_pairs" : Str), ("form_of" : Str), ("form_sum" : Str), ("form_times" : Str), ("divisor_of" : Str), ("compared" : Str), ("term_of" : Str), ("members" : Str), ("bound" : Str), ("at_least" : Str), ("at" : Str), ("heard" : Str), ("is_condition" : Str), ("check_unlike" : Str), ("Rule" : Str), ("_law_source" : Str), ("_law_draw" : Str), ("_law_pick" : Str), ("_law_same" : Str), ("_law_tried" : Str), ("_law_is_word" : Str), ("_law_due" : Str), ("_law_some" : Str), ("_law_needs" : Str), ("_law_equal_right" : Str)]
def ob (s : PySem.W.SharedT) : AlM := obsM 5 file fa fn er tf ex (HandSHeadRun.getT s)
theorem ob_eq (s : PySem.W.SharedT) : ob s = hk.obs s.abs := obsM_eq (HandSHeadRun.getT_eq s)
theorem run (w : World) : HandSHeadRun.RunEq R (PySem.W.view R.prog [43]) hk ob 12000 loose w := by
  intro os
  kernel_rfl
end K5
set_option Elab.async false
set_option linter.all false
set_option maxRecDepth 100000
set_option maxHeartbeats 0
namespace K5
open PySem PySem.Spec PyProof.Rows L2 He MV
/-- what the head has left -/
structure Fx (P : Program) (w : World) (K : PySem.W.Frag) (mg : Str → Option Value) (base : Heap) : Prop where
  says : ∃ h, K.In h ∧ h.Ns mainGlobals mg ∧ SaysM file fa fn er tf ex h K
  hfile : P.main.file = file
  hsup : (P.main.scope.names.lookup ("super" : Str)).isSome = false
  tabs : ∀ p ∈ tf, LamX.TabB base mg (cT K p).1 (cT K p).2
def tq (x : Str) : Str := (x ++ (".<locals>." : Str)) ++ ("<lambda>" : Str)
def cl (K : PySem.W.Frag) : Cl := ⟨fun c => ga K (clsN.getD c ""), fun c => cfs.getD c [], tf.map fun p => ((cT K p).2, tq p.1)⟩
section
variable {P : Program} {w : World} {K : PySem.W.Frag} {mg : Str → Option Value} {base : Heap}
theorem Fx.fact (c : Fx P w K mg base) (i : Nat) {f : Fa} (h : fa[i]? = some f) : f.ok K = true :=
  let ⟨_, _, _, s⟩ := c.says
  s.fact f (List.mem_of_getElem? h)
theorem Fx.defs (c : Fx P w K mg base) (i : Nat) (hi : i < fn.length := by decide) : ∃ fd, FunD K (fn[i]).name (fn[i]).qual (fn[i]).params (fn[i]).body (fn[i]).scope ((fn[i]).dvs K) ((fn[i]).kws K) (fAd K (fn[i]).at_) fd :=
  let ⟨_, _, _, s⟩ := c.says
  s.defs _ (List.getElem_mem hi)
theorem Fx.glo (c : Fx P w K mg base) (i : Nat) {x : Str} (h : fa[i]? = some (.glo x)) : mg x = some (.ref (ga K x)) :=
  let ⟨_, hK, G, _⟩ := c.says
  glo_ok hK G (c.fact i h)
theorem Fx.free (c : Fx P w K mg base) (i : Nat) {x : Str} (h : fa[i]? = some (.free x)) : mg x = none :=
  let ⟨_, hK, G, _⟩ := c.says
  free_ok hK G (c.fact i h)
theorem Fx.tab (c : Fx P w K mg base) (i : Nat) (hi : i < tf.length := by decide) : LamX.TabB base mg (cT K (tf[i])).1 (cT K (tf[i])).2 := c.tabs _ (List.getElem_mem hi)
theorem Fx.more (c : Fx P w K mg base) {e : PySem.W.Frag → Bool} (i : Nat) (h : exL[i]? = some e) : e K = true :=
  let ⟨_, _, _, s⟩ := c.says
  List.all_eq_true.mp s.more e (List.mem_of_getElem? h)
theorem Fx.errE (c : Fx P w K mg base) (i : Nat) {d : ErrD} (h : er[i]? = some d) (T : ErrT d) (hs : mg "super" = none) : ErrK P K mg (ga K d.x) d.f ∧ XfC K (ga K d.x) := by
  obtain ⟨_, _, _, s⟩ := c.says
  obtain ⟨e1, e2⟩ := s.errs d (List.mem_of_getElem? h)
  rw [← c.hfile] at e2
  exact ErrD.errK e1 e2 T hs c.hsup
theorem g_Form (c : Fx P w K mg base) : mg "Form" = some (.ref (ga K "Form")) := c.glo 0 rfl
theorem g_Comparison (c : Fx P w K mg base) : mg "Comparison" = some (.ref (ga K "Comparison")) := c.glo 1 rfl
theorem g_Rule (c : Fx P w K mg base) : mg "Rule" = some (.ref (ga K "Rule")) := c.glo 2 rfl
theorem g_BadWord (c : Fx P w K mg base) : mg "BadWord" = some (.ref (ga K "BadWord")) := c.glo 3 rfl
theorem g_BadCondition (c : Fx P w K mg base) : mg "BadCondition" = some (.ref (ga K "BadCondition")) := c.glo 4 rfl
theorem g_KINDS (c : Fx P w K mg base) : mg "KINDS" = some (.ref (ga K "KINDS")) := c.glo 5 rfl
theorem g_is_integer (c : Fx P w K mg base) : mg "is_integer" = some (.ref (ga K "is_integer")) := c.glo 6 rfl
theorem g_is_list (c : Fx P w K mg base) : mg "is_list" = some (.ref (ga K "is_list")) := c.glo 7 rfl
theorem g_is_word (c : Fx P w K mg base) : mg "is_word" = some (.ref (ga K "is_word")) := c.glo 8 rfl
theorem g_ordered_pairs (c : Fx P w K mg base) : mg "ordered_pairs" = some (.ref (ga K "ordered_pairs")) := c.glo 9 rfl
theorem g_form_of (c : Fx P w K mg base) : mg "form_of" = some (.ref (ga K "form_of")) := c.glo 10 rfl
theorem g_form_sum (c : Fx P w K mg base) : mg "form_sum" = some (.ref (ga K "form_sum")) := c.glo 11 rfl
theorem g_form_times (c : Fx P w K mg base) : mg "form_times" = some (.ref (ga K "form_times")) := c.glo 12 rfl
theorem g_divisor_of (c : Fx P w K mg base) : mg "divisor_of" = some (.ref (ga K "divisor_of")) := c.glo 13 rfl
theorem g_compared (c : Fx P w K mg base) : mg "compared" = some (.ref (ga K "compared")) := c.glo 14 rfl
theorem g_term_of (c : Fx P w K mg base) : mg "term_of" = some (.ref (ga K "term_of")) := c.glo 15 rfl
theorem g_members (c : Fx P w K mg base) : mg "members" = some (.ref (ga K "members")) := c.glo 16 rfl
theorem g_bound (c : Fx P w K mg base) : mg "bound" = some (.ref (ga K "bound")) := c.glo 17 rfl
theorem g_at_least (c : Fx P w K mg base) : mg "at_least" = some (.ref (ga K "at_least")) := c.glo 18 rfl
theorem g_at (c : Fx P w K mg base) : mg "at" = some (.ref (ga K "at")) := c.glo 19 rfl
theorem g_heard (c : Fx P w K mg base) : mg "heard" = some (.ref (ga K "heard")) := c.glo 20 rfl
theorem g_is_condition (c : Fx P w K mg base) : mg "is_condition" = some (.ref (ga K "is_condition")) := c.glo 21 rfl
theorem g_check_unlike (c : Fx P w K mg base) : mg "check_unlike" = some (.ref (ga K "check_unlike")) := c.glo 22 rfl
theorem g__law_source (c : Fx P w K mg base) : mg "_law_source" = some (.ref (ga K "_law_source")) := c.glo 23 rfl
theorem g__law_draw (c : Fx P w K mg base) : mg "_law_draw" = some (.ref (ga K "_law_draw")) := c.glo 24 rfl
theorem g__law_pick (c : Fx P w K mg base) : mg "_law_pick" = some (.ref (ga K "_law_pick")) := c.glo 25 rfl
theorem g__law_same (c : Fx P w K mg base) : mg "_law_same" = some (.ref (ga K "_law_same")) := c.glo 26 rfl
theorem g__law_tried (c : Fx P w K mg base) : mg "_law_tried" = some (.ref (ga K "_law_tried")) := c.glo 27 rfl
theorem g__law_is_word (c : Fx P w K mg base) : mg "_law_is_word" = some (.ref (ga K "_law_is_word")) := c.glo 28 rfl
theorem g__law_due (c : Fx P w K mg base) : mg "_law_due" = some (.ref (ga K "_law_due")) := c.glo 29 rfl
theorem g__law_some (c : Fx P w K mg base) : mg "_law_some" = some (.ref (ga K "_law_some")) := c.glo 30 rfl
theorem g__law_needs (c : Fx P w K mg base) : mg "_law_needs" = some (.ref (ga K "_law_needs")) := c.glo 31 rfl
theorem g__law_equal_right (c : Fx P w K mg base) : mg "_law_equal_right" = some (.ref (ga K "_law_equal_right")) := c.glo 32 rfl
theorem g_law (c : Fx P w K mg base) : mg "law" = some (.ref (ga K "law")) := c.glo 33 rfl
theorem Fx.b_isinstance (c : Fx P w K mg base) : mg "isinstance" = none := c.free 34 rfl
theorem Fx.b_len (c : Fx P w K mg base) : mg "len" = none := c.free 35 rfl
theorem Fx.b_all (c : Fx P w K mg base) : mg "all" = none := c.free 36 rfl
theorem Fx.b_any (c : Fx P w K mg base) : mg "any" = none := c.free 37 rfl
theorem Fx.b_abs (c : Fx P w K mg base) : mg "abs" = none := c.free 38 rfl
theorem Fx.b_dict (c : Fx P w K mg base) : mg "dict" = none := c.free 39 rfl
theorem Fx.b_list (c : Fx P w K mg base) : mg "list" = none := c.free 40 rfl
theorem Fx.b_tuple (c : Fx P w K mg base) : mg "tuple" = none := c.free 41 rfl
theorem Fx.b_sorted (c : Fx P w K mg base) : mg "sorted" = none := c.free 42 rfl
theorem Fx.b_int (c : Fx P w K mg base) : mg "int" = none := c.free 43 rfl
theorem Fx.b_bool (c : Fx P w K mg base) : mg "bool" = none := c.free 44 rfl
theorem Fx.b_str (c : Fx P w K mg base) : mg "str" = none := c.free 45 rfl
theorem Fx.b_min (c : Fx P w K mg base) : mg "min" = none := c.free 46 rfl
theorem Fx.b_range (c : Fx P w K mg base) : mg "range" = none := c.free 47 rfl
theorem Fx.b_zip (c : Fx P w K mg base) : mg "zip" = none := c.free 48 rfl
theorem Fx.b_enumerate (c : Fx P w K mg base) : mg "enumerate" = none := c.free 49 rfl
theorem Fx.b_super (c : Fx P w K mg base) : mg "super" = none := c.free 50 rfl
theorem Fx.i_LONGEST_WORD (c : Fx P w K mg base) : ∃ t, mg "LONGEST_WORD" = some (.int 8 t) :=
  let ⟨_, hK, G, _⟩ := c.says
  int_ok hK G (c.fact 51 rfl)
theorem Fx.s_LETTERS (c : Fx P w K mg base) : ∃ t, mg "LETTERS" = some (.str "abcdefghijklmnopqrstuvwxyz" t) :=
  let ⟨_, hK, G, _⟩ := c.says
  str_ok hK G (c.fact 52 rfl)
theorem Fx.clsForm (c : Fx P w K mg base) : Cls K (ga K "Form") := cls_ok (c.fact 53 rfl)
theorem Fx.na_Form_parts (c : Fx P w K mg base) : NoAttr K (ga K "Form") "parts" := noat_ok (c.fact 54 rfl)
theorem Fx.na_Form_rest (c : Fx P w K mg base) : NoAttr K (ga K "Form") "rest" := noat_ok (c.fact 55 rfl)
theorem Fx.mkForm (c : Fx P w K mg base) : Mk K (ga K "Form") (ma K (ga K "Form") "__init__") := mkr_ok (c.fact 56 rfl)
theorem Fx.clsComparison (c : Fx P w K mg base) : Cls K (ga K "Comparison") := cls_ok (c.fact 57 rfl)
theorem Fx.na_Comparison_pairs (c : Fx P w K mg base) : NoAttr K (ga K "Comparison") "pairs" := noat_ok (c.fact 58 rfl)
theorem Fx.na_Comparison_constant (c : Fx P w K mg base) : NoAttr K (ga K "Comparison") "constant" := noat_ok (c.fact 59 rfl)
theorem Fx.mkComparison (c : Fx P w K mg base) : Mk K (ga K "Comparison") (ma K (ga K "Comparison") "__init__") := mkr_ok (c.fact 60 rfl)
theorem Fx.clsRule (c : Fx P w K mg base) : Cls K (ga K "Rule") := cls_ok (c.fact 61 rfl)
theorem Fx.na_Rule_name (c : Fx P w K mg base) : NoAttr K (ga K "Rule") "name" := noat_ok (c.fact 62 rfl)
theorem Fx.na_Rule_start (c : Fx P w K mg base) : NoAttr K (ga K "Rule") "start" := noat_ok (c.fact 63 rfl)
theorem Fx.na_Rule_end (c : Fx P w K mg base) : NoAttr K (ga K "Rule") "end" := noat_ok (c.fact 64 rfl)
theorem Fx.na_Rule_when (c : Fx P w K mg base) : NoAttr K (ga K "Rule") "when" := noat_ok (c.fact 65 rfl)
theorem Fx.na_Rule_says (c : Fx P w K mg base) : NoAttr K (ga K "Rule") "says" := noat_ok (c.fact 66 rfl)
theorem Fx.mkRule (c : Fx P w K mg base) : Mk K (ga K "Rule") (ma K (ga K "Rule") "__init__") := mkr_ok (c.fact 67 rfl)
theorem Fx.m_Formterms (c : Fx P w K mg base) : Meth K (ga K "Form") "terms" (ma K (ga K "Form") "terms") := meth_ok (c.fact 68 rfl)
theorem Fx.m_Form_add_ (c : Fx P w K mg base) : Meth K (ga K "Form") "__add__" (ma K (ga K "Form") "__add__") := meth_ok (c.fact 69 rfl)
theorem Fx.m_Form_radd_ (c : Fx P w K mg base) : Meth K (ga K "Form") "__radd__" (ma K (ga K "Form") "__radd__") := meth_ok (c.fact 70 rfl)
theorem Fx.m_Form_mul_ (c : Fx P w K mg base) : Meth K (ga K "Form") "__mul__" (ma K (ga K "Form") "__mul__") := meth_ok (c.fact 71 rfl)
theorem Fx.m_Form_rmul_ (c : Fx P w K mg base) : Meth K (ga K "Form") "__rmul__" (ma K (ga K "Form") "__rmul__") := meth_ok (c.fact 72 rfl)
theorem Fx.m_Comparisonterms (c : Fx P w K mg base) : Meth K (ga K "Comparison") "terms" (ma K (ga K "Comparison") "terms") := meth_ok (c.fact 73 rfl)
theorem Fx.m_Comparison_eq_ (c : Fx P w K mg base) : Meth K (ga K "Comparison") "__eq__" (ma K (ga K "Comparison") "__eq__") := meth_ok (c.fact 74 rfl)
theorem Fx.m_Rule_eq_ (c : Fx P w K mg base) : Meth K (ga K "Rule") "__eq__" (ma K (ga K "Rule") "__eq__") := meth_ok (c.fact 75 rfl)
theorem Fx.exm_BadWord_BadWord (c : Fx P w K mg base) : PySem.W.exmOne K (.ref (ga K "BadWord")) (.ref (ga K "BadWord")) = some true := exm_ok (c.fact 76 rfl)
theorem Fx.exm_BadCondition_BadWord (c : Fx P w K mg base) : PySem.W.exmOne K (.ref (ga K "BadCondition")) (.ref (ga K "BadWord")) = some false := exm_ok (c.fact 77 rfl)
theorem Fx.exm_BadCondition_BadCondition (c : Fx P w K mg base) : PySem.W.exmOne K (.ref (ga K "BadCondition")) (.ref (ga K "BadCondition")) = some true := exm_ok (c.fact 78 rfl)
theorem Fx.x_cls (c : Fx P w K mg base) : ex_cls K = true := c.more 0 rfl
theorem Fx.x_kit (c : Fx P w K mg base) : ex_kit K = true := c.more 1 rfl
theorem Fx.x_tne (c : Fx P w K mg base) : ex_tne K = true := c.more 2 rfl
theorem Fx.x_ne (c : Fx P w K mg base) : ex_ne K = true := c.more 3 rfl
theorem Fx.x_kt_KINDS (c : Fx P w K mg base) : ex_kt_KINDS K = true := c.more 4 rfl
theorem Fx.x_df0 (c : Fx P w K mg base) : ex_df0 K = true := c.more 5 rfl
theorem Fx.x_df1 (c : Fx P w K mg base) : ex_df1 K = true := c.more 6 rfl
theorem Fx.x_opadd (c : Fx P w K mg base) : ex_opadd K = true := c.more 7 rfl
theorem Fx.x_opmul (c : Fx P w K mg base) : ex_opmul K = true := c.more 8 rfl
theorem Fx.mT0 (c : Fx P w K mg base) : ((cT K ("ordered_pairs", none)).2, tq "ordered_pairs") ∈ (cl K).T := List.mem_map.mpr ⟨("ordered_pairs", none), List.mem_of_getElem? (i := 0) rfl, rfl⟩
theorem Fx.mT1 (c : Fx P w K mg base) : ((cT K ("law", none)).2, tq "law") ∈ (cl K).T := List.mem_map.mpr ⟨("law", none), List.mem_of_getElem? (i := 1) rfl, rfl⟩
theorem errT_BadWord : ErrT ⟨"BadWord", "word", "word", "this is no word, or it stood before", mth 2 0⟩ where
  body := ⟨_, _, _, _, _, _, _, _, _, _, _, rfl, rfl⟩
  arg := ⟨_, rfl, rfl⟩
  ne := by decide
  bind := fun _ _ _ _ _ _ _ _ _ _ _ => ⟨rfl, rfl⟩
  sup := rfl
  cls := rfl
  slf := rfl
  yy := rfl
  kind := rfl
  noc := by decide +kernel
  co := rfl
  gen := rfl
  dbg := by decide
theorem Fx.er_BadWord (c : Fx P w K mg base) : ErrK P K mg ((cl K).at_ 3) "word" ∧ XfC K ((cl K).at_ 3) := c.errE 0 rfl errT_BadWord c.b_super
theorem e_BadWord (c : Fx P w K mg base) : ErrK P K mg ((cl K).at_ 3) "word" := c.er_BadWord.1
theorem errT_BadCondition : ErrT ⟨"BadCondition", "index", "index", "there is no condition at this place", mth 5 0⟩ where
  body := ⟨_, _, _, _, _, _, _, _, _, _, _, rfl, rfl⟩
  arg := ⟨_, rfl, rfl⟩
  ne := by decide
  bind := fun _ _ _ _ _ _ _ _ _ _ _ => ⟨rfl, rfl⟩
  sup := rfl
  cls := rfl
  slf := rfl
  yy := rfl
  kind := rfl
  noc := by decide +kernel
  co := rfl
  gen := rfl
  dbg := by decide
theorem Fx.er_BadCondition (c : Fx P w K mg base) : ErrK P K mg ((cl K).at_ 4) "index" ∧ XfC K ((cl K).at_ 4) := c.errE 1 rfl errT_BadCondition c.b_super
theorem e_BadCondition (c : Fx P w K mg base) : ErrK P K mg ((cl K).at_ 4) "index" := c.er_BadCondition.1
theorem Fx.uT (c : Fx P w K mg base) {d : Defn} (hd : d ∈ tf) : ∀ p ∈ (cl K).T, p.1 = (cT K d).2 → p.2 = tq d.1 := fun p hp e => by
  obtain ⟨q, hq, rfl⟩ := List.mem_map.mp hp
  rw [nodup_inj (of_decide_eq_true c.x_tne) q hq d hd e]
theorem Fx.uT0 (c : Fx P w K mg base) : ∀ p ∈ (cl K).T, p.1 = (cT K ("ordered_pairs", none)).2 → p.2 = tq "ordered_pairs" := c.uT (d := ("ordered_pairs", none)) (List.mem_of_getElem? (i := 0) rfl)
theorem Fx.uT1 (c : Fx P w K mg base) : ∀ p ∈ (cl K).T, p.1 = (cT K ("law", none)).2 → p.2 = tq "law" := c.uT (d := ("law", none)) (List.mem_of_getElem? (i := 1) rfl)
theorem Fx.hcl (c : Fx P w K mg base) : ∀ n, n < csN.length → Cls K ((cl K).at_ n) := fun n h => by
  have h' : n = 0 ∨ n = 1 ∨ n = 2 := by have : csN.length = 3 := rfl; omega
  rcases h' with rfl | rfl | rfl
  · exact c.clsForm
  · exact c.clsComparison
  · exact c.clsRule
theorem hat : ∀ n, n < csN.length → (cl K).at_ n = ga K (csN.getD n "") := fun n h => by
  have h' : n = 0 ∨ n = 1 ∨ n = 2 := by have : csN.length = 3 := rfl; omega
  rcases h' with rfl | rfl | rfl <;> rfl
def ktForm : Kd → Option Bool := ktC 3 0
theorem kdForm (c : Fx P w K mg base) : KdOk (cl K) K [.ref (ga K "Form")] ktForm := kdC c.hcl hat c.x_cls c.x_kit 0 (by decide)
def ktComparison : Kd → Option Bool := ktC 3 1
theorem kdComparison (c : Fx P w K mg base) : KdOk (cl K) K [.ref (ga K "Comparison")] ktComparison := kdC c.hcl hat c.x_cls c.x_kit 1 (by decide)
def ktRule : Kd → Option Bool := ktC 3 2
theorem kdRule (c : Fx P w K mg base) : KdOk (cl K) K [.ref (ga K "Rule")] ktRule := kdC c.hcl hat c.x_cls c.x_kit 2 (by decide)
def ktE : Kd → Bool := ktQ 3
def ix_parts : Nat → Option Nat := fun c => match c with
  | 0 => some 0
  | _ => none
theorem f_parts (c : Fx P w K mg base) : FldOk (cl K) K "parts" ix_parts := fun n i e => by
  unfold ix_parts at e
  split at e
  · cases e; exact ⟨c.clsForm, c.na_Form_parts, rfl, (show (["parts", "rest"] : List Str).Nodup by decide), (show 2 < 1000 by decide)⟩
  · cases e
def ix_rest : Nat → Option Nat := fun c => match c with
  | 0 => some 1
  | _ => none
theorem f_rest (c : Fx P w K mg base) : FldOk (cl K) K "rest" ix_rest := fun n i e => by
  unfold ix_rest at e
  split at e
  · cases e; exact ⟨c.clsForm, c.na_Form_rest, rfl, (show (["parts", "rest"] : List Str).Nodup by decide), (show 2 < 1000 by decide)⟩
  · cases e
def ix_pairs : Nat → Option Nat := fun c => match c with
  | 1 => some 0
  | _ => none
theorem f_pairs (c : Fx P w K mg base) : FldOk (cl K) K "pairs" ix_pairs := fun n i e => by
  unfold ix_pairs at e
  split at e
  · cases e; exact ⟨c.clsComparison, c.na_Comparison_pairs, rfl, (show (["pairs", "constant"] : List Str).Nodup by decide), (show 2 < 1000 by decide)⟩
  · cases e
def ix_constant : Nat → Option Nat := fun c => match c with
  | 1 => some 1
  | _ => none
theorem f_constant (c : Fx P w K mg base) : FldOk (cl K) K "constant" ix_constant := fun n i e => by
  unfold ix_constant at e
  split at e
  · cases e; exact ⟨c.clsComparison, c.na_Comparison_constant, rfl, (show (["pairs", "constant"] : List Str).Nodup by decide), (show 2 < 1000 by decide)⟩
  · cases e
def ix_name : Nat → Option Nat := fun c => match c with
  | 2 => some 0
  | _ => none
theorem f_name (c : Fx P w K mg base) : FldOk (cl K) K "name" ix_name := fun n i e => by
  unfold ix_name at e
  split at e
  · cases e; exact ⟨c.clsRule, c.na_Rule_name, rfl, (show (["name", "start", "end", "when", "says"] : List Str).Nodup by decide), (show 5 < 1000 by decide)⟩
  · cases e
def ix_start : Nat → Option Nat := fun c => match c with
  | 2 => some 1
  | _ => none
theorem f_start (c : Fx P w K mg base) : FldOk (cl K) K "start" ix_start := fun n i e => by
  unfold ix_start at e
  split at e
  · cases e; exact ⟨c.clsRule, c.na_Rule_start, rfl, (show (["name", "start", "end", "when", "says"] : List Str).Nodup by decide), (show 5 < 1000 by decide)⟩
  · cases e
def ix_end : Nat → Option Nat := fun c => match c with
  | 2 => some 2
  | _ => none
theorem f_end (c : Fx P w K mg base) : FldOk (cl K) K "end" ix_end := fun n i e => by
  unfold ix_end at e
  split at e
  · cases e; exact ⟨c.clsRule, c.na_Rule_end, rfl, (show (["name", "start", "end", "when", "says"] : List Str).Nodup by decide), (show 5 < 1000 by decide)⟩
  · cases e
def ix_when : Nat → Option Nat := fun c => match c with
  | 2 => some 3
  | _ => none
theorem f_when (c : Fx P w K mg base) : FldOk (cl K) K "when" ix_when := fun n i e => by
  unfold ix_when at e
  split at e
  · cases e; exact ⟨c.clsRule, c.na_Rule_when, rfl, (show (["name", "start", "end", "when", "says"] : List Str).Nodup by decide), (show 5 < 1000 by decide)⟩
  · cases e
def ix_says : Nat → Option Nat := fun c => match c with
  | 2 => some 4
  | _ => none
theorem f_says (c : Fx P w K mg base) : FldOk (cl K) K "says" ix_says := fun n i e => by
  unfold ix_says at e
  split at e
  · cases e; exact ⟨c.clsRule, c.na_Rule_says, rfl, (show (["name", "start", "end", "when", "says"] : List Str).Nodup by decide), (show 5 < 1000 by decide)⟩
  · cases e
def v_KINDS : List Str := ["n", "t", "f", "at", "begun", "said", "heard", "u"]
theorem Fx.t_KINDS (c : Fx P w K mg base) : KTup K (ga K "KINDS") (v_KINDS.map V.str) := ktupB_ok c.x_kt_KINDS
end
end K5
set_option Elab.async false
set_option linter.all false
set_option maxRecDepth 100000
set_option maxHeartbeats 0
namespace K5
open PySem PySem.Spec PyProof.Rows L2 He MV
section
variable {P : Program} {w : World} {K : PySem.W.Frag} {mg : Str → Option Value} {base : Heap}
/-! is_integer -/
def F_is_integer : SDen := sRet (dAndV (dIsi (ktB ["int"]) (dVar 0)) (dNotV (dIsi (ktB ["bool"]) (dVar 0))))
theorem sc_is_integer : FnScope ["thing"] ["thing"] (defScope (top 11)) := ⟨rfl, rfl, rfl, by decide +kernel, rfl, by decide +kernel, by decide +kernel⟩
theorem FD_is_integer (c : Fx P w K mg base) : True ∧ ∃ fd, FunD K "is_integer" "is_integer" (defArgs (top 11)) (defBody (top 11)) (defScope (top 11)) [] [] (ga K "is_integer") fd := ⟨trivial, c.defs 11⟩
theorem b_is_integer (c : Fx P w K mg base) : Body P w K mg base (cl K) ["thing"] "is_integer" (defScope (top 11)) (ga K "is_integer") 0 (defBody (top 11)) F_is_integer := by
  have nd := sc_is_integer.nd
  exact body_of fun cdv A outer s H E W i => (ss_one (s_ret (d_and (d_isi1 (kd1 (by simp)) c.b_isinstance c.b_int rfl (d_var 0)) (d_one (d_not (d_isi1 (kd1 (by simp)) c.b_isinstance c.b_bool rfl (d_var 0)))))))
def pn_is_integer : PDen := runP F_is_integer 1
def fn_is_integer : FDen := liftP pn_is_integer
theorem x_is_integer (c : Fx P w K mg base) : FnX P w K mg base (cl K) "is_integer" 1 [] (bmN 1) [] fn_is_integer 1 :=
  let ⟨_, FD⟩ := (FD_is_integer c).2
  fnx_p FD (g_is_integer c) sc_is_integer rfl (fun _ _ _ _ _ _ us hl => match us, hl with | [_], _ => rfl) (b_is_integer c)
/-! is_list -/
def F_is_list : SDen := sRet (dIsi (ktB ["list", "tuple"]) (dVar 0))
theorem sc_is_list : FnScope ["thing"] ["thing"] (defScope (top 12)) := ⟨rfl, rfl, rfl, by decide +kernel, rfl, by decide +kernel, by decide +kernel⟩
theorem FD_is_list (c : Fx P w K mg base) : True ∧ ∃ fd, FunD K "is_list" "is_list" (defArgs (top 12)) (defBody (top 12)) (defScope (top 12)) [] [] (ga K "is_list") fd := ⟨trivial, c.defs 12⟩
theorem b_is_list (c : Fx P w K mg base) : Body P w K mg base (cl K) ["thing"] "is_list" (defScope (top 12)) (ga K "is_list") 0 (defBody (top 12)) F_is_list := by
  have nd := sc_is_list.nd
  exact body_of fun cdv A outer s H E W i => (ss_one (s_ret (d_isiT kdLT c.b_isinstance (d_var 0) (pa_cons (pe_ty c.b_list rfl) (pa_cons (pe_ty c.b_tuple rfl) pa_nil)) (.cons (.ty _) (.cons (.ty _) .nil)))))
def fn_is_list : FDen := runW F_is_list 1
theorem x_is_list (c : Fx P w K mg base) : FnX P w K mg base (cl K) "is_list" 1 [] (bmN 1) [] fn_is_list 1 :=
  let ⟨_, FD⟩ := (FD_is_list c).2
  fnx_w FD (g_is_list c) sc_is_list rfl (fun _ _ _ _ _ _ us hl => match us, hl with | [_], _ => rfl) (b_is_list c)
/-! is_word -/
def F_is_word : SDen := sRet (dAndV (dIsi (ktB ["str"]) (dVar 0)) (dAndV (dChain gLe gLe (dC (.int 1)) (dBlt (orL gLen gLenD) (dCons (dVar 0) (dNil))) (dC (.int 8))) (dBlt gAll (dCons (dLc (dIt (dVar 0)) (gNm 1) (tAll) (dOp gIn (dVar 1) (dC (.str "abcdefghijklmnopqrstuvwxyz"))) [1]) (dNil)))))
theorem sc_is_word : FnScope ["thing", "sign"] ["thing"] (defScope (top 13)) := ⟨rfl, rfl, rfl, by decide +kernel, rfl, by decide +kernel, by decide +kernel⟩
theorem FD_is_word (c : Fx P w K mg base) : True ∧ ∃ fd, FunD K "is_word" "is_word" (defArgs (top 13)) (defBody (top 13)) (defScope (top 13)) [] [] (ga K "is_word") fd := ⟨trivial, c.defs 13⟩
theorem b_is_word (c : Fx P w K mg base) : Body P w K mg base (cl K) ["thing", "sign"] "is_word" (defScope (top 13)) (ga K "is_word") 0 (defBody (top 13)) F_is_word := by
  have nd := sc_is_word.nd
  exact body_of fun cdv A outer s H E W i => (ss_one (s_ret (d_and (d_isi1 (kd1 (by simp)) c.b_isinstance c.b_str rfl (d_var 0)) (d_and (d_chain (op_le) (op_le) r_le r_le d_int (d_len  c.b_len (da_cons (d_var 0) da_nil)) (d_gInt c.i_LONGEST_WORD)) (d_one (d_all i.toIn c.b_all (da_cons (d_lc i.calm nd (di_seq (d_var 0)) (own := [("sign", 1)]) rfl (fun _ _ _ _ _ => (gc_name 1 nd)) (fun _ _ _ _ _ => dts_nil) (fun _ _ _ _ _ => (d_cmp (opInA i.blk) r_in (d_var 1) (d_gStr c.s_LETTERS) rfl))) da_nil)))))))
def pn_is_word : PDen := runP F_is_word 2
def fn_is_word : FDen := liftP pn_is_word
theorem x_is_word (c : Fx P w K mg base) : FnX P w K mg base (cl K) "is_word" 1 [] (bmN 1) [] fn_is_word 1 :=
  let ⟨_, FD⟩ := (FD_is_word c).2
  fnx_p FD (g_is_word c) sc_is_word rfl (fun _ _ _ _ _ _ us hl => match us, hl with | [_], _ => rfl) (b_is_word c)
/-! Form.__init__ -/
def F_Form : SDen := sSeq (sFldS ix_parts (dVar 0) (dBlt gDict (dCons (dLc (dIt (dVar 1)) (gTp 2 (gsCons (gNm 3) (gsCons (gNm 4) (gsNil)))) (dTest (dOp gNe (dVar 4) (dC (.int 0)))) (dTup (dCons (dVar 3) (dCons (dVar 4) (dNil)))) [3, 4]) (dNil)))) (sFldS ix_rest (dVar 0) (dVar 2))
theorem sc_Form : FnScope ["self", "pairs", "rest", "term", "many"] ["self", "pairs", "rest"] (defScope (mth 14 0)) := ⟨rfl, rfl, rfl, by decide +kernel, rfl, by decide +kernel, by decide +kernel⟩
theorem b_Form (c : Fx P w K mg base) : Body P w K mg base (cl K) ["self", "pairs", "rest", "term", "many"] ("Form" ++ "." ++ "__init__") (defScope (mth 14 0)) (ma K (ga K "Form") "__init__") 1 (defBody (mth 14 0)) F_Form := by
  have nd := sc_Form.nd
  exact body_of fun cdv A outer s H E W i => (ss_cons (s_fld (f_parts c) (d_var 0) (d_dict i.calm (i.room.mono (by decide)) c.b_dict (da_cons (d_lc i.calm nd (di_seq (d_var 1)) (own := [("term", 3), ("many", 4)]) rfl (fun _ _ _ _ _ => (gc_tup i.blk.calm (gcs_cons (gc_name 3 nd) (gcs_cons (gc_name 4 nd) gcs_nil)))) (fun _ _ _ _ _ => (dts_one (dt_cmp (opNeA i.blk) r_ne (d_var 4) d_int rfl))) (fun _ _ _ _ _ => (d_tup (da_cons (d_var 3) (da_cons (d_var 4) da_nil))))) da_nil))) (ss_one (s_fld (f_rest c) (d_var 0) (d_var 2))))
def fn_Form : FDen := runW F_Form 5
theorem x_Form (c : Fx P w K mg base) : MkX P w K mg base (cl K) 0 "Form" 2 [] (bmN 3) [] fn_Form 2 :=
  let ⟨_, FD⟩ := c.defs 0
  mkx_w (n := 2) FD c.mkForm (g_Form c) sc_Form rfl (fun _ _ _ _ _ _ us hl => match us, hl with | [_, _, _], _ => rfl) (b_Form c)
/-! ordered_pairs -/
def F_ordered_pairs : SDen := sRet (dSortK v_KINDS (dListItems (dVar 0)))
theorem sc_ordered_pairs : FnScope ["parts"] ["parts"] (defScope (top 16)) := ⟨rfl, rfl, rfl, by decide +kernel, rfl, by decide +kernel, by decide +kernel⟩
theorem FD_ordered_pairs (c : Fx P w K mg base) : True ∧ ∃ fd, FunD K "ordered_pairs" "ordered_pairs" (defArgs (top 16)) (defBody (top 16)) (defScope (top 16)) [] [] (ga K "ordered_pairs") fd := ⟨trivial, c.defs 14⟩
theorem b_ordered_pairs (c : Fx P w K mg base) : BodyAt P w K mg base (cl K) ["parts"] "ordered_pairs" (defScope (top 16)) (ga K "ordered_pairs") 1 (defBody (top 16)) F_ordered_pairs (.ref (He.cT K ("ordered_pairs", none)).1) := by
  have nd := sc_ordered_pairs.nd
  exact body_at fun A outer s H E W i => (ss_one (s_ret (d_sortK (d_listItems i.calm (d_var 0) c.b_list) c.b_sorted (g_KINDS c) c.t_KINDS (i.room.mono (by decide)) (c.tab 0) rfl c.mT0 c.uT0)))
def pn_ordered_pairs : PDen := runP F_ordered_pairs 1
def fn_ordered_pairs : FDen := liftP pn_ordered_pairs
theorem x_ordered_pairs (c : Fx P w K mg base) : FnX P w K mg base (cl K) "ordered_pairs" 1 [] (bmN 1) [] fn_ordered_pairs 2 :=
  let ⟨_, FD⟩ := (FD_ordered_pairs c).2
  fnx_pc (p := ("ordered_pairs", none)) FD (g_ordered_pairs c) sc_ordered_pairs rfl (fun _ _ _ _ _ _ us hl => match us, hl with | [_], _ => rfl) (b_ordered_pairs c)
/-! Form.terms -/
def F_Formterms : SDen := sRet (dCall (cPos (dCons (dFld ix_parts (dVar 0)) (dNil))) 1 0 (bmN 1) [] fn_ordered_pairs)
theorem sc_Formterms : FnScope ["self"] ["self"] (defScope (mth 14 1)) := ⟨rfl, rfl, rfl, by decide +kernel, rfl, by decide +kernel, by decide +kernel⟩
theorem b_Formterms (c : Fx P w K mg base) : Body P w K mg base (cl K) ["self"] ("Form" ++ "." ++ "terms") (defScope (mth 14 1)) (ma K (ga K "Form") "terms") 2 (defBody (mth 14 1)) F_Formterms := by
  have nd := sc_Formterms.nd
  exact body_of fun cdv A outer s H E W i => (ss_one (s_ret (d_call (x_ordered_pairs c) (i.room.mono (by first | decide | omega)) i.tk (dca_pos (da_cons (d_fld (f_parts c) (d_var 0)) da_nil)))))
def pn_Formterms : PDen := runP F_Formterms 1
def fn_Formterms : FDen := liftP pn_Formterms
theorem x_Formterms (c : Fx P w K mg base) : MtX P w K mg base (cl K) 0 "terms" 0 [] (bmN 1) [] fn_Formterms 3 :=
  let ⟨_, FD⟩ := c.defs 1
  mtx_p (n := 0) FD c.clsForm c.m_Formterms (show ("terms" : Str) ∉ (["parts", "rest"] : List Str) by decide) sc_Formterms rfl (fun _ _ _ _ _ _ us hl => match us, hl with | [_], _ => rfl) (b_Formterms c)
/-! Comparison.__init__ -/
def F_Comparison : SDen := sSeq (sFldS ix_pairs (dVar 0) (dVar 1)) (sFldS ix_constant (dVar 0) (dVar 2))
theorem sc_Comparison : FnScope ["self", "pairs", "constant"] ["self", "pairs", "constant"] (defScope (mth 15 0)) := ⟨rfl, rfl, rfl, by decide +kernel, rfl, by decide +kernel, by decide +kernel⟩
theorem b_Comparison (c : Fx P w K mg base) : Body P w K mg base (cl K) ["self", "pairs", "constant"] ("Comparison" ++ "." ++ "__init__") (defScope (mth 15 0)) (ma K (ga K "Comparison") "__init__") 0 (defBody (mth 15 0)) F_Comparison := by
  have nd := sc_Comparison.nd
  exact body_of fun cdv A outer s H E W i => (ss_cons (s_fld (f_pairs c) (d_var 0) (d_var 1)) (ss_one (s_fld (f_constant c) (d_var 0) (d_var 2))))
def fn_Comparison : FDen := runW F_Comparison 3
theorem x_Comparison (c : Fx P w K mg base) : MkX P w K mg base (cl K) 1 "Comparison" 2 [] (bmN 3) [] fn_Comparison 1 :=
  let ⟨_, FD⟩ := c.defs 6
  mkx_w (n := 2) FD c.mkComparison (g_Comparison c) sc_Comparison rfl (fun _ _ _ _ _ _ us hl => match us, hl with | [_, _, _], _ => rfl) (b_Comparison c)
/-! Comparison.terms -/
def F_Comparisonterms : SDen := sRet (dBlt gList (dCons (dFld ix_pairs (dVar 0)) (dNil)))
theorem sc_Comparisonterms : FnScope ["self"] ["self"] (defScope (mth 15 1)) := ⟨rfl, rfl, rfl, by decide +kernel, rfl, by decide +kernel, by decide +kernel⟩
theorem b_Comparisonterms (c : Fx P w K mg base) : Body P w K mg base (cl K) ["self"] ("Comparison" ++ "." ++ "terms") (defScope (mth 15 1)) (ma K (ga K "Comparison") "terms") 0 (defBody (mth 15 1)) F_Comparisonterms := by
  have nd := sc_Comparisonterms.nd
  exact body_of fun cdv A outer s H E W i => (ss_one (s_ret (d_list  c.b_list (da_cons (d_fld (f_pairs c) (d_var 0)) da_nil))))
def pn_Comparisonterms : PDen := runP F_Comparisonterms 1
def fn_Comparisonterms : FDen := liftP pn_Comparisonterms
theorem x_Comparisonterms (c : Fx P w K mg base) : MtX P w K mg base (cl K) 1 "terms" 0 [] (bmN 1) [] fn_Comparisonterms 1 :=
  let ⟨_, FD⟩ := c.defs 7
  mtx_p (n := 0) FD c.clsComparison c.m_Comparisonterms (show ("terms" : Str) ∉ (["pairs", "constant"] : List Str) by decide) sc_Comparisonterms rfl (fun _ _ _ _ _ _ us hl => match us, hl with | [_], _ => rfl) (b_Comparisonterms c)
/-! Comparison.__eq__ -/
def F_Comparison_eq_ : SDen := sRet (dAndV (dIsi ktComparison (dVar 1)) (dAndV (dOp gEqA (dFld ix_pairs (dVar 0)) (dFld ix_pairs (dVar 1))) (dOp gEqA (dFld ix_constant (dVar 0)) (dFld ix_constant (dVar 1)))))
theorem sc_Comparison_eq_ : FnScope ["self", "other"] ["self", "other"] (defScope (mth 15 2)) := ⟨rfl, rfl, rfl, by decide +kernel, rfl, by decide +kernel, by decide +kernel⟩
theorem b_Comparison_eq_ (c : Fx P w K mg base) : Body P w K mg base (cl K) ["self", "other"] ("Comparison" ++ "." ++ "__eq__") (defScope (mth 15 2)) (ma K (ga K "Comparison") "__eq__") 0 (defBody (mth 15 2)) F_Comparison_eq_ := by
  have nd := sc_Comparison_eq_.nd
  exact body_of fun cdv A outer s H E W i => (ss_one (s_ret (d_and (d_isiC (kdComparison c) c.b_isinstance (g_Comparison c) (d_var 1)) (d_and (d_cmp (opEqA i.toIn) r_eqA (d_fld (f_pairs c) (d_var 0)) (d_fld (f_pairs c) (d_var 1)) rfl) (d_one (d_cmp (opEqA i.toIn) r_eqA (d_fld (f_constant c) (d_var 0)) (d_fld (f_constant c) (d_var 1)) rfl))))))
def pn_Comparison_eq_ : PDen := runP F_Comparison_eq_ 2
def fn_Comparison_eq_ : FDen := liftP pn_Comparison_eq_
theorem x_Comparison_eq_ (c : Fx P w K mg base) : MtX P w K mg base (cl K) 1 "__eq__" 1 [] (bmN 2) [] fn_Comparison_eq_ 1 :=
  let ⟨_, FD⟩ := c.defs 8
  mtx_p (n := 1) FD c.clsComparison c.m_Comparison_eq_ (show ("__eq__" : Str) ∉ (["pairs", "constant"] : List Str) by decide) sc_Comparison_eq_ rfl (fun _ _ _ _ _ _ us hl => match us, hl with | [_, _], _ => rfl) (b_Comparison_eq_ c)
def sel_terms : Sel := fun c => match c with
  | 0 => some (bmN 1, [], fn_Formterms)
  | 1 => some (bmN 1, [], fn_Comparisonterms)
  | _ => none
theorem hsel_terms (c : Fx P w K mg base) {k : Nat} {X : Cx} (hr : Room (k + 3) X.A) : ∀ n bm dd fn, sel_terms n = some (bm, dd, fn) → ∃ lev, MtX P w K mg base (cl K) n "terms" 0 [] bm dd fn lev ∧ Room lev X.A := fun n bm dd fn e => by
  unfold sel_terms at e
  split at e
  · cases e; exact ⟨3, x_Formterms c, hr.mono (by omega)⟩
  · cases e; exact ⟨1, x_Comparisonterms c, hr.mono (by omega)⟩
  · cases e
/-! form_of -/
def F_form_of : SDen := sSeq (sIf (dTest (dIsi ktForm (dVar 0))) (sRet (dVar 0)) (sNext)) (sSeq (sIf (dNot (dTest (dCall (cPos (dCons (dVar 0) (dNil))) 1 0 (bmN 1) [] fn_is_integer))) (sNever) (sNext)) (sRet (dMakeP 0 (cPos (dCons (dLst (dNil)) (dCons (dVar 0) (dNil)))) 2 0 (bmN 3) [] fn_Form)))
theorem sc_form_of : FnScope ["thing"] ["thing"] (defScope (top 17)) := ⟨rfl, rfl, rfl, by decide +kernel, rfl, by decide +kernel, by decide +kernel⟩
theorem FD_form_of (c : Fx P w K mg base) : True ∧ ∃ fd, FunD K "form_of" "form_of" (defArgs (top 17)) (defBody (top 17)) (defScope (top 17)) [] [] (ga K "form_of") fd := ⟨trivial, c.defs 15⟩
theorem b_form_of (c : Fx P w K mg base) : Body P w K mg base (cl K) ["thing"] "form_of" (defScope (top 17)) (ga K "form_of") 3 (defBody (top 17)) F_form_of := by
  have nd := sc_form_of.nd
  exact body_of fun cdv A outer s H E W i => (ss_cons (s_if (dt_val (d_isiC (kdForm c) c.b_isinstance (g_Form c) (d_var 0))) (ss_one (s_ret (d_var 0))) ss_nil) (ss_cons (s_if (dt_not (dt_val (d_call (x_is_integer c) (i.room.mono (by first | decide | omega)) i.tk (dca_pos (da_cons (d_var 0) da_nil))))) (ss_one s_never) ss_nil) (ss_one (s_ret (d_makeP (x_Form c) (i.room.mono (by decide)) i.tk (dca_pos (da_cons (d_lst da_nil) (da_cons (d_var 0) da_nil))))))))
def pn_form_of : PDen := runP F_form_of 1
def fn_form_of : FDen := liftP pn_form_of
theorem x_form_of (c : Fx P w K mg base) : FnX P w K mg base (cl K) "form_of" 1 [] (bmN 1) [] fn_form_of 4 :=
  let ⟨_, FD⟩ := (FD_form_of c).2
  fnx_p FD (g_form_of c) sc_form_of rfl (fun _ _ _ _ _ _ us hl => match us, hl with | [_], _ => rfl) (b_form_of c)
/-! form_sum -/
def F_form_sum : SDen := sSeq (sSet 3 (dBlt gDictC (dCons (dFld ix_parts (dVar 0)) (dNil)))) (sSeq (sFor (dItems (dFld ix_parts (dVar 1))) (gTp 2 (gsCons (gNm 4) (gsCons (gNm 5) (gsNil)))) (sPut (dVar 3) (dVar 4) (dOp gAdd (dGet2 (dVar 3) (dVar 4) (dC (.int 0))) (dOp gMul (dVar 2) (dVar 5))))) (sRet (dMakeP 0 (cPos (dCons (dListItems (dVar 3)) (dCons (dOp gAdd (dFld ix_rest (dVar 0)) (dOp gMul (dVar 2) (dFld ix_rest (dVar 1)))) (dNil)))) 2 0 (bmN 3) [] fn_Form)))
theorem sc_form_sum : FnScope ["one", "other", "sign", "parts", "term", "many"] ["one", "other", "sign"] (defScope (top 18)) := ⟨rfl, rfl, rfl, by decide +kernel, rfl, by decide +kernel, by decide +kernel⟩
theorem FD_form_sum (c : Fx P w K mg base) : True ∧ ∃ fd, FunD K "form_sum" "form_sum" (defArgs (top 18)) (defBody (top 18)) (defScope (top 18)) [] [] (ga K "form_sum") fd := ⟨trivial, c.defs 16⟩
theorem b_form_sum (c : Fx P w K mg base) : Body P w K mg base (cl K) ["one", "other", "sign", "parts", "term", "many"] "form_sum" (defScope (top 18)) (ga K "form_sum") 3 (defBody (top 18)) F_form_sum := by
  have nd := sc_form_sum.nd
  exact body_of fun cdv A outer s H E W i => (ss_cons (s_set 3 nd (d_dictC (i.room.mono (by decide)) c.b_dict (da_cons (d_fld (f_parts c) (d_var 0)) da_nil))) (ss_cons (s_for i.po i.calm (di_items (d_fld (f_parts c) (d_var 1))) (g_tup i.calm (gs_cons (g_name 4 nd) (gs_cons (g_name 5 nd) gs_nil))) (ss_one (s_put i.uu (d_var 3) (d_var 4) (d_add (d_get2' i.uu (d_var 3) (d_var 4) d_int) (d_mul (d_var 2) (d_var 5))))) i.cl) (ss_one (s_ret (d_makeP (x_Form c) (i.room.mono (by decide)) i.tk (dca_pos (da_cons (d_listItems i.calm (d_var 3) c.b_list) (da_cons (d_add (d_fld (f_rest c) (d_var 0)) (d_mul (d_var 2) (d_fld (f_rest c) (d_var 1)))) da_nil))))))))
def pn_form_sum : PDen := runP F_form_sum 6
def fn_form_sum : FDen := liftP pn_form_sum
theorem x_form_sum (c : Fx P w K mg base) : FnX P w K mg base (cl K) "form_sum" 3 [] (bmN 3) [] fn_form_sum 4 :=
  let ⟨_, FD⟩ := (FD_form_sum c).2
  fnx_p FD (g_form_sum c) sc_form_sum rfl (fun _ _ _ _ _ _ us hl => match us, hl with | [_, _, _], _ => rfl) (b_form_sum c)
/-! form_times -/
def F_form_times : SDen := sSeq (sIf (dNot (dTest (dCall (cPos (dCons (dVar 1) (dNil))) 1 0 (bmN 1) [] fn_is_integer))) (sNever) (sNext)) (sRet (dMakeP 0 (cPos (dCons (dLc (dItems (dFld ix_parts (dVar 0))) (gTp 2 (gsCons (gNm 2) (gsCons (gNm 3) (gsNil)))) (tAll) (dTup (dCons (dVar 2) (dCons (dOp gMul (dVar 1) (dVar 3)) (dNil)))) [2, 3]) (dCons (dOp gMul (dVar 1) (dFld ix_rest (dVar 0))) (dNil)))) 2 0 (bmN 3) [] fn_Form))
theorem sc_form_times : FnScope ["form", "number", "term", "many"] ["form", "number"] (defScope (top 19)) := ⟨rfl, rfl, rfl, by decide +kernel, rfl, by decide +kernel, by decide +kernel⟩
theorem FD_form_times (c : Fx P w K mg base) : True ∧ ∃ fd, FunD K "form_times" "form_times" (defArgs (top 19)) (defBody (top 19)) (defScope (top 19)) [] [] (ga K "form_times") fd := ⟨trivial, c.defs 17⟩
theorem b_form_times (c : Fx P w K mg base) : Body P w K mg base (cl K) ["form", "number", "term", "many"] "form_times" (defScope (top 19)) (ga K "form_times") 3 (defBody (top 19)) F_form_times := by
  have nd := sc_form_times.nd
  exact body_of fun cdv A outer s H E W i => (ss_cons (s_if (dt_not (dt_val (d_call (x_is_integer c) (i.room.mono (by first | decide | omega)) i.tk (dca_pos (da_cons (d_var 1) da_nil))))) (ss_one s_never) ss_nil) (ss_one (s_ret (d_makeP (x_Form c) (i.room.mono (by decide)) i.tk (dca_pos (da_cons (d_lc i.calm nd (di_items (d_fld (f_parts c) (d_var 0))) (own := [("term", 2), ("many", 3)]) rfl (fun _ _ _ _ _ => (gc_tup i.blk.calm (gcs_cons (gc_name 2 nd) (gcs_cons (gc_name 3 nd) gcs_nil)))) (fun _ _ _ _ _ => dts_nil) (fun _ _ _ _ _ => (d_tup (da_cons (d_var 2) (da_cons (d_mul (d_var 1) (d_var 3)) da_nil))))) (da_cons (d_mul (d_var 1) (d_fld (f_rest c) (d_var 0))) da_nil)))))))
def pn_form_times : PDen := runP F_form_times 4
def fn_form_times : FDen := liftP pn_form_times
theorem x_form_times (c : Fx P w K mg base) : FnX P w K mg base (cl K) "form_times" 2 [] (bmN 2) [] fn_form_times 4 :=
  let ⟨_, FD⟩ := (FD_form_times c).2
  fnx_p FD (g_form_times c) sc_form_times rfl (fun _ _ _ _ _ _ us hl => match us, hl with | [_, _], _ => rfl) (b_form_times c)
/-! Form.__add__ -/
def F_Form_add_ : SDen := sRet (dCall (cPos (dCons (dVar 0) (dCons (dCall (cPos (dCons (dVar 1) (dNil))) 1 0 (bmN 1) [] fn_form_of) (dCons (dC (.int 1)) (dNil))))) 3 0 (bmN 3) [] fn_form_sum)
theorem sc_Form_add_ : FnScope ["self", "other"] ["self", "other"] (defScope (mth 14 2)) := ⟨rfl, rfl, rfl, by decide +kernel, rfl, by decide +kernel, by decide +kernel⟩
theorem b_Form_add_ (c : Fx P w K mg base) : Body P w K mg base (cl K) ["self", "other"] ("Form" ++ "." ++ "__add__") (defScope (mth 14 2)) (ma K (ga K "Form") "__add__") 4 (defBody (mth 14 2)) F_Form_add_ := by
  have nd := sc_Form_add_.nd
  exact body_of fun cdv A outer s H E W i => (ss_one (s_ret (d_call (x_form_sum c) (i.room.mono (by first | decide | omega)) i.tk (dca_pos (da_cons (d_var 0) (da_cons (d_call (x_form_of c) (i.room.mono (by first | decide | omega)) i.tk (dca_pos (da_cons (d_var 1) da_nil))) (da_cons d_int da_nil)))))))
def pn_Form_add_ : PDen := runP F_Form_add_ 2
def fn_Form_add_ : FDen := liftP pn_Form_add_
theorem x_Form_add_ (c : Fx P w K mg base) : MtX P w K mg base (cl K) 0 "__add__" 1 [] (bmN 2) [] fn_Form_add_ 5 :=
  let ⟨_, FD⟩ := c.defs 2
  mtx_p (n := 1) FD c.clsForm c.m_Form_add_ (show ("__add__" : Str) ∉ (["parts", "rest"] : List Str) by decide) sc_Form_add_ rfl (fun _ _ _ _ _ _ us hl => match us, hl with | [_, _], _ => rfl) (b_Form_add_ c)
/-! Form.__radd__ -/
def F_Form_radd_ : SDen := sRet (dCall (cPos (dCons (dCall (cPos (dCons (dVar 1) (dNil))) 1 0 (bmN 1) [] fn_form_of) (dCons (dVar 0) (dCons (dC (.int 1)) (dNil))))) 3 0 (bmN 3) [] fn_form_sum)
theorem sc_Form_radd_ : FnScope ["self", "other"] ["self", "other"] (defScope (mth 14 3)) := ⟨rfl, rfl, rfl, by decide +kernel, rfl, by decide +kernel, by decide +kernel⟩
theorem b_Form_radd_ (c : Fx P w K mg base) : Body P w K mg base (cl K) ["self", "other"] ("Form" ++ "." ++ "__radd__") (defScope (mth 14 3)) (ma K (ga K "Form") "__radd__") 4 (defBody (mth 14 3)) F_Form_radd_ := by
  have nd := sc_Form_radd_.nd
  exact body_of fun cdv A outer s H E W i => (ss_one (s_ret (d_call (x_form_sum c) (i.room.mono (by first | decide | omega)) i.tk (dca_pos (da_cons (d_call (x_form_of c) (i.room.mono (by first | decide | omega)) i.tk (dca_pos (da_cons (d_var 1) da_nil))) (da_cons (d_var 0) (da_cons d_int da_nil)))))))
def pn_Form_radd_ : PDen := runP F_Form_radd_ 2
def fn_Form_radd_ : FDen := liftP pn_Form_radd_
theorem x_Form_radd_ (c : Fx P w K mg base) : MtX P w K mg base (cl K) 0 "__radd__" 1 [] (bmN 2) [] fn_Form_radd_ 5 :=
  let ⟨_, FD⟩ := c.defs 3
  mtx_p (n := 1) FD c.clsForm c.m_Form_radd_ (show ("__radd__" : Str) ∉ (["parts", "rest"] : List Str) by decide) sc_Form_radd_ rfl (fun _ _ _ _ _ _ us hl => match us, hl with | [_, _], _ => rfl) (b_Form_radd_ c)
/-! Form.__mul__ -/
def F_Form_mul_ : SDen := sRet (dCall (cPos (dCons (dVar 0) (dCons (dVar 1) (dNil)))) 2 0 (bmN 2) [] fn_form_times)
theorem sc_Form_mul_ : FnScope ["self", "other"] ["self", "other"] (defScope (mth 14 6)) := ⟨rfl, rfl, rfl, by decide +kernel, rfl, by decide +kernel, by decide +kernel⟩
theorem b_Form_mul_ (c : Fx P w K mg base) : Body P w K mg base (cl K) ["self", "other"] ("Form" ++ "." ++ "__mul__") (defScope (mth 14 6)) (ma K (ga K "Form") "__mul__") 4 (defBody (mth 14 6)) F_Form_mul_ := by
  have nd := sc_Form_mul_.nd
  exact body_of fun cdv A outer s H E W i => (ss_one (s_ret (d_call (x_form_times c) (i.room.mono (by first | decide | omega)) i.tk (dca_pos (da_cons (d_var 0) (da_cons (d_var 1) da_nil))))))
def pn_Form_mul_ : PDen := runP F_Form_mul_ 2
def fn_Form_mul_ : FDen := liftP pn_Form_mul_
theorem x_Form_mul_ (c : Fx P w K mg base) : MtX P w K mg base (cl K) 0 "__mul__" 1 [] (bmN 2) [] fn_Form_mul_ 5 :=
  let ⟨_, FD⟩ := c.defs 4
  mtx_p (n := 1) FD c.clsForm c.m_Form_mul_ (show ("__mul__" : Str) ∉ (["parts", "rest"] : List Str) by decide) sc_Form_mul_ rfl (fun _ _ _ _ _ _ us hl => match us, hl with | [_, _], _ => rfl) (b_Form_mul_ c)
/-! Form.__rmul__ -/
def F_Form_rmul_ : SDen := sRet (dCall (cPos (dCons (dVar 0) (dCons (dVar 1) (dNil)))) 2 0 (bmN 2) [] fn_form_times)
theorem sc_Form_rmul_ : FnScope ["self", "other"] ["self", "other"] (defScope (mth 14 7)) := ⟨rfl, rfl, rfl, by decide +kernel, rfl, by decide +kernel, by decide +kernel⟩
theorem b_Form_rmul_ (c : Fx P w K mg base) : Body P w K mg base (cl K) ["self", "other"] ("Form" ++ "." ++ "__rmul__") (defScope (mth 14 7)) (ma K (ga K "Form") "__rmul__") 4 (defBody (mth 14 7)) F_Form_rmul_ := by
  have nd := sc_Form_rmul_.nd
  exact body_of fun cdv A outer s H E W i => (ss_one (s_ret (d_call (x_form_times c) (i.room.mono (by first | decide | omega)) i.tk (dca_pos (da_cons (d_var 0) (da_cons (d_var 1) da_nil))))))
def pn_Form_rmul_ : PDen := runP F_Form_rmul_ 2
def fn_Form_rmul_ : FDen := liftP pn_Form_rmul_
theorem x_Form_rmul_ (c : Fx P w K mg base) : MtX P w K mg base (cl K) 0 "__rmul__" 1 [] (bmN 2) [] fn_Form_rmul_ 5 :=
  let ⟨_, FD⟩ := c.defs 5
  mtx_p (n := 1) FD c.clsForm c.m_Form_rmul_ (show ("__rmul__" : Str) ∉ (["parts", "rest"] : List Str) by decide) sc_Form_rmul_ rfl (fun _ _ _ _ _ _ us hl => match us, hl with | [_, _], _ => rfl) (b_Form_rmul_ c)
end
end K5
set_option Elab.async false
set_option linter.all false
set_option maxRecDepth 100000
set_option maxHeartbeats 0
namespace K5
open PySem PySem.Spec PyProof.Rows L2 He MV
section
variable {P : Program} {w : World} {K : PySem.W.Frag} {mg : Str → Option Value} {base : Heap}
theorem sqT_k {K : PySem.W.Frag} {a : Addr} {vs : List V} (h : KTup K a vs) : ∀ H, SqT K H a vs := fun H => .inr (by
  obtain ⟨o, its, n, h1, h2, h3, h4, h5, h6⟩ := h
  exact ⟨o, its, n, h1, h2, by assumption, h5, h6⟩)
/-! divisor_of -/
def F_divisor_of : SDen := sSeq (sSet 1 (dC (.int 0))) (sSeq (sFor (dIt (dVar 0)) (gNm 2) (sSeq (sPar 3 1 (dCons (dBlt gAbs (dCons (dVar 2) (dNil))) (dCons (dVar 1) (dNil)))) (sWhile (dTest (dOp gGt (dVar 3) (dC (.int 0)))) (sPar 3 1 (dCons (dOp gMod (dVar 1) (dVar 3)) (dCons (dVar 3) (dNil)))) 64))) (sRet (dVar 1)))
theorem sc_divisor_of : FnScope ["numbers", "found", "number", "one"] ["numbers"] (defScope (top 20)) := ⟨rfl, rfl, rfl, by decide +kernel, rfl, by decide +kernel, by decide +kernel⟩
theorem FD_divisor_of (c : Fx P w K mg base) : True ∧ ∃ fd, FunD K "divisor_of" "divisor_of" (defArgs (top 20)) (defBody (top 20)) (defScope (top 20)) [] [] (ga K "divisor_of") fd := ⟨trivial, c.defs 18⟩
theorem b_divisor_of (c : Fx P w K mg base) : Body P w K mg base (cl K) ["numbers", "found", "number", "one"] "divisor_of" (defScope (top 20)) (ga K "divisor_of") 0 (defBody (top 20)) F_divisor_of := by
  have nd := sc_divisor_of.nd
  exact body_of fun cdv A outer s H E W i => (ss_cons (s_set 1 nd d_int) (ss_cons (s_for i.po i.calm (di_seq (d_var 0)) (g_name 2 nd) (ss_cons (s_par 3 1 i.calm nd (da_cons (d_abs  c.b_abs (da_cons (d_var 2) da_nil)) (da_cons (d_var 1) da_nil))) (ss_one (s_while 64 i.po (dt_cmp (op_gt) r_gt (d_var 3) d_int rfl) (ss_one (s_par 3 1 i.calm nd (da_cons (d_mod (d_var 1) (d_var 3)) (da_cons (d_var 3) da_nil))))))) i.cl) (ss_one (s_ret (d_var 1)))))
def pn_divisor_of : PDen := runP F_divisor_of 4
def fn_divisor_of : FDen := liftP pn_divisor_of
theorem x_divisor_of (c : Fx P w K mg base) : FnX P w K mg base (cl K) "divisor_of" 1 [] (bmN 1) [] fn_divisor_of 1 :=
  let ⟨_, FD⟩ := (FD_divisor_of c).2
  fnx_p FD (g_divisor_of c) sc_divisor_of rfl (fun _ _ _ _ _ _ us hl => match us, hl with | [_], _ => rfl) (b_divisor_of c)
/-! compared -/
def F_compared : SDen := sSeq (sSet 3 (dCall (cPos (dCons (dVar 0) (dCons (dVar 1) (dCons (dNeg (dC (.int 1))) (dNil))))) 3 0 (bmN 3) [] fn_form_sum)) (sSeq (sSet 4 (dMeth (dVar 3) (cNone) 0 0 sel_terms)) (sSeq (sIf (dTest (dOp gEqA (dVar 4) (dLst (dNil)))) (sNever) (sNext)) (sSeq (sSet 5 (dCall (cPos (dCons (dLc (dIt (dVar 4)) (gTp 2 (gsCons (gNm 7) (gsCons (gNm 8) (gsNil)))) (tAll) (dVar 8) [7, 8]) (dNil))) 1 0 (bmN 1) [] fn_divisor_of)) (sSeq (sSet 6 (dNeg (dOp gDiv (dOp (gI fun i j Y => mkI (i - j) Y) (dFld ix_rest (dVar 3)) (dVar 2)) (dVar 5)))) (sSeq (sIf (dTest (dOp gNotIn (dVar 6) (dTup (dCons (dC (.int 0)) (dCons (dC (.int 1)) (dNil)))))) (sNever) (sNext)) (sRet (dMakeP 1 (cPos (dCons (dLc (dIt (dVar 4)) (gTp 2 (gsCons (gNm 7) (gsCons (gNm 8) (gsNil)))) (tAll) (dTup (dCons (dVar 7) (dCons (dOp gDiv (dVar 8) (dVar 5)) (dNil)))) [7, 8]) (dCons (dVar 6) (dNil)))) 2 0 (bmN 3) [] fn_Comparison)))))))
theorem sc_compared : FnScope ["greater", "lesser", "more", "form", "pairs", "part", "constant", "term", "many"] ["greater", "lesser", "more"] (defScope (top 21)) := ⟨rfl, rfl, rfl, by decide +kernel, rfl, by decide +kernel, by decide +kernel⟩
theorem FD_compared (c : Fx P w K mg base) : True ∧ ∃ fd, FunD K "compared" "compared" (defArgs (top 21)) (defBody (top 21)) (defScope (top 21)) [] [] (ga K "compared") fd := ⟨trivial, c.defs 19⟩
theorem b_compared (c : Fx P w K mg base) : Body P w K mg base (cl K) ["greater", "lesser", "more", "form", "pairs", "part", "constant", "term", "many"] "compared" (defScope (top 21)) (ga K "compared") 4 (defBody (top 21)) F_compared := by
  have nd := sc_compared.nd
  exact body_of fun cdv A outer s H E W i => (ss_cons (s_set 3 nd (d_call (x_form_sum c) (i.room.mono (by first | decide | omega)) i.tk (dca_pos (da_cons (d_var 0) (da_cons (d_var 1) (da_cons (d_neg d_int) da_nil)))))) (ss_cons (s_set 4 nd (d_meth (hsel_terms c i.room) i.tk (d_var 3) dca_none)) (ss_cons (s_if (dt_cmp (opEqA i.toIn) r_eqA (d_var 4) (d_lst da_nil) rfl) (ss_one s_never) ss_nil) (ss_cons (s_set 5 nd (d_call (x_divisor_of c) (i.room.mono (by first | decide | omega)) i.tk (dca_pos (da_cons (d_lc i.calm nd (di_seq (d_var 4)) (own := [("term", 7), ("many", 8)]) rfl (fun _ _ _ _ _ => (gc_tup i.blk.calm (gcs_cons (gc_name 7 nd) (gcs_cons (gc_name 8 nd) gcs_nil)))) (fun _ _ _ _ _ => dts_nil) (fun _ _ _ _ _ => (d_var 8))) da_nil)))) (ss_cons (s_set 6 nd (d_neg (d_fdiv (d_sub (d_fld (f_rest c) (d_var 3)) (d_var 2)) (d_var 5)))) (ss_cons (s_if (dt_cmp (opNotInA i.toIn) r_notIn (d_var 6) (d_tup (da_cons d_int (da_cons d_int da_nil))) rfl) (ss_one s_never) ss_nil) (ss_one (s_ret (d_makeP (x_Comparison c) (i.room.mono (by decide)) i.tk (dca_pos (da_cons (d_lc i.calm nd (di_seq (d_var 4)) (own := [("term", 7), ("many", 8)]) rfl (fun _ _ _ _ _ => (gc_tup i.blk.calm (gcs_cons (gc_name 7 nd) (gcs_cons (gc_name 8 nd) gcs_nil)))) (fun _ _ _ _ _ => dts_nil) (fun _ _ _ _ _ => (d_tup (da_cons (d_var 7) (da_cons (d_fdiv (d_var 8) (d_var 5)) da_nil))))) (da_cons (d_var 6) da_nil))))))))))))
def pn_compared : PDen := runP F_compared 9
def fn_compared : FDen := liftP pn_compared
theorem x_compared (c : Fx P w K mg base) : FnX P w K mg base (cl K) "compared" 3 [] (bmN 3) [] fn_compared 5 :=
  let ⟨_, FD⟩ := (FD_compared c).2
  fnx_p FD (g_compared c) sc_compared rfl (fun _ _ _ _ _ _ us hl => match us, hl with | [_, _, _], _ => rfl) (b_compared c)
/-! term_of -/
def F_term_of : SDen := sSeq (sIf (dNot (dTest (dCall (cPos (dCons (dVar 1) (dNil))) 1 0 (bmN 1) [] fn_is_word))) (sRaise 3 "word" (dCons (dVar 1) (dNil))) (sNext)) (sRet (dMakeP 0 (cPos (dCons (dLst (dCons (dTup (dCons (dTup (dCons (dVar 0) (dCons (dVar 1) (dNil)))) (dCons (dC (.int 1)) (dNil)))) (dNil))) (dCons (dC (.int 0)) (dNil)))) 2 0 (bmN 3) [] fn_Form))
theorem sc_term_of : FnScope ["kind", "word"] ["kind", "word"] (defScope (top 22)) := ⟨rfl, rfl, rfl, by decide +kernel, rfl, by decide +kernel, by decide +kernel⟩
theorem FD_term_of (c : Fx P w K mg base) : True ∧ ∃ fd, FunD K "term_of" "term_of" (defArgs (top 22)) (defBody (top 22)) (defScope (top 22)) [] [] (ga K "term_of") fd := ⟨trivial, c.defs 20⟩
theorem b_term_of (c : Fx P w K mg base) : Body P w K mg base (cl K) ["kind", "word"] "term_of" (defScope (top 22)) (ga K "term_of") 3 (defBody (top 22)) F_term_of := by
  have nd := sc_term_of.nd
  exact body_of fun cdv A outer s H E W i => (ss_cons (s_if (dt_not (dt_val (d_call (x_is_word c) (i.room.mono (by first | decide | omega)) i.tk (dca_pos (da_cons (d_var 1) da_nil))))) (ss_one (s_raise 3 i.calm i.tk (i.room.mono (by decide)) (e_BadWord c) (g_BadWord c) (da_cons (d_var 1) da_nil))) ss_nil) (ss_one (s_ret (d_makeP (x_Form c) (i.room.mono (by decide)) i.tk (dca_pos (da_cons (d_lst (da_cons (d_tup (da_cons (d_tup (da_cons (d_var 0) (da_cons (d_var 1) da_nil))) (da_cons d_int da_nil))) da_nil)) (da_cons d_int da_nil)))))))
def pn_term_of : PDen := runP F_term_of 2
def fn_term_of : FDen := liftP pn_term_of
theorem x_term_of (c : Fx P w K mg base) : FnX P w K mg base (cl K) "term_of" 2 [] (bmN 2) [] fn_term_of 4 :=
  let ⟨_, FD⟩ := (FD_term_of c).2
  fnx_p FD (g_term_of c) sc_term_of rfl (fun _ _ _ _ _ _ us hl => match us, hl with | [_, _], _ => rfl) (b_term_of c)
/-! members -/
def F_members : SDen := sRet (dMakeP 0 (cPos (dCons (dLst (dCons (dTup (dCons (dTup (dCons (dC (.str "n")) (dNil))) (dCons (dC (.int 1)) (dNil)))) (dNil))) (dCons (dC (.int 0)) (dNil)))) 2 0 (bmN 3) [] fn_Form)
theorem sc_members : FnScope [] [] (defScope (top 23)) := ⟨rfl, rfl, rfl, by decide +kernel, rfl, by decide +kernel, by decide +kernel⟩
theorem FD_members (c : Fx P w K mg base) : True ∧ ∃ fd, FunD K "members" "members" (defArgs (top 23)) (defBody (top 23)) (defScope (top 23)) [] [] (ga K "members") fd := ⟨trivial, c.defs 21⟩
theorem b_members (c : Fx P w K mg base) : Body P w K mg base (cl K) [] "members" (defScope (top 23)) (ga K "members") 3 (defBody (top 23)) F_members := by
  have nd := sc_members.nd
  exact body_of fun cdv A outer s H E W i => (ss_one (s_ret (d_makeP (x_Form c) (i.room.mono (by decide)) i.tk (dca_pos (da_cons (d_lst (da_cons (d_tup (da_cons (d_tup (da_cons d_str da_nil)) (da_cons d_int da_nil))) da_nil)) (da_cons d_int da_nil))))))
def pn_members : PDen := runP F_members 0
def fn_members : FDen := liftP pn_members
theorem x_members (c : Fx P w K mg base) : FnX P w K mg base (cl K) "members" 0 [] (bmN 0) [] fn_members 4 :=
  let ⟨_, FD⟩ := (FD_members c).2
  fnx_p FD (g_members c) sc_members rfl (fun _ _ _ _ _ _ us hl => match us, hl with | [], _ => rfl) (b_members c)
/-! bound -/
def F_bound : SDen := sRet (dMakeP 0 (cPos (dCons (dLst (dCons (dTup (dCons (dTup (dCons (dC (.str "t")) (dNil))) (dCons (dC (.int 1)) (dNil)))) (dNil))) (dCons (dC (.int 0)) (dNil)))) 2 0 (bmN 3) [] fn_Form)
theorem sc_bound : FnScope [] [] (defScope (top 24)) := ⟨rfl, rfl, rfl, by decide +kernel, rfl, by decide +kernel, by decide +kernel⟩
theorem FD_bound (c : Fx P w K mg base) : True ∧ ∃ fd, FunD K "bound" "bound" (defArgs (top 24)) (defBody (top 24)) (defScope (top 24)) [] [] (ga K "bound") fd := ⟨trivial, c.defs 22⟩
theorem b_bound (c : Fx P w K mg base) : Body P w K mg base (cl K) [] "bound" (defScope (top 24)) (ga K "bound") 3 (defBody (top 24)) F_bound := by
  have nd := sc_bound.nd
  exact body_of fun cdv A outer s H E W i => (ss_one (s_ret (d_makeP (x_Form c) (i.room.mono (by decide)) i.tk (dca_pos (da_cons (d_lst (da_cons (d_tup (da_cons (d_tup (da_cons d_str da_nil)) (da_cons d_int da_nil))) da_nil)) (da_cons d_int da_nil))))))
def pn_bound : PDen := runP F_bound 0
def fn_bound : FDen := liftP pn_bound
theorem x_bound (c : Fx P w K mg base) : FnX P w K mg base (cl K) "bound" 0 [] (bmN 0) [] fn_bound 4 :=
  let ⟨_, FD⟩ := (FD_bound c).2
  fnx_p FD (g_bound c) sc_bound rfl (fun _ _ _ _ _ _ us hl => match us, hl with | [], _ => rfl) (b_bound c)
/-! at_least -/
def F_at_least : SDen := sRet (dCall (cPos (dCons (dCall (cPos (dCons (dVar 0) (dNil))) 1 0 (bmN 1) [] fn_form_of) (dCons (dCall (cPos (dCons (dVar 1) (dNil))) 1 0 (bmN 1) [] fn_form_of) (dCons (dC (.int 0)) (dNil))))) 3 0 (bmN 3) [] fn_compared)
theorem sc_at_least : FnScope ["one", "other"] ["one", "other"] (defScope (top 25)) := ⟨rfl, rfl, rfl, by decide +kernel, rfl, by decide +kernel, by decide +kernel⟩
theorem FD_at_least (c : Fx P w K mg base) : True ∧ ∃ fd, FunD K "at_least" "at_least" (defArgs (top 25)) (defBody (top 25)) (defScope (top 25)) [] [] (ga K "at_least") fd := ⟨trivial, c.defs 23⟩
theorem b_at_least (c : Fx P w K mg base) : Body P w K mg base (cl K) ["one", "other"] "at_least" (defScope (top 25)) (ga K "at_least") 5 (defBody (top 25)) F_at_least := by
  have nd := sc_at_least.nd
  exact body_of fun cdv A outer s H E W i => (ss_one (s_ret (d_call (x_compared c) (i.room.mono (by first | decide | omega)) i.tk (dca_pos (da_cons (d_call (x_form_of c) (i.room.mono (by first | decide | omega)) i.tk (dca_pos (da_cons (d_var 0) da_nil))) (da_cons (d_call (x_form_of c) (i.room.mono (by first | decide | omega)) i.tk (dca_pos (da_cons (d_var 1) da_nil))) (da_cons d_int da_nil)))))))
def pn_at_least : PDen := runP F_at_least 2
def fn_at_least : FDen := liftP pn_at_least
theorem x_at_least (c : Fx P w K mg base) : FnX P w K mg base (cl K) "at_least" 2 [] (bmN 2) [] fn_at_least 6 :=
  let ⟨_, FD⟩ := (FD_at_least c).2
  fnx_p FD (g_at_least c) sc_at_least rfl (fun _ _ _ _ _ _ us hl => match us, hl with | [_, _], _ => rfl) (b_at_least c)
/-! at -/
def F_at : SDen := sRet (dCall (cPos (dCons (dC (.str "at")) (dCons (dVar 0) (dNil)))) 2 0 (bmN 2) [] fn_term_of)
theorem sc_at : FnScope ["place"] ["place"] (defScope (top 26)) := ⟨rfl, rfl, rfl, by decide +kernel, rfl, by decide +kernel, by decide +kernel⟩
theorem FD_at (c : Fx P w K mg base) : True ∧ ∃ fd, FunD K "at" "at" (defArgs (top 26)) (defBody (top 26)) (defScope (top 26)) [] [] (ga K "at") fd := ⟨trivial, c.defs 24⟩
theorem b_at (c : Fx P w K mg base) : Body P w K mg base (cl K) ["place"] "at" (defScope (top 26)) (ga K "at") 4 (defBody (top 26)) F_at := by
  have nd := sc_at.nd
  exact body_of fun cdv A outer s H E W i => (ss_one (s_ret (d_call (x_term_of c) (i.room.mono (by first | decide | omega)) i.tk (dca_pos (da_cons d_str (da_cons (d_var 0) da_nil))))))
def pn_at : PDen := runP F_at 1
def fn_at : FDen := liftP pn_at
theorem x_at (c : Fx P w K mg base) : FnX P w K mg base (cl K) "at" 1 [] (bmN 1) [] fn_at 5 :=
  let ⟨_, FD⟩ := (FD_at c).2
  fnx_p FD (g_at c) sc_at rfl (fun _ _ _ _ _ _ us hl => match us, hl with | [_], _ => rfl) (b_at c)
/-! heard -/
def F_heard : SDen := sSeq (sSet 1 (dLstR (dNil))) (sSeq (sFor (dIt (dVar 0)) (gNm 2) (sSeq (sIf (dOr (dNot (dTest (dCall (cPos (dCons (dVar 2) (dNil))) 1 0 (bmN 1) [] fn_is_word))) (dTest (dOp gIn (dVar 2) (dVar 1)))) (sRaise 3 "word" (dCons (dVar 2) (dNil))) (sNext)) (sExpr (dBm gAppend (dVar 1) (dCons (dVar 2) (dNil)))))) (sSeq (sIf (dTest (dOp gEqA (dVar 1) (dLst (dNil)))) (sRaise 3 "word" (dCons (dTup (dNil)) (dNil))) (sNext)) (sRet (dMakeP 0 (cPos (dCons (dLst (dCons (dTup (dCons (dBlt gTup (dCons (dOp gAdd (dLst (dCons (dC (.str "heard")) (dNil))) (dBlt (orL gSortS gSortI) (dCons (dVar 1) (dNil)))) (dNil))) (dCons (dC (.int 1)) (dNil)))) (dNil))) (dCons (dC (.int 0)) (dNil)))) 2 0 (bmN 3) [] fn_Form))))
theorem sc_heard : FnScope ["sorts", "known", "word"] ["sorts"] (defScope (top 27)) := ⟨rfl, rfl, rfl, by decide +kernel, rfl, by decide +kernel, by decide +kernel⟩
theorem FD_heard (c : Fx P w K mg base) : True ∧ ∃ fd, FunD K "heard" "heard" (defArgs (top 27)) (defBody (top 27)) (defScope (top 27)) [] [] (ga K "heard") fd := ⟨trivial, c.defs 25⟩
theorem b_heard (c : Fx P w K mg base) : Body P w K mg base (cl K) ["sorts", "known", "word"] "heard" (defScope (top 27)) (ga K "heard") 3 (defBody (top 27)) F_heard := by
  have nd := sc_heard.nd
  exact body_of fun cdv A outer s H E W i => (ss_cons (s_set 1 nd (d_lstR da_nil)) (ss_cons (s_for i.po i.calm (di_seq (d_var 0)) (g_name 2 nd) (ss_cons (s_if (DW.dt (dw_or (dt_not (dt_val (d_call (x_is_word c) (i.room.mono (by first | decide | omega)) i.tk (dca_pos (da_cons (d_var 2) da_nil))))) (dw_or1 (dt_cmp (opInA i.toIn) r_in (d_var 2) (d_var 1) rfl)))) (ss_one (s_raise 3 i.calm i.tk (i.room.mono (by decide)) (e_BadWord c) (g_BadWord c) (da_cons (d_var 2) da_nil))) ss_nil) (ss_one (s_expr (d_append (d_var 1) (da_cons (d_var 2) da_nil))))) i.cl) (ss_cons (s_if (dt_cmp (opEqA i.toIn) r_eqA (d_var 1) (d_lst da_nil) rfl) (ss_one (s_raise 3 i.calm i.tk (i.room.mono (by decide)) (e_BadWord c) (g_BadWord c) (da_cons (d_tup da_nil) da_nil))) ss_nil) (ss_one (s_ret (d_makeP (x_Form c) (i.room.mono (by decide)) i.tk (dca_pos (da_cons (d_lst (da_cons (d_tup (da_cons (d_tuple  c.b_tuple (da_cons (d_add (d_lst (da_cons d_str da_nil)) (d_sorted  c.b_sorted (da_cons (d_var 1) da_nil))) da_nil)) (da_cons d_int da_nil))) da_nil)) (da_cons d_int da_nil)))))))))
def pn_heard : PDen := runP F_heard 3
def fn_heard : FDen := liftP pn_heard
theorem x_heard (c : Fx P w K mg base) : FnS P w K mg base (cl K) "heard" fn_heard 4 :=
  let ⟨_, FD⟩ := (FD_heard c).2
  fns_p FD sc_heard (fun _ _ _ _ _ _ us => by cases us <;> rfl) (g_heard c) (b_heard c)
/-! is_condition -/
def F_is_condition : SDen := sSeq (sIf (dNot (dTest (dIsi ktComparison (dVar 0)))) (sRet (dC (.bl false))) (sNext)) (sSeq (sSet 1 (dLc (dIt (dMeth (dVar 0) (cNone) 0 0 sel_terms)) (gTp 2 (gsCons (gNm 2) (gsCons (gNm 3) (gsNil)))) (dTest (dOp gEqA (dOp gItem (dVar 2) (dC (.int 0))) (dC (.str "heard")))) (dVar 3) [2, 3])) (sSeq (sIf (dOr (dTest (dOp gNe (dBlt (orL gLen gLenD) (dCons (dVar 1) (dNil))) (dC (.int 1)))) (dTest (dOp gLt (dOp gItem (dVar 1) (dC (.int 0))) (dC (.int 1))))) (sRet (dC (.bl false))) (sNext)) (sRet (dBlt gAll (dCons (dLc (dIt (dMeth (dVar 0) (cNone) 0 0 sel_terms)) (gTp 2 (gsCons (gNm 2) (gsCons (gNm 3) (gsNil)))) (tAll) (dOp gIn (dOp gItem (dVar 2) (dC (.int 0))) (dTup (dCons (dC (.str "n")) (dCons (dC (.str "t")) (dCons (dC (.str "heard")) (dNil)))))) [2, 3]) (dNil))))))
theorem sc_is_condition : FnScope ["thing", "heard_ones", "term", "many"] ["thing"] (defScope (top 29)) := ⟨rfl, rfl, rfl, by decide +kernel, rfl, by decide +kernel, by decide +kernel⟩
theorem FD_is_condition (c : Fx P w K mg base) : True ∧ ∃ fd, FunD K "is_condition" "is_condition" (defArgs (top 29)) (defBody (top 29)) (defScope (top 29)) [] [] (ga K "is_condition") fd := ⟨trivial, c.defs 26⟩
theorem b_is_condition (c : Fx P w K mg base) : Body P w K mg base (cl K) ["thing", "heard_ones", "term", "many"] "is_condition" (defScope (top 29)) (ga K "is_condition") 3 (defBody (top 29)) F_is_condition := by
  have nd := sc_is_condition.nd
  exact body_of fun cdv A outer s H E W i => (ss_cons (s_if (dt_not (dt_val (d_isiC (kdComparison c) c.b_isinstance (g_Comparison c) (d_var 0)))) (ss_one (s_ret d_bl)) ss_nil) (ss_cons (s_setLc 1 i.calm nd (di_seq (d_meth (hsel_terms c i.room) i.tk (d_var 0) dca_none)) (own := [("term", 2), ("many", 3)]) rfl (fun _ _ _ _ _ => (gc_tup i.blk.calm (gcs_cons (gc_name 2 nd) (gcs_cons (gc_name 3 nd) gcs_nil)))) (fun _ _ _ _ _ => (dts_one (dt_cmp (opEqA i.blk) r_eqA (d_item i.blk.uu (d_var 2) d_int) d_str rfl))) (fun _ _ _ _ _ => (d_var 3))) (ss_cons (s_if (DW.dt (dw_or (dt_cmp (opNeA i.toIn) r_ne (d_len  c.b_len (da_cons (d_var 1) da_nil)) d_int rfl) (dw_or1 (dt_cmp (op_lt) r_lt (d_item i.uu (d_var 1) d_int) d_int rfl)))) (ss_one (s_ret d_bl)) ss_nil) (ss_one (s_ret (d_all i.toIn c.b_all (da_cons (d_lc i.calm nd (di_seq (d_meth (hsel_terms c i.room) i.tk (d_var 0) dca_none)) (own := [("term", 2), ("many", 3)]) rfl (fun _ _ _ _ _ => (gc_tup i.blk.calm (gcs_cons (gc_name 2 nd) (gcs_cons (gc_name 3 nd) gcs_nil)))) (fun _ _ _ _ _ => dts_nil) (fun _ _ _ _ _ => (d_cmp (opInA i.blk) r_in (d_item i.blk.uu (d_var 2) d_int) (d_tup (da_cons d_str (da_cons d_str (da_cons d_str da_nil)))) rfl))) da_nil)))))))
def pn_is_condition : PDen := runP F_is_condition 4
def fn_is_condition : FDen := liftP pn_is_condition
theorem x_is_condition (c : Fx P w K mg base) : FnX P w K mg base (cl K) "is_condition" 1 [] (bmN 1) [] fn_is_condition 4 :=
  let ⟨_, FD⟩ := (FD_is_condition c).2
  fnx_p FD (g_is_condition c) sc_is_condition rfl (fun _ _ _ _ _ _ us hl => match us, hl with | [_], _ => rfl) (b_is_condition c)
/-! check_unlike -/
def F_check_unlike : SDen := sForN (dItN (dVar 0)) (gNm 2) (sSeq (sIf (dOr (dNot (dTest (dCall (cPos (dCons (dVar 2) (dNil))) 1 0 (bmN 1) [] fn_is_word))) (dTest (dOp gIn (dVar 2) (dVar 1)))) (sRaise 3 "word" (dCons (dVar 2) (dNil))) (sNext)) (sSet 1 (dOp gAdd (dVar 1) (dLst (dCons (dVar 2) (dNil))))))
theorem sc_check_unlike : FnScope ["words", "known", "word"] ["words", "known"] (defScope (top 30)) := ⟨rfl, rfl, rfl, by decide +kernel, rfl, by decide +kernel, by decide +kernel⟩
theorem FD_check_unlike (c : Fx P w K mg base) : True ∧ ∃ fd, FunD K "check_unlike" "check_unlike" (defArgs (top 30)) (defBody (top 30)) (defScope (top 30)) [] [] (ga K "check_unlike") fd := ⟨trivial, c.defs 27⟩
theorem b_check_unlike (c : Fx P w K mg base) : Body P w K mg base (cl K) ["words", "known", "word"] "check_unlike" (defScope (top 30)) (ga K "check_unlike") 1 (defBody (top 30)) F_check_unlike := by
  have nd := sc_check_unlike.nd
  exact body_of fun cdv A outer s H E W i => (ss_one (s_forN i.po i.calm (dn_seq (d_var 0)) (g_name 2 nd) (ss_cons (s_if (DW.dt (dw_or (dt_not (dt_val (d_call (x_is_word c) (i.room.mono (by first | decide | omega)) i.tk (dca_pos (da_cons (d_var 2) da_nil))))) (dw_or1 (dt_cmp (opInA i.toIn) r_in (d_var 2) (d_var 1) rfl)))) (ss_one (s_raise 3 i.calm i.tk (i.room.mono (by decide)) (e_BadWord c) (g_BadWord c) (da_cons (d_var 2) da_nil))) ss_nil) (ss_one (s_set 1 nd (d_add (d_var 1) (d_lst (da_cons (d_var 2) da_nil)))))) i.cl))
def fn_check_unlike : FDen := runW F_check_unlike 3
theorem x_check_unlike (c : Fx P w K mg base) : FnX P w K mg base (cl K) "check_unlike" 2 [] (bmN 2) [] fn_check_unlike 2 :=
  let ⟨_, FD⟩ := (FD_check_unlike c).2
  fnx_w FD (g_check_unlike c) sc_check_unlike rfl (fun _ _ _ _ _ _ us hl => match us, hl with | [_, _], _ => rfl) (b_check_unlike c)
/-! Rule.__init__ -/
def F_Rule : SDen := sSeq (sFor (dIt (dTup (dCons (dVar 1) (dCons (dVar 2) (dCons (dVar 3) (dNil)))))) (gNm 6) (sExpr (dCall (cPos (dCons (dLst (dCons (dVar 6) (dNil))) (dCons (dLst (dNil)) (dNil)))) 2 0 (bmN 2) [] fn_check_unlike))) (sSeq (sIf (dNot (dTest (dCall (cPos (dCons (dVar 5) (dNil))) 1 0 (bmN 1) [] fn_is_list))) (sRaise 3 "word" (dCons (dVar 5) (dNil))) (sNext)) (sSeq (sExpr (dCall (cPos (dCons (dVar 5) (dCons (dLst (dNil)) (dNil)))) 2 0 (bmN 2) [] fn_check_unlike)) (sSeq (sIf (dNot (dTest (dCall (cPos (dCons (dVar 4) (dNil))) 1 0 (bmN 1) [] fn_is_list))) (sRaise 4 "index" (dCons (dC (.int 0)) (dNil))) (sNext)) (sSeq (sForN (dEnumN (dCons (dVar 4) (dNil))) (gTp 2 (gsCons (gNm 7) (gsCons (gNm 8) (gsNil)))) (sIf (dNot (dTest (dCall (cPos (dCons (dVar 8) (dNil))) 1 0 (bmN 1) [] fn_is_condition))) (sRaise 4 "index" (dCons (dVar 7) (dNil))) (sNext))) (sSeq (sFldS ix_name (dVar 0) (dVar 1)) (sSeq (sFldS ix_start (dVar 0) (dVar 2)) (sSeq (sFldS ix_end (dVar 0) (dVar 3)) (sSeq (sFldS ix_when (dVar 0) (dBlt gTup (dCons (dVar 4) (dNil)))) (sFldS ix_says (dVar 0) (dBlt gTup (dCons (dBlt (orL gSortS gSortT) (dCons (dVar 5) (dNil))) (dNil))))))))))))
theorem sc_Rule : FnScope ["self", "name", "start", "end", "when", "says", "word", "index", "thing"] ["self", "name", "start", "end", "when", "says"] (defScope (mth 31 0)) := ⟨rfl, rfl, rfl, by decide +kernel, rfl, by decide +kernel, by decide +kernel⟩
theorem b_Rule (c : Fx P w K mg base) : Body P w K mg base (cl K) ["self", "name", "start", "end", "when", "says", "word", "index", "thing"] ("Rule" ++ "." ++ "__init__") (defScope (mth 31 0)) (ma K (ga K "Rule") "__init__") 4 (defBody (mth 31 0)) F_Rule := by
  have nd := sc_Rule.nd
  exact body_of fun cdv A outer s H E W i => (ss_cons (s_for i.po i.calm (di_seq (d_tup (da_cons (d_var 1) (da_cons (d_var 2) (da_cons (d_var 3) da_nil))))) (g_name 6 nd) (ss_one (s_expr (d_call (x_check_unlike c) (i.room.mono (by first | decide | omega)) i.tk (dca_pos (da_cons (d_lst (da_cons (d_var 6) da_nil)) (da_cons (d_lst da_nil) da_nil)))))) i.cl) (ss_cons (s_if (dt_not (dt_val (d_call (x_is_list c) (i.room.mono (by first | decide | omega)) i.tk (dca_pos (da_cons (d_var 5) da_nil))))) (ss_one (s_raise 3 i.calm i.tk (i.room.mono (by decide)) (e_BadWord c) (g_BadWord c) (da_cons (d_var 5) da_nil))) ss_nil) (ss_cons (s_expr (d_call (x_check_unlike c) (i.room.mono (by first | decide | omega)) i.tk (dca_pos (da_cons (d_var 5) (da_cons (d_lst da_nil) da_nil))))) (ss_cons (s_if (dt_not (dt_val (d_call (x_is_list c) (i.room.mono (by first | decide | omega)) i.tk (dca_pos (da_cons (d_var 4) da_nil))))) (ss_one (s_raise 4 i.calm i.tk (i.room.mono (by decide)) (e_BadCondition c) (g_BadCondition c) (da_cons d_int da_nil))) ss_nil) (ss_cons (s_forN i.po i.calm (dn_enum c.b_enumerate (da_cons (d_var 4) da_nil)) (g_tup i.calm (gs_cons (g_name 7 nd) (gs_cons (g_name 8 nd) gs_nil))) (ss_one (s_if (dt_not (dt_val (d_call (x_is_condition c) (i.room.mono (by first | decide | omega)) i.tk (dca_pos (da_cons (d_var 8) da_nil))))) (ss_one (s_raise 4 i.calm i.tk (i.room.mono (by decide)) (e_BadCondition c) (g_BadCondition c) (da_cons (d_var 7) da_nil))) ss_nil)) i.cl) (ss_cons (s_fld (f_name c) (d_var 0) (d_var 1)) (ss_cons (s_fld (f_start c) (d_var 0) (d_var 2)) (ss_cons (s_fld (f_end c) (d_var 0) (d_var 3)) (ss_cons (s_fld (f_when c) (d_var 0) (d_tuple  c.b_tuple (da_cons (d_var 4) da_nil))) (ss_one (s_fld (f_says c) (d_var 0) (d_tuple  c.b_tuple (da_cons (d_sortedT c.b_sorted (da_cons (d_var 5) da_nil)) da_nil)))))))))))))
def fn_Rule : FDen := runW F_Rule 9
theorem x_Rule5 (c : Fx P w K mg base) : MkX P w K mg base (cl K) 2 "Rule" 5 [] (bmN 6) [.ktup [], .ktup []] fn_Rule 5 :=
  let ⟨_, FD⟩ := c.defs 9
  mkx_d (n := 5) (bm := (bmN 6)) FD c.mkRule (g_Rule c) sc_Rule rfl (mbnD FD (List.cons_ne_nil _ _) (by
    intro T kV doc pm an cdv ct us ws its l h1 h2 h3 h4
    have h1 : us.length = 6 := h1
    have h2 : ws.length = 0 := h2
    have h3 : its.length = 2 := h3
    exact match us, ws, its, h1, h2, h3, h4 with
    | [u0, u1, u2, u3, u4, u5], [], [d0, d1], _, _, _, h4 => by
      cases (show some [u0, u1, u2, u3, u4, u5] = some l from h4)
      (first | exact Or.inl rfl | exact Or.inr ⟨_, rfl, rfl⟩))) (fun B => .cons (.ktup (sqT_k (ktup0_ok c.x_df0)) (Nat.zero_le _) .nil) (.cons (.ktup (sqT_k (ktup0_ok c.x_df1)) (Nat.zero_le _) .nil) .nil)) (b_Rule c)
theorem x_Rule3 (c : Fx P w K mg base) : MkX P w K mg base (cl K) 2 "Rule" 3 [] (bmN 4 ++ [Bd.d 0, Bd.d 1]) [.ktup [], .ktup []] fn_Rule 5 :=
  let ⟨_, FD⟩ := c.defs 9
  mkx_d (n := 3) (bm := (bmN 4 ++ [Bd.d 0, Bd.d 1])) FD c.mkRule (g_Rule c) sc_Rule rfl (mbnD FD (List.cons_ne_nil _ _) (by
    intro T kV doc pm an cdv ct us ws its l h1 h2 h3 h4
    have h1 : us.length = 4 := h1
    have h2 : ws.length = 0 := h2
    have h3 : its.length = 2 := h3
    exact match us, ws, its, h1, h2, h3, h4 with
    | [u0, u1, u2, u3], [], [d0, d1], _, _, _, h4 => by
      cases (show some [u0, u1, u2, u3, d0, d1] = some l from h4)
      (first | exact Or.inl rfl | exact Or.inr ⟨_, rfl, rfl⟩))) (fun B => .cons (.ktup (sqT_k (ktup0_ok c.x_df0)) (Nat.zero_le _) .nil) (.cons (.ktup (sqT_k (ktup0_ok c.x_df1)) (Nat.zero_le _) .nil) .nil)) (b_Rule c)
def selP : Nat → Option PDen := fun c => match c with
  | 1 => some pn_Comparison_eq_
  | _ => none
theorem eqs {X : Cx} {W : WX} {k : Nat} (i : In X W k) (c : Fx X.prog X.w X.K X.mg X.base) : EqS X (cl X.K) 1 selP ktE := ⟨fun n f e => by
  unfold selP at e
  split at e
  · cases e; exact ⟨1, Nat.le_refl _, x_Comparison_eq_ c, kdQ c.hcl hat c.x_cls (by decide)⟩
  · cases e⟩
/-! Rule.__eq__ -/
def F_Rule_eq_ : SDen := sSeq (sIf (dOr (dNot (dTest (dIsi ktRule (dVar 1)))) (dTest (dOp gNe (dTup (dCons (dFld ix_name (dVar 0)) (dCons (dFld ix_start (dVar 0)) (dCons (dFld ix_end (dVar 0)) (dNil))))) (dTup (dCons (dFld ix_name (dVar 1)) (dCons (dFld ix_start (dVar 1)) (dCons (dFld ix_end (dVar 1)) (dNil)))))))) (sRet (dC (.bl false))) (sNext)) (sRet (dAndV (dOp (gEqW selP ktE 3) (dFld ix_when (dVar 0)) (dFld ix_when (dVar 1))) (dOp gEqA (dFld ix_says (dVar 0)) (dFld ix_says (dVar 1)))))
theorem sc_Rule_eq_ : FnScope ["self", "other"] ["self", "other"] (defScope (mth 31 1)) := ⟨rfl, rfl, rfl, by decide +kernel, rfl, by decide +kernel, by decide +kernel⟩
theorem b_Rule_eq_ (c : Fx P w K mg base) : Body P w K mg base (cl K) ["self", "other"] ("Rule" ++ "." ++ "__eq__") (defScope (mth 31 1)) (ma K (ga K "Rule") "__eq__") 4 (defBody (mth 31 1)) F_Rule_eq_ := by
  have nd := sc_Rule_eq_.nd
  exact body_of fun cdv A outer s H E W i => (ss_cons (s_if (DW.dt (dw_or (dt_not (dt_val (d_isiC (kdRule c) c.b_isinstance (g_Rule c) (d_var 1)))) (dw_or1 (dt_cmp (opNeA i.toIn) r_ne (d_tup (da_cons (d_fld (f_name c) (d_var 0)) (da_cons (d_fld (f_start c) (d_var 0)) (da_cons (d_fld (f_end c) (d_var 0)) da_nil)))) (d_tup (da_cons (d_fld (f_name c) (d_var 1)) (da_cons (d_fld (f_start c) (d_var 1)) (da_cons (d_fld (f_end c) (d_var 1)) da_nil)))) rfl)))) (ss_one (s_ret d_bl)) ss_nil) (ss_one (s_ret (d_and (d_cmp (opEqW (k := 2) i.toIn (eqs i.toIn c) (by decide)) r_eqW (d_fld (f_when c) (d_var 0)) (d_fld (f_when c) (d_var 1)) rfl) (d_one (d_cmp (opEqA i.toIn) r_eqA (d_fld (f_says c) (d_var 0)) (d_fld (f_says c) (d_var 1)) rfl))))))
def pn_Rule_eq_ : PDen := runP F_Rule_eq_ 2
def fn_Rule_eq_ : FDen := liftP pn_Rule_eq_
theorem x_Rule_eq_ (c : Fx P w K mg base) : MtX P w K mg base (cl K) 2 "__eq__" 1 [] (bmN 2) [] fn_Rule_eq_ 5 :=
  let ⟨_, FD⟩ := c.defs 10
  mtx_p (n := 1) FD c.clsRule c.m_Rule_eq_ (show ("__eq__" : Str) ∉ (["name", "start", "end", "when", "says"] : List Str) by decide) sc_Rule_eq_ rfl (fun _ _ _ _ _ _ us hl => match us, hl with | [_, _], _ => rfl) (b_Rule_eq_ c)
def selEq : Nat → Option FDen := fun c => match c with
  | 2 => some fn_Rule_eq_
  | _ => none
theorem heq {X : Cx} {W : WX} {k : Nat} (i : In X W k) (c : Fx X.prog X.w X.K X.mg X.base) (hk : 6 ≤ k) : ∀ n fn, selEq n = some fn → ∃ lev, EqC X (cl X.K) n fn lev ktE := fun n fn e => by
  unfold selEq at e
  split at e
  · cases e; exact ⟨5, eqC_of c.hcl hat c.x_cls c.x_ne (by decide) (x_Rule_eq_ c) (i.room.mono hk)⟩
  · cases e
def selAdd : Nat → Option FDen := sel1 0 fn_Form_add_
def rselAdd : Nat → Option FDen := sel1 0 fn_Form_radd_
theorem binAdd {X : Cx} {W : WX} {k : Nat} (i : In X W k) (c : Fx X.prog X.w X.K X.mg X.base) (hk : 5 ≤ k) : BinC X (cl X.K) .Add selAdd rselAdd := binC_of (x := "Form") nm_add nm_radd decl_add rfl c.x_opadd (x_Form_add_ c) (x_Form_radd_ c) (i.room.mono hk) (i.room.mono hk)
def selMul : Nat → Option FDen := sel1 0 fn_Form_mul_
def rselMul : Nat → Option FDen := sel1 0 fn_Form_rmul_
theorem binMul {X : Cx} {W : WX} {k : Nat} (i : In X W k) (c : Fx X.prog X.w X.K X.mg X.base) (hk : 5 ≤ k) : BinC X (cl X.K) .Mult selMul rselMul := binC_of (x := "Form") nm_mul nm_rmul decl_mul rfl c.x_opmul (x_Form_mul_ c) (x_Form_rmul_ c) (i.room.mono hk) (i.room.mono hk)
end
end K5
set_option Elab.async false
set_option linter.all false
set_option maxRecDepth 100000
set_option maxHeartbeats 0
namespace K5
open PySem PySem.Spec PyProof.Rows L2 He MV
section
variable {P : Program} {w : World} {K : PySem.W.Frag} {mg : Str → Option Value} {base : Heap}
/-! _law_source -/
def F__law_source : SDen := sSeq (sSet 2 (dIf (dTest (dOp gLt (dVar 1) (dBlt (orL gLen gLenD) (dCons (dVar 0) (dNil))))) (dOp gItem (dVar 0) (dVar 1)) (dOp gAdd (dOp gMul (dC (.int 13)) (dVar 1)) (dC (.int 3))))) (sRet (dLstR (dCons (dIf (dTest (dOp gGe (dVar 2) (dOp gPow (dC (.int 10)) (dC (.int 18))))) (dVar 2) (dC (.int 0))) (dCons (dOp gMod (dBlt gInt (dCons (dVar 2) (dNil))) (dC (.int 2147483629))) (dCons (dC (.int 0)) (dNil))))))
theorem sc__law_source : FnScope ["_law_script", "_law_place", "_law_cell"] ["_law_script", "_law_place"] (defScope (top 33)) := ⟨rfl, rfl, rfl, by decide +kernel, rfl, by decide +kernel, by decide +kernel⟩
theorem FD__law_source (c : Fx P w K mg base) : True ∧ ∃ fd, FunD K "_law_source" "_law_source" (defArgs (top 33)) (defBody (top 33)) (defScope (top 33)) [] [] (ga K "_law_source") fd := ⟨trivial, c.defs 28⟩
theorem b__law_source (c : Fx P w K mg base) : Body P w K mg base (cl K) ["_law_script", "_law_place", "_law_cell"] "_law_source" (defScope (top 33)) (ga K "_law_source") 0 (defBody (top 33)) F__law_source := by
  have nd := sc__law_source.nd
  exact body_of fun cdv A outer s H E W i => (ss_cons (s_set 2 nd (d_ifexp (dt_cmp (op_lt) r_lt (d_var 1) (d_len  c.b_len (da_cons (d_var 0) da_nil)) rfl) (d_item i.uu (d_var 0) (d_var 1)) (d_add (d_mul d_int (d_var 1)) d_int))) (ss_one (s_ret (d_lstR (da_cons (d_ifexp (dt_cmp (op_ge) r_ge (d_var 2) (d_pow d_int d_int) rfl) (d_var 2) d_int) (da_cons (d_mod (d_intc  c.b_int (da_cons (d_var 2) da_nil)) d_int) (da_cons d_int da_nil)))))))
def fn__law_source : FDen := runW F__law_source 3
theorem x__law_source (c : Fx P w K mg base) : FnX P w K mg base (cl K) "_law_source" 2 [] (bmN 2) [] fn__law_source 1 :=
  let ⟨_, FD⟩ := (FD__law_source c).2
  fnx_w FD (g__law_source c) sc__law_source rfl (fun _ _ _ _ _ _ us hl => match us, hl with | [_, _], _ => rfl) (b__law_source c)
/-! _law_draw -/
def F__law_draw : SDen := sSeq (sIf (dTest (dOp gGt (dOp gItem (dVar 0) (dC (.int 0))) (dC (.int 0)))) (sSeq (sSet 2 (dOp gMod (dBlt gInt (dCons (dOp gItem (dVar 0) (dC (.int 0))) (dNil))) (dVar 1))) (sSeq (sPut (dVar 0) (dC (.int 0)) (dOp gDiv (dOp gItem (dVar 0) (dC (.int 0))) (dVar 1))) (sRet (dVar 2)))) (sNext)) (sSeq (sPut (dVar 0) (dC (.int 2)) (dOp gAdd (dOp gItem (dVar 0) (dC (.int 2))) (dC (.int 1)))) (sSeq (sPut (dVar 0) (dC (.int 1)) (dOp gMod (dBlt gInt (dCons (dOp gAdd (dOp gAdd (dOp gMul (dOp gItem (dVar 0) (dC (.int 1))) (dC (.int 40692))) (dOp gMul (dOp gItem (dVar 0) (dC (.int 2))) (dC (.int 6151)))) (dC (.int 98765))) (dNil))) (dC (.int 2147483629)))) (sRet (dOp gMod (dBlt gInt (dCons (dOp gAdd (dOp gDiv (dOp gItem (dVar 0) (dC (.int 1))) (dC (.int 32768))) (dOp gItem (dVar 0) (dC (.int 1)))) (dNil))) (dVar 1)))))
theorem sc__law_draw : FnScope ["_law_draws", "_law_many", "_law_found"] ["_law_draws", "_law_many"] (defScope (top 34)) := ⟨rfl, rfl, rfl, by decide +kernel, rfl, by decide +kernel, by decide +kernel⟩
theorem FD__law_draw (c : Fx P w K mg base) : True ∧ ∃ fd, FunD K "_law_draw" "_law_draw" (defArgs (top 34)) (defBody (top 34)) (defScope (top 34)) [] [] (ga K "_law_draw") fd := ⟨trivial, c.defs 29⟩
theorem b__law_draw (c : Fx P w K mg base) : Body P w K mg base (cl K) ["_law_draws", "_law_many", "_law_found"] "_law_draw" (defScope (top 34)) (ga K "_law_draw") 0 (defBody (top 34)) F__law_draw := by
  have nd := sc__law_draw.nd
  exact body_of fun cdv A outer s H E W i => (ss_cons (s_if (dt_cmp (op_gt) r_gt (d_item i.uu (d_var 0) d_int) d_int rfl) (ss_cons (s_set 2 nd (d_mod (d_intc  c.b_int (da_cons (d_item i.uu (d_var 0) d_int) da_nil)) (d_var 1))) (ss_cons (s_put i.uu (d_var 0) d_int (d_fdiv (d_item i.uu (d_var 0) d_int) (d_var 1))) (ss_one (s_ret (d_var 2))))) ss_nil) (ss_cons (s_put i.uu (d_var 0) d_int (d_add (d_item i.uu (d_var 0) d_int) d_int)) (ss_cons (s_put i.uu (d_var 0) d_int (d_mod (d_intc  c.b_int (da_cons (d_add (d_add (d_mul (d_item i.uu (d_var 0) d_int) d_int) (d_mul (d_item i.uu (d_var 0) d_int) d_int)) d_int) da_nil)) d_int)) (ss_one (s_ret (d_mod (d_intc  c.b_int (da_cons (d_add (d_fdiv (d_item i.uu (d_var 0) d_int) d_int) (d_item i.uu (d_var 0) d_int)) da_nil)) (d_var 1)))))))
def fn__law_draw : FDen := runW F__law_draw 3
theorem x__law_draw (c : Fx P w K mg base) : FnX P w K mg base (cl K) "_law_draw" 2 [] (bmN 2) [] fn__law_draw 1 :=
  let ⟨_, FD⟩ := (FD__law_draw c).2
  fnx_w FD (g__law_draw c) sc__law_draw rfl (fun _ _ _ _ _ _ us hl => match us, hl with | [_, _], _ => rfl) (b__law_draw c)
/-! _law_pick -/
def F__law_pick : SDen := sRet (dOp gItem (dVar 1) (dCall (cPos (dCons (dVar 0) (dCons (dBlt (orL gLen gLenD) (dCons (dVar 1) (dNil))) (dNil)))) 2 0 (bmN 2) [] fn__law_draw))
theorem sc__law_pick : FnScope ["_law_draws", "_law_xs"] ["_law_draws", "_law_xs"] (defScope (top 35)) := ⟨rfl, rfl, rfl, by decide +kernel, rfl, by decide +kernel, by decide +kernel⟩
theorem FD__law_pick (c : Fx P w K mg base) : True ∧ ∃ fd, FunD K "_law_pick" "_law_pick" (defArgs (top 35)) (defBody (top 35)) (defScope (top 35)) [] [] (ga K "_law_pick") fd := ⟨trivial, c.defs 30⟩
theorem b__law_pick (c : Fx P w K mg base) : Body P w K mg base (cl K) ["_law_draws", "_law_xs"] "_law_pick" (defScope (top 35)) (ga K "_law_pick") 1 (defBody (top 35)) F__law_pick := by
  have nd := sc__law_pick.nd
  exact body_of fun cdv A outer s H E W i => (ss_one (s_ret (d_item i.uu (d_var 1) (d_call (x__law_draw c) (i.room.mono (by first | decide | omega)) i.tk (dca_pos (da_cons (d_var 0) (da_cons (d_len  c.b_len (da_cons (d_var 1) da_nil)) da_nil)))))))
def fn__law_pick : FDen := runW F__law_pick 2
theorem x__law_pick (c : Fx P w K mg base) : FnX P w K mg base (cl K) "_law_pick" 2 [] (bmN 2) [] fn__law_pick 2 :=
  let ⟨_, FD⟩ := (FD__law_pick c).2
  fnx_w FD (g__law_pick c) sc__law_pick rfl (fun _ _ _ _ _ _ us hl => match us, hl with | [_, _], _ => rfl) (b__law_pick c)
/-! _law_is_word -/
def F__law_is_word : SDen := sSeq (sIf (dOr (dNot (dTest (dIsi (ktB ["str"]) (dVar 0)))) (dNot (dTest (dChain gLe gLe (dC (.int 1)) (dBlt (orL gLen gLenD) (dCons (dVar 0) (dNil))) (dC (.int 8)))))) (sRet (dC (.bl false))) (sNext)) (sRet (dBlt gAll (dCons (dLc (dIt (dVar 0)) (gNm 1) (tAll) (dOp gIn (dVar 1) (dC (.str "abcdefghijklmnopqrstuvwxyz"))) [1]) (dNil))))
theorem sc__law_is_word : FnScope ["_law_thing", "_law_sign"] ["_law_thing"] (defScope (top 38)) := ⟨rfl, rfl, rfl, by decide +kernel, rfl, by decide +kernel, by decide +kernel⟩
theorem FD__law_is_word (c : Fx P w K mg base) : True ∧ ∃ fd, FunD K "_law_is_word" "_law_is_word" (defArgs (top 38)) (defBody (top 38)) (defScope (top 38)) [] [] (ga K "_law_is_word") fd := ⟨trivial, c.defs 33⟩
theorem b__law_is_word (c : Fx P w K mg base) : Body P w K mg base (cl K) ["_law_thing", "_law_sign"] "_law_is_word" (defScope (top 38)) (ga K "_law_is_word") 0 (defBody (top 38)) F__law_is_word := by
  have nd := sc__law_is_word.nd
  exact body_of fun cdv A outer s H E W i => (ss_cons (s_if (DW.dt (dw_or (dt_not (dt_val (d_isi1 (kd1 (by simp)) c.b_isinstance c.b_str rfl (d_var 0)))) (dw_or1 (dt_not (dt_chain (op_le) (op_le) r_le r_le d_int (d_len  c.b_len (da_cons (d_var 0) da_nil)) d_int))))) (ss_one (s_ret d_bl)) ss_nil) (ss_one (s_ret (d_all i.toIn c.b_all (da_cons (d_lc i.calm nd (di_seq (d_var 0)) (own := [("_law_sign", 1)]) rfl (fun _ _ _ _ _ => (gc_name 1 nd)) (fun _ _ _ _ _ => dts_nil) (fun _ _ _ _ _ => (d_cmp (opInA i.blk) r_in (d_var 1) d_str rfl))) da_nil)))))
def pn__law_is_word : PDen := runP F__law_is_word 2
def fn__law_is_word : FDen := liftP pn__law_is_word
theorem x__law_is_word (c : Fx P w K mg base) : FnX P w K mg base (cl K) "_law_is_word" 1 [] (bmN 1) [] fn__law_is_word 1 :=
  let ⟨_, FD⟩ := (FD__law_is_word c).2
  fnx_p FD (g__law_is_word c) sc__law_is_word rfl (fun _ _ _ _ _ _ us hl => match us, hl with | [_], _ => rfl) (b__law_is_word c)
/-! _law_same -/
def F__law_same (fn : FDen) : SDen := sSeq (sIf (dTest (dIsi (ktB ["list", "tuple"]) (dVar 1))) (sSeq (sIf (dOr (dTest (dOp gNe (dIsi (ktB ["list"]) (dVar 0)) (dIsi (ktB ["list"]) (dVar 1)))) (dTest (dOp gNe (dIsi (ktB ["tuple"]) (dVar 0)) (dIsi (ktB ["tuple"]) (dVar 1))))) (sRet (dC (.bl false))) (sNext)) (sRet (dAndV (dOp gEqA (dBlt (orL gLen gLenD) (dCons (dVar 0) (dNil))) (dBlt (orL gLen gLenD) (dCons (dVar 1) (dNil)))) (dBlt gAll (dCons (dLc (dZip (dCons (dVar 0) (dCons (dVar 1) (dNil)))) (gTp 2 (gsCons (gNm 2) (gsCons (gNm 3) (gsNil)))) (tAll) (dCall (cPos (dCons (dVar 2) (dCons (dVar 3) (dNil)))) 2 0 (bmN 2) [] fn) [2, 3]) (dNil)))))) (sNext)) (sSeq (sIf (dTest (dIsi (ktB ["bool", "int"]) (dVar 1))) (sRet (dAndV (dIsi (ktB ["int"]) (dVar 0)) (dAndV (dOp gEqA (dIsi (ktB ["bool"]) (dVar 0)) (dIsi (ktB ["bool"]) (dVar 1))) (dOp gEqA (dVar 0) (dVar 1))))) (sNext)) (sRet (dAndV (dNotV (dIsi (ktB ["bool", "int", "list", "tuple"]) (dVar 0))) (dOp gEqA (dVar 0) (dVar 1)))))
theorem sc__law_same : FnScope ["_law_found", "_law_due_here", "_law_left", "_law_right"] ["_law_found", "_law_due_here"] (defScope (top 36)) := ⟨rfl, rfl, rfl, by decide +kernel, rfl, by decide +kernel, by decide +kernel⟩
theorem FD__law_same (c : Fx P w K mg base) : True ∧ ∃ fd, FunD K "_law_same" "_law_same" (defArgs (top 36)) (defBody (top 36)) (defScope (top 36)) [] [] (ga K "_law_same") fd := ⟨trivial, c.defs 31⟩
theorem b__law_same (c : Fx P w K mg base) {fn : FDen} {lv : Nat} (hx : FnX P w K mg base (cl K) "_law_same" 2 [] (bmN 2) [] fn lv) (hl : 0 ≤ lv) : Body P w K mg base (cl K) ["_law_found", "_law_due_here", "_law_left", "_law_right"] "_law_same" (defScope (top 36)) (ga K "_law_same") lv (defBody (top 36)) (F__law_same fn) := by
  have nd := sc__law_same.nd
  exact body_of fun cdv A outer s H E W i => (ss_cons (s_if (dt_val (d_isiT kdLT c.b_isinstance (d_var 1) (pa_cons (pe_ty c.b_list rfl) (pa_cons (pe_ty c.b_tuple rfl) pa_nil)) (.cons (.ty _) (.cons (.ty _) .nil)))) (ss_cons (s_if (DW.dt (dw_or (dt_cmp (opNeA i.toIn) r_ne (d_isi1 (kd1 (by simp)) c.b_isinstance c.b_list rfl (d_var 0)) (d_isi1 (kd1 (by simp)) c.b_isinstance c.b_list rfl (d_var 1)) rfl) (dw_or1 (dt_cmp (opNeA i.toIn) r_ne (d_isi1 (kd1 (by simp)) c.b_isinstance c.b_tuple rfl (d_var 0)) (d_isi1 (kd1 (by simp)) c.b_isinstance c.b_tuple rfl (d_var 1)) rfl)))) (ss_one (s_ret d_bl)) ss_nil) (ss_one (s_ret (d_and (d_cmp (opEqA i.toIn) r_eqA (d_len  c.b_len (da_cons (d_var 0) da_nil)) (d_len  c.b_len (da_cons (d_var 1) da_nil)) rfl) (d_one (d_all i.toIn c.b_all (da_cons (d_lc i.calm nd (di_zip c.b_zip (da_cons (d_var 0) (da_cons (d_var 1) da_nil))) (own := [("_law_left", 2), ("_law_right", 3)]) rfl (fun _ _ _ _ _ => (gc_tup i.blk.calm (gcs_cons (gc_name 2 nd) (gcs_cons (gc_name 3 nd) gcs_nil)))) (fun _ _ _ _ _ => dts_nil) (fun _ _ _ _ _ => (d_call hx (i.blk.room.mono (by first | decide | omega)) i.blk.tk (dca_pos (da_cons (d_var 2) (da_cons (d_var 3) da_nil)))))) da_nil))))))) ss_nil) (ss_cons (s_if (dt_val (d_isiT kdBI c.b_isinstance (d_var 1) (pa_cons (pe_ty c.b_bool rfl) (pa_cons (pe_ty c.b_int rfl) pa_nil)) (.cons (.ty _) (.cons (.ty _) .nil)))) (ss_one (s_ret (d_and (d_isi1 (kd1 (by simp)) c.b_isinstance c.b_int rfl (d_var 0)) (d_and (d_cmp (opEqA i.toIn) r_eqA (d_isi1 (kd1 (by simp)) c.b_isinstance c.b_bool rfl (d_var 0)) (d_isi1 (kd1 (by simp)) c.b_isinstance c.b_bool rfl (d_var 1)) rfl) (d_one (d_cmp (opEqA i.toIn) r_eqA (d_var 0) (d_var 1) rfl)))))) ss_nil) (ss_one (s_ret (d_and (d_not (d_isiT kdBILT c.b_isinstance (d_var 0) (pa_cons (pe_ty c.b_bool rfl) (pa_cons (pe_ty c.b_int rfl) (pa_cons (pe_ty c.b_list rfl) (pa_cons (pe_ty c.b_tuple rfl) pa_nil)))) (.cons (.ty _) (.cons (.ty _) (.cons (.ty _) (.cons (.ty _) .nil)))))) (d_one (d_cmp (opEqA i.toIn) r_eqA (d_var 0) (d_var 1) rfl)))))))
def fn__law_same : Nat → FDen
  | 0 => fun _ _ => .bad
  | n + 1 => liftP (runP (F__law_same (fn__law_same n)) 4)
theorem x__law_same (c : Fx P w K mg base) : ∀ n, FnX P w K mg base (cl K) "_law_same" 2 [] (bmN 2) [] (fn__law_same n) (n + 1)
  | 0 =>
    let ⟨_, FD⟩ := (FD__law_same c).2
    (show 0 + 1 = 0 + 1 from rfl) ▸ fnx_bad (k := 0) FD (g__law_same c) sc__law_same rfl (fun _ _ _ _ _ _ us hl => match us, hl with | [_, _], _ => rfl)
  | n + 1 =>
    let ⟨_, FD⟩ := (FD__law_same c).2
    (show n + 1 + 1 = n + 1 + 1 by omega) ▸ fnx_p FD (g__law_same c) sc__law_same rfl (fun _ _ _ _ _ _ us hl => match us, hl with | [_, _], _ => rfl) (b__law_same c (x__law_same c n) (by omega))
/-! _law_due -/
def F__law_due : SDen := sSeq (sFor (dIt (dVar 0)) (gNm 3) (sIf (dNot (dTest (dCall (cPos (dCons (dVar 3) (dNil))) 1 0 (bmN 1) [] fn__law_is_word))) (sRet (dTup (dCons (dC (.str "word")) (dCons (dVar 3) (dNil))))) (sNext))) (sSeq (sIf (dNot (dTest (dIsi (ktB ["list", "tuple"]) (dVar 2)))) (sRet (dTup (dCons (dC (.str "word")) (dCons (dVar 2) (dNil))))) (sNext)) (sSeq (sForN (dEnumN (dCons (dVar 2) (dNil))) (gTp 2 (gsCons (gNm 4) (gsCons (gNm 3) (gsNil)))) (sIf (dOr (dNot (dTest (dCall (cPos (dCons (dVar 3) (dNil))) 1 0 (bmN 1) [] fn__law_is_word))) (dTest (dOp gIn (dVar 3) (dSl (dVar 2) (oNone) (oSome (dVar 4)))))) (sRet (dTup (dCons (dC (.str "word")) (dCons (dVar 3) (dNil))))) (sNext))) (sSeq (sIf (dNot (dTest (dIsi (ktB ["list"]) (dVar 1)))) (sRet (dTup (dCons (dC (.str "condition")) (dCons (dC (.int 0)) (dNil))))) (sNext)) (sSeq (sFor (dEnum (dCons (dVar 1) (dNil))) (gTp 2 (gsCons (gNm 4) (gsCons (gTp 2 (gsCons (gNm 5) (gsCons (gNm 6) (gsNil)))) (gsNil)))) (sIf (dNot (dTest (dVar 6))) (sRet (dTup (dCons (dC (.str "condition")) (dCons (dVar 4) (dNil))))) (sNext))) (sRet (dTup (dCons (dC (.str "rule")) (dCons (dOp gItem (dVar 0) (dC (.int 0))) (dCons (dOp gItem (dVar 0) (dC (.int 1))) (dCons (dOp gItem (dVar 0) (dC (.int 2))) (dCons (dBlt (orL gLen gLenD) (dCons (dVar 1) (dNil))) (dCons (dBlt gTup (dCons (dBlt (orL gSortS gSortI) (dCons (dVar 2) (dNil))) (dNil))) (dNil)))))))))))))
theorem sc__law_due : FnScope ["_law_words", "_law_when", "_law_says", "_law_word", "_law_k", "_law_thing", "_law_is_one"] ["_law_words", "_law_when", "_law_says"] (defScope (top 39)) := ⟨rfl, rfl, rfl, by decide +kernel, rfl, by decide +kernel, by decide +kernel⟩
theorem FD__law_due (c : Fx P w K mg base) : True ∧ ∃ fd, FunD K "_law_due" "_law_due" (defArgs (top 39)) (defBody (top 39)) (defScope (top 39)) [] [] (ga K "_law_due") fd := ⟨trivial, c.defs 34⟩
theorem b__law_due (c : Fx P w K mg base) : Body P w K mg base (cl K) ["_law_words", "_law_when", "_law_says", "_law_word", "_law_k", "_law_thing", "_law_is_one"] "_law_due" (defScope (top 39)) (ga K "_law_due") 1 (defBody (top 39)) F__law_due := by
  have nd := sc__law_due.nd
  exact body_of fun cdv A outer s H E W i => (ss_cons (s_for i.po i.calm (di_seq (d_var 0)) (g_name 3 nd) (ss_one (s_if (dt_not (dt_val (d_call (x__law_is_word c) (i.room.mono (by first | decide | omega)) i.tk (dca_pos (da_cons (d_var 3) da_nil))))) (ss_one (s_ret (d_tup (da_cons d_str (da_cons (d_var 3) da_nil))))) ss_nil)) i.cl) (ss_cons (s_if (dt_not (dt_val (d_isiT kdLT c.b_isinstance (d_var 2) (pa_cons (pe_ty c.b_list rfl) (pa_cons (pe_ty c.b_tuple rfl) pa_nil)) (.cons (.ty _) (.cons (.ty _) .nil))))) (ss_one (s_ret (d_tup (da_cons d_str (da_cons (d_var 2) da_nil))))) ss_nil) (ss_cons (s_forN i.po i.calm (dn_enum c.b_enumerate (da_cons (d_var 2) da_nil)) (g_tup i.calm (gs_cons (g_name 4 nd) (gs_cons (g_name 3 nd) gs_nil))) (ss_one (s_if (DW.dt (dw_or (dt_not (dt_val (d_call (x__law_is_word c) (i.room.mono (by first | decide | omega)) i.tk (dca_pos (da_cons (d_var 3) da_nil))))) (dw_or1 (dt_cmp (opInA i.toIn) r_in (d_var 3) (d_slice (d_var 2) do_none (do_some (d_var 4))) rfl)))) (ss_one (s_ret (d_tup (da_cons d_str (da_cons (d_var 3) da_nil))))) ss_nil)) i.cl) (ss_cons (s_if (dt_not (dt_val (d_isi1 (kd1 (by simp)) c.b_isinstance c.b_list rfl (d_var 1)))) (ss_one (s_ret (d_tup (da_cons d_str (da_cons d_int da_nil))))) ss_nil) (ss_cons (s_for i.po i.calm (di_enum c.b_enumerate (da_cons (d_var 1) da_nil)) (g_tup i.calm (gs_cons (g_name 4 nd) (gs_cons (g_tup i.calm (gs_cons (g_name 5 nd) (gs_cons (g_name 6 nd) gs_nil))) gs_nil))) (ss_one (s_if (dt_not (dt_val (d_var 6))) (ss_one (s_ret (d_tup (da_cons d_str (da_cons (d_var 4) da_nil))))) ss_nil)) i.cl) (ss_one (s_ret (d_tup (da_cons d_str (da_cons (d_item i.uu (d_var 0) d_int) (da_cons (d_item i.uu (d_var 0) d_int) (da_cons (d_item i.uu (d_var 0) d_int) (da_cons (d_len  c.b_len (da_cons (d_var 1) da_nil)) (da_cons (d_tuple  c.b_tuple (da_cons (d_sorted  c.b_sorted (da_cons (d_var 2) da_nil)) da_nil)) da_nil))))))))))))))
def fn__law_due : FDen := runW F__law_due 7
theorem x__law_due (c : Fx P w K mg base) : FnX P w K mg base (cl K) "_law_due" 3 [] (bmN 3) [] fn__law_due 2 :=
  let ⟨_, FD⟩ := (FD__law_due c).2
  fnx_w FD (g__law_due c) sc__law_due rfl (fun _ _ _ _ _ _ us hl => match us, hl with | [_, _, _], _ => rfl) (b__law_due c)
/-! _law_some -/
def F__law_some : SDen := sSeq (sIf (dTest (dOp gEqA (dCall (cPos (dCons (dVar 0) (dCons (dVar 1) (dNil)))) 2 0 (bmN 2) [] fn__law_draw) (dC (.int 0)))) (sRet (dCall (cPos (dCons (dVar 0) (dCons (dLst (dCons (dC (.str "")) (dCons (dC (.str "longwords")) (dCons (dC (.str "A")) (dCons (dC (.str "a b")) (dCons (dC (.str "a1")) (dCons (dC .non) (dCons (dC (.int 5)) (dCons (dTup (dCons (dC (.str "a")) (dNil))) (dCons (dLst (dCons (dC (.str "a")) (dNil))) (dCons (dC (.bl true)) (dNil)))))))))))) (dNil)))) 2 0 (bmN 2) [] fn__law_pick)) (sNext)) (sRet (dCall (cPos (dCons (dVar 0) (dCons (dLst (dCons (dC (.str "a")) (dCons (dC (.str "yes")) (dCons (dC (.str "longword")) (dCons (dC (.str "jumpkivy")) (dCons (dC (.str "cdfghlqz")) (dCons (dC (.str "no")) (dCons (dC (.str "x")) (dNil))))))))) (dNil)))) 2 0 (bmN 2) [] fn__law_pick))
theorem sc__law_some : FnScope ["_law_draws", "_law_odds"] ["_law_draws", "_law_odds"] (defScope (top 40)) := ⟨rfl, rfl, rfl, by decide +kernel, rfl, by decide +kernel, by decide +kernel⟩
theorem FD__law_some (c : Fx P w K mg base) : True ∧ ∃ fd, FunD K "_law_some" "_law_some" (defArgs (top 40)) (defBody (top 40)) (defScope (top 40)) [] [] (ga K "_law_some") fd := ⟨trivial, c.defs 35⟩
theorem b__law_some (c : Fx P w K mg base) : Body P w K mg base (cl K) ["_law_draws", "_law_odds"] "_law_some" (defScope (top 40)) (ga K "_law_some") 2 (defBody (top 40)) F__law_some := by
  have nd := sc__law_some.nd
  exact body_of fun cdv A outer s H E W i => (ss_cons (s_if (dt_cmp (opEqA i.toIn) r_eqA (d_call (x__law_draw c) (i.room.mono (by first | decide | omega)) i.tk (dca_pos (da_cons (d_var 0) (da_cons (d_var 1) da_nil)))) d_int rfl) (ss_one (s_ret (d_call (x__law_pick c) (i.room.mono (by first | decide | omega)) i.tk (dca_pos (da_cons (d_var 0) (da_cons (d_lst (da_cons d_str (da_cons d_str (da_cons d_str (da_cons d_str (da_cons d_str (da_cons d_non (da_cons d_int (da_cons (d_tup (da_cons d_str da_nil)) (da_cons (d_lst (da_cons d_str da_nil)) (da_cons d_bl da_nil))))))))))) da_nil)))))) ss_nil) (ss_one (s_ret (d_call (x__law_pick c) (i.room.mono (by first | decide | omega)) i.tk (dca_pos (da_cons (d_var 0) (da_cons (d_lst (da_cons d_str (da_cons d_str (da_cons d_str (da_cons d_str (da_cons d_str (da_cons d_str (da_cons d_str da_nil)))))))) da_nil)))))))
def fn__law_some : FDen := runW F__law_some 2
theorem x__law_some (c : Fx P w K mg base) : FnX P w K mg base (cl K) "_law_some" 2 [] (bmN 2) [] fn__law_some 3 :=
  let ⟨_, FD⟩ := (FD__law_some c).2
  fnx_w FD (g__law_some c) sc__law_some rfl (fun _ _ _ _ _ _ us hl => match us, hl with | [_, _], _ => rfl) (b__law_some c)
/-! _law_needs -/
def F__law_needs : SDen := sSeq (sSet 1 (dLst (dCons (dCall (cPos (dCons (dCallS (cPos (dCons (dC (.str "a")) (dNil))) fn_heard) (dCons (dOp (orG gAdd (gBin selAdd rselAdd)) (dCall (cNone) 0 0 (bmN 0) [] fn_bound) (dC (.int 1))) (dNil)))) 2 0 (bmN 2) [] fn_at_least) (dCons (dCall (cPos (dCons (dOp (orG gMul (gBin selMul rselMul)) (dC (.int 2)) (dCallS (cPos (dCons (dC (.str "a")) (dCons (dC (.str "b")) (dNil)))) fn_heard)) (dCons (dOp (orG gAdd (gBin selAdd rselAdd)) (dCall (cNone) 0 0 (bmN 0) [] fn_members) (dC (.int 1))) (dNil)))) 2 0 (bmN 2) [] fn_at_least) (dCons (dCall (cPos (dCons (dCallS (cPos (dCons (dC (.str "zz")) (dNil))) fn_heard) (dCons (dC (.int 1)) (dNil)))) 2 0 (bmN 2) [] fn_at_least) (dNil)))))) (sSeq (sSet 2 (dLst (dCons (dCall (cPos (dCons (dCall (cPos (dCons (dC (.str "a")) (dNil))) 1 0 (bmN 1) [] fn_at) (dCons (dC (.int 1)) (dNil)))) 2 0 (bmN 2) [] fn_at_least) (dCons (dCall (cPos (dCons (dCall (cNone) 0 0 (bmN 0) [] fn_members) (dCons (dCall (cNone) 0 0 (bmN 0) [] fn_bound) (dNil)))) 2 0 (bmN 2) [] fn_at_least) (dCons (dC .non) (dCons (dC (.int 5)) (dCons (dCallS (cPos (dCons (dC (.str "a")) (dNil))) fn_heard) (dCons (dLst (dCons (dC (.str "a")) (dNil))) (dCons (dC (.str "a")) (dNil)))))))))) (sSeq (sSet 3 (dLstR (dNil))) (sSeq (sFor (dRng1 (dCons (dCall (cPos (dCons (dVar 0) (dCons (dC (.int 4)) (dNil)))) 2 0 (bmN 2) [] fn__law_draw) (dNil))) (gNm 4) (sSeq (sSet 5 (dOp gGt (dCall (cPos (dCons (dVar 0) (dCons (dC (.int 8)) (dNil)))) 2 0 (bmN 2) [] fn__law_draw) (dC (.int 0)))) (sExpr (dBm gAppend (dVar 3) (dCons (dTup (dCons (dCall (cPos (dCons (dVar 0) (dCons (dIf (dTest (dVar 5)) (dVar 1) (dVar 2)) (dNil)))) 2 0 (bmN 2) [] fn__law_pick) (dCons (dVar 5) (dNil)))) (dNil)))))) (sPre 3 (sRet (dVar 3))))))
theorem sc__law_needs : FnScope ["_law_draws", "_law_good", "_law_odd", "_law_found", "_law_k", "_law_is_one"] ["_law_draws"] (defScope (top 41)) := ⟨rfl, rfl, rfl, by decide +kernel, rfl, by decide +kernel, by decide +kernel⟩
theorem FD__law_needs (c : Fx P w K mg base) : True ∧ ∃ fd, FunD K "_law_needs" "_law_needs" (defArgs (top 41)) (defBody (top 41)) (defScope (top 41)) [] [] (ga K "_law_needs") fd := ⟨trivial, c.defs 36⟩
theorem b__law_needs (c : Fx P w K mg base) : Body P w K mg base (cl K) ["_law_draws", "_law_good", "_law_odd", "_law_found", "_law_k", "_law_is_one"] "_law_needs" (defScope (top 41)) (ga K "_law_needs") 6 (defBody (top 41)) F__law_needs := by
  have nd := sc__law_needs.nd
  exact body_of fun cdv A outer s H E W i => (ss_cons (s_set 1 nd (d_lst (da_cons (d_call (x_at_least c) (i.room.mono (by first | decide | omega)) i.tk (dca_pos (da_cons (d_callS (x_heard c) (i.room.mono (by decide)) i.tk (dca_pos (da_cons d_str da_nil))) (da_cons (d_addO i.tk (binAdd i.toIn c (by decide)) (d_call (x_bound c) (i.room.mono (by first | decide | omega)) i.tk dca_none) d_int) da_nil)))) (da_cons (d_call (x_at_least c) (i.room.mono (by first | decide | omega)) i.tk (dca_pos (da_cons (d_mulO i.tk (binMul i.toIn c (by decide)) d_int (d_callS (x_heard c) (i.room.mono (by decide)) i.tk (dca_pos (da_cons d_str (da_cons d_str da_nil))))) (da_cons (d_addO i.tk (binAdd i.toIn c (by decide)) (d_call (x_members c) (i.room.mono (by first | decide | omega)) i.tk dca_none) d_int) da_nil)))) (da_cons (d_call (x_at_least c) (i.room.mono (by first | decide | omega)) i.tk (dca_pos (da_cons (d_callS (x_heard c) (i.room.mono (by decide)) i.tk (dca_pos (da_cons d_str da_nil))) (da_cons d_int da_nil)))) da_nil))))) (ss_cons (s_set 2 nd (d_lst (da_cons (d_call (x_at_least c) (i.room.mono (by first | decide | omega)) i.tk (dca_pos (da_cons (d_call (x_at c) (i.room.mono (by first | decide | omega)) i.tk (dca_pos (da_cons d_str da_nil))) (da_cons d_int da_nil)))) (da_cons (d_call (x_at_least c) (i.room.mono (by first | decide | omega)) i.tk (dca_pos (da_cons (d_call (x_members c) (i.room.mono (by first | decide | omega)) i.tk dca_none) (da_cons (d_call (x_bound c) (i.room.mono (by first | decide | omega)) i.tk dca_none) da_nil)))) (da_cons d_non (da_cons d_int (da_cons (d_callS (x_heard c) (i.room.mono (by decide)) i.tk (dca_pos (da_cons d_str da_nil))) (da_cons (d_lst (da_cons d_str da_nil)) (da_cons d_str da_nil))))))))) (ss_cons (s_set 3 nd (d_lstR da_nil)) (ss_cons (s_for i.po i.calm (di_range1 c.b_range (da_cons (d_call (x__law_draw c) (i.room.mono (by first | decide | omega)) i.tk (dca_pos (da_cons (d_var 0) (da_cons d_int da_nil)))) da_nil)) (g_name 4 nd) (ss_cons (s_set 5 nd (d_cmp (op_gt) r_gt (d_call (x__law_draw c) (i.room.mono (by first | decide | omega)) i.tk (dca_pos (da_cons (d_var 0) (da_cons d_int da_nil)))) d_int rfl)) (ss_one (s_expr (d_append (d_var 3) (da_cons (d_tup (da_cons (d_call (x__law_pick c) (i.room.mono (by first | decide | omega)) i.tk (dca_pos (da_cons (d_var 0) (da_cons (d_ifexp (dt_val (d_var 5)) (d_var 1) (d_var 2)) da_nil)))) (da_cons (d_var 5) da_nil))) da_nil))))) i.cl) (ss_frz 3 (ss_one (s_ret (d_var 3))))))))
def fn__law_needs : FDen := runW F__law_needs 6
theorem x__law_needs (c : Fx P w K mg base) : FnX P w K mg base (cl K) "_law_needs" 1 [] (bmN 1) [] fn__law_needs 7 :=
  let ⟨_, FD⟩ := (FD__law_needs c).2
  fnx_w FD (g__law_needs c) sc__law_needs rfl (fun _ _ _ _ _ _ us hl => match us, hl with | [_], _ => rfl) (b__law_needs c)
/-! _law_equal_right -/
def F__law_equal_right : SDen := sSeq (sAsg (gTp 2 (gsCons (gNm 4) (gsCons (gNm 5) (gsNil)))) (dTup (dCons (dFz (dMake 2 (cPos (dCons (dOp gItem (dVar 0) (dC (.int 0))) (dCons (dOp gItem (dVar 0) (dC (.int 1))) (dCons (dOp gItem (dVar 0) (dC (.int 2))) (dCons (dVar 1) (dCons (dVar 2) (dNil))))))) 5 0 (bmN 6) [.ktup [], .ktup []] fn_Rule)) (dCons (dFz (dMake 2 (cPos (dCons (dOp gItem (dVar 0) (dC (.int 0))) (dCons (dOp gItem (dVar 0) (dC (.int 1))) (dCons (dOp gItem (dVar 0) (dC (.int 2))) (dCons (dVar 1) (dCons (dVar 2) (dNil))))))) 5 0 (bmN 6) [.ktup [], .ktup []] fn_Rule)) (dNil))))) (sSeq (sIf (dOr (dNot (dTest (dIsi (ktB ["tuple"]) (dFld ix_when (dVar 4))))) (dOr (dNot (dTest (dOp (gEqO selEq ktE) (dVar 4) (dVar 5)))) (dOr (dTest (dOp (gNeO selEq ktE) (dVar 4) (dVar 5))) (dTest (dOp (gEqO selEq ktE) (dVar 4) (dVar 0)))))) (sRet (dC (.bl false))) (sNext)) (sSeq (sSet 3 (dLstR (dCons (dFz (dMake 2 (cPos (dCons (dIf (dTest (dOp gLt (dBlt (orL gLen gLenD) (dCons (dOp gItem (dVar 0) (dC (.int 0))) (dNil))) (dC (.int 8)))) (dOp gAdd (dOp gItem (dVar 0) (dC (.int 0))) (dC (.str "q"))) (dC (.str "q"))) (dCons (dOp gItem (dVar 0) (dC (.int 1))) (dCons (dOp gItem (dVar 0) (dC (.int 2))) (dCons (dVar 1) (dCons (dVar 2) (dNil))))))) 5 0 (bmN 6) [.ktup [], .ktup []] fn_Rule)) (dNil)))) (sSeq (sExpr (dBm gAppend (dVar 3) (dCons (dFz (dMake 2 (cPos (dCons (dOp gItem (dVar 0) (dC (.int 0))) (dCons (dC (.str "qqq")) (dCons (dOp gItem (dVar 0) (dC (.int 2))) (dCons (dVar 1) (dCons (dVar 2) (dNil))))))) 5 0 (bmN 6) [.ktup [], .ktup []] fn_Rule)) (dNil)))) (sSeq (sExpr (dBm gAppend (dVar 3) (dCons (dFz (dMake 2 (cPos (dCons (dOp gItem (dVar 0) (dC (.int 0))) (dCons (dOp gItem (dVar 0) (dC (.int 1))) (dCons (dC (.str "qqq")) (dCons (dVar 1) (dCons (dVar 2) (dNil))))))) 5 0 (bmN 6) [.ktup [], .ktup []] fn_Rule)) (dNil)))) (sSeq (sExpr (dBm gAppend (dVar 3) (dCons (dFz (dMake 2 (cPos (dCons (dOp gItem (dVar 0) (dC (.int 0))) (dCons (dOp gItem (dVar 0) (dC (.int 1))) (dCons (dOp gItem (dVar 0) (dC (.int 2))) (dCons (dOp gAdd (dBlt gList (dCons (dVar 1) (dNil))) (dLst (dCons (dCall (cPos (dCons (dCallS (cPos (dCons (dC (.str "q")) (dNil))) fn_heard) (dCons (dC (.int 1)) (dNil)))) 2 0 (bmN 2) [] fn_at_least) (dNil)))) (dCons (dVar 2) (dNil))))))) 5 0 (bmN 6) [.ktup [], .ktup []] fn_Rule)) (dNil)))) (sSeq (sExpr (dBm gAppend (dVar 3) (dCons (dFz (dMake 2 (cPos (dCons (dOp gItem (dVar 0) (dC (.int 0))) (dCons (dOp gItem (dVar 0) (dC (.int 1))) (dCons (dOp gItem (dVar 0) (dC (.int 2))) (dCons (dVar 1) (dCons (dOp gAdd (dBlt gList (dCons (dVar 2) (dNil))) (dLst (dCons (dC (.str "qqq")) (dNil)))) (dNil))))))) 5 0 (bmN 6) [.ktup [], .ktup []] fn_Rule)) (dNil)))) (sPre 3 (sSeq (sIf (dTest (dBlt gAny (dCons (dLc (dIt (dVar 3)) (gNm 6) (tAll) (dOp (gEqO selEq ktE) (dVar 4) (dVar 6)) [6]) (dNil)))) (sRet (dC (.bl false))) (sNext)) (sSeq (sIf (dNot (dTest (dOp (gEqO selEq ktE) (dVar 4) (dFz (dMake 2 (cPos (dCons (dOp gItem (dVar 0) (dC (.int 0))) (dCons (dOp gItem (dVar 0) (dC (.int 1))) (dCons (dOp gItem (dVar 0) (dC (.int 2))) (dCons (dVar 1) (dCons (dRev (dVar 2)) (dNil))))))) 5 0 (bmN 6) [.ktup [], .ktup []] fn_Rule))))) (sRet (dC (.bl false))) (sNext)) (sSeq (sIf (dOr (dNot (dTest (dIsi (ktB ["list"]) (dVar 2)))) (dNot (dTest (dIsi (ktB ["list"]) (dVar 1))))) (sRet (dC (.bl true))) (sNext)) (sSeq (sExpr (dBm gAppend (dVar 2) (dCons (dC (.str "spoilt")) (dNil)))) (sSeq (sExpr (dBm gAppend (dVar 1) (dCons (dC (.int 5)) (dNil)))) (sRet (dAndV (dOp (gEqO selEq ktE) (dVar 4) (dVar 5)) (dAndV (dOp gNotIn (dC (.str "spoilt")) (dFld ix_says (dVar 4))) (dOp (gNotInW selP ktE 3) (dC (.int 5)) (dFld ix_when (dVar 4))))))))))))))))))
theorem sc__law_equal_right : FnScope ["_law_words", "_law_when", "_law_says", "_law_others", "_law_one", "_law_two", "_law_other"] ["_law_words", "_law_when", "_law_says"] (defScope (top 42)) := ⟨rfl, rfl, rfl, by decide +kernel, rfl, by decide +kernel, by decide +kernel⟩
theorem FD__law_equal_right (c : Fx P w K mg base) : True ∧ ∃ fd, FunD K "_law_equal_right" "_law_equal_right" (defArgs (top 42)) (defBody (top 42)) (defScope (top 42)) [] [] (ga K "_law_equal_right") fd := ⟨trivial, c.defs 37⟩
theorem b__law_equal_right (c : Fx P w K mg base) : Body P w K mg base (cl K) ["_law_words", "_law_when", "_law_says", "_law_others", "_law_one", "_law_two", "_law_other"] "_law_equal_right" (defScope (top 42)) (ga K "_law_equal_right") 6 (defBody (top 42)) F__law_equal_right := by
  have nd := sc__law_equal_right.nd
  exact body_of fun cdv A outer s H E W i => (ss_cons (s_asg (d_tup (da_cons (d_fz (d_make (x_Rule5 c) (i.room.mono (by decide)) i.tk (dca_pos (da_cons (d_item i.uu (d_var 0) d_int) (da_cons (d_item i.uu (d_var 0) d_int) (da_cons (d_item i.uu (d_var 0) d_int) (da_cons (d_var 1) (da_cons (d_var 2) da_nil)))))))) (da_cons (d_fz (d_make (x_Rule5 c) (i.room.mono (by decide)) i.tk (dca_pos (da_cons (d_item i.uu (d_var 0) d_int) (da_cons (d_item i.uu (d_var 0) d_int) (da_cons (d_item i.uu (d_var 0) d_int) (da_cons (d_var 1) (da_cons (d_var 2) da_nil)))))))) da_nil))) (g_tup i.calm (gs_cons (g_name 4 nd) (gs_cons (g_name 5 nd) gs_nil)))) (ss_cons (s_if (DW.dt (dw_or (dt_not (dt_val (d_isi1 (kd1 (by simp)) c.b_isinstance c.b_tuple rfl (d_fld (f_when c) (d_var 4))))) (dw_or (dt_not (dt_cmp (opEqO i.toIn (heq i.toIn c (by decide))) r_eqO (d_var 4) (d_var 5) rfl)) (dw_or (dt_cmp (opNeO i.toIn (heq i.toIn c (by decide))) r_neO (d_var 4) (d_var 5) rfl) (dw_or1 (dt_cmp (opEqO i.toIn (heq i.toIn c (by decide))) r_eqO (d_var 4) (d_var 0) rfl)))))) (ss_one (s_ret d_bl)) ss_nil) (ss_cons (s_set 3 nd (d_lstR (da_cons (d_fz (d_make (x_Rule5 c) (i.room.mono (by decide)) i.tk (dca_pos (da_cons (d_ifexp (dt_cmp (op_lt) r_lt (d_len  c.b_len (da_cons (d_item i.uu (d_var 0) d_int) da_nil)) d_int rfl) (d_add (d_item i.uu (d_var 0) d_int) d_str) d_str) (da_cons (d_item i.uu (d_var 0) d_int) (da_cons (d_item i.uu (d_var 0) d_int) (da_cons (d_var 1) (da_cons (d_var 2) da_nil)))))))) da_nil))) (ss_cons (s_expr (d_append (d_var 3) (da_cons (d_fz (d_make (x_Rule5 c) (i.room.mono (by decide)) i.tk (dca_pos (da_cons (d_item i.uu (d_var 0) d_int) (da_cons d_str (da_cons (d_item i.uu (d_var 0) d_int) (da_cons (d_var 1) (da_cons (d_var 2) da_nil)))))))) da_nil))) (ss_cons (s_expr (d_append (d_var 3) (da_cons (d_fz (d_make (x_Rule5 c) (i.room.mono (by decide)) i.tk (dca_pos (da_cons (d_item i.uu (d_var 0) d_int) (da_cons (d_item i.uu (d_var 0) d_int) (da_cons d_str (da_cons (d_var 1) (da_cons (d_var 2) da_nil)))))))) da_nil))) (ss_cons (s_expr (d_append (d_var 3) (da_cons (d_fz (d_make (x_Rule5 c) (i.room.mono (by decide)) i.tk (dca_pos (da_cons (d_item i.uu (d_var 0) d_int) (da_cons (d_item i.uu (d_var 0) d_int) (da_cons (d_item i.uu (d_var 0) d_int) (da_cons (d_add (d_list  c.b_list (da_cons (d_var 1) da_nil)) (d_lst (da_cons (d_call (x_at_least c) (i.room.mono (by first | decide | omega)) i.tk (dca_pos (da_cons (d_callS (x_heard c) (i.room.mono (by decide)) i.tk (dca_pos (da_cons d_str da_nil))) (da_cons d_int da_nil)))) da_nil))) (da_cons (d_var 2) da_nil)))))))) da_nil))) (ss_cons (s_expr (d_append (d_var 3) (da_cons (d_fz (d_make (x_Rule5 c) (i.room.mono (by decide)) i.tk (dca_pos (da_cons (d_item i.uu (d_var 0) d_int) (da_cons (d_item i.uu (d_var 0) d_int) (da_cons (d_item i.uu (d_var 0) d_int) (da_cons (d_var 1) (da_cons (d_add (d_list  c.b_list (da_cons (d_var 2) da_nil)) (d_lst (da_cons d_str da_nil))) da_nil)))))))) da_nil))) (ss_frz 3 (ss_cons (s_if (dt_val (d_any i.toIn c.b_any (da_cons (d_lc i.calm nd (di_seq (d_var 3)) (own := [("_law_other", 6)]) rfl (fun _ _ _ _ _ => (gc_name 6 nd)) (fun _ _ _ _ _ => dts_nil) (fun _ _ _ _ _ => (d_cmp (opEqO i.blk (heq i.blk c (by decide))) r_eqO (d_var 4) (d_var 6) rfl))) da_nil))) (ss_one (s_ret d_bl)) ss_nil) (ss_cons (s_if (dt_not (dt_cmp (opEqO i.toIn (heq i.toIn c (by decide))) r_eqO (d_var 4) (d_fz (d_make (x_Rule5 c) (i.room.mono (by decide)) i.tk (dca_pos (da_cons (d_item i.uu (d_var 0) d_int) (da_cons (d_item i.uu (d_var 0) d_int) (da_cons (d_item i.uu (d_var 0) d_int) (da_cons (d_var 1) (da_cons (d_rev (d_var 2)) da_nil)))))))) rfl)) (ss_one (s_ret d_bl)) ss_nil) (ss_cons (s_if (DW.dt (dw_or (dt_not (dt_val (d_isi1 (kd1 (by simp)) c.b_isinstance c.b_list rfl (d_var 2)))) (dw_or1 (dt_not (dt_val (d_isi1 (kd1 (by simp)) c.b_isinstance c.b_list rfl (d_var 1))))))) (ss_one (s_ret d_bl)) ss_nil) (ss_cons (s_expr (d_append (d_var 2) (da_cons d_str da_nil))) (ss_cons (s_expr (d_append (d_var 1) (da_cons d_int da_nil))) (ss_one (s_ret (d_and (d_cmp (opEqO i.toIn (heq i.toIn c (by decide))) r_eqO (d_var 4) (d_var 5) rfl) (d_and (d_cmp (opNotInA i.toIn) r_notIn d_str (d_fld (f_says c) (d_var 4)) rfl) (d_one (d_cmp (opNotInW (k := 3) i.toIn (eqs i.toIn c) (by decide)) r_notInW d_int (d_fld (f_when c) (d_var 4)) rfl)))))))))))))))))))
def fn__law_equal_right : FDen := runW F__law_equal_right 7
theorem x__law_equal_right (c : Fx P w K mg base) : FnX P w K mg base (cl K) "_law_equal_right" 3 [] (bmN 3) [] fn__law_equal_right 7 :=
  let ⟨_, FD⟩ := (FD__law_equal_right c).2
  fnx_w FD (g__law_equal_right c) sc__law_equal_right rfl (fun _ _ _ _ _ _ us hl => match us, hl with | [_, _, _], _ => rfl) (b__law_equal_right c)
def tried_rest : SDen := sSet 3 (dTup (dCons (dC (.str "rule")) (dCons (dFld ix_name (dVar 2)) (dCons (dFld ix_start (dVar 2)) (dCons (dFld ix_end (dVar 2)) (dCons (dBlt (orL gLen gLenD) (dCons (dFld ix_when (dVar 2)) (dNil))) (dCons (dFld ix_says (dVar 2)) (dNil))))))))
def tried_after : SDen := sRet (dVar 3)
def tried_m1 : Nat → Option Bool := fun c => match c with
  | 3 => some true
  | 4 => some false
  | _ => none
def tried_m2 : Nat → Option Bool := fun c => match c with
  | 4 => some true
  | _ => none
def tried_cl : List ZDen := [(tried_m1, hFld 3 "word" 1 3 fun d => .tup [.str "word", d]), (tried_m2, hFld 4 "index" 1 3 fun d => .tup [.str "condition", d])]
theorem sc__law_tried : FnScope ["_law_work", "e", "_law_made", "_law_found"] ["_law_work"] (defScope (top 37)) := ⟨rfl, rfl, rfl, by decide +kernel, rfl, by decide +kernel, by decide +kernel⟩
theorem FD__law_tried (c : Fx P w K mg base) : True ∧ ∃ fd, FunD K "_law_tried" "_law_tried" (defArgs (top 37)) (defBody (top 37)) (defScope (top 37)) [] [] (ga K "_law_tried") fd := ⟨trivial, c.defs 32⟩
theorem tm1 (c : Fx P w K mg base) : ∀ n b, tried_m1 n = some b → PySem.W.exmOne K (.ref ((cl K).at_ n)) (.ref ((cl K).at_ 3)) = some b := fun n b e => by
  unfold tried_m1 at e
  split at e
  · cases e; exact c.exm_BadWord_BadWord
  · cases e; exact c.exm_BadCondition_BadWord
  · cases e
theorem tm2 (c : Fx P w K mg base) : ∀ n b, tried_m2 n = some b → PySem.W.exmOne K (.ref ((cl K).at_ n)) (.ref ((cl K).at_ 4)) = some b := fun n b e => by
  unfold tried_m2 at e
  split at e
  · cases e; exact c.exm_BadCondition_BadCondition
  · cases e
theorem tried_ok (c : Fx P w K mg base) : ∃ s0 p1 p2 rest h₀ hds after tpos, defBody (top 37) = .Try (s0 :: rest) (h₀ :: hds) [] [] tpos :: after ∧ Tried P w K mg base (cl K) ["_law_work", "e", "_law_made", "_law_found"] "_law_tried" (defScope (top 37)) (ga K "_law_tried") 7 s0 (.Call (.Name "_law_work" p1) [] [] p2) (some 2) rest h₀ hds after tried_rest tried_after tried_cl := by
  have nd := sc__law_tried.nd
  exact ⟨_, _, _, _, _, _, _, _, rfl, fun cdv A outer s H E => s0_set 2 nd, fun cdv A outer s H E hr W tpl txe tk po => (ss_one (s_set 3 nd (d_tup (da_cons d_str (da_cons (d_fld (f_name c) (d_var 2)) (da_cons (d_fld (f_start c) (d_var 2)) (da_cons (d_fld (f_end c) (d_var 2)) (da_cons (d_len  c.b_len (da_cons (d_fld (f_when c) (d_var 2)) da_nil)) (da_cons (d_fld (f_says c) (d_var 2)) da_nil))))))))), fun cdv A outer s H E hr => (cz_pair 3 1 3 nd c.er_BadWord.2 (e_BadWord c).no (tm1 c) (g_BadWord c) (cz_pair 4 1 3 nd c.er_BadCondition.2 (e_BadCondition c).no (tm2 c) (g_BadCondition c) cz_nil)), fun cdv A outer s H E hr => (ss_one (s_ret (d_var 3)))⟩
def triedSlots : Nat := 4
end
end K5
set_option Elab.async false
set_option linter.all false
set_option maxRecDepth 100000
set_option maxHeartbeats 0
namespace K5
open PySem PySem.Spec PyProof.Rows L2 He MV
section
variable {P : Program} {w : World} {K : PySem.W.Frag} {mg : Str → Option Value} {base : Heap}
/-! law -/
def F_law : SDen := sSeq (sFor (dRng1 (dCons (dOp gAdd (dC (.int 6)) (dBlt gMin2 (dCons (dBlt (orL gLen gLenD) (dCons (dVar 0) (dNil))) (dCons (dC (.int 6)) (dNil))))) (dNil))) (gNm 1) (sOwn (sSeq (sSet 3 (dCall (cPos (dCons (dVar 0) (dCons (dVar 1) (dNil)))) 2 0 (bmN 2) [] fn__law_source)) (sSeq (sSet 4 (dCall (cPos (dCons (dVar 3) (dCons (dLst (dCons (dC (.int 5)) (dCons (dC (.int 40)) (dCons (dC (.int 40)) (dNil))))) (dNil)))) 2 0 (bmN 2) [] fn__law_pick)) (sSeq (sSet 5 (dLc (dRng1 (dCons (dC (.int 3)) (dNil))) (gNm 10) (tAll) (dCall (cPos (dCons (dVar 3) (dCons (dVar 4) (dNil)))) 2 0 (bmN 2) [] fn__law_some) [10])) (sSeq (sSet 6 (dLcR (dRng1 (dCons (dCall (cPos (dCons (dVar 3) (dCons (dC (.int 4)) (dNil)))) 2 0 (bmN 2) [] fn__law_draw) (dNil))) (gNm 10) (tAll) (dCall (cPos (dCons (dVar 3) (dCons (dOp gMul (dC (.int 2)) (dVar 4)) (dNil)))) 2 0 (bmN 2) [] fn__law_some) [10])) (sSeq (sSet 7 (dCall (cPos (dCons (dVar 3) (dNil))) 1 0 (bmN 1) [] fn__law_needs)) (sSeq (sSet 8 (dLcR (dIt (dVar 7)) (gTp 2 (gsCons (gNm 11) (gsCons (gNm 12) (gsNil)))) (tAll) (dVar 11) [11, 12])) (sSeq (sIf (dTest (dOp gEqA (dCall (cPos (dCons (dVar 3) (dCons (dC (.int 8)) (dNil)))) 2 0 (bmN 2) [] fn__law_draw) (dC (.int 0)))) (sSet 6 (dCall (cPos (dCons (dVar 3) (dCons (dLst (dCons (dC .non) (dCons (dC (.str "yes")) (dCons (dC (.int 5)) (dCons (dC (.dK [])) (dNil)))))) (dNil)))) 2 0 (bmN 2) [] fn__law_pick)) (sNext)) (sSeq (sIf (dTest (dOp gEqA (dCall (cPos (dCons (dVar 3) (dCons (dC (.int 8)) (dNil)))) 2 0 (bmN 2) [] fn__law_draw) (dC (.int 0)))) (sAsg (gTp 2 (gsCons (gNm 8) (gsCons (gNm 7) (gsNil)))) (dTup (dCons (dCall (cPos (dCons (dVar 3) (dCons (dLst (dCons (dC .non) (dCons (dC (.str "yes")) (dCons (dC (.int 5)) (dCons (dC (.dK [])) (dNil)))))) (dNil)))) 2 0 (bmN 2) [] fn__law_pick) (dCons (dC .non) (dNil))))) (sNext)) (sSeq (sIf (dAnd (dTest (dIsi (ktB ["list"]) (dVar 8))) (dTest (dOp gEqA (dCall (cPos (dCons (dVar 3) (dCons (dC (.int 2)) (dNil)))) 2 0 (bmN 2) [] fn__law_draw) (dC (.int 0))))) (sSet 8 (dBlt gTup (dCons (dVar 8) (dNil)))) (sNext)) (sSeq (sSet 9 (dCall (cPos (dCons (dVar 5) (dCons (dVar 7) (dCons (dVar 6) (dNil))))) 3 0 (bmN 3) [] fn__law_due)) (sSeq (sIf (dNot (dTest (dCall (cPos (dCons (dGot (some 2) 4 tried_rest tried_after tried_cl (dFz (dMake 2 (cPos (dCons (dOp gItem (dVar 5) (dC (.int 0))) (dCons (dOp gItem (dVar 5) (dC (.int 1))) (dCons (dOp gItem (dVar 5) (dC (.int 2))) (dCons (dVar 8) (dCons (dVar 6) (dNil))))))) 5 0 (bmN 6) [.ktup [], .ktup []] fn_Rule))) (dCons (dVar 9) (dNil)))) 2 0 (bmN 2) [] (fn__law_same 8)))) (sRet (dC (.bl false))) (sNext)) (sIf (dTest (dOp gEqA (dOp gItem (dVar 9) (dC (.int 0))) (dC (.str "rule")))) (sIf (dNot (dTest (dCall (cPos (dCons (dVar 5) (dCons (dVar 8) (dCons (dVar 6) (dNil))))) 3 0 (bmN 3) [] fn__law_equal_right))) (sRet (dC (.bl false))) (sNext)) (sNext))))))))))))))) (sSeq (sSet 2 (dMakeP 2 (cPos (dCons (dC (.str "a")) (dCons (dC (.str "b")) (dCons (dC (.str "c")) (dNil))))) 3 0 (bmN 4 ++ [Bd.d 0, Bd.d 1]) [.ktup [], .ktup []] fn_Rule)) (sRet (dCall (cPos (dCons (dLst (dCons (dFld ix_when (dVar 2)) (dCons (dFld ix_says (dVar 2)) (dNil)))) (dCons (dLst (dCons (dTup (dNil)) (dCons (dTup (dNil)) (dNil)))) (dNil)))) 2 0 (bmN 2) [] (fn__law_same 8))))
theorem sc_law : FnScope ["_law_script", "_law_turn", "_law_plain", "_law_draws", "_law_odds", "_law_words", "_law_says", "_law_needs_here", "_law_when", "_law_due_here", "_law_k", "_law_thing", "_law_is_one"] ["_law_script"] (defScope (top 43)) := ⟨rfl, rfl, rfl, by decide +kernel, rfl, by decide +kernel, by decide +kernel⟩
theorem FD_law (c : Fx P w K mg base) : True ∧ ∃ fd, FunD K "law" "law" (defArgs (top 43)) (defBody (top 43)) (defScope (top 43)) [] [] (ga K "law") fd := ⟨trivial, c.defs 38⟩
theorem b_law (c : Fx P w K mg base) : BodyAt P w K mg base (cl K) ["_law_script", "_law_turn", "_law_plain", "_law_draws", "_law_odds", "_law_words", "_law_says", "_law_needs_here", "_law_when", "_law_due_here", "_law_k", "_law_thing", "_law_is_one"] "law" (defScope (top 43)) (ga K "law") 9 (defBody (top 43)) F_law (.ref (He.cT K ("law", none)).1) := by
  have nd := sc_law.nd
  obtain ⟨fdT, FDT⟩ := (FD__law_tried c).2
  have mbT := mbn FDT (ps := ["_law_work"]) (n := 1) rfl (fun _ _ _ _ _ _ us hl => match us, hl with | [_], _ => rfl)
  obtain ⟨s0, p1, p2, trest, h₀, hds, tafter, tpos, eT, hT⟩ := tried_ok c
  rw [eT] at FDT
  exact body_at fun A outer s H E W i => (ss_cons (s_for i.po i.calm (di_range1 c.b_range (da_cons (d_add d_int (d_min2 i.toIn c.b_min (da_cons (d_len  c.b_len (da_cons (d_var 0) da_nil)) (da_cons d_int da_nil)))) da_nil)) (g_name 1 nd) (ss_own (ss_cons (s_set 3 nd (d_call (x__law_source c) (i.room.mono (by first | decide | omega)) i.tk (dca_pos (da_cons (d_var 0) (da_cons (d_var 1) da_nil))))) (ss_cons (s_set 4 nd (d_call (x__law_pick c) (i.room.mono (by first | decide | omega)) i.tk (dca_pos (da_cons (d_var 3) (da_cons (d_lst (da_cons d_int (da_cons d_int (da_cons d_int da_nil)))) da_nil))))) (ss_cons (s_set 5 nd (d_lc i.calm nd (di_range1 c.b_range (da_cons d_int da_nil)) (own := [("_law_k", 10)]) rfl (fun _ _ _ _ _ => (gc_name 10 nd)) (fun _ _ _ _ _ => dts_nil) (fun _ _ _ _ _ => (d_call (x__law_some c) (i.blk.room.mono (by first | decide | omega)) i.blk.tk (dca_pos (da_cons (d_var 3) (da_cons (d_var 4) da_nil))))))) (ss_cons (s_set 6 nd (d_lcR i.calm nd (di_range1 c.b_range (da_cons (d_call (x__law_draw c) (i.room.mono (by first | decide | omega)) i.tk (dca_pos (da_cons (d_var 3) (da_cons d_int da_nil)))) da_nil)) (own := [("_law_k", 10)]) rfl (fun _ _ _ _ _ => (gc_name 10 nd)) (fun _ _ _ _ _ => dts_nil) (fun _ _ _ _ _ => (d_call (x__law_some c) (i.blk.room.mono (by first | decide | omega)) i.blk.tk (dca_pos (da_cons (d_var 3) (da_cons (d_mul d_int (d_var 4)) da_nil))))))) (ss_cons (s_set 7 nd (d_call (x__law_needs c) (i.room.mono (by first | decide | omega)) i.tk (dca_pos (da_cons (d_var 3) da_nil)))) (ss_cons (s_set 8 nd (d_lcR i.calm nd (di_seq (d_var 7)) (own := [("_law_thing", 11), ("_law_is_one", 12)]) rfl (fun _ _ _ _ _ => (gc_tup i.blk.calm (gcs_cons (gc_name 11 nd) (gcs_cons (gc_name 12 nd) gcs_nil)))) (fun _ _ _ _ _ => dts_nil) (fun _ _ _ _ _ => (d_var 11)))) (ss_cons (s_if (dt_cmp (opEqA i.toIn) r_eqA (d_call (x__law_draw c) (i.room.mono (by first | decide | omega)) i.tk (dca_pos (da_cons (d_var 3) (da_cons d_int da_nil)))) d_int rfl) (ss_one (s_set 6 nd (d_call (x__law_pick c) (i.room.mono (by first | decide | omega)) i.tk (dca_pos (da_cons (d_var 3) (da_cons (d_lst (da_cons d_non (da_cons d_str (da_cons d_int (da_cons d_dct0 da_nil))))) da_nil)))))) ss_nil) (ss_cons (s_if (dt_cmp (opEqA i.toIn) r_eqA (d_call (x__law_draw c) (i.room.mono (by first | decide | omega)) i.tk (dca_pos (da_cons (d_var 3) (da_cons d_int da_nil)))) d_int rfl) (ss_one (s_asg (d_tup (da_cons (d_call (x__law_pick c) (i.room.mono (by first | decide | omega)) i.tk (dca_pos (da_cons (d_var 3) (da_cons (d_lst (da_cons d_non (da_cons d_str (da_cons d_int (da_cons d_dct0 da_nil))))) da_nil)))) (da_cons d_non da_nil))) (g_tup i.calm (gs_cons (g_name 8 nd) (gs_cons (g_name 7 nd) gs_nil))))) ss_nil) (ss_cons (s_if (DW.dt (dw_and (dt_val (d_isi1 (kd1 (by simp)) c.b_isinstance c.b_list rfl (d_var 8))) (dw_and1 (dt_cmp (opEqA i.toIn) r_eqA (d_call (x__law_draw c) (i.room.mono (by first | decide | omega)) i.tk (dca_pos (da_cons (d_var 3) (da_cons d_int da_nil)))) d_int rfl)))) (ss_one (s_set 8 nd (d_tuple  c.b_tuple (da_cons (d_var 8) da_nil)))) ss_nil) (ss_cons (s_set 9 nd (d_call (x__law_due c) (i.room.mono (by first | decide | omega)) i.tk (dca_pos (da_cons (d_var 5) (da_cons (d_var 7) (da_cons (d_var 6) da_nil)))))) (ss_cons (s_if (dt_not (dt_val (d_call (x__law_same c 8) (i.room.mono (by first | decide | omega)) i.tk (dca_pos (da_cons (d_lamcall (k := 6) FDT sc__law_tried mbT hT (g__law_tried c) i.tk (i.room.mono (by decide)) (c.tab 1) rfl c.mT1 c.uT1 (LamX.lamS_by rfl) (fun _ _ _ _ _ _ _ hr3 => (d_fz (d_make (x_Rule5 c) ((in_lam hr3).room.mono (by decide)) (in_lam hr3).tk (dca_pos (da_cons (d_item (in_lam hr3).uu (d_var 5) d_int) (da_cons (d_item (in_lam hr3).uu (d_var 5) d_int) (da_cons (d_item (in_lam hr3).uu (d_var 5) d_int) (da_cons (d_var 8) (da_cons (d_var 6) da_nil)))))))))) (da_cons (d_var 9) da_nil)))))) (ss_one (s_ret d_bl)) ss_nil) (ss_one (s_if (dt_cmp (opEqA i.toIn) r_eqA (d_item i.uu (d_var 9) d_int) d_str rfl) (ss_one (s_if (dt_not (dt_val (d_call (x__law_equal_right c) (i.room.mono (by first | decide | omega)) i.tk (dca_pos (da_cons (d_var 5) (da_cons (d_var 8) (da_cons (d_var 6) da_nil))))))) (ss_one (s_ret d_bl)) ss_nil)) ss_nil)))))))))))))) i.cl) (ss_cons (s_set 2 nd (d_makeP (x_Rule3 c) (i.room.mono (by decide)) i.tk (dca_pos (da_cons d_str (da_cons d_str (da_cons d_str da_nil)))))) (ss_one (s_ret (d_call (x__law_same c 8) (i.room.mono (by first | decide | omega)) i.tk (dca_pos (da_cons (d_lst (da_cons (d_fld (f_when c) (d_var 2)) (da_cons (d_fld (f_says c) (d_var 2)) da_nil))) (da_cons (d_lst (da_cons (d_tup da_nil) (da_cons (d_tup da_nil) da_nil))) da_nil))))))))
def lawSlots : Nat := 13
end
end K5
set_option Elab.async false
set_option linter.all false
set_option maxRecDepth 100000
set_option maxHeartbeats 0
namespace K5
open PySem PySem.Spec PyProof.Rows L2 He MV
theorem hsupT : ((PySem.W.OpenLaw.prog PySem.Challenge.rw_manyvoices_k05_rules_made).main.scope.names.lookup ("super" : Str)).isSome = false := by decide +kernel
theorem lawAt (plain : ∀ ns : List Int, ∃ Y, runW F_law 13 [.val (.scr ns)] [] = .ok (.val (.bl true)) Y) {w : World} {K : PySem.W.Frag} {mg : Str → Option Value} {fa' : Addr} {h : Heap} (KX : K.In h) (G : h.Ns mainGlobals mg) (hm : mg "law" = some (.ref fa')) (S : SaysM file fa fn er tf ex h K) :
    LamX.LawAtS PySem.Challenge.rw_manyvoices_k05_rules_made w K (L2.CX (PySem.W.OpenLaw.prog PySem.Challenge.rw_manyvoices_k05_rules_made) w) 10 63 "_law_script" mg fa' h := by
  obtain ⟨fd, FD⟩ := S.defs _ (List.getElem_mem (show 38 < fn.length by decide))
  have e := hm.symm.trans (glo_ok KX G (S.fact _ (List.mem_of_getElem? (show fa[33]? = some (.glo "law") from rfl))))
  cases e
  have b := FunD.bindsA (ps := ["_law_script"]) FD fun _ _ _ _ _ _ us hl => match us, hl with | [_], _ => rfl
  refine ⟨fd, tf.map (cT K), spW ⟨K, mg, (cl K).at_, (cl K).fs, (cl K).T⟩ 1 (runW F_law 13), ?_, ?_, ?_, fun s v => b s [v] rfl, ?_, ?_⟩
  · intro p hp
    obtain ⟨q, hq, rfl⟩ := List.mem_map.mp hp
    exact S.empty q hq
  · intro p hp
    obtain ⟨q, hq, rfl⟩ := List.mem_map.mp hp
    exact S.out q hq
  · intro p hp
    obtain ⟨q, hq, rfl⟩ := List.mem_map.mp hp
    exact PySem.W.codeHd_of_K KX (S.hd q hq)
  · intro H a ns hl hbits hT hS
    obtain ⟨Y, hY⟩ := plain ns
    refine law_sp (Y := Y) (fun p hp => ?_) hS (by rw [sizeLine_eq]; omega) hY
    obtain ⟨q, hq, rfl⟩ := List.mem_map.mp hp
    exact hT _ (List.mem_map.mpr ⟨q, hq, rfl⟩)
  · intro base hb hbn hTb
    have c : Fx (PySem.W.OpenLaw.prog PySem.Challenge.rw_manyvoices_k05_rules_made) w K mg base := ⟨⟨h, KX, G, S⟩, rfl, hsupT, fun p hp => hTb _ (List.mem_map.mpr ⟨p, hp, rfl⟩)⟩
    exact fn_wc (p := ("law", none)) FD sc_law (b_law c)
end K5
section
open PySem PySem.W PySem.Calls PyProof.Rows
theorem K5.holds_of (plain : ∀ ns : List Int, ∃ Y, MV.runW K5.F_law 13 [.val (.scr ns)] [] = .ok (.val (.bl true)) Y) : PySem.Challenge.rw_manyvoices_k05_rules_made.Holds := by
  w_on; o_law
  refine HandSHeadRun.head_any (r := OpenLaw.row PySem.Challenge.rw_manyvoices_k05_rules_made) (q := view (OpenLaw.row PySem.Challenge.rw_manyvoices_k05_rules_made).prog [43]) (H := K5.hk) (ob := K5.ob) (M := 12000) (loose := K5.loose) (d := HandSHeadRun.topDef (OpenLaw.row PySem.Challenge.rw_manyvoices_k05_rules_made).prog 43) (kwd := []) K5.ob_eq
    (by kernel_rfl) (fun s => by kernel_rfl) K5.run (by kernel_rfl) (by kernel_rfl) (by kernel_rfl) (by rfl) (by first | assumption | decide +kernel) (by decide +kernel) ⟨rfl, rfl, rfl, rfl, rfl, by decide +kernel⟩ ?hw ?hc
  case hw => w_witness2
  case hc =>
    refine LamX.walk_ofTsE (l := PySem.Challenge.rw_manyvoices_k05_rules_made) (n := 63) (k := 10) (x := "_law_script") (CX := fun w => L2.CX (OpenLaw.prog PySem.Challenge.rw_manyvoices_k05_rules_made) w) rfl (by decide) (by kernel_rfl) ⟨rfl, by decide, by decide⟩ ?F ?N
    case F =>
      intro w mg fa h Y G hmg0
      obtain ⟨K, KX, c⟩ := Y
      have hmg : mg ("law" : PySem.Str) = some (.ref fa) := by
        have e : (HandSHeadRun.topDef (OpenLaw.row PySem.Challenge.rw_manyvoices_k05_rules_made).prog 43).name = ("law" : PySem.Str) := by kernel_rfl
        rw [← e]
        exact hmg0
      exact ⟨K, KX, K5.lawAt plain KX G hmg c⟩
    case N =>
      intro w H s e s' z
      obtain ⟨_, _, _, _, _, _, _, _, _, _, _, _, q⟩ := z
      exact q
end
set_option Elab.async false
set_option linter.all false
set_option maxRecDepth 100000
set_option maxHeartbeats 0
namespace K5
open PySem MV
/-- every one of them -/
def Each {α : Type} (l : List α) (P : α → Prop) : Prop := match l with
  | [] => True
  | a :: r => P a ∧ Each r P
theorem Each.of {α : Type} : ∀ {l : List α} {P : α → Prop}, Each l P → ∀ d ∈ l, P d
  | [], _, _, d, h => by cases h
  | a :: r, P, h, d, hd => by
    rcases List.mem_cons.mp hd with z | z
    · rw [z]; exact h.1
    · exact Each.of h.2 d z
def gw : List Str := ["a", "yes", "longword", "jumpkivy", "cdfghlqz", "no", "x", "q", "qqq", "aq", "yesq", "noq", "xq"]
def odd : List D := [.str "", .str "longwords", .str "A", .str "a b", .str "a1", .non, .int 5, .tup [.str "a"], .lst [.str "a"], .bl true]
theorem isw_g : ∀ x ∈ gw, ∀ Y, fn_is_word [.val (.str x)] Y = .ok (.val (.bl true)) Y := Each.of (P := fun x => ∀ Y, fn_is_word [.val (.str x)] Y = .ok (.val (.bl true)) Y) (by
  refine ⟨?_, ?_, ?_, ?_, ?_, ?_, ?_, ?_, ?_, ?_, ?_, ?_, ?_, trivial⟩ <;> (intro Y; kernel_rfl))
theorem isw_o : ∀ d ∈ odd, ∀ Y, fn_is_word [.val d] Y = .ok (.val (.bl false)) Y := Each.of (P := fun d => ∀ Y, fn_is_word [.val d] Y = .ok (.val (.bl false)) Y) (by
  refine ⟨?_, ?_, ?_, ?_, ?_, ?_, ?_, ?_, ?_, ?_, trivial⟩ <;> (intro Y; kernel_rfl))
theorem liw_g : ∀ x ∈ gw, ∀ Y, fn__law_is_word [.val (.str x)] Y = .ok (.val (.bl true)) Y := Each.of (P := fun x => ∀ Y, fn__law_is_word [.val (.str x)] Y = .ok (.val (.bl true)) Y) (by
  refine ⟨?_, ?_, ?_, ?_, ?_, ?_, ?_, ?_, ?_, ?_, ?_, ?_, ?_, trivial⟩ <;> (intro Y; kernel_rfl))
theorem liw_o : ∀ d ∈ odd, ∀ Y, fn__law_is_word [.val d] Y = .ok (.val (.bl false)) Y := Each.of (P := fun d => ∀ Y, fn__law_is_word [.val d] Y = .ok (.val (.bl false)) Y) (by
  refine ⟨?_, ?_, ?_, ?_, ?_, ?_, ?_, ?_, ?_, ?_, trivial⟩ <;> (intro Y; kernel_rfl))
/-- a word or none -/
inductive Th : D → Prop
  | wd {x : Str} (h : x ∈ gw) : Th (.str x)
  | od {d : D} (h : d ∈ odd) : Th d
/-! ### is it among these words -/
def inS (x : Str) (ks : List Str) : Bool := ks.any fun y => sEq y x
theorem vals_map (ks : List Str) : vals (ks.map D.str) = ks.map fun y => W.val (.str y) := by
  induction ks with
  | nil => rfl
  | cons a r ih => simp [vals, ih]
theorem inF_strs (x : Str) : ∀ ks : List Str, inF (.val (.str x)) (vals (ks.map D.str)) = some (inS x ks)
  | [] => rfl
  | y :: r => by
    have ih := inF_strs x r
    simp only [List.map_cons, vals, inF, flatD, ih, eqFl, inS, List.any_cons]
theorem in_strs (x : Str) (ks : List Str) (Y : Ys) : gIn (.val (.str x)) (.val (.lst (ks.map D.str))) Y = .ok (.val (.bl (inS x ks))) Y := by
  simp [gIn, orG, gInF, sqOf, lsOf, flatD, inF_strs, mkB]
end K5
set_option Elab.async false
set_option linter.all false
set_option maxRecDepth 100000
set_option maxHeartbeats 0
namespace K5
open PySem MV
/-! ### check_unlike -/
def cbT : TDen := dOr (dNot (dTest (dCall (cPos (dCons (dVar 2) (dNil))) 1 0 (bmN 1) [] fn_is_word))) (dTest (dOp gIn (dVar 2) (dVar 1)))
def cb : SDen := sSeq (sIf cbT (sRaise 3 "word" (dCons (dVar 2) (dNil))) (sNext)) (sSet 1 (dOp gAdd (dVar 1) (dLst (dCons (dVar 2) (dNil)))))
theorem cu_eq : F_check_unlike = sForN (dItN (dVar 0)) (gNm 2) cb := rfl
theorem cbT_eq (w0 k0 : Option W) (d : D) (Y : Ys) : cbT [w0, k0, some (.val d)] Y = ((fn_is_word [.val d] Y).bindT isB).bindT fun b Y1 => if (!b) = true then .ok true Y1 else dTest (dOp gIn (dVar 2) (dVar 1)) [w0, k0, some (.val d)] Y1 := by
  show ((dTest (dCall (cPos (dCons (dVar 2) (dNil))) 1 0 (bmN 1) [] fn_is_word) [w0, k0, some (.val d)] Y).bindT fun b Y1 => Te.ok (!b) Y1).bindT _ = _
  have t1 : dTest (dCall (cPos (dCons (dVar 2) (dNil))) 1 0 (bmN 1) [] fn_is_word) [w0, k0, some (.val d)] Y = (fn_is_word [.val d] Y).bindT isB := rfl
  rw [t1]
  cases (fn_is_word [.val d] Y).bindT isB <;> rfl
theorem exc_eq (w0 k0 : Option W) (d : D) (Y : Ys) : sRaise 3 "word" (dCons (dVar 2) (dNil)) [w0, k0, some (.val d)] Y = .exc 3 (some [("word", d)]) [w0, k0, some (.val d)] Y := rfl
theorem cb_odd {w0 k0 : Option W} {d : D} {Y : Ys} (hd : d ∈ odd) : cb [w0, k0, some (.val d)] Y = .exc 3 (some [("word", d)]) [w0, k0, some (.val d)] Y := by
  unfold cb sSeq sIf
  rw [cbT_eq, isw_o d hd Y]
  rfl
theorem cbT_wd {w0 : Option W} {ks : List Str} {x : Str} {Y : Ys} (hx : x ∈ gw) : cbT [w0, some (.val (.lst (ks.map D.str))), some (.val (.str x))] Y = .ok (inS x ks) Y := by
  rw [cbT_eq, isw_g x hx Y]
  show (Re.bindT (noX (gIn (.val (.str x)) (.val (.lst (ks.map D.str))) Y)) isB) = _
  rw [in_strs]
  rfl
theorem cb_in {w0 : Option W} {ks : List Str} {x : Str} {Y : Ys} (hx : x ∈ gw) (hk : inS x ks = true) : cb [w0, some (.val (.lst (ks.map D.str))), some (.val (.str x))] Y = .exc 3 (some [("word", .str x)]) [w0, some (.val (.lst (ks.map D.str))), some (.val (.str x))] Y := by
  unfold cb sSeq sIf
  rw [cbT_wd hx, hk]
  rfl
theorem lines_small {n : Nat} (h : n ≤ 1000) : lines n = true := by
  unfold lines
  exact Nat.ble_eq.mpr (by omega)
theorem dats_vals : ∀ ds : List D, dats (vals ds) = some ds
  | [] => rfl
  | d :: r => by simp [vals, dats, dats_vals r]
theorem cat_one (ds : List D) (d : D) (Y : Ys) (hl : ds.length ≤ 100) : gAdd (.val (.lst ds)) (.val (.lst [d])) Y = .ok (.val (.lst (ds ++ [d]))) Y := by
  have h : lines (ds.length + 1) = true := lines_small (by omega)
  simp [gAdd, orG, gI, gCat, lsOf', dats_vals, vals, dats, h, mkL]
theorem cb_ok {w0 : Option W} {ks : List Str} {x : Str} {Y : Ys} (hx : x ∈ gw) (hk : inS x ks = false) (hl : ks.length ≤ 100) :
    cb [w0, some (.val (.lst (ks.map D.str))), some (.val (.str x))] Y = .next [w0, some (.val (.lst ((ks ++ [x]).map D.str))), some (.val (.str x))] Y := by
  unfold cb sSeq sIf
  rw [cbT_wd hx, hk]
  show (Re.out (noX (gAdd (.val (.lst (ks.map D.str))) (.val (.lst [.str x])) Y)) _ fun w Y1 => _) = _
  rw [cat_one _ _ _ (by simpa using hl)]
  simp [noX, Re.out]
/-- what is refused of a row -/
def wordOf : D → Option Str
  | .str x => (match gw.any fun y => sEq y x with
    | true => some x
    | false => none)
  | _ => none
def chk : List Str → List D → Option D
  | _, [] => none
  | ks, d :: r => (match wordOf d with
    | some x => (match inS x ks with
      | true => some d
      | false => chk (ks ++ [x]) r)
    | none => some d)
theorem wordOf_wd {x : Str} (h : x ∈ gw) : wordOf (.str x) = some x := by
  have : (gw.any fun y => sEq y x) = true := List.any_eq_true.mpr ⟨x, h, sEq_iff.mpr rfl⟩
  simp only [wordOf, this]
theorem wordOf_od : ∀ d ∈ odd, wordOf d = none := Each.of (P := fun d => wordOf d = none) (by
  refine ⟨?_, ?_, ?_, ?_, ?_, ?_, ?_, ?_, ?_, ?_, trivial⟩ <;> kernel_rfl)
def Nxt (nx : Nx) (Y : Ys) (i : Nat) (S : List D) : Prop := ∀ j, nx (i + j) Y = some (S[j]?.map W.val)
theorem Nxt.tail {nx : Nx} {Y : Ys} {i : Nat} {d : D} {S : List D} (h : Nxt nx Y i (d :: S)) : Nxt nx Y (i + 1) S := fun j => by
  have := h (j + 1)
  rw [show i + (j + 1) = i + 1 + j by omega] at this
  simpa using this
theorem chk_loop {nx : Nx} {w0 : Option W} {Y : Ys} : ∀ (S : List D) (i fuel : Nat) (ks : List Str) (x0 : Option W), Nxt nx Y i S → S.length < fuel → ks.length + S.length ≤ 100 → (∀ d ∈ S, Th d) →
    (chk ks S = none → ∃ τ, sForNL nx (gNm 2) cb fuel i [w0, some (.val (.lst (ks.map D.str))), x0] Y = .next τ Y) ∧ ∀ d, chk ks S = some d → ∃ τ, sForNL nx (gNm 2) cb fuel i [w0, some (.val (.lst (ks.map D.str))), x0] Y = .exc 3 (some [("word", d)]) τ Y
  | [], i, 0, _, _, _, h, _, _ => by simp at h
  | [], i, f + 1, ks, x0, hn, _, _, _ => by
    have e : nx i Y = some none := by simpa using hn 0
    refine ⟨fun _ => ⟨[w0, some (.val (.lst (ks.map D.str))), x0], ?_⟩, fun d h => (by cases h)⟩
    unfold sForNL
    rw [e]
  | d :: S, i, 0, _, _, _, h, _, _ => by simp at h
  | d :: S, i, f + 1, ks, x0, hn, hf, hl, ht => by
    have e : nx i Y = some (some (.val d)) := by simpa using hn 0
    have td := ht d List.mem_cons_self
    have g : gNm 2 (.val d) [w0, some (.val (.lst (ks.map D.str))), x0] Y = some [w0, some (.val (.lst (ks.map D.str))), some (.val d)] := rfl
    unfold sForNL
    rw [e]
    dsimp only
    rw [g]
    dsimp only
    cases td with
    | od h =>
      rw [cb_odd h]
      unfold chk
      rw [wordOf_od d h]
      exact ⟨fun z => (by cases z), fun d' z => (by cases z; exact ⟨_, rfl⟩)⟩
    | @wd x h =>
      unfold chk
      rw [wordOf_wd h]
      dsimp only
      cases hi : inS x ks with
      | true =>
        rw [cb_in h hi]
        exact ⟨fun z => (by cases z), fun d' z => (by cases z; exact ⟨_, rfl⟩)⟩
      | false =>
        rw [List.length_cons] at hl hf
        rw [cb_ok h hi (by omega)]
        exact chk_loop S (i + 1) f (ks ++ [x]) _ hn.tail (by omega) (by rw [List.length_append, List.length_singleton]; omega) fun d hd => ht d (List.mem_cons_of_mem _ hd)
/-- a list as data, or of the store -/
inductive Src (Y : Ys) : W → List D → Prop
  | dat {S : List D} : Src Y (.val (.lst S)) S
  | ref {m : Nat} {S : List D} (h : Y[m]? = some (.lst (vals S))) : Src Y (.ref m) S
theorem vals_get' : ∀ (S : List D) (j : Nat), (vals S)[j]? = S[j]?.map W.val
  | [], j => by simp [vals]
  | d :: r, 0 => by simp [vals]
  | d :: r, j + 1 => by simp [vals, vals_get' r j]
theorem vals_len' (S : List D) : (vals S).length = S.length := vals_len S
theorem cu_run {Y : Ys} {w : W} {S : List D} (h : Src Y w S) (hl : S.length ≤ 90) (ht : ∀ d ∈ S, Th d) : fn_check_unlike [w, .val (.lst [])] Y = match chk [] S with
    | none => .ok (.val .non) Y
    | some d => .exc 3 (some [("word", d)]) Y := by
  have key : ∀ nx, Nxt nx Y 0 S → sForN (dItN (dVar 0)) (gNm 2) cb [some w, some (.val (.lst [])), none] Y = sForNL nx (gNm 2) cb (S.length + 1) 0 [some w, some (.val (.lst (([] : List Str).map D.str))), none] Y → fn_check_unlike [w, .val (.lst [])] Y = match chk [] S with
    | none => .ok (.val .non) Y
    | some d => .exc 3 (some [("word", d)]) Y := fun nx hn e => by
    obtain ⟨h1, h2⟩ := chk_loop (w0 := some w) S 0 (S.length + 1) [] none hn (by omega) (by simpa using (by omega : S.length ≤ 100)) ht
    show (match F_check_unlike [some w, some (.val (.lst [])), none] Y with
      | .ret w Y1 => Re.ok w Y1
      | .next _ Y1 => .ok (.val .non) Y1
      | .exc c fs _ Y1 => .exc c fs Y1
      | _ => .bad) = _
    rw [cu_eq, e]
    cases hc : chk [] S with
    | none => obtain ⟨τ, e2⟩ := h1 hc; rw [e2]
    | some d => obtain ⟨τ, e2⟩ := h2 d hc; rw [e2]
  cases h with
  | dat => exact key (nxL (vals S)) (fun j => by simp [nxL, vals_get']) (by
      show sForNL (nxL (vals S)) (gNm 2) cb ((vals S).length + 1) 0 _ Y = _
      rw [vals_len'] <;> rfl)
  | @ref m _ h => exact key (nxR m) (fun j => by simp [nxR, h, vals_get']) (by
      unfold sForN
      have : dItN (dVar 0) [some (W.ref m), some (.val (.lst [])), none] Y = .ok (nxR m) ((vals S).length + 1) Y := by
        show (match Y[m]? with
          | some (.lst ws) => Rn.ok (nxR m) (ws.length + 1) Y
          | _ => .bad) = _
        rw [h]
      rw [this, vals_len'] <;> rfl)
end K5
set_option Elab.async false
set_option linter.all false
set_option maxRecDepth 100000
set_option maxHeartbeats 0
namespace K5
open PySem MV
/-! ### conditions -/
def cA : D := .ins 1 [.lst [.tup [.tup [.str "t"], .int (-1)], .tup [.tup [.str "heard", .str "a"], .int 1]], .int 1]
def cB : D := .ins 1 [.lst [.tup [.tup [.str "n"], .int (-1)], .tup [.tup [.str "heard", .str "a", .str "b"], .int 2]], .int 1]
def cZ : D := .ins 1 [.lst [.tup [.tup [.str "heard", .str "zz"], .int 1]], .int 1]
def cQ : D := .ins 1 [.lst [.tup [.tup [.str "heard", .str "q"], .int 1]], .int 1]
def goodC : List D := [cA, cB, cZ]
def oddC : List D := [.ins 1 [.lst [.tup [.tup [.str "at", .str "a"], .int 1]], .int 1], .ins 1 [.lst [.tup [.tup [.str "n"], .int 1], .tup [.tup [.str "t"], .int (-1)]], .int 0], .non, .int 5, .ins 0 [.dT [([.inr "heard", .inr "a"], .int 1)], .int 0], .lst [.str "a"], .str "a"]
theorem isc_g : ∀ d ∈ [cA, cB, cZ, cQ], ∀ Y, fn_is_condition [.val d] Y = .ok (.val (.bl true)) Y := Each.of (P := fun d => ∀ Y, fn_is_condition [.val d] Y = .ok (.val (.bl true)) Y) (by
  refine ⟨?_, ?_, ?_, ?_, trivial⟩ <;> (intro Y; kernel_rfl))
theorem isc_o : ∀ d ∈ oddC, ∀ Y, fn_is_condition [.val d] Y = .ok (.val (.bl false)) Y := Each.of (P := fun d => ∀ Y, fn_is_condition [.val d] Y = .ok (.val (.bl false)) Y) (by
  refine ⟨?_, ?_, ?_, ?_, ?_, ?_, ?_, trivial⟩ <;> (intro Y; kernel_rfl))
/-- a condition, or none -/
inductive Tc : D × Bool → Prop
  | cd {d : D} (h : d ∈ [cA, cB, cZ, cQ]) : Tc (d, true)
  | od {d : D} (h : d ∈ oddC) : Tc (d, false)
def chkC : Nat → List (D × Bool) → Option Nat
  | _, [] => none
  | i, (_, true) :: r => chkC (i + 1) r
  | i, (_, false) :: _ => some i
def fsts (l : List (D × Bool)) : List D := l.map (·.1)
def wb : SDen := sIf (dNot (dTest (dCall (cPos (dCons (dVar 8) (dNil))) 1 0 (bmN 1) [] fn_is_condition))) (sRaise 4 "index" (dCons (dVar 7) (dNil))) (sNext)
def wg : W → Ts → Ys → Option Ts := gTp 2 (gsCons (gNm 7) (gsCons (gNm 8) (gsNil)))
section
variable {s0 s1 s2 s3 s4 s5 s6 : Option W} {Y : Ys}
theorem wb_eq (i d : D) : wb [s0, s1, s2, s3, s4, s5, s6, some (.val i), some (.val d)] Y = Te.out (((fn_is_condition [.val d] Y).bindT isB).bindT fun b Y1 => .ok (!b) Y1) [s0, s1, s2, s3, s4, s5, s6, some (.val i), some (.val d)] fun b Y1 => if b = true then sRaise 4 "index" (dCons (dVar 7) (dNil)) [s0, s1, s2, s3, s4, s5, s6, some (.val i), some (.val d)] Y1 else .next [s0, s1, s2, s3, s4, s5, s6, some (.val i), some (.val d)] Y1 := rfl
theorem wb_ok {i d : D} (h : d ∈ [cA, cB, cZ, cQ]) : wb [s0, s1, s2, s3, s4, s5, s6, some (.val i), some (.val d)] Y = .next [s0, s1, s2, s3, s4, s5, s6, some (.val i), some (.val d)] Y := by
  rw [wb_eq, isc_g d h Y]
  rfl
theorem wb_no {i d : D} (h : d ∈ oddC) : wb [s0, s1, s2, s3, s4, s5, s6, some (.val i), some (.val d)] Y = .exc 4 (some [("index", i)]) [s0, s1, s2, s3, s4, s5, s6, some (.val i), some (.val d)] Y := by
  rw [wb_eq, isc_o d h Y]
  rfl
def NxtE (nx : Nx) (Y : Ys) (i : Nat) (S : List D) : Prop := ∀ j, nx (i + j) Y = some (S[j]?.map fun d => W.val (.tup [.int ((i + j : Nat) : Int), d]))
theorem NxtE.tail {nx : Nx} {i : Nat} {d : D} {S : List D} (h : NxtE nx Y i (d :: S)) : NxtE nx Y (i + 1) S := fun j => by
  have := h (j + 1)
  rw [show i + (j + 1) = i + 1 + j by omega] at this
  simpa using this
theorem when_loop {nx : Nx} : ∀ (l : List (D × Bool)) (i fuel : Nat) (x7 x8 : Option W), NxtE nx Y i (fsts l) → l.length < fuel → (∀ p ∈ l, Tc p) →
    (chkC i l = none → ∃ x7' x8', sForNL nx wg wb fuel i [s0, s1, s2, s3, s4, s5, s6, x7, x8] Y = .next [s0, s1, s2, s3, s4, s5, s6, x7', x8'] Y) ∧ ∀ k, chkC i l = some k → ∃ τ, sForNL nx wg wb fuel i [s0, s1, s2, s3, s4, s5, s6, x7, x8] Y = .exc 4 (some [("index", .int (k : Nat))]) τ Y
  | [], i, 0, _, _, _, h, _ => by simp at h
  | [], i, f + 1, x7, x8, hn, _, _ => by
    have e : nx i Y = some none := by simpa [fsts] using hn 0
    refine ⟨fun _ => ⟨x7, x8, ?_⟩, fun d h => (by cases h)⟩
    unfold sForNL
    rw [e]
  | p :: l, i, 0, _, _, _, h, _ => by simp at h
  | (d, b) :: l, i, f + 1, x7, x8, hn, hf, ht => by
    have e : nx i Y = some (some (.val (.tup [.int (i : Nat), d]))) := by simpa [fsts] using hn 0
    have td := ht (d, b) List.mem_cons_self
    have g : wg (.val (.tup [.int (i : Nat), d])) [s0, s1, s2, s3, s4, s5, s6, x7, x8] Y = some [s0, s1, s2, s3, s4, s5, s6, some (.val (.int (i : Nat))), some (.val d)] := rfl
    unfold sForNL
    rw [e]
    dsimp only
    rw [g]
    dsimp only
    cases td with
    | od h =>
      rw [wb_no h]
      exact ⟨fun z => (by cases z), fun k z => (by cases z; exact ⟨_, rfl⟩)⟩
    | cd h =>
      rw [wb_ok h]
      rw [List.length_cons] at hf
      exact when_loop l (i + 1) f _ _ (NxtE.tail (show NxtE nx Y i (d :: fsts l) from hn)) (by omega) fun p hp => ht p (List.mem_cons_of_mem _ hp)
end
/-- a row of conditions: a list, a list of the store, a tuple -/
inductive SrcT (Y : Ys) : W → List D → Prop
  | dat {S : List D} : SrcT Y (.val (.lst S)) S
  | tup {S : List D} : SrcT Y (.val (.tup S)) S
  | ref {m : Nat} {S : List D} (h : Y[m]? = some (.lst (vals S))) : SrcT Y (.ref m) S
theorem numd_get' : ∀ (S : List D) (n j : Nat), (numd n S)[j]? = S[j]?.map fun d => W.val (.tup [.int ((n + j : Nat) : Int), d])
  | [], n, j => by simp [numd]
  | d :: r, n, 0 => by simp [numd]
  | d :: r, n, j + 1 => by
    simp only [numd, List.getElem?_cons_succ, numd_get' r (n + 1) j]
    rw [show n + 1 + j = n + (j + 1) by omega]
def A5 : SDen := sForN (dEnumN (dCons (dVar 4) (dNil))) wg wb
theorem A5_run {s0 s1 s2 s3 s5 s6 x7 x8 : Option W} {Y : Ys} {w : W} {l : List (D × Bool)} (h : SrcT Y w (fsts l)) (ht : ∀ p ∈ l, Tc p) :
    (chkC 0 l = none → ∃ x7' x8', A5 [s0, s1, s2, s3, some w, s5, s6, x7, x8] Y = .next [s0, s1, s2, s3, some w, s5, s6, x7', x8'] Y) ∧ ∀ k, chkC 0 l = some k → ∃ τ, A5 [s0, s1, s2, s3, some w, s5, s6, x7, x8] Y = .exc 4 (some [("index", .int (k : Nat))]) τ Y := by
  have key : ∀ (S : List D), SrcT Y w S → ∃ nx, NxtE nx Y 0 S ∧ A5 [s0, s1, s2, s3, some w, s5, s6, x7, x8] Y = sForNL nx wg wb (S.length + 1) 0 [s0, s1, s2, s3, some w, s5, s6, x7, x8] Y := fun S h => by
    cases h with
    | dat => exact ⟨nxL (numd 0 S), fun j => by simp [nxL, numd_get'], rfl⟩
    | tup => exact ⟨nxL (numd 0 S), fun j => by simp [nxL, numd_get'], rfl⟩
    | @ref m _ h =>
      refine ⟨nxE m, fun j => ?_, ?_⟩
      · unfold nxE
        rw [h]
        dsimp only
        rw [vals_get', Nat.zero_add]
        cases S[j]? with
        | none => rfl
        | some d => rfl
      · unfold A5 sForN
        have : dEnumN (dCons (dVar 4) (dNil)) [s0, s1, s2, s3, some (.ref m), s5, s6, x7, x8] Y = .ok (nxE m) ((vals S).length + 1) Y := by
          show (match Y[m]? with
            | some (.lst ws) => Rn.ok (nxE m) (ws.length + 1) Y
            | _ => .bad) = _
          rw [h]
        rw [this, vals_len']
  obtain ⟨nx, hn, e⟩ := key _ h
  rw [e, show (fsts l).length = l.length by simp [fsts]]
  exact when_loop (s0 := s0) (s1 := s1) (s2 := s2) (s3 := s3) (s4 := some w) (s5 := s5) (s6 := s6) l 0 (l.length + 1) x7 x8 hn (by omega) ht
end K5
set_option Elab.async false
set_option linter.all false
set_option maxRecDepth 100000
set_option maxHeartbeats 0
namespace K5
open PySem MV
/-! ### Rule(..) -/
def b6 : SDen := sExpr (dCall (cPos (dCons (dLst (dCons (dVar 6) (dNil))) (dCons (dLst (dNil)) (dNil)))) 2 0 (bmN 2) [] fn_check_unlike)
def A1 : SDen := sFor (dIt (dTup (dCons (dVar 1) (dCons (dVar 2) (dCons (dVar 3) (dNil)))))) (gNm 6) b6
def A2 : SDen := sIf (dNot (dTest (dCall (cPos (dCons (dVar 5) (dNil))) 1 0 (bmN 1) [] fn_is_list))) (sRaise 3 "word" (dCons (dVar 5) (dNil))) (sNext)
def A3 : SDen := sExpr (dCall (cPos (dCons (dVar 5) (dCons (dLst (dNil)) (dNil)))) 2 0 (bmN 2) [] fn_check_unlike)
def A4 : SDen := sIf (dNot (dTest (dCall (cPos (dCons (dVar 4) (dNil))) 1 0 (bmN 1) [] fn_is_list))) (sRaise 4 "index" (dCons (dC (.int 0)) (dNil))) (sNext)
def A6 : SDen := sSeq (sFldS ix_name (dVar 0) (dVar 1)) (sSeq (sFldS ix_start (dVar 0) (dVar 2)) (sSeq (sFldS ix_end (dVar 0) (dVar 3)) (sSeq (sFldS ix_when (dVar 0) (dBlt gTup (dCons (dVar 4) (dNil)))) (sFldS ix_says (dVar 0) (dBlt gTup (dCons (dBlt (orL gSortS gSortT) (dCons (dVar 5) (dNil))) (dNil)))))))
theorem rule_eq : F_Rule = sSeq A1 (sSeq A2 (sSeq A3 (sSeq A4 (sSeq A5 A6)))) := rfl
def chk1 (n s e : D) : Option D := match wordOf n, wordOf s, wordOf e with
  | none, _, _ => some n
  | some _, none, _ => some s
  | some _, some _, none => some e
  | some _, some _, some _ => none
theorem one_run {d : D} (h : Th d) (Y : Ys) : fn_check_unlike [.val (.lst [d]), .val (.lst [])] Y = match wordOf d with
    | some _ => .ok (.val .non) Y
    | none => .exc 3 (some [("word", d)]) Y := by
  rw [cu_run .dat (by simp) (by simpa using h)]
  cases hw : wordOf d with
  | none => simp only [chk, hw]
  | some x => simp only [chk, hw, inS, List.any_nil]
section
variable {s0 s1 s2 s3 s4 s5 s7 s8 : Option W} {Y : Ys}
theorem b6_run {d : D} (h : Th d) : b6 [s0, s1, s2, s3, s4, s5, some (.val d), s7, s8] Y = match wordOf d with
    | some _ => .next [s0, s1, s2, s3, s4, s5, some (.val d), s7, s8] Y
    | none => .exc 3 (some [("word", d)]) [s0, s1, s2, s3, s4, s5, some (.val d), s7, s8] Y := by
  show Re.out (fn_check_unlike [.val (.lst [d]), .val (.lst [])] Y) _ _ = _
  rw [one_run h]
  cases wordOf d <;> rfl
theorem A1_run {n s e : D} (hn : Th n) (hs : Th s) (he : Th e) {s6 : Option W} : (chk1 n s e = none → A1 [s0, some (.val n), some (.val s), some (.val e), s4, s5, s6, s7, s8] Y = .next [s0, some (.val n), some (.val s), some (.val e), s4, s5, some (.val e), s7, s8] Y) ∧
    ∀ d, chk1 n s e = some d → ∃ τ, A1 [s0, some (.val n), some (.val s), some (.val e), s4, s5, s6, s7, s8] Y = .exc 3 (some [("word", d)]) τ Y := by
  have e0 : A1 [s0, some (.val n), some (.val s), some (.val e), s4, s5, s6, s7, s8] Y = sForL (gNm 6) b6 [.val n, .val s, .val e] [s0, some (.val n), some (.val s), some (.val e), s4, s5, s6, s7, s8] Y := rfl
  rw [e0]
  have g : ∀ (d : D) (x : Option W), gNm 6 (.val d) [s0, some (.val n), some (.val s), some (.val e), s4, s5, x, s7, s8] Y = some [s0, some (.val n), some (.val s), some (.val e), s4, s5, some (.val d), s7, s8] := fun d x => rfl
  unfold chk1
  cases h1 : wordOf n with
  | none => exact ⟨fun z => (by cases z), fun d z => (by cases z; exact ⟨[s0, some (.val n), some (.val s), some (.val e), s4, s5, some (.val n), s7, s8], by simp only [sForL, g, b6_run hn, h1]⟩)⟩
  | some x1 =>
    cases h2 : wordOf s with
    | none => exact ⟨fun z => (by cases z), fun d z => (by cases z; exact ⟨[s0, some (.val n), some (.val s), some (.val e), s4, s5, some (.val s), s7, s8], by simp only [sForL, g, b6_run hn, b6_run hs, h1, h2]⟩)⟩
    | some x2 =>
      cases h3 : wordOf e with
      | none => exact ⟨fun z => (by cases z), fun d z => (by cases z; exact ⟨[s0, some (.val n), some (.val s), some (.val e), s4, s5, some (.val e), s7, s8], by simp only [sForL, g, b6_run hn, b6_run hs, b6_run he, h1, h2, h3]⟩)⟩
      | some x3 => exact ⟨fun _ => (by simp only [sForL, g, b6_run hn, b6_run hs, b6_run he, h1, h2, h3]), fun d z => (by cases z)⟩
end
/-! ### is it a list -/
def oddS : List D := [.non, .str "yes", .int 5, .dK []]
theorem isl_o : ∀ d ∈ oddS, ∀ Y, fn_is_list [.val d] Y = .ok (.val (.bl false)) Y := Each.of (P := fun d => ∀ Y, fn_is_list [.val d] Y = .ok (.val (.bl false)) Y) (by
  refine ⟨?_, ?_, ?_, ?_, trivial⟩ <;> (intro Y; kernel_rfl))
theorem isl_t {Y : Ys} {w : W} {S : List D} (h : SrcT Y w S) : fn_is_list [w] Y = .ok (.val (.bl true)) Y := by
  cases h with
  | dat => rfl
  | tup => rfl
  | @ref m _ h =>
    have e : fn_is_list [.ref m] Y = (match (Re.out (match kdOf Y (.ref m) with
      | some kd => (match ktB ["list", "tuple"] kd with
        | some b => Re.ok (.val (.bl b)) Y
        | none => .bad)
      | none => .bad) [some (W.ref m)] fun w Y1 => Out.ret w Y1) with
      | .ret w Y1 => Re.ok w Y1
      | .next _ Y1 => .ok (.val .non) Y1
      | .exc c fs _ Y1 => .exc c fs Y1
      | _ => .bad) := rfl
    rw [e]
    have k : kdOf Y (.ref m) = some .lst := by
      unfold kdOf
      simp only [h]
    rw [k]
    rfl
theorem Src.t {Y : Ys} {w : W} {S : List D} (h : Src Y w S) : SrcT Y w S := by
  cases h with
  | dat => exact .dat
  | ref h => exact .ref h
/-- says: no list, or one -/
inductive SayR (Y : Ys) : W → D ⊕ List D → Prop
  | no {d : D} (h : d ∈ oddS) : SayR Y (.val d) (.inl d)
  | row {w : W} {S : List D} (h : Src Y w S) (hl : S.length ≤ 60) (ht : ∀ d ∈ S, Th d) : SayR Y w (.inr S)
inductive WhenR (Y : Ys) : W → Option (List (D × Bool)) → Prop
  | no {d : D} (h : d ∈ oddS) : WhenR Y (.val d) none
  | row {w : W} {l : List (D × Bool)} (h : SrcT Y w (fsts l)) (ht : ∀ p ∈ l, Tc p) : WhenR Y w (some l)
def fault (n s e : D) (sy : D ⊕ List D) (wh : Option (List (D × Bool))) : Option (Nat × Str × D) := match chk1 n s e with
  | some d => some (3, "word", d)
  | none => (match sy with
    | .inl d => some (3, "word", d)
    | .inr S => (match chk [] S with
      | some d => some (3, "word", d)
      | none => (match wh with
        | none => some (4, "index", .int 0)
        | some l => (match chkC 0 l with
          | some k => some (4, "index", .int (k : Nat))
          | none => none))))
section
variable {s0 s1 s2 s3 s6 s7 s8 : Option W} {Y : Ys}
theorem A2_no {s4 : Option W} {d : D} (h : d ∈ oddS) : A2 [s0, s1, s2, s3, s4, some (.val d), s6, s7, s8] Y = .exc 3 (some [("word", d)]) [s0, s1, s2, s3, s4, some (.val d), s6, s7, s8] Y := by
  show Te.out (((fn_is_list [.val d] Y).bindT isB).bindT fun b Y1 => Te.ok (!b) Y1) _ _ = _
  rw [isl_o d h Y]
  rfl
theorem A2_ok {s4 : Option W} {w : W} {S : List D} (h : Src Y w S) : A2 [s0, s1, s2, s3, s4, some w, s6, s7, s8] Y = .next [s0, s1, s2, s3, s4, some w, s6, s7, s8] Y := by
  show Te.out (((fn_is_list [w] Y).bindT isB).bindT fun b Y1 => Te.ok (!b) Y1) _ _ = _
  rw [isl_t h.t]
  rfl
theorem A4_no {s5 : Option W} {d : D} (h : d ∈ oddS) : A4 [s0, s1, s2, s3, some (.val d), s5, s6, s7, s8] Y = .exc 4 (some [("index", .int 0)]) [s0, s1, s2, s3, some (.val d), s5, s6, s7, s8] Y := by
  show Te.out (((fn_is_list [.val d] Y).bindT isB).bindT fun b Y1 => Te.ok (!b) Y1) _ _ = _
  rw [isl_o d h Y]
  rfl
theorem A4_ok {s5 : Option W} {w : W} {S : List D} (h : SrcT Y w S) : A4 [s0, s1, s2, s3, some w, s5, s6, s7, s8] Y = .next [s0, s1, s2, s3, some w, s5, s6, s7, s8] Y := by
  show Te.out (((fn_is_list [w] Y).bindT isB).bindT fun b Y1 => Te.ok (!b) Y1) _ _ = _
  rw [isl_t h]
  rfl
theorem A3_run {s4 : Option W} {w : W} {S : List D} (h : Src Y w S) (hl : S.length ≤ 60) (ht : ∀ d ∈ S, Th d) : A3 [s0, s1, s2, s3, s4, some w, s6, s7, s8] Y = match chk [] S with
    | none => .next [s0, s1, s2, s3, s4, some w, s6, s7, s8] Y
    | some d => .exc 3 (some [("word", d)]) [s0, s1, s2, s3, s4, some w, s6, s7, s8] Y := by
  show Re.out (fn_check_unlike [w, .val (.lst [])] Y) _ _ = _
  rw [cu_run h (by omega) ht]
  cases chk [] S <;> rfl
end
/-! ### the fields -/
def wds (S : List D) : List Str := S.filterMap wordOf
theorem wordOf_eq {d : D} {x : Str} (h : wordOf d = some x) : d = .str x := by
  unfold wordOf at h
  split at h
  · split at h
    · cases h; rfl
    · cases h
  · cases h
theorem chk_none : ∀ {S : List D} {ks : List Str}, chk ks S = none → S = (wds S).map D.str
  | [], _, _ => rfl
  | d :: r, ks, h => by
    unfold chk at h
    cases hw : wordOf d with
    | none => rw [hw] at h; cases h
    | some x =>
      rw [hw] at h
      dsimp only at h
      cases hi : inS x ks with
      | true => rw [hi] at h; cases h
      | false =>
        rw [hi] at h
        have ih := chk_none h
        unfold wds at ih ⊢
        rw [List.filterMap_cons_some hw, List.map_cons, ← ih, wordOf_eq hw]
theorem strsOf_map : ∀ xs : List Str, strsOf (vals (xs.map D.str)) = some xs
  | [] => rfl
  | x :: r => by simp [vals, strsOf, strsOf_map r]
theorem lsOf_src {Y : Ys} {w : W} {S : List D} (h : Src Y w S) : lsOf Y w = some (vals S) := by
  cases h with
  | dat => rfl
  | ref h => simp [lsOf, h]
theorem tup_src {Y : Ys} {w : W} {S : List D} (h : SrcT Y w S) : gTup [w] Y = .ok (.val (.tup S)) Y := by
  cases h with
  | dat => simp [gTup, lsOf, dats_vals]
  | tup => rfl
  | ref h => simp [gTup, lsOf, h, dats_vals]
theorem SrcT.set {Y : Ys} {w : W} {S : List D} {k : Nat} {ws : List W} {z : YO} (h : SrcT Y w S) (hk : Y[k]? = some (.ins 2 ws)) : SrcT (Y.set k z) w S := by
  cases h with
  | dat => exact .dat
  | tup => exact .tup
  | @ref m _ h =>
    refine .ref ?_
    rw [List.getElem?_set_ne (fun e => by rw [← e, hk] at h; cases h)]
    exact h
theorem Src.set {Y : Ys} {w : W} {S : List D} {k : Nat} {ws : List W} {z : YO} (h : Src Y w S) (hk : Y[k]? = some (.ins 2 ws)) : Src (Y.set k z) w S := by
  cases h with
  | dat => exact .dat
  | @ref m _ h =>
    refine .ref ?_
    rw [List.getElem?_set_ne (fun e => by rw [← e, hk] at h; cases h)]
    exact h
theorem put_new {Y : Ys} {k i : Nat} {ws : List W} {v : W} {ix : Nat → Option Nat} (h : Y[k]? = some (.ins 2 ws)) (hi : ix 2 = some i) (hl : i = ws.length) : putFld ix (.ref k) v Y = some (Y.set k (.ins 2 (ws ++ [v]))) := by
  subst hl
  have b1 : Nat.blt ws.length ws.length = false := by
    rw [Bool.eq_false_iff]
    intro z
    exact Nat.lt_irrefl _ (Nat.blt_eq.mp z)
  simp [putFld, h, hi, b1, Nat.beq_refl]
theorem A6_run {s6 s7 s8 : Option W} {Y : Ys} {k : Nat} {n s e : W} {wh sy : W} {Wn : List D} {xs : List Str} (hk : Y[k]? = some (.ins 2 [])) (hw : SrcT Y wh Wn) (hs : Src Y sy (xs.map D.str)) (hl : xs.length ≤ 60) :
    A6 [some (.ref k), some n, some s, some e, some wh, some sy, s6, s7, s8] Y = .next [some (.ref k), some n, some s, some e, some wh, some sy, s6, s7, s8] (Y.set k (.ins 2 [n, s, e, .val (.tup Wn), .val (.tup (dStrs (srt sLe xs)))])) := by
  have hlt : k < Y.length := (List.getElem?_eq_some_iff.mp hk).1
  have g : ∀ z : YO, (Y.set k z)[k]? = some z := fun z => List.getElem?_set_self hlt
  have p1 : putFld ix_name (.ref k) n Y = some (Y.set k (.ins 2 [n])) := put_new hk rfl rfl
  have p2 : putFld ix_start (.ref k) s (Y.set k (.ins 2 [n])) = some ((Y.set k (.ins 2 [n])).set k (.ins 2 [n, s])) := put_new (g _) rfl rfl
  have p3 : putFld ix_end (.ref k) e (Y.set k (.ins 2 [n, s])) = some ((Y.set k (.ins 2 [n, s])).set k (.ins 2 [n, s, e])) := put_new (g _) rfl rfl
  have p4 : putFld ix_when (.ref k) (.val (.tup Wn)) (Y.set k (.ins 2 [n, s, e])) = some ((Y.set k (.ins 2 [n, s, e])).set k (.ins 2 [n, s, e, .val (.tup Wn)])) := put_new (g _) rfl rfl
  have p5 : putFld ix_says (.ref k) (.val (.tup (dStrs (srt sLe xs)))) (Y.set k (.ins 2 [n, s, e, .val (.tup Wn)])) = some ((Y.set k (.ins 2 [n, s, e, .val (.tup Wn)])).set k (.ins 2 [n, s, e, .val (.tup Wn), .val (.tup (dStrs (srt sLe xs)))])) := put_new (g _) rfl rfl
  rw [List.set_set] at p2 p3 p4 p5
  have t4 : gTup [wh] (Y.set k (.ins 2 [n, s, e])) = .ok (.val (.tup Wn)) (Y.set k (.ins 2 [n, s, e])) := tup_src (hw.set hk)
  have hs5 := hs.set (z := .ins 2 [n, s, e, .val (.tup Wn)]) hk
  have b : below64 (vals (xs.map D.str)).length = true := by
    rw [vals_len', List.length_map]
    exact Nat.blt_eq.mpr (by omega)
  have t5 : orL gSortS gSortT [sy] (Y.set k (.ins 2 [n, s, e, .val (.tup Wn)])) = .ok (.val (.lst (dStrs (srt sLe xs)))) (Y.set k (.ins 2 [n, s, e, .val (.tup Wn)])) := by
    simp only [orL, gSortS, lsOf_src hs5, strsOf_map, b]
  have t6 : ∀ Y, gTup [.val (.lst (dStrs (srt sLe xs)))] Y = .ok (.val (.tup (dStrs (srt sLe xs)))) Y := fun Y => tup_src .dat
  simp only [A6, sSeq, sFldS, dVar, List.getElem?_cons_zero, List.getElem?_cons_succ, Re.out, p1, p2, p3, p4, p5, Out.ofY, Out.seq, dBlt, dCons, dNil, Ra.bind, t4, t5, t6, noX]
end K5
set_option Elab.async false
set_option linter.all false
set_option maxRecDepth 100000
set_option maxHeartbeats 0
namespace K5
open PySem MV
theorem rule_run {Y : Ys} {k : Nat} {n s e : D} {wh sy : W} {sk : D ⊕ List D} {wk : Option (List (D × Bool))} (hk : Y[k]? = some (.ins 2 [])) (hn : Th n) (hs : Th s) (he : Th e) (hS : SayR Y sy sk) (hW : WhenR Y wh wk) :
    (∀ c f d, fault n s e sk wk = some (c, f, d) → fn_Rule [.ref k, .val n, .val s, .val e, wh, sy] Y = .exc c (some [(f, d)]) Y) ∧
    (fault n s e sk wk = none → ∃ S l, sk = .inr S ∧ wk = some l ∧ S.length ≤ 60 ∧ S = (wds S).map D.str ∧ fn_Rule [.ref k, .val n, .val s, .val e, wh, sy] Y = .ok (.val .non) (Y.set k (.ins 2 [.val n, .val s, .val e, .val (.tup (fsts l)), .val (.tup (dStrs (srt sLe (wds S))))]))) := by
  have e0 : fn_Rule [.ref k, .val n, .val s, .val e, wh, sy] Y = (match F_Rule [some (.ref k), some (.val n), some (.val s), some (.val e), some wh, some sy, none, none, none] Y with
    | .ret w Y1 => Re.ok w Y1
    | .next _ Y1 => .ok (.val .non) Y1
    | .exc c fs _ Y1 => .exc c fs Y1
    | _ => .bad) := rfl
  rw [e0, rule_eq]
  unfold sSeq
  obtain ⟨a1, a2⟩ := A1_run (s0 := some (.ref k)) (s4 := some wh) (s5 := some sy) (s6 := none) (s7 := none) (s8 := none) (Y := Y) hn hs he
  unfold fault
  cases c1 : chk1 n s e with
  | some d =>
    obtain ⟨τ, h⟩ := a2 d c1
    rw [h]
    exact ⟨fun c f d' z => (by cases z; rfl), fun z => (by cases z)⟩
  | none =>
    rw [a1 c1]
    dsimp only [Out.seq]
    cases hS with
    | @no d h =>
      rw [A2_no h]
      exact ⟨fun c f d' z => (by cases z; rfl), fun z => (by cases z)⟩
    | @row _ S h hl ht =>
      rw [A2_ok h]
      dsimp only [Out.seq]
      rw [A3_run h hl ht]
      cases c2 : chk [] S with
      | some d => exact ⟨fun c f d' z => (by cases z; rfl), fun z => (by cases z)⟩
      | none =>
        dsimp only [Out.seq]
        cases hW with
        | @no d hd =>
          rw [A4_no hd]
          exact ⟨fun c f d' z => (by cases z; rfl), fun z => (by cases z)⟩
        | @row _ l hw hc =>
          rw [A4_ok hw]
          dsimp only [Out.seq]
          obtain ⟨b1, b2⟩ := A5_run (s0 := some (.ref k)) (s1 := some (.val n)) (s2 := some (.val s)) (s3 := some (.val e)) (s5 := some sy) (s6 := some (.val e)) (x7 := none) (x8 := none) (Y := Y) hw hc
          cases c3 : chkC 0 l with
          | some j =>
            obtain ⟨τ, h'⟩ := b2 j c3
            rw [h']
            exact ⟨fun c f d' z => (by cases z; rfl), fun z => (by cases z)⟩
          | none =>
            obtain ⟨x7, x8, h'⟩ := b1 c3
            rw [h']
            dsimp only [Out.seq]
            have es := chk_none c2
            have hlen : (wds S).length ≤ 60 := by
              have := congrArg List.length es
              rw [List.length_map] at this
              omega
            rw [es] at h
            have r6 := A6_run (s6 := some (.val e)) (s7 := x7) (s8 := x8) (n := .val n) (s := .val s) (e := .val e) hk hw h hlen
            rw [r6]
            exact ⟨fun c f d' z => (by cases z), fun _ => ⟨S, l, rfl, rfl, hl, es, rfl⟩⟩
/-! ### made, as data -/
theorem frz_val (k : Nat) (Y : Ys) (d : D) : frzW k Y (.val d) = some (d, Y) := by cases k <;> rfl
theorem frzL_vals (k : Nat) (Y : Ys) : ∀ ds : List D, frzL (frzW k) Y (vals ds) = some (ds, Y)
  | [] => rfl
  | d :: r => by simp [vals, frzL, frz_val, frzL_vals k Y r]
theorem frz_ins {Y : Ys} {n c k : Nat} {ds : List D} (h : Y[n]? = some (.ins c (vals ds))) : frzW (k + 1) Y (.ref n) = some (.ins c ds, Y.set n .dead) := by
  have a : alive Y n = true := by simp [alive, h]
  simp [frzW, h, frzL_vals, a]
def ruleD (n s e : D) (Wn : List D) (xs : List Str) : D := .ins 2 [n, s, e, .tup Wn, .tup (dStrs (srt sLe xs))]
def mkR (f : CDen) : Den := dFz (dMake 2 f 5 0 (bmN 6) [.ktup [], .ktup []] fn_Rule)
theorem Src.app {Y Z : Ys} {w : W} {S : List D} (h : Src Y w S) : Src (Y ++ Z) w S := by
  cases h with
  | dat => exact .dat
  | @ref m _ h => exact .ref (by rw [List.getElem?_append_left (List.getElem?_eq_some_iff.mp h).1]; exact h)
theorem SrcT.app {Y Z : Ys} {w : W} {S : List D} (h : SrcT Y w S) : SrcT (Y ++ Z) w S := by
  cases h with
  | dat => exact .dat
  | tup => exact .tup
  | @ref m _ h => exact .ref (by rw [List.getElem?_append_left (List.getElem?_eq_some_iff.mp h).1]; exact h)
theorem SayR.app {Y Z : Ys} {w : W} {sk : D ⊕ List D} (h : SayR Y w sk) : SayR (Y ++ Z) w sk := by
  cases h with
  | no h => exact .no h
  | row h hl ht => exact .row h.app hl ht
theorem WhenR.app {Y Z : Ys} {w : W} {wk : Option (List (D × Bool))} (h : WhenR Y w wk) : WhenR (Y ++ Z) w wk := by
  cases h with
  | no h => exact .no h
  | row h ht => exact .row h.app ht
theorem mk_run {f : CDen} {τ : Ts} {Y Y1 : Ys} {n s e : D} {wh sy : W} {sk : D ⊕ List D} {wk : Option (List (D × Bool))} (hf : f τ Y = .ok [.val n, .val s, .val e, wh, sy] [] Y1) (hn : Th n) (hs : Th s) (he : Th e) (hS : SayR Y1 sy sk) (hW : WhenR Y1 wh wk) :
    (∀ c g d, fault n s e sk wk = some (c, g, d) → mkR f τ Y = .exc c (some [(g, d)]) (Y1 ++ [.ins 2 []])) ∧
    (fault n s e sk wk = none → ∃ S l, sk = .inr S ∧ wk = some l ∧ S.length ≤ 60 ∧ S = (wds S).map D.str ∧ mkR f τ Y = .ok (.val (ruleD n s e (fsts l) (wds S))) (Y1 ++ [.dead])) := by
  have hk : (Y1 ++ [YO.ins 2 []])[Y1.length]? = some (.ins 2 []) := by simp
  obtain ⟨r1, r2⟩ := rule_run hk hn hs he (hS.app (Z := [.ins 2 []])) (hW.app (Z := [.ins 2 []]))
  have e0 : mkR f τ Y = ((fn_Rule [.ref Y1.length, .val n, .val s, .val e, wh, sy] (Y1 ++ [.ins 2 []])).bind fun u Y2 => (match u with
    | .val .non => Re.ok (.ref Y1.length) Y2
    | _ => .bad)).bind fun w Y1 => (match frzW 20 Y1 w with
    | some (d, Y2) => Re.ok (.val d) Y2
    | none => .bad) := by
    unfold mkR dFz dMake
    rw [hf]
    rfl
  refine ⟨fun c g d h => ?_, fun h => ?_⟩
  · rw [e0, r1 c g d h]
    rfl
  · obtain ⟨S, l, h1, h2, h3, h4, h5⟩ := r2 h
    refine ⟨S, l, h1, h2, h3, h4, ?_⟩
    rw [e0, h5]
    have hs : ∀ z : YO, (Y1 ++ [YO.ins 2 []]).set Y1.length z = Y1 ++ [z] := fun z => by simp
    rw [hs]
    have hf := frz_ins (Y := Y1 ++ [YO.ins 2 (vals [n, s, e, .tup (fsts l), .tup (dStrs (srt sLe (wds S)))])]) (n := Y1.length) (c := 2) (k := 19) (ds := [n, s, e, .tup (fsts l), .tup (dStrs (srt sLe (wds S)))]) (by simp)
    have hd : ∀ z y : YO, (Y1 ++ [z]).set Y1.length y = Y1 ++ [y] := fun z y => by simp
    rw [hd] at hf
    show (match frzW 20 (Y1 ++ [YO.ins 2 [.val n, .val s, .val e, .val (.tup (fsts l)), .val (.tup (dStrs (srt sLe (wds S))))]]) (.ref Y1.length) with
      | some (d, Y2) => Re.ok (.val d) Y2
      | none => .bad) = _
    rw [show frzW 20 (Y1 ++ [YO.ins 2 [.val n, .val s, .val e, .val (.tup (fsts l)), .val (.tup (dStrs (srt sLe (wds S))))]]) (.ref Y1.length) = _ from hf]
    rfl
end K5
set_option Elab.async false
set_option linter.all false
set_option maxRecDepth 100000
set_option maxHeartbeats 0
namespace K5
open PySem MV
/-! ### _law_same of a thing and itself -/
def pSame (k : Nat) : PDen := match k with
  | 0 => fun _ => .bad
  | n + 1 => runP (F__law_same (fn__law_same n)) 4
theorem same_lift (k : Nat) (a b : D) (Y : Ys) : fn__law_same k [.val a, .val b] Y = match pSame k [a, b] with
    | .ok d => .ok (.val d) Y
    | .exc c fs => .exc c fs Y
    | .bad => .bad := by
  cases k <;> rfl
theorem eqA_int (i : Int) (Y : Ys) : gEqA (.val (.int i)) (.val (.int i)) Y = .ok (.val (.bl true)) Y := by
  have h : iEq i i = true := iEq_iff.mpr rfl
  simp [gEqA, orG, gEqL, lsOf, gEq, gEqS, sclEq, h, mkB]
theorem eqA_str (x : Str) (Y : Ys) : gEqA (.val (.str x)) (.val (.str x)) Y = .ok (.val (.bl true)) Y := by
  have h : sEq x x = true := sEq_iff.mpr rfl
  simp [gEqA, orG, gEqL, lsOf, gEq, gEqS, sclEq, h, mkB]
theorem same_str (k : Nat) (x : Str) : pSame (k + 1) [.str x, .str x] = .ok (.bl true) := by
  have e1 : dOp gEqA (dVar 0) (dVar 1) [some (.val (.str x)), some (.val (.str x)), none, none] [] = .ok (.val (.bl true)) [] := by
    show noX (gEqA (.val (.str x)) (.val (.str x)) []) = _
    rw [eqA_str]
    rfl
  show (match (Re.out (dOp gEqA (dVar 0) (dVar 1) [some (.val (.str x)), some (.val (.str x)), none, none] []) [some (.val (.str x)), some (.val (.str x)), none, none] fun w Y => Out.ret w Y) with
    | .ret w Y1 => (match frzW 20 Y1 w with
      | some (d, _) => Pr.ok d
      | none => .bad)
    | .next _ _ => .ok .non
    | .exc c fs _ _ => .exc c fs
    | _ => .bad) = _
  rw [e1]
  rfl
theorem same_int (k : Nat) (i : Int) : pSame (k + 1) [.int i, .int i] = .ok (.bl true) := by
  have e1 : dOp gEqA (dVar 0) (dVar 1) [some (.val (.int i)), some (.val (.int i)), none, none] [] = .ok (.val (.bl true)) [] := by
    show noX (gEqA (.val (.int i)) (.val (.int i)) []) = _
    rw [eqA_int]
    rfl
  show (match (Re.out (dOp gEqA (dVar 0) (dVar 1) [some (.val (.int i)), some (.val (.int i)), none, none] []) [some (.val (.int i)), some (.val (.int i)), none, none] fun w Y => Out.ret w Y) with
    | .ret w Y1 => (match frzW 20 Y1 w with
      | some (d, _) => Pr.ok d
      | none => .bad)
    | .next _ _ => .ok .non
    | .exc c fs _ _ => .exc c fs
    | _ => .bad) = _
  rw [e1]
  rfl
def trues : Nat → List W
  | 0 => []
  | n + 1 => .val (.bl true) :: trues n
theorem lc_same {fn : FDen} {a b : Option W} : ∀ {ds : List D}, (∀ d ∈ ds, ∀ Y, fn [.val d, .val d] Y = .ok (.val (.bl true)) Y) → ∀ Y, lcL (gTp 2 (gsCons (gNm 2) (gsCons (gNm 3) (gsNil)))) tAll (dCall (cPos (dCons (dVar 2) (dCons (dVar 3) (dNil)))) 2 0 (bmN 2) [] fn) [a, b, none, none] (zips ds ds) Y = some (trues ds.length, Y)
  | [], _, Y => rfl
  | d :: r, h, Y => by
    have e1 : gTp 2 (gsCons (gNm 2) (gsCons (gNm 3) (gsNil))) (.val (.tup [d, d])) [a, b, none, none] Y = some [a, b, some (.val d), some (.val d)] := rfl
    have e2 : dCall (cPos (dCons (dVar 2) (dCons (dVar 3) (dNil)))) 2 0 (bmN 2) [] fn [a, b, some (.val d), some (.val d)] Y = fn [.val d, .val d] Y := rfl
    have e3 : tAll [a, b, some (.val d), some (.val d)] Y = .ok true Y := rfl
    have ih := lc_same (a := a) (b := b) (fun d hd => h d (List.mem_cons_of_mem _ hd)) Y (ds := r)
    unfold zips lcL
    rw [e1]
    dsimp only
    rw [e3]
    dsimp only
    rw [e2, h d List.mem_cons_self Y]
    dsimp only
    rw [ih]
    rfl
theorem dats_trues : ∀ n, dats (trues n) = some (List.replicate n (.bl true))
  | 0 => rfl
  | n + 1 => by simp [trues, dats, dats_trues n, List.replicate_succ]
theorem blt1 {g : GL} {f : Den} {τ : Ts} {Y Y1 : Ys} {w : W} (h : f τ Y = .ok w Y1) : dBlt g (dCons f dNil) τ Y = noX (g [w] Y1) := by simp only [dBlt, dCons, h, dNil, Ra.bind]
theorem bls_rep : ∀ n, blsOf (vals (List.replicate n (.bl true))) = some (List.replicate n true)
  | 0 => rfl
  | n + 1 => by simp [List.replicate_succ, vals, blsOf, bls_rep n]
theorem all_rep : ∀ n, allB (List.replicate n true) = true
  | 0 => rfl
  | n + 1 => by simp [List.replicate_succ, allB, all_rep n]
theorem same_tup {k : Nat} {ds : List D} (hl : ds.length ≤ 100) (h : ∀ d ∈ ds, pSame k [d, d] = .ok (.bl true)) : pSame (k + 1) [.tup ds, .tup ds] = .ok (.bl true) := by
  have hf : ∀ d ∈ ds, ∀ Y, fn__law_same k [.val d, .val d] Y = .ok (.val (.bl true)) Y := fun d hd Y => by rw [same_lift, h d hd]
  have lz : lines (zips ds ds).length = true := lines_small (by rw [zips_len]; omega)
  have c1 : dLc (dZip (dCons (dVar 0) (dCons (dVar 1) (dNil)))) (gTp 2 (gsCons (gNm 2) (gsCons (gNm 3) (gsNil)))) (tAll) (dCall (cPos (dCons (dVar 2) (dCons (dVar 3) (dNil)))) 2 0 (bmN 2) [] (fn__law_same k)) [2, 3] [some (.val (.tup ds)), some (.val (.tup ds)), none, none] [] = .ok (.val (.lst (List.replicate ds.length (.bl true)))) [] := by
    have z : dZip (dCons (dVar 0) (dCons (dVar 1) (dNil))) [some (.val (.tup ds)), some (.val (.tup ds)), none, none] [] = .ok (zips ds ds) [] := rfl
    have wp : wipeT [some (.val (.tup ds)), some (.val (.tup ds)), none, none] [2, 3] = [some (.val (.tup ds)), some (.val (.tup ds)), none, none] := rfl
    unfold dLc lcA
    rw [z]
    dsimp only
    rw [lz]
    dsimp only
    rw [wp, lc_same hf]
    dsimp only [Ra.bind]
    rw [dats_trues]
  have c2 : dBlt gAll (dCons (dLc (dZip (dCons (dVar 0) (dCons (dVar 1) (dNil)))) (gTp 2 (gsCons (gNm 2) (gsCons (gNm 3) (gsNil)))) (tAll) (dCall (cPos (dCons (dVar 2) (dCons (dVar 3) (dNil)))) 2 0 (bmN 2) [] (fn__law_same k)) [2, 3]) (dNil)) [some (.val (.tup ds)), some (.val (.tup ds)), none, none] [] = .ok (.val (.bl true)) [] := by
    rw [blt1 c1]
    simp only [gAll, lsOf, bls_rep, all_rep, noX]
  have c3 : dOp gEqA (dBlt (orL gLen gLenD) (dCons (dVar 0) (dNil))) (dBlt (orL gLen gLenD) (dCons (dVar 1) (dNil))) [some (.val (.tup ds)), some (.val (.tup ds)), none, none] [] = .ok (.val (.bl true)) [] := by
    show noX (gEqA (.val (.int (vals ds).length)) (.val (.int (vals ds).length)) []) = _
    rw [eqA_int]
    rfl
  show (match (Out.seq (Re.out (dAndV (dOp gEqA (dBlt (orL gLen gLenD) (dCons (dVar 0) (dNil))) (dBlt (orL gLen gLenD) (dCons (dVar 1) (dNil)))) (dBlt gAll (dCons (dLc (dZip (dCons (dVar 0) (dCons (dVar 1) (dNil)))) (gTp 2 (gsCons (gNm 2) (gsCons (gNm 3) (gsNil)))) (tAll) (dCall (cPos (dCons (dVar 2) (dCons (dVar 3) (dNil)))) 2 0 (bmN 2) [] (fn__law_same k)) [2, 3]) (dNil))) [some (.val (.tup ds)), some (.val (.tup ds)), none, none] []) [some (.val (.tup ds)), some (.val (.tup ds)), none, none] fun w Y => Out.ret w Y) _) with
    | .ret w Y1 => (match frzW 20 Y1 w with
      | some (d, _) => Pr.ok d
      | none => .bad)
    | .next _ _ => .ok .non
    | .exc c fs _ _ => .exc c fs
    | _ => .bad) = _
  unfold dAndV
  rw [c3]
  dsimp only [Re.bind]
  rw [c2]
  rfl
/-! ### what is due, and itself -/
theorem same_word : ∀ d ∈ odd ++ gw.map D.str ++ [.non, .str "yes", .int 5, .dK []], ∀ Y, fn__law_same 8 [.val (.tup [.str "word", d]), .val (.tup [.str "word", d])] Y = .ok (.val (.bl true)) Y := Each.of (P := fun d => ∀ Y, fn__law_same 8 [.val (.tup [.str "word", d]), .val (.tup [.str "word", d])] Y = .ok (.val (.bl true)) Y) (by
  refine ⟨?_, ?_, ?_, ?_, ?_, ?_, ?_, ?_, ?_, ?_, ?_, ?_, ?_, ?_, ?_, ?_, ?_, ?_, ?_, ?_, ?_, ?_, ?_, ?_, ?_, ?_, ?_, trivial⟩ <;> (intro Y; kernel_rfl))
theorem same_cond (i : Int) (Y : Ys) : fn__law_same 8 [.val (.tup [.str "condition", .int i]), .val (.tup [.str "condition", .int i])] Y = .ok (.val (.bl true)) Y := by
  rw [same_lift, same_tup (by simp) (fun d hd => ?_)]
  rcases List.mem_cons.mp hd with rfl | hd
  · exact same_str 6 _
  · rw [List.mem_singleton.mp hd]
    exact same_int 6 i
theorem same_rule (a b c : Str) (i : Int) (xs : List Str) (hl : xs.length ≤ 90) (Y : Ys) : fn__law_same 8 [.val (.tup [.str "rule", .str a, .str b, .str c, .int i, .tup (dStrs xs)]), .val (.tup [.str "rule", .str a, .str b, .str c, .int i, .tup (dStrs xs)])] Y = .ok (.val (.bl true)) Y := by
  have len : ∀ xs : List Str, (dStrs xs).length = xs.length := fun xs => by
    induction xs with
    | nil => rfl
    | cons a r ih => simp [dStrs, ih]
  have mem : ∀ (xs : List Str) (d : D), d ∈ dStrs xs → ∃ x, d = .str x := fun xs => by
    induction xs with
    | nil => intro d h; cases h
    | cons a r ih =>
      intro d h
      rcases List.mem_cons.mp (show d ∈ .str a :: dStrs r from h) with z | z
      · exact ⟨a, z⟩
      · exact ih d z
  rw [same_lift, same_tup (by simp) (fun d hd => ?_)]
  simp only [List.mem_cons, List.not_mem_nil, or_false] at hd
  rcases hd with rfl | rfl | rfl | rfl | rfl | rfl
  · exact same_str 6 _
  · exact same_str 6 _
  · exact same_str 6 _
  · exact same_str 6 _
  · exact same_int 6 _
  · refine same_tup (by rw [len]; omega) fun d hd => ?_
    obtain ⟨x, rfl⟩ := mem xs d hd
    exact same_str 5 x
end K5
set_option Elab.async false
set_option linter.all false
set_option maxRecDepth 100000
set_option maxHeartbeats 0
namespace K5
open PySem MV
/-! ### tried -/
section
variable {fe : Den} {τ : Ts} {Y Y1 : Ys}
theorem tried_w {d : D} (h : fe τ Y = .exc 3 (some [("word", d)]) Y1) : dGot (some 2) 4 tried_rest tried_after tried_cl fe τ Y = .ok (.val (.tup [.str "word", d])) Y1 := by
  simp only [dGot, runW, sSeq, sTry, sGot, h]
  kernel_rfl
theorem tried_c {d : D} (h : fe τ Y = .exc 4 (some [("index", d)]) Y1) : dGot (some 2) 4 tried_rest tried_after tried_cl fe τ Y = .ok (.val (.tup [.str "condition", d])) Y1 := by
  simp only [dGot, runW, sSeq, sTry, sGot, h]
  kernel_rfl
theorem tried_r {n s e : D} {Wn : List D} {xs : List Str} (h : fe τ Y = .ok (.val (ruleD n s e Wn xs)) Y1) : dGot (some 2) 4 tried_rest tried_after tried_cl fe τ Y = .ok (.val (.tup [.str "rule", n, s, e, .int Wn.length, .tup (dStrs (srt sLe xs))])) Y1 := by
  simp only [dGot, runW, sSeq, sTry, sGot, h]
  have hv : ((vals Wn).length : Int) = Wn.length := by rw [vals_len']
  rw [← hv]
  rfl
end
/-! ### due -/
def ub : SDen := sIf (dNot (dTest (dCall (cPos (dCons (dVar 3) (dNil))) 1 0 (bmN 1) [] fn__law_is_word))) (sRet (dTup (dCons (dC (.str "word")) (dCons (dVar 3) (dNil))))) (sNext)
def U1 : SDen := sFor (dIt (dVar 0)) (gNm 3) ub
def U2 : SDen := sIf (dNot (dTest (dIsi (ktB ["list", "tuple"]) (dVar 2)))) (sRet (dTup (dCons (dC (.str "word")) (dCons (dVar 2) (dNil))))) (sNext)
def u3 : SDen := sIf (dOr (dNot (dTest (dCall (cPos (dCons (dVar 3) (dNil))) 1 0 (bmN 1) [] fn__law_is_word))) (dTest (dOp gIn (dVar 3) (dSl (dVar 2) (oNone) (oSome (dVar 4)))))) (sRet (dTup (dCons (dC (.str "word")) (dCons (dVar 3) (dNil))))) (sNext)
def g3 : W → Ts → Ys → Option Ts := gTp 2 (gsCons (gNm 4) (gsCons (gNm 3) (gsNil)))
def U3 : SDen := sForN (dEnumN (dCons (dVar 2) (dNil))) g3 u3
def U4 : SDen := sIf (dNot (dTest (dIsi (ktB ["list"]) (dVar 1)))) (sRet (dTup (dCons (dC (.str "condition")) (dCons (dC (.int 0)) (dNil))))) (sNext)
def u5 : SDen := sIf (dNot (dTest (dVar 6))) (sRet (dTup (dCons (dC (.str "condition")) (dCons (dVar 4) (dNil))))) (sNext)
def g5 : W → Ts → Ys → Option Ts := gTp 2 (gsCons (gNm 4) (gsCons (gTp 2 (gsCons (gNm 5) (gsCons (gNm 6) (gsNil)))) (gsNil)))
def U5 : SDen := sFor (dEnum (dCons (dVar 1) (dNil))) g5 u5
def U6 : SDen := sRet (dTup (dCons (dC (.str "rule")) (dCons (dOp gItem (dVar 0) (dC (.int 0))) (dCons (dOp gItem (dVar 0) (dC (.int 1))) (dCons (dOp gItem (dVar 0) (dC (.int 2))) (dCons (dBlt (orL gLen gLenD) (dCons (dVar 1) (dNil))) (dCons (dBlt gTup (dCons (dBlt (orL gSortS gSortI) (dCons (dVar 2) (dNil))) (dNil))) (dNil))))))))
theorem due_eq : F__law_due = sSeq U1 (sSeq U2 (sSeq U3 (sSeq U4 (sSeq U5 U6)))) := rfl
section
variable {s0 s1 s2 s4 s5 s6 : Option W} {Y : Ys}
theorem ub_run {d : D} (h : Th d) : ub [s0, s1, s2, some (.val d), s4, s5, s6] Y = match wordOf d with
    | some _ => .next [s0, s1, s2, some (.val d), s4, s5, s6] Y
    | none => .ret (.val (.tup [.str "word", d])) Y := by
  show Te.out (((fn__law_is_word [.val d] Y).bindT isB).bindT fun b Y1 => Te.ok (!b) Y1) _ _ = _
  cases h with
  | od h => rw [liw_o d h Y, wordOf_od d h]; rfl
  | wd h => rw [liw_g _ h Y, wordOf_wd h]; rfl
theorem U1_run {n s e : D} (hn : Th n) (hs : Th s) (he : Th e) {s3 : Option W} : (chk1 n s e = none → U1 [some (.val (.lst [n, s, e])), s1, s2, s3, s4, s5, s6] Y = .next [some (.val (.lst [n, s, e])), s1, s2, some (.val e), s4, s5, s6] Y) ∧
    ∀ d, chk1 n s e = some d → U1 [some (.val (.lst [n, s, e])), s1, s2, s3, s4, s5, s6] Y = .ret (.val (.tup [.str "word", d])) Y := by
  have e0 : U1 [some (.val (.lst [n, s, e])), s1, s2, s3, s4, s5, s6] Y = sForL (gNm 3) ub [.val n, .val s, .val e] [some (.val (.lst [n, s, e])), s1, s2, s3, s4, s5, s6] Y := rfl
  rw [e0]
  have g : ∀ (d : D) (x : Option W), gNm 3 (.val d) [some (.val (.lst [n, s, e])), s1, s2, x, s4, s5, s6] Y = some [some (.val (.lst [n, s, e])), s1, s2, some (.val d), s4, s5, s6] := fun d x => rfl
  unfold chk1
  cases h1 : wordOf n with
  | none => exact ⟨fun z => (by cases z), fun d z => (by cases z; simp only [sForL, g, ub_run hn, h1])⟩
  | some x1 =>
    cases h2 : wordOf s with
    | none => exact ⟨fun z => (by cases z), fun d z => (by cases z; simp only [sForL, g, ub_run hn, ub_run hs, h1, h2])⟩
    | some x2 =>
      cases h3 : wordOf e with
      | none => exact ⟨fun z => (by cases z), fun d z => (by cases z; simp only [sForL, g, ub_run hn, ub_run hs, ub_run he, h1, h2, h3])⟩
      | some x3 => exact ⟨fun _ => (by simp only [sForL, g, ub_run hn, ub_run hs, ub_run he, h1, h2, h3]), fun d z => (by cases z)⟩
theorem isi_ok {Y : Ys} {w : W} {S : List D} (h : Src Y w S) : kdOf Y w = some .lst := by
  cases h with
  | dat => rfl
  | ref h => simp only [kdOf, h]
theorem U2_ok {s3 : Option W} {w : W} {S : List D} (h : Src Y w S) : U2 [s0, s1, some w, s3, s4, s5, s6] Y = .next [s0, s1, some w, s3, s4, s5, s6] Y := by
  show Te.out (((isiW (ktB ["list", "tuple"]) w Y).bindT isB).bindT fun b Y1 => Te.ok (!b) Y1) _ _ = _
  unfold isiW
  rw [isi_ok h]
  rfl
theorem U2_no {s3 : Option W} {d : D} (h : d ∈ oddS) : U2 [s0, s1, some (.val d), s3, s4, s5, s6] Y = .ret (.val (.tup [.str "word", d])) Y := by
  exact Each.of (l := oddS) (P := fun d => U2 [s0, s1, some (.val d), s3, s4, s5, s6] Y = .ret (.val (.tup [.str "word", d])) Y) ⟨rfl, rfl, rfl, rfl, trivial⟩ d h
theorem cut_take {ks : List Str} {S : List D} : cutL (vals (ks.map D.str ++ S)) none (some (ks.length : Int)) = vals (ks.map D.str) := by
  have va : ∀ a b : List D, vals (a ++ b) = vals a ++ vals b := fun a b => by
    induction a with
    | nil => rfl
    | cons x r ih => simp [vals, ih]
  have hl : (vals (ks.map D.str)).length = ks.length := by rw [vals_len', List.length_map]
  unfold cutL
  show List.take (min ks.length _ - 0) (List.drop 0 _) = _
  rw [va, List.drop_zero, Nat.sub_zero, List.length_append, hl, Nat.min_eq_left (by omega), List.take_left' hl]
theorem sl_run {w : W} {ks : List Str} {S : List D} (h : Src Y w (ks.map D.str ++ S)) {s3 : Option W} : dSl (dVar 2) (oNone) (oSome (dVar 4)) [s0, s1, some w, s3, some (.val (.int (ks.length : Nat))), s5, s6] Y = .ok (.val (.lst (ks.map D.str))) Y := by
  show noX (gSl w none (some (ks.length : Int)) Y) = _
  unfold gSl orS gSlL
  rw [lsOf_src h]
  dsimp only
  rw [cut_take, dats_vals]
  rfl
theorem u3_eq {d : D} : u3 [s0, s1, s2, some (.val d), s4, s5, s6] Y = Te.out (((fn__law_is_word [.val d] Y).bindT isB).bindT fun b Y1 => if (!b) = true then .ok true Y1 else dTest (dOp gIn (dVar 3) (dSl (dVar 2) (oNone) (oSome (dVar 4)))) [s0, s1, s2, some (.val d), s4, s5, s6] Y1) [s0, s1, s2, some (.val d), s4, s5, s6] fun b Y1 => if b = true then .ret (.val (.tup [.str "word", d])) Y1 else .next [s0, s1, s2, some (.val d), s4, s5, s6] Y1 := by
  show Te.out ((((fn__law_is_word [.val d] Y).bindT isB).bindT fun b Y1 => Te.ok (!b) Y1).bindT _) _ _ = _
  cases (fn__law_is_word [.val d] Y).bindT isB <;> rfl
theorem u3_odd {d : D} (h : d ∈ odd) : u3 [s0, s1, s2, some (.val d), s4, s5, s6] Y = .ret (.val (.tup [.str "word", d])) Y := by
  rw [u3_eq, liw_o d h Y]
  rfl
theorem u3_wd {x : Str} {w : W} {ks : List Str} {S : List D} (hx : x ∈ gw) (h : Src Y w (ks.map D.str ++ S)) : u3 [s0, s1, some w, some (.val (.str x)), some (.val (.int (ks.length : Nat))), s5, s6] Y = match inS x ks with
    | true => .ret (.val (.tup [.str "word", .str x])) Y
    | false => .next [s0, s1, some w, some (.val (.str x)), some (.val (.int (ks.length : Nat))), s5, s6] Y := by
  rw [u3_eq, liw_g x hx Y]
  have e : dTest (dOp gIn (dVar 3) (dSl (dVar 2) (oNone) (oSome (dVar 4)))) [s0, s1, some w, some (.val (.str x)), some (.val (.int (ks.length : Nat))), s5, s6] Y = .ok (inS x ks) Y := by
    unfold dTest dOp
    have v : dVar 3 [s0, s1, some w, some (.val (.str x)), some (.val (.int (ks.length : Nat))), s5, s6] Y = .ok (.val (.str x)) Y := rfl
    rw [v]
    dsimp only [Re.bind]
    rw [sl_run h]
    dsimp only [Re.bind]
    rw [in_strs]
    rfl
  show Te.out (dTest (dOp gIn (dVar 3) (dSl (dVar 2) (oNone) (oSome (dVar 4)))) [s0, s1, some w, some (.val (.str x)), some (.val (.int (ks.length : Nat))), s5, s6] Y) _ _ = _
  rw [e]
  cases inS x ks <;> rfl
theorem says_loop {nx : Nx} {w : W} : ∀ (S : List D) (fuel : Nat) (ks : List Str) (x3 x4 : Option W), Src Y w (ks.map D.str ++ S) → NxtE nx Y ks.length S → S.length < fuel → (∀ d ∈ S, Th d) →
    (chk ks S = none → ∃ x3' x4', sForNL nx g3 u3 fuel ks.length [s0, s1, some w, x3, x4, s5, s6] Y = .next [s0, s1, some w, x3', x4', s5, s6] Y) ∧ ∀ d, chk ks S = some d → sForNL nx g3 u3 fuel ks.length [s0, s1, some w, x3, x4, s5, s6] Y = .ret (.val (.tup [.str "word", d])) Y
  | [], 0, _, _, _, _, _, h, _ => by simp at h
  | [], f + 1, ks, x3, x4, _, hn, _, _ => by
    have e : nx ks.length Y = some none := by simpa using hn 0
    refine ⟨fun _ => ⟨x3, x4, ?_⟩, fun d h => (by cases h)⟩
    unfold sForNL
    rw [e]
  | d :: S, 0, _, _, _, _, _, h, _ => by simp at h
  | d :: S, f + 1, ks, x3, x4, hs, hn, hf, ht => by
    have e : nx ks.length Y = some (some (.val (.tup [.int (ks.length : Nat), d]))) := by simpa using hn 0
    have td := ht d List.mem_cons_self
    have g : g3 (.val (.tup [.int (ks.length : Nat), d])) [s0, s1, some w, x3, x4, s5, s6] Y = some [s0, s1, some w, some (.val d), some (.val (.int (ks.length : Nat))), s5, s6] := rfl
    unfold sForNL
    rw [e]
    dsimp only
    rw [g]
    dsimp only
    cases td with
    | od h =>
      rw [u3_odd h]
      unfold chk
      rw [wordOf_od d h]
      exact ⟨fun z => (by cases z), fun d' z => (by cases z; rfl)⟩
    | @wd x h =>
      rw [u3_wd h hs]
      unfold chk
      rw [wordOf_wd h]
      dsimp only
      cases hi : inS x ks with
      | true => exact ⟨fun z => (by cases z), fun d' z => (by cases z; rfl)⟩
      | false =>
        rw [List.length_cons] at hf
        have hk : (ks ++ [x]).length = ks.length + 1 := by simp
        have ih := says_loop (nx := nx) S f (ks ++ [x]) (some (.val (.str x))) (some (.val (.int (ks.length : Nat)))) (by simpa using hs) (by rw [hk]; exact hn.tail) (by omega) fun d hd => ht d (List.mem_cons_of_mem _ hd)
        rw [hk] at ih
        exact ih
theorem U3_run {x3 x4 : Option W} {w : W} {S : List D} (h : Src Y w S) (ht : ∀ d ∈ S, Th d) :
    (chk [] S = none → ∃ x3' x4', U3 [s0, s1, some w, x3, x4, s5, s6] Y = .next [s0, s1, some w, x3', x4', s5, s6] Y) ∧ ∀ d, chk [] S = some d → U3 [s0, s1, some w, x3, x4, s5, s6] Y = .ret (.val (.tup [.str "word", d])) Y := by
  have key : ∃ nx, NxtE nx Y 0 S ∧ U3 [s0, s1, some w, x3, x4, s5, s6] Y = sForNL nx g3 u3 (S.length + 1) 0 [s0, s1, some w, x3, x4, s5, s6] Y := by
    cases h with
    | dat => exact ⟨nxL (numd 0 S), fun j => by simp [nxL, numd_get'], rfl⟩
    | @ref m _ h =>
      refine ⟨nxE m, fun j => ?_, ?_⟩
      · unfold nxE
        rw [h]
        dsimp only
        rw [vals_get', Nat.zero_add]
        cases S[j]? with
        | none => rfl
        | some d => rfl
      · unfold U3 sForN
        have : dEnumN (dCons (dVar 2) (dNil)) [s0, s1, some (.ref m), x3, x4, s5, s6] Y = .ok (nxE m) ((vals S).length + 1) Y := by
          show (match Y[m]? with
            | some (.lst ws) => Rn.ok (nxE m) (ws.length + 1) Y
            | _ => .bad) = _
          rw [h]
        rw [this, vals_len']
  obtain ⟨nx, hn, e⟩ := key
  rw [e]
  exact says_loop S (S.length + 1) [] x3 x4 h hn (by omega) ht
/-- what is needed, with what is due -/
def needD (l : List (D × Bool)) : List D := l.map fun p => .tup [p.1, .bl p.2]
theorem needs_loop {w0 w1 w2 : Option W} : ∀ (l : List (D × Bool)) (i : Nat) (x3 x4 x5 x6 : Option W),
    (chkC i l = none → ∃ x4' x5' x6', sForL g5 u5 (numd i (needD l)) [w0, w1, w2, x3, x4, x5, x6] Y = .next [w0, w1, w2, x3, x4', x5', x6'] Y) ∧ ∀ k, chkC i l = some k → sForL g5 u5 (numd i (needD l)) [w0, w1, w2, x3, x4, x5, x6] Y = .ret (.val (.tup [.str "condition", .int (k : Nat)])) Y
  | [], i, x3, x4, x5, x6 => ⟨fun _ => ⟨x4, x5, x6, rfl⟩, fun k z => (by cases z)⟩
  | (d, b) :: l, i, x3, x4, x5, x6 => by
    have e : numd i (needD ((d, b) :: l)) = .val (.tup [.int (i : Nat), .tup [d, .bl b]]) :: numd (i + 1) (needD l) := rfl
    have g : g5 (.val (.tup [.int (i : Nat), .tup [d, .bl b]])) [w0, w1, w2, x3, x4, x5, x6] Y = some [w0, w1, w2, x3, some (.val (.int (i : Nat))), some (.val d), some (.val (.bl b))] := rfl
    rw [e]
    unfold sForL
    rw [g]
    dsimp only
    cases b with
    | true => exact needs_loop l (i + 1) x3 (some (.val (.int (i : Nat)))) (some (.val d)) (some (.val (.bl true)))
    | false => exact ⟨fun z => (by cases z), fun k z => (by cases z; rfl)⟩
end
/-- needs: none, or pairs -/
def needW : Option (List (D × Bool)) → W
  | none => .val .non
  | some l => .val (.lst (needD l))
def dueD (n s e : D) (sk : D ⊕ List D) (wk : Option (List (D × Bool))) : D := match fault n s e sk wk with
  | some (3, _, d) => .tup [.str "word", d]
  | some (_, _, d) => .tup [.str "condition", d]
  | none => (match sk, wk with
    | .inr S, some l => .tup [.str "rule", n, s, e, .int l.length, .tup (dStrs (srt sLe (wds S)))]
    | _, _ => .non)
theorem due_run {Y : Ys} {n s e : D} {sy : W} {sk : D ⊕ List D} {wk : Option (List (D × Bool))} (hn : Th n) (hs : Th s) (he : Th e) (hS : SayR Y sy sk) :
    fn__law_due [.val (.lst [n, s, e]), needW wk, sy] Y = .ok (.val (dueD n s e sk wk)) Y := by
  have e0 : fn__law_due [.val (.lst [n, s, e]), needW wk, sy] Y = (match F__law_due [some (.val (.lst [n, s, e])), some (needW wk), some sy, none, none, none, none] Y with
    | .ret w Y1 => Re.ok w Y1
    | .next _ Y1 => .ok (.val .non) Y1
    | .exc c fs _ Y1 => .exc c fs Y1
    | _ => .bad) := rfl
  rw [e0, due_eq]
  unfold sSeq
  obtain ⟨a1, a2⟩ := U1_run (s1 := some (needW wk)) (s2 := some sy) (s3 := none) (s4 := none) (s5 := none) (s6 := none) (Y := Y) hn hs he
  unfold dueD fault
  cases c1 : chk1 n s e with
  | some d => rw [a2 d c1]; rfl
  | none =>
    rw [a1 c1]
    dsimp only [Out.seq]
    cases hS with
    | @no d h => rw [U2_no h]; rfl
    | @row _ S h hl ht =>
      rw [U2_ok h]
      dsimp only [Out.seq]
      obtain ⟨b1, b2⟩ := U3_run (s0 := some (.val (.lst [n, s, e]))) (s1 := some (needW wk)) (x3 := some (.val e)) (x4 := none) (s5 := none) (s6 := none) h ht
      cases c2 : chk [] S with
      | some d => rw [b2 d c2]; rfl
      | none =>
        obtain ⟨x3, x4, e3⟩ := b1 c2
        rw [e3]
        dsimp only [Out.seq]
        cases wk with
        | none => rfl
        | some l =>
          have e4 : U4 [some (.val (.lst [n, s, e])), some (needW (some l)), some sy, x3, x4, none, none] Y = .next [some (.val (.lst [n, s, e])), some (needW (some l)), some sy, x3, x4, none, none] Y := rfl
          rw [e4]
          dsimp only [Out.seq]
          have e5 : U5 [some (.val (.lst [n, s, e])), some (needW (some l)), some sy, x3, x4, none, none] Y = sForL g5 u5 (numd 0 (needD l)) [some (.val (.lst [n, s, e])), some (needW (some l)), some sy, x3, x4, none, none] Y := rfl
          rw [e5]
          obtain ⟨d1, d2⟩ := needs_loop (Y := Y) (w0 := some (.val (.lst [n, s, e]))) (w1 := some (needW (some l))) (w2 := some sy) l 0 x3 x4 none none
          cases c3 : chkC 0 l with
          | some k => rw [d2 k c3]; rfl
          | none =>
            obtain ⟨x4', x5', x6', e6⟩ := d1 c3
            rw [e6]
            dsimp only [Out.seq]
            have es := chk_none c2
            have hlen : (wds S).length ≤ 60 := by
              have := congrArg List.length es
              rw [List.length_map] at this
              omega
            rw [es] at h
            have b : below64 (vals ((wds S).map D.str)).length = true := by
              rw [vals_len', List.length_map]
              exact Nat.blt_eq.mpr (by omega)
            have t5 : orL gSortS gSortI [sy] Y = .ok (.val (.lst (dStrs (srt sLe (wds S))))) Y := by
              simp only [orL, gSortS, lsOf_src h, strsOf_map, b]
            have t6 : gTup [.val (.lst (dStrs (srt sLe (wds S))))] Y = .ok (.val (.tup (dStrs (srt sLe (wds S))))) Y := tup_src .dat
            have t4 : orL gLen gLenD [needW (some l)] Y = .ok (.val (.int l.length)) Y := by
              show Re.ok (.val (.int (vals (needD l)).length)) Y = _
              rw [vals_len', needD, List.length_map]
            have i0 : gItem (.val (.lst [n, s, e])) (.val (.int 0)) Y = .ok (.val n) Y := rfl
            have i1 : gItem (.val (.lst [n, s, e])) (.val (.int 1)) Y = .ok (.val s) Y := rfl
            have i2 : gItem (.val (.lst [n, s, e])) (.val (.int 2)) Y = .ok (.val e) Y := rfl
            have l6 : lines 6 = true := rfl
            simp only [U6, sRet, dTup, dCons, dNil, dC, dOp, dVar, dBlt, List.getElem?_cons_zero, List.getElem?_cons_succ, Re.bind, Re.out, Ra.bind, i0, i1, i2, t4, t5, t6, noX, dats, List.length_cons, List.length_nil, Nat.zero_add, Nat.reduceAdd, l6]
end K5
set_option Elab.async false
set_option linter.all false
set_option maxRecDepth 100000
set_option maxHeartbeats 0
namespace K5
open PySem MV
/-! ### finite checks -/
def w7 : List Str := ["a", "yes", "longword", "jumpkivy", "cdfghlqz", "no", "x"]
def isRb (r : Re) (b : Bool) : Bool := match r with
  | .ok (.val (.bl c)) [] => c == b
  | _ => false
theorem isRb_eq {r : Re} {b : Bool} (h : isRb r b = true) : r = .ok (.val (.bl b)) [] := by
  unfold isRb at h
  split at h
  · rw [eq_of_beq h]
  · cases h
def rows3 {α : Type} (L : List α) (p : List α → Bool) : Bool := p [] && L.all fun a => p [a] && L.all fun b => p [a, b] && L.all fun c => p [a, b, c]
theorem rows3_ok {α : Type} {L : List α} {p : List α → Bool} (h : rows3 L p = true) {xs : List α} (hl : xs.length ≤ 3) (hm : ∀ x ∈ xs, x ∈ L) : p xs = true := by
  unfold rows3 at h
  rw [Bool.and_eq_true] at h
  obtain ⟨h0, h1⟩ := h
  match xs, hl, hm with
  | [], _, _ => exact h0
  | [a], _, hm =>
    have := List.all_eq_true.mp h1 a (hm a (by simp))
    rw [Bool.and_eq_true] at this
    exact this.1
  | [a, b], _, hm =>
    have := List.all_eq_true.mp h1 a (hm a (by simp))
    rw [Bool.and_eq_true] at this
    have := List.all_eq_true.mp this.2 b (hm b (by simp))
    rw [Bool.and_eq_true] at this
    exact this.1
  | [a, b, c], _, hm =>
    have := List.all_eq_true.mp h1 a (hm a (by simp))
    rw [Bool.and_eq_true] at this
    have := List.all_eq_true.mp this.2 b (hm b (by simp))
    rw [Bool.and_eq_true] at this
    exact List.all_eq_true.mp this.2 c (hm c (by simp))
  | a :: b :: c :: d :: r, hl, _ => simp at hl
/-- another name -/
def q1 (a : Str) : Str := bif sEq a "a" then "aq" else bif sEq a "yes" then "yesq" else bif sEq a "no" then "noq" else bif sEq a "x" then "xq" else "q"
def nmNe (a b c a' b' c' : Str) : Re := gNe (.val (.tup [.str a, .str b, .str c])) (.val (.tup [.str a', .str b', .str c'])) []
def nmOk (a b c : Str) : Bool := isRb (nmNe a b c a b c) false && (isRb (nmNe a b c (q1 a) b c) true && (isRb (nmNe a b c a "qqq" c) true && isRb (nmNe a b c a b "qqq") true))
theorem nm_all : (w7.all fun a => w7.all fun b => w7.all fun c => nmOk a b c) = true := by kernel_rfl
theorem nm_ok {a b c : Str} (ha : a ∈ w7) (hb : b ∈ w7) (hc : c ∈ w7) : nmNe a b c a b c = .ok (.val (.bl false)) [] ∧ nmNe a b c (q1 a) b c = .ok (.val (.bl true)) [] ∧ nmNe a b c a "qqq" c = .ok (.val (.bl true)) [] ∧ nmNe a b c a b "qqq" = .ok (.val (.bl true)) [] := by
  have h : nmOk a b c = true := List.all_eq_true.mp (List.all_eq_true.mp (List.all_eq_true.mp nm_all a ha) b hb) c hc
  unfold nmOk at h
  simp only [Bool.and_eq_true] at h
  exact ⟨isRb_eq h.1, isRb_eq h.2.1, isRb_eq h.2.2.1, isRb_eq h.2.2.2⟩
def sayT (xs : List Str) : W := .val (.tup (dStrs (srt sLe xs)))
def noneB {α : Type} : Option α → Bool
  | none => true
  | some _ => false
def syOk (xs : List Str) : Bool := isRb (gEqA (sayT xs) (sayT xs) []) true && (isRb (gEqA (sayT xs) (sayT (xs ++ [("qqq" : Str)])) []) false && (isRb (gEqA (sayT xs) (sayT (revL xs [])) []) true && (!inS "spoilt" (srt sLe xs) && (!noneB (chk [] (xs.map D.str)) || (noneB (chk [] ((xs ++ [("qqq" : Str)]).map D.str)) && noneB (chk [] ((revL xs []).map D.str)))))))
theorem sy_all : rows3 w7 syOk = true := by kernel_rfl
theorem noneB_eq {α : Type} {o : Option α} (h : noneB o = true) : o = none := by
  cases o with
  | none => rfl
  | some _ => cases h
theorem sy_ok {xs : List Str} (hl : xs.length ≤ 3) (hx : ∀ x ∈ xs, x ∈ w7) (hc : chk [] (xs.map D.str) = none) : gEqA (sayT xs) (sayT xs) [] = .ok (.val (.bl true)) [] ∧ gEqA (sayT xs) (sayT (xs ++ [("qqq" : Str)])) [] = .ok (.val (.bl false)) [] ∧ gEqA (sayT xs) (sayT (revL xs [])) [] = .ok (.val (.bl true)) [] ∧ inS "spoilt" (srt sLe xs) = false ∧ chk [] ((xs ++ [("qqq" : Str)]).map D.str) = none ∧ chk [] ((revL xs []).map D.str) = none := by
  have h := rows3_ok sy_all hl hx
  unfold syOk at h
  rw [hc] at h
  simp only [Bool.and_eq_true] at h
  obtain ⟨h1, h2, h3, h4, h5⟩ := h
  have h5' := (Bool.and_eq_true_iff.mp (show (noneB (chk [] ((xs ++ [("qqq" : Str)]).map D.str)) && noneB (chk [] ((revL xs []).map D.str))) = true from h5))
  refine ⟨isRb_eq h1, isRb_eq h2, isRb_eq h3, ?_, noneB_eq h5'.1, noneB_eq h5'.2⟩
  cases hq : inS "spoilt" (srt sLe xs) with
  | false => rfl
  | true => rw [hq] at h4; cases h4
def whOk (Wn : List D) : Bool := isRb (gEqW selP ktE 3 (.val (.tup Wn)) (.val (.tup Wn)) []) true && isRb (gEqW selP ktE 3 (.val (.tup Wn)) (.val (.tup (Wn ++ [cQ]))) []) false
theorem wh_all : rows3 goodC whOk = true := by kernel_rfl
theorem wh_ok {Wn : List D} (hl : Wn.length ≤ 3) (hw : ∀ d ∈ Wn, d ∈ goodC) : gEqW selP ktE 3 (.val (.tup Wn)) (.val (.tup Wn)) [] = .ok (.val (.bl true)) [] ∧ gEqW selP ktE 3 (.val (.tup Wn)) (.val (.tup (Wn ++ [cQ]))) [] = .ok (.val (.bl false)) [] := by
  have h := rows3_ok wh_all hl hw
  unfold whOk at h
  simp only [Bool.and_eq_true] at h
  exact ⟨isRb_eq h.1, isRb_eq h.2⟩
def no5 (Wn : List D) : Prop := ∀ Y, gNotInW selP ktE 3 (.val (.int 5)) (.val (.tup Wn)) Y = .ok (.val (.bl true)) Y
theorem no5_ok {Wn : List D} (hl : Wn.length ≤ 3) (hw : ∀ d ∈ Wn, d ∈ goodC) : no5 Wn := by
  have one : ∀ d ∈ goodC, d = cA ∨ d = cB ∨ d = cZ := fun d h => by
    unfold goodC at h
    rcases List.mem_cons.mp h with h | h
    · exact .inl h
    rcases List.mem_cons.mp h with h | h
    · exact .inr (.inl h)
    exact .inr (.inr (List.mem_singleton.mp h))
  match Wn, hl, hw with
  | [], _, _ => intro Y; kernel_rfl
  | [a], _, hm => rcases one a (hm a (by simp)) with rfl | rfl | rfl <;> (intro Y; kernel_rfl)
  | [a, b], _, hm => rcases one a (hm a (by simp)) with rfl | rfl | rfl <;> rcases one b (hm b (by simp)) with rfl | rfl | rfl <;> (intro Y; kernel_rfl)
  | [a, b, c], _, hm => rcases one a (hm a (by simp)) with rfl | rfl | rfl <;> rcases one b (hm b (by simp)) with rfl | rfl | rfl <;> rcases one c (hm c (by simp)) with rfl | rfl | rfl <;> (intro Y; kernel_rfl)
  | a :: b :: c :: d :: r, hl, _ => simp at hl
/-! ### Rule.__eq__ -/
def eqT : TDen := dOr (dNot (dTest (dIsi ktRule (dVar 1)))) (dTest (dOp gNe (dTup (dCons (dFld ix_name (dVar 0)) (dCons (dFld ix_start (dVar 0)) (dCons (dFld ix_end (dVar 0)) (dNil))))) (dTup (dCons (dFld ix_name (dVar 1)) (dCons (dFld ix_start (dVar 1)) (dCons (dFld ix_end (dVar 1)) (dNil)))))))
def eqR : Den := dAndV (dOp (gEqW selP ktE 3) (dFld ix_when (dVar 0)) (dFld ix_when (dVar 1))) (dOp gEqA (dFld ix_says (dVar 0)) (dFld ix_says (dVar 1)))
theorem req_eq : F_Rule_eq_ = sSeq (sIf eqT (sRet (dC (.bl false))) (sNext)) (sRet eqR) := rfl
section
variable {a b c a' b' c' : Str} {Wn Wn' : List D} {xs xs' : List Str}
abbrev rD (a b c : Str) (Wn : List D) (xs : List Str) : D := ruleD (.str a) (.str b) (.str c) Wn xs
theorem eqT_run {z : Bool} (h : nmNe a b c a' b' c' = .ok (.val (.bl z)) []) : eqT [some (.val (rD a b c Wn xs)), some (.val (rD a' b' c' Wn' xs'))] [] = .ok z [] := by
  show Re.bindT (noX (nmNe a b c a' b' c')) isB = _
  rw [h]
  rfl
theorem req_pn : pn_Rule_eq_ [rD a b c Wn xs, rD a' b' c' Wn' xs'] = (match ((Te.out (eqT [some (.val (rD a b c Wn xs)), some (.val (rD a' b' c' Wn' xs'))] []) [some (.val (rD a b c Wn xs)), some (.val (rD a' b' c' Wn' xs'))] fun z Y1 => if z = true then .ret (.val (.bl false)) Y1 else .next [some (.val (rD a b c Wn xs)), some (.val (rD a' b' c' Wn' xs'))] Y1).seq (sRet eqR)) with
    | .ret w Y1 => (match frzW 20 Y1 w with
      | some (d, _) => Pr.ok d
      | none => .bad)
    | .next _ _ => .ok .non
    | .exc c fs _ _ => .exc c fs
    | _ => .bad) := rfl
theorem req_nm (h : nmNe a b c a' b' c' = .ok (.val (.bl true)) []) : pn_Rule_eq_ [rD a b c Wn xs, rD a' b' c' Wn' xs'] = .ok (.bl false) := by
  rw [req_pn, eqT_run h]
  rfl
theorem req_wh (h : nmNe a b c a' b' c' = .ok (.val (.bl false)) []) (h2 : gEqW selP ktE 3 (.val (.tup Wn)) (.val (.tup Wn')) [] = .ok (.val (.bl false)) []) : pn_Rule_eq_ [rD a b c Wn xs, rD a' b' c' Wn' xs'] = .ok (.bl false) := by
  have e : eqR [some (.val (rD a b c Wn xs)), some (.val (rD a' b' c' Wn' xs'))] [] = .ok (.val (.bl false)) [] := by
    unfold eqR dAndV
    have e1 : dOp (gEqW selP ktE 3) (dFld ix_when (dVar 0)) (dFld ix_when (dVar 1)) [some (.val (rD a b c Wn xs)), some (.val (rD a' b' c' Wn' xs'))] [] = noX (gEqW selP ktE 3 (.val (.tup Wn)) (.val (.tup Wn')) []) := rfl
    rw [e1, h2]
    rfl
  rw [req_pn, eqT_run h]
  show (match (Re.out (eqR [some (.val (rD a b c Wn xs)), some (.val (rD a' b' c' Wn' xs'))] []) [some (.val (rD a b c Wn xs)), some (.val (rD a' b' c' Wn' xs'))] fun w Y1 => Out.ret w Y1) with
    | .ret w Y1 => (match frzW 20 Y1 w with
      | some (d, _) => Pr.ok d
      | none => .bad)
    | .next _ _ => .ok .non
    | .exc c fs _ _ => .exc c fs
    | _ => .bad) = _
  rw [e]
  rfl
theorem req_sy {z : Bool} (h : nmNe a b c a' b' c' = .ok (.val (.bl false)) []) (h2 : gEqW selP ktE 3 (.val (.tup Wn)) (.val (.tup Wn')) [] = .ok (.val (.bl true)) []) (h3 : gEqA (sayT xs) (sayT xs') [] = .ok (.val (.bl z)) []) : pn_Rule_eq_ [rD a b c Wn xs, rD a' b' c' Wn' xs'] = .ok (.bl z) := by
  have e : eqR [some (.val (rD a b c Wn xs)), some (.val (rD a' b' c' Wn' xs'))] [] = .ok (.val (.bl z)) [] := by
    unfold eqR dAndV
    have e1 : dOp (gEqW selP ktE 3) (dFld ix_when (dVar 0)) (dFld ix_when (dVar 1)) [some (.val (rD a b c Wn xs)), some (.val (rD a' b' c' Wn' xs'))] [] = noX (gEqW selP ktE 3 (.val (.tup Wn)) (.val (.tup Wn')) []) := rfl
    have e2 : dOp gEqA (dFld ix_says (dVar 0)) (dFld ix_says (dVar 1)) [some (.val (rD a b c Wn xs)), some (.val (rD a' b' c' Wn' xs'))] [] = noX (gEqA (sayT xs) (sayT xs') []) := rfl
    rw [e1, h2]
    dsimp only [noX, Re.bind]
    rw [e2, h3]
    rfl
  rw [req_pn, eqT_run h]
  show (match (Re.out (eqR [some (.val (rD a b c Wn xs)), some (.val (rD a' b' c' Wn' xs'))] []) [some (.val (rD a b c Wn xs)), some (.val (rD a' b' c' Wn' xs'))] fun w Y1 => Out.ret w Y1) with
    | .ret w Y1 => (match frzW 20 Y1 w with
      | some (d, _) => Pr.ok d
      | none => .bad)
    | .next _ _ => .ok .non
    | .exc c fs _ _ => .exc c fs
    | _ => .bad) = _
  rw [e]
  rfl
theorem eqO_run {Y : Ys} {z : Bool} (h : pn_Rule_eq_ [rD a b c Wn xs, rD a' b' c' Wn' xs'] = .ok (.bl z)) : gEqO selEq ktE (.val (rD a b c Wn xs)) (.val (rD a' b' c' Wn' xs')) Y = .ok (.val (.bl z)) Y := by
  have e : gEqO selEq ktE (.val (rD a b c Wn xs)) (.val (rD a' b' c' Wn' xs')) Y = (match (match pn_Rule_eq_ [rD a b c Wn xs, rD a' b' c' Wn' xs'] with
    | .ok d => Re.ok (.val d) Y
    | .exc c fs => .exc c fs Y
    | .bad => .bad) with
    | .ok (.val (.bl r)) Y1 => .ok (.val (.bl (negB false r))) Y1
    | _ => .bad) := rfl
  rw [e, h]
  rfl
theorem neO_run {Y : Ys} {z : Bool} (h : pn_Rule_eq_ [rD a b c Wn xs, rD a' b' c' Wn' xs'] = .ok (.bl z)) : gNeO selEq ktE (.val (rD a b c Wn xs)) (.val (rD a' b' c' Wn' xs')) Y = .ok (.val (.bl (negB true z))) Y := by
  have e : gNeO selEq ktE (.val (rD a b c Wn xs)) (.val (rD a' b' c' Wn' xs')) Y = (match (match pn_Rule_eq_ [rD a b c Wn xs, rD a' b' c' Wn' xs'] with
    | .ok d => Re.ok (.val d) Y
    | .exc c fs => .exc c fs Y
    | .bad => .bad) with
    | .ok (.val (.bl r)) Y1 => .ok (.val (.bl (negB true r))) Y1
    | _ => .bad) := rfl
  rw [e, h]
theorem eqO_lst {Y : Ys} {ds : List D} : gEqO selEq ktE (.val (rD a b c Wn xs)) (.val (.lst ds)) Y = .ok (.val (.bl false)) Y := rfl
end
/-! ### Rule(..) of words -/
theorem map_inj : ∀ {xs ys : List Str}, xs.map D.str = ys.map D.str → xs = ys
  | [], [], _ => rfl
  | [], _ :: _, h => by cases h
  | _ :: _, [], h => by cases h
  | x :: xs, y :: ys, h => by
    rw [List.map_cons, List.map_cons] at h
    injection h with h1 h2
    injection h1 with h1
    rw [h1, map_inj h2]
theorem chkC_true : ∀ (Wn : List D) (i : Nat), chkC i (Wn.map fun d => (d, true)) = none
  | [], _ => rfl
  | _ :: r, i => chkC_true r (i + 1)
theorem fsts_true (Wn : List D) : fsts (Wn.map fun d => (d, true)) = Wn := by
  unfold fsts
  rw [List.map_map]
  exact List.map_id _
theorem mkE {f : CDen} {τ : Ts} {Y Y1 : Ys} {a b c : Str} {wh sy : W} {Wn : List D} {xs : List Str} (hf : f τ Y = .ok [.val (.str a), .val (.str b), .val (.str c), wh, sy] [] Y1) (ha : a ∈ gw) (hb : b ∈ gw) (hc : c ∈ gw) (hW : SrcT Y1 wh Wn) (hw : ∀ d ∈ Wn, d ∈ [cA, cB, cZ, cQ]) (hS : Src Y1 sy (xs.map D.str)) (hx : ∀ x ∈ xs, x ∈ gw) (hl : xs.length ≤ 60) (hk : chk [] (xs.map D.str) = none) : mkR f τ Y = .ok (.val (rD a b c Wn xs)) (Y1 ++ [.dead]) := by
  have hS' : SayR Y1 sy (.inr (xs.map D.str)) := .row hS (by rw [List.length_map]; exact hl) fun d hd => by
    obtain ⟨x, h1, rfl⟩ := List.mem_map.mp hd
    exact .wd (hx x h1)
  have hW' : WhenR Y1 wh (some (Wn.map fun d => (d, true))) := .row (by rw [fsts_true]; exact hW) fun p hp => by
    obtain ⟨d, h1, rfl⟩ := List.mem_map.mp hp
    exact .cd (hw d h1)
  obtain ⟨_, m2⟩ := mk_run hf (.wd ha) (.wd hb) (.wd hc) hS' hW'
  obtain ⟨S, l, e1, e2, _, e4, e5⟩ := m2 (by
    unfold fault chk1
    rw [wordOf_wd ha, wordOf_wd hb, wordOf_wd hc]
    dsimp only
    rw [hk]
    dsimp only
    rw [chkC_true])
  injection e1 with e1
  injection e2 with e2
  rw [e5, ← e2, fsts_true]
  rw [← e1] at e4
  rw [← e1, ← map_inj e4]
end K5
set_option Elab.async false
set_option linter.all false
set_option maxRecDepth 100000
set_option maxHeartbeats 0
namespace K5
open PySem MV
/-! ### equal and right -/
def fI (i : Int) : Den := dOp gItem (dVar 0) (dC (.int i))
def rA (x y z u v : Den) : CDen := cPos (dCons x (dCons y (dCons z (dCons u (dCons v (dNil))))))
def f0 : CDen := rA (fI 0) (fI 1) (fI 2) (dVar 1) (dVar 2)
def qN : Den := dIf (dTest (dOp gLt (dBlt (orL gLen gLenD) (dCons (dOp gItem (dVar 0) (dC (.int 0))) (dNil))) (dC (.int 8)))) (dOp gAdd (dOp gItem (dVar 0) (dC (.int 0))) (dC (.str "q"))) (dC (.str "q"))
def qC : Den := dLst (dCons (dCall (cPos (dCons (dCallS (cPos (dCons (dC (.str "q")) (dNil))) fn_heard) (dCons (dC (.int 1)) (dNil)))) 2 0 (bmN 2) [] fn_at_least) (dNil))
def qW : Den := dOp gAdd (dBlt gList (dCons (dVar 1) (dNil))) qC
def qS : Den := dOp gAdd (dBlt gList (dCons (dVar 2) (dNil))) (dLst (dCons (dC (.str "qqq")) (dNil)))
def app (f : CDen) : SDen := sExpr (dBm gAppend (dVar 3) (dCons (mkR f) (dNil)))
def E1 : SDen := sAsg (gTp 2 (gsCons (gNm 4) (gsCons (gNm 5) (gsNil)))) (dTup (dCons (mkR f0) (dCons (mkR f0) (dNil))))
def t2 : TDen := dOr (dNot (dTest (dIsi (ktB ["tuple"]) (dFld ix_when (dVar 4))))) (dOr (dNot (dTest (dOp (gEqO selEq ktE) (dVar 4) (dVar 5)))) (dOr (dTest (dOp (gNeO selEq ktE) (dVar 4) (dVar 5))) (dTest (dOp (gEqO selEq ktE) (dVar 4) (dVar 0)))))
def fls : SDen := sRet (dC (.bl false))
def E3 : SDen := sSet 3 (dLstR (dCons (mkR (rA qN (fI 1) (fI 2) (dVar 1) (dVar 2))) (dNil)))
def bd : Den := dOp (gEqO selEq ktE) (dVar 4) (dVar 6)
def t8 : TDen := dTest (dBlt gAny (dCons (dLc (dIt (dVar 3)) (gNm 6) (tAll) bd [6]) (dNil)))
def t9 : TDen := dNot (dTest (dOp (gEqO selEq ktE) (dVar 4) (mkR (rA (fI 0) (fI 1) (fI 2) (dVar 1) (dRev (dVar 2))))))
def t10 : TDen := dOr (dNot (dTest (dIsi (ktB ["list"]) (dVar 2)))) (dNot (dTest (dIsi (ktB ["list"]) (dVar 1))))
def E13 : SDen := sRet (dAndV (dOp (gEqO selEq ktE) (dVar 4) (dVar 5)) (dAndV (dOp gNotIn (dC (.str "spoilt")) (dFld ix_says (dVar 4))) (dOp (gNotInW selP ktE 3) (dC (.int 5)) (dFld ix_when (dVar 4)))))
def fB : CDen := rA (fI 0) (dC (.str "qqq")) (fI 2) (dVar 1) (dVar 2)
def fC : CDen := rA (fI 0) (fI 1) (dC (.str "qqq")) (dVar 1) (dVar 2)
def fD : CDen := rA (fI 0) (fI 1) (fI 2) qW (dVar 2)
def fE : CDen := rA (fI 0) (fI 1) (fI 2) (dVar 1) qS
def push (i : Nat) (d : D) : SDen := sExpr (dBm gAppend (dVar i) (dCons (dC d) (dNil)))
def G : SDen := sSeq (sIf t8 fls sNext) (sSeq (sIf t9 fls sNext) (sSeq (sIf t10 (sRet (dC (.bl true))) sNext) (sSeq (push 2 (.str "spoilt")) (sSeq (push 1 (.int 5)) E13))))
theorem right_eq : F__law_equal_right = sSeq E1 (sSeq (sIf t2 fls sNext) (sSeq E3 (sSeq (app fB) (sSeq (app fC) (sSeq (app fD) (sSeq (app fE) (sPre 3 G))))))) := rfl
theorem rA_run {x y z u v : Den} {τ : Ts} {Y : Ys} {w1 w2 w3 w4 w5 : W} (h1 : x τ Y = .ok w1 Y) (h2 : y τ Y = .ok w2 Y) (h3 : z τ Y = .ok w3 Y) (h4 : u τ Y = .ok w4 Y) (h5 : v τ Y = .ok w5 Y) : rA x y z u v τ Y = .ok [w1, w2, w3, w4, w5] [] Y := by
  simp only [rA, cPos, dCons, dNil, h1, h2, h3, h4, h5]
theorem qC_run (τ : Ts) (Y : Ys) : qC τ Y = .ok (.val (.lst [cQ])) Y := by kernel_rfl
theorem gw_w7 {x : Str} (h : x ∈ w7) : x ∈ gw := List.mem_append_left ([("q" : Str), ("qqq" : Str), ("aq" : Str), ("yesq" : Str), ("noq" : Str), ("xq" : Str)] : List Str) h
theorem qqq_gw : ("qqq" : Str) ∈ gw := List.mem_of_getElem? (i := 8) (by kernel_rfl)
theorem q1_gw : ∀ x ∈ w7, q1 x ∈ gw := Each.of (P := fun x => q1 x ∈ gw) ⟨List.mem_of_getElem? (i := 9) (by kernel_rfl), List.mem_of_getElem? (i := 10) (by kernel_rfl), List.mem_of_getElem? (i := 7) (by kernel_rfl), List.mem_of_getElem? (i := 7) (by kernel_rfl), List.mem_of_getElem? (i := 7) (by kernel_rfl), List.mem_of_getElem? (i := 11) (by kernel_rfl), List.mem_of_getElem? (i := 12) (by kernel_rfl), trivial⟩
theorem qN_run : ∀ a ∈ w7, ∀ (b c : D) (r1 r2 r3 r4 r5 r6 : Option W) (Y : Ys), qN [some (.val (.lst [.str a, b, c])), r1, r2, r3, r4, r5, r6] Y = .ok (.val (.str (q1 a))) Y := Each.of (P := fun a => ∀ (b c : D) (r1 r2 r3 r4 r5 r6 : Option W) (Y : Ys), qN [some (.val (.lst [.str a, b, c])), r1, r2, r3, r4, r5, r6] Y = .ok (.val (.str (q1 a))) Y) (by
  refine ⟨?_, ?_, ?_, ?_, ?_, ?_, ?_, trivial⟩ <;> (intro b c r1 r2 r3 r4 r5 r6 Y; kernel_rfl))
theorem vals_app (a b : List D) : vals (a ++ b) = vals a ++ vals b := by
  induction a with
  | nil => rfl
  | cons x r ih => simp [vals, ih]
theorem app_run {f : CDen} {τ : Ts} {Y : Ys} {k : Nat} {rs : List D} {r : D} (h3 : τ[3]? = some (some (.ref k))) (hk : Y[k]? = some (.lst (vals rs))) (hr : mkR f τ Y = .ok (.val r) (Y ++ [.dead])) (hl : rs.length ≤ 100) : app f τ Y = .next τ ((Y ++ [YO.dead]).set k (.lst (vals (rs ++ [r])))) := by
  have hk' : (Y ++ [YO.dead])[k]? = some (.lst (vals rs)) := by rw [List.getElem?_append_left (List.getElem?_eq_some_iff.mp hk).1]; exact hk
  have l : lines ((vals rs).length + 1) = true := lines_small (by rw [vals_len']; omega)
  have va : vals (rs ++ [r]) = vals rs ++ [.val r] := vals_app rs [r]
  have il : isL (.ref k) Y = true := by simp [isL, lsOf, hk]
  have al : atL (.ref k) (Y ++ [YO.dead]) = some (k, vals rs) := by simp [atL, hk']
  simp only [app, sExpr, dBm, dVar, h3, Re.bind, il, dCons, hr, dNil, Ra.bind, gAppend, al, l, noX, Re.out, va]
theorem push_run {i n : Nat} {d : D} {τ : Ts} {Y : Ys} {ws : List W} (h3 : τ[i]? = some (some (.ref n))) (hk : Y[n]? = some (.lst ws)) (hl : ws.length ≤ 100) : push i d τ Y = .next τ (Y.set n (.lst (ws ++ [.val d]))) := by
  have l : lines (ws.length + 1) = true := lines_small (by omega)
  have il : isL (.ref n) Y = true := by simp [isL, lsOf, hk]
  have al : atL (.ref n) Y = some (n, ws) := by simp [atL, hk]
  simp only [push, sExpr, dBm, dVar, h3, Re.bind, il, dCons, dC, dNil, Ra.bind, gAppend, al, l, noX, Re.out]
/-- what lies there -/
structure Env (wh : W) (m : Nat) (Wn : List D) (xs : List Str) (Y : Ys) : Prop where
  wh : SrcT Y wh Wn
  sy : Y[m]? = some (.lst (vals (xs.map D.str)))
section
variable {wh : W} {m : Nat} {Wn : List D} {xs : List Str} {Y : Ys}
theorem Env.app (h : Env wh m Wn xs Y) (Z : Ys) : Env wh m Wn xs (Y ++ Z) := ⟨h.wh.app, by rw [List.getElem?_append_left (List.getElem?_eq_some_iff.mp h.sy).1]; exact h.sy⟩
theorem Env.set (h : Env wh m Wn xs Y) {k : Nat} (z : YO) (hm : m ≠ k) (hw : wh ≠ .ref k) : Env wh m Wn xs (Y.set k z) := by
  refine ⟨?_, by rw [List.getElem?_set_ne (fun e => hm e.symm)]; exact h.sy⟩
  obtain ⟨h, _⟩ := h
  cases h with
  | dat => exact .dat
  | tup => exact .tup
  | @ref n _ h => exact .ref (by rw [List.getElem?_set_ne (fun e => hw (by rw [e]))]; exact h)
theorem Env.sr (h : Env wh m Wn xs Y) : Src Y (.ref m) (xs.map D.str) := .ref h.sy
end
structure Giv (a b c : Str) (Wn : List D) (xs : List Str) : Prop where
  a : a ∈ w7
  b : b ∈ w7
  c : c ∈ w7
  w : ∀ d ∈ Wn, d ∈ goodC
  wl : Wn.length ≤ 3
  x : ∀ x ∈ xs, x ∈ w7
  l : xs.length ≤ 3
  k : chk [] (xs.map D.str) = none
theorem goodC_4 {d : D} (h : d ∈ goodC) : d ∈ [cA, cB, cZ, cQ] := List.mem_append_left [cQ] h
theorem sq_src {Y : Ys} {w : W} {S : List D} (h : SrcT Y w S) : sqOf Y w = some (vals S) := by
  cases h with
  | dat => rfl
  | tup => rfl
  | ref h => simp [sqOf, lsOf, h]
theorem revL_map {α β : Type} (f : α → β) : ∀ (l acc : List α), revL (l.map f) (acc.map f) = (revL l acc).map f
  | [], acc => rfl
  | a :: r, acc => revL_map f r (a :: acc)
theorem dStrs_map : ∀ xs : List Str, dStrs xs = xs.map D.str
  | [] => rfl
  | x :: r => by simp [dStrs, dStrs_map r]
theorem any_loop {r0 r1 r2 r3 r5 r6 : Option W} {one : D} {Y : Ys} : ∀ {rs : List D}, (∀ r ∈ rs, gEqO selEq ktE (.val one) (.val r) Y = .ok (.val (.bl false)) Y) → lcL (gNm 6) tAll bd [r0, r1, r2, r3, some (.val one), r5, r6] (vals rs) Y = some (vals (List.replicate rs.length (.bl false)), Y)
  | [], _ => rfl
  | r :: rs, h => by
    have e1 : gNm 6 (.val r) [r0, r1, r2, r3, some (.val one), r5, r6] Y = some [r0, r1, r2, r3, some (.val one), r5, some (.val r)] := rfl
    have e3 : tAll [r0, r1, r2, r3, some (.val one), r5, some (.val r)] Y = .ok true Y := rfl
    have e2 : bd [r0, r1, r2, r3, some (.val one), r5, some (.val r)] Y = noX (gEqO selEq ktE (.val one) (.val r) Y) := rfl
    have ih := any_loop (r0 := r0) (r1 := r1) (r2 := r2) (r3 := r3) (r5 := r5) (r6 := r6) (rs := rs) fun d hd => h d (List.mem_cons_of_mem _ hd)
    unfold vals lcL
    rw [e1]
    dsimp only
    rw [e3]
    dsimp only
    rw [e2, h r List.mem_cons_self]
    dsimp only [noX]
    rw [ih]
    rfl
section
variable {a b c : Str} {wh : W} {m : Nat} {Wn : List D} {xs : List Str}
abbrev wd3 (a b c : Str) : W := .val (.lst [.str a, .str b, .str c])
abbrev TT (a b c : Str) (wh : W) (m : Nat) (r3 r4 r5 r6 : Option W) : Ts := [some (wd3 a b c), some wh, some (.ref m), r3, r4, r5, r6]
theorem mk0 (g : Giv a b c Wn xs) {Y : Ys} (I : Env wh m Wn xs Y) {x y z : Den} {a' b' c' : Str} {r3 r4 r5 r6 : Option W} (h1 : x (TT a b c wh m r3 r4 r5 r6) Y = .ok (.val (.str a')) Y) (h2 : y (TT a b c wh m r3 r4 r5 r6) Y = .ok (.val (.str b')) Y) (h3 : z (TT a b c wh m r3 r4 r5 r6) Y = .ok (.val (.str c')) Y) (ha : a' ∈ gw) (hb : b' ∈ gw) (hc : c' ∈ gw) :
    mkR (rA x y z (dVar 1) (dVar 2)) (TT a b c wh m r3 r4 r5 r6) Y = .ok (.val (rD a' b' c' Wn xs)) (Y ++ [.dead]) :=
  mkE (rA_run h1 h2 h3 rfl rfl) ha hb hc I.wh (fun d hd => goodC_4 (g.w d hd)) I.sr (fun x hx => gw_w7 (g.x x hx)) (by have := g.l; omega) g.k
theorem mkD (g : Giv a b c Wn xs) {Y : Ys} (I : Env wh m Wn xs Y) {r3 r4 r5 r6 : Option W} : mkR fD (TT a b c wh m r3 r4 r5 r6) Y = .ok (.val (rD a b c (Wn ++ [cQ]) xs)) (Y ++ [.dead]) := by
  have hl := g.wl
  have gl : gList [wh] Y = .ok (.val (.lst Wn)) Y := by simp only [gList, sq_src I.wh, dats_vals]
  have h4 : qW (TT a b c wh m r3 r4 r5 r6) Y = .ok (.val (.lst (Wn ++ [cQ]))) Y := by
    have v : dVar 1 (TT a b c wh m r3 r4 r5 r6) Y = .ok wh Y := rfl
    unfold qW dOp
    rw [blt1 v, gl]
    dsimp only [noX, Re.bind]
    rw [qC_run]
    dsimp only [Re.bind]
    rw [cat_one _ _ _ (by omega)]
  refine mkE (rA_run rfl rfl rfl h4 rfl) (gw_w7 g.a) (gw_w7 g.b) (gw_w7 g.c) .dat (fun d hd => ?_) I.sr (fun x hx => gw_w7 (g.x x hx)) (by have := g.l; omega) g.k
  rcases List.mem_append.mp hd with h | h
  · exact goodC_4 (g.w d h)
  · rw [List.mem_singleton.mp h]; simp
theorem mkS (g : Giv a b c Wn xs) {Y : Ys} (I : Env wh m Wn xs Y) {r3 r4 r5 r6 : Option W} : mkR fE (TT a b c wh m r3 r4 r5 r6) Y = .ok (.val (rD a b c Wn (xs ++ [("qqq" : Str)]))) (Y ++ [.dead]) := by
  have hl := g.l
  have gl : gList [.ref m] Y = .ok (.val (.lst (xs.map D.str))) Y := by simp only [gList, sq_src I.sr.t, dats_vals]
  have h5 : qS (TT a b c wh m r3 r4 r5 r6) Y = .ok (.val (.lst ((xs ++ [("qqq" : Str)]).map D.str))) Y := by
    have v : dVar 2 (TT a b c wh m r3 r4 r5 r6) Y = .ok (.ref m) Y := rfl
    have q : dLst (dCons (dC (.str "qqq")) (dNil)) (TT a b c wh m r3 r4 r5 r6) Y = .ok (.val (.lst [.str "qqq"])) Y := rfl
    unfold qS dOp
    rw [blt1 v, gl]
    dsimp only [noX, Re.bind]
    rw [q]
    dsimp only [Re.bind]
    rw [cat_one _ _ _ (by rw [List.length_map]; omega), List.map_append]
    rfl
  refine mkE (rA_run rfl rfl rfl rfl h5) (gw_w7 g.a) (gw_w7 g.b) (gw_w7 g.c) I.wh (fun d hd => goodC_4 (g.w d hd)) .dat (fun x hx => ?_) (by rw [List.length_append, List.length_singleton]; omega) (sy_ok g.l g.x g.k).2.2.2.2.1
  rcases List.mem_append.mp hx with h | h
  · exact gw_w7 (g.x x h)
  · rw [List.mem_singleton.mp h]; exact qqq_gw
theorem mkV (g : Giv a b c Wn xs) {Y : Ys} (I : Env wh m Wn xs Y) {r3 r4 r5 r6 : Option W} : mkR (rA (fI 0) (fI 1) (fI 2) (dVar 1) (dRev (dVar 2))) (TT a b c wh m r3 r4 r5 r6) Y = .ok (.val (rD a b c Wn (revL xs []))) (Y ++ [.dead]) := by
  have hl := g.l
  have h5 : dRev (dVar 2) (TT a b c wh m r3 r4 r5 r6) Y = .ok (.val (.lst ((revL xs []).map D.str))) Y := by
    show (match lsOf Y (.ref m) with
      | some us => (match dats (revL us []) with
        | some ds => Re.ok (.val (.lst ds)) Y
        | none => .bad)
      | none => .bad) = _
    rw [lsOf_src I.sr]
    dsimp only
    rw [vals_map, show revL (xs.map fun y => W.val (.str y)) [] = (revL xs []).map (fun y => W.val (.str y)) from revL_map _ xs [], ← vals_map, dats_vals]
  have hr : ∀ x ∈ revL xs [], x ∈ xs := fun x hx => by
    rw [revL_eq] at hx
    simpa using hx
  have hrl : (revL xs []).length = xs.length := by rw [revL_eq]; simp
  exact mkE (rA_run rfl rfl rfl rfl h5) (gw_w7 g.a) (gw_w7 g.b) (gw_w7 g.c) I.wh (fun d hd => goodC_4 (g.w d hd)) .dat (fun x hx => gw_w7 (g.x x (hr x hx))) (by omega) (sy_ok g.l g.x g.k).2.2.2.2.2
theorem step {f : CDen} {Z : Ys} {k : Nat} {rs : List D} {r : D} {r4 r5 r6 : Option W} (I : Env wh m Wn xs Z) (hk : Z[k]? = some (.lst (vals rs))) (hm : m ≠ k) (hw : wh ≠ .ref k) (hr : mkR f (TT a b c wh m (some (.ref k)) r4 r5 r6) Z = .ok (.val r) (Z ++ [.dead])) (hl : rs.length ≤ 100) :
    ∃ Z', app f (TT a b c wh m (some (.ref k)) r4 r5 r6) Z = .next (TT a b c wh m (some (.ref k)) r4 r5 r6) Z' ∧ Env wh m Wn xs Z' ∧ Z'[k]? = some (.lst (vals (rs ++ [r]))) := by
  have hlt : k < (Z ++ [YO.dead]).length := by
    have := (List.getElem?_eq_some_iff.mp hk).1
    rw [List.length_append]
    omega
  exact ⟨_, app_run rfl hk hr hl, (I.app _).set _ hm hw, List.getElem?_set_self hlt⟩
theorem frz_lst {Y : Ys} {n k : Nat} {ds : List D} (h : Y[n]? = some (.lst (vals ds))) : frzW (k + 1) Y (.ref n) = some (.lst ds, Y.set n .dead) := by
  have a : alive Y n = true := by simp [alive, h]
  simp [frzW, h, frzL_vals, a]
/-- the list of the law, or a tuple -/
def WhY (wh : W) (m : Nat) (Wn : List D) (Y : Ys) : Prop := wh = .val (.tup Wn) ∨ ∃ m1, wh = .ref m1 ∧ Y[m1]? = some (.lst (vals Wn)) ∧ m1 ≠ m
theorem right_run {Y : Ys} (g : Giv a b c Wn xs) (hW : WhY wh m Wn Y) (hS : Y[m]? = some (.lst (vals (xs.map D.str)))) : ∃ Y', fn__law_equal_right [wd3 a b c, wh, .ref m] Y = .ok (.val (.bl true)) Y' := by
  have I : Env wh m Wn xs Y := ⟨by
    rcases hW with h | ⟨m1, h, h1, _⟩
    · rw [h]; exact .tup
    · rw [h]; exact .ref h1, hS⟩
  have hml : m < Y.length := (List.getElem?_eq_some_iff.mp hS).1
  obtain ⟨n1, n2, n3, n4⟩ := nm_ok g.a g.b g.c
  obtain ⟨y1, y2, y3, y4, y5, y6⟩ := sy_ok g.l g.x g.k
  obtain ⟨v1, v2⟩ := wh_ok g.wl g.w
  have q11 : pn_Rule_eq_ [rD a b c Wn xs, rD a b c Wn xs] = .ok (.bl true) := req_sy n1 v1 y1
  have e0 : fn__law_equal_right [wd3 a b c, wh, .ref m] Y = (match F__law_equal_right (TT a b c wh m none none none none) Y with
    | .ret w Y1 => Re.ok w Y1
    | .next _ Y1 => .ok (.val .non) Y1
    | .exc c fs _ Y1 => .exc c fs Y1
    | _ => .bad) := rfl
  rw [e0, right_eq]
  unfold sSeq
  -- the two
  have k1 : mkR f0 (TT a b c wh m none none none none) Y = .ok (.val (rD a b c Wn xs)) (Y ++ [.dead]) := mk0 g I rfl rfl rfl (gw_w7 g.a) (gw_w7 g.b) (gw_w7 g.c)
  have k2 : mkR f0 (TT a b c wh m none none none none) (Y ++ [.dead]) = .ok (.val (rD a b c Wn xs)) (Y ++ [.dead] ++ [.dead]) := mk0 g (I.app _) rfl rfl rfl (gw_w7 g.a) (gw_w7 g.b) (gw_w7 g.c)
  have s1 : E1 (TT a b c wh m none none none none) Y = .next (TT a b c wh m none (some (.val (rD a b c Wn xs))) (some (.val (rD a b c Wn xs))) none) (Y ++ [.dead] ++ [.dead]) := by
    unfold E1 sAsg dTup dCons dNil
    rw [k1]
    dsimp only
    rw [k2]
    rfl
  rw [s1]
  dsimp only [Out.seq]
  have I2 : Env wh m Wn xs (Y ++ [.dead] ++ [.dead]) := (I.app _).app _
  have hkm : m ≠ (Y ++ [YO.dead] ++ [YO.dead] ++ [YO.dead]).length := by simp; omega
  have hkw : wh ≠ .ref (Y ++ [YO.dead] ++ [YO.dead] ++ [YO.dead]).length := by
    rcases hW with h | ⟨m1, h, h1, _⟩
    · rw [h]; intro z; cases z
    · rw [h]
      intro z
      have := (List.getElem?_eq_some_iff.mp h1).1
      injection z with z
      simp at z
      omega
  generalize Y ++ [YO.dead] ++ [YO.dead] = Y2 at I2 hkm hkw
  have s2 : sIf t2 fls sNext (TT a b c wh m none (some (.val (rD a b c Wn xs))) (some (.val (rD a b c Wn xs))) none) Y2 = .next (TT a b c wh m none (some (.val (rD a b c Wn xs))) (some (.val (rD a b c Wn xs))) none) Y2 := by
    have o1 : dTest (dIsi (ktB ["tuple"]) (dFld ix_when (dVar 4))) (TT a b c wh m none (some (.val (rD a b c Wn xs))) (some (.val (rD a b c Wn xs))) none) Y2 = .ok true Y2 := rfl
    have o2 : dTest (dOp (gEqO selEq ktE) (dVar 4) (dVar 5)) (TT a b c wh m none (some (.val (rD a b c Wn xs))) (some (.val (rD a b c Wn xs))) none) Y2 = .ok true Y2 := by
      show Re.bindT (noX (gEqO selEq ktE (.val (rD a b c Wn xs)) (.val (rD a b c Wn xs)) Y2)) isB = _
      rw [eqO_run q11]
      rfl
    have o3 : dTest (dOp (gNeO selEq ktE) (dVar 4) (dVar 5)) (TT a b c wh m none (some (.val (rD a b c Wn xs))) (some (.val (rD a b c Wn xs))) none) Y2 = .ok false Y2 := by
      show Re.bindT (noX (gNeO selEq ktE (.val (rD a b c Wn xs)) (.val (rD a b c Wn xs)) Y2)) isB = _
      rw [neO_run q11]
      rfl
    have o4 : dTest (dOp (gEqO selEq ktE) (dVar 4) (dVar 0)) (TT a b c wh m none (some (.val (rD a b c Wn xs))) (some (.val (rD a b c Wn xs))) none) Y2 = .ok false Y2 := by
      show Re.bindT (noX (gEqO selEq ktE (.val (rD a b c Wn xs)) (wd3 a b c) Y2)) isB = _
      rw [eqO_lst]
      rfl
    have ot : t2 (TT a b c wh m none (some (.val (rD a b c Wn xs))) (some (.val (rD a b c Wn xs))) none) Y2 = .ok false Y2 := by
      simp only [t2, dOr, dNot, o1, o2, o3, o4, Te.bindT]
      rfl
    unfold sIf
    rw [ot]
    rfl
  rw [s2]
  dsimp only [Out.seq]
  -- the others
  have k3 : mkR (rA qN (fI 1) (fI 2) (dVar 1) (dVar 2)) (TT a b c wh m none (some (.val (rD a b c Wn xs))) (some (.val (rD a b c Wn xs))) none) Y2 = .ok (.val (rD (q1 a) b c Wn xs)) (Y2 ++ [.dead]) := mk0 g I2 (qN_run a g.a _ _ _ _ _ _ _ _ _) rfl rfl (q1_gw a g.a) (gw_w7 g.b) (gw_w7 g.c)
  have s3 : E3 (TT a b c wh m none (some (.val (rD a b c Wn xs))) (some (.val (rD a b c Wn xs))) none) Y2 = .next (TT a b c wh m (some (.ref (Y2 ++ [YO.dead]).length)) (some (.val (rD a b c Wn xs))) (some (.val (rD a b c Wn xs))) none) (Y2 ++ [.dead] ++ [.lst (vals [rD (q1 a) b c Wn xs])]) := by
    unfold E3 sSet dLstR dCons dNil
    rw [k3]
    rfl
  rw [s3]
  dsimp only [Out.seq]
  have I3 : Env wh m Wn xs (Y2 ++ [.dead] ++ [.lst (vals [rD (q1 a) b c Wn xs])]) := (I2.app _).app _
  have hk3 : (Y2 ++ [YO.dead] ++ [YO.lst (vals [rD (q1 a) b c Wn xs])])[(Y2 ++ [YO.dead]).length]? = some (.lst (vals [rD (q1 a) b c Wn xs])) := by
    rw [List.getElem?_append_right (Nat.le_refl _), Nat.sub_self]
    rfl
  generalize (Y2 ++ [YO.dead]).length = k at hkm hkw hk3 ⊢
  generalize Y2 ++ [YO.dead] ++ [YO.lst (vals [rD (q1 a) b c Wn xs])] = Z3 at I3 hk3 ⊢
  obtain ⟨Z4, s4, I4, hk4⟩ := step (a := a) (b := b) (c := c) (f := fB) (r4 := some (.val (rD a b c Wn xs))) (r5 := some (.val (rD a b c Wn xs))) (r6 := none) I3 hk3 hkm hkw (mk0 g I3 rfl rfl rfl (gw_w7 g.a) qqq_gw (gw_w7 g.c)) (by simp)
  rw [s4]
  dsimp only [Out.seq]
  obtain ⟨Z5, s5, I5, hk5⟩ := step (a := a) (b := b) (c := c) (f := fC) (r4 := some (.val (rD a b c Wn xs))) (r5 := some (.val (rD a b c Wn xs))) (r6 := none) I4 hk4 hkm hkw (mk0 g I4 rfl rfl rfl (gw_w7 g.a) (gw_w7 g.b) qqq_gw) (by simp)
  rw [s5]
  dsimp only [Out.seq]
  obtain ⟨Z6, s6, I6, hk6⟩ := step (a := a) (b := b) (c := c) (f := fD) (r4 := some (.val (rD a b c Wn xs))) (r5 := some (.val (rD a b c Wn xs))) (r6 := none) I5 hk5 hkm hkw (mkD g I5) (by simp)
  rw [s6]
  dsimp only [Out.seq]
  obtain ⟨Z7, s7, I7, hk7⟩ := step (a := a) (b := b) (c := c) (f := fE) (r4 := some (.val (rD a b c Wn xs))) (r5 := some (.val (rD a b c Wn xs))) (r6 := none) I6 hk6 hkm hkw (mkS g I6) (by simp)
  rw [s7]
  dsimp only [Out.seq]
  -- frozen
  simp only [List.cons_append, List.nil_append] at hk7
  have fz : frzSlot 3 (TT a b c wh m (some (.ref k)) (some (.val (rD a b c Wn xs))) (some (.val (rD a b c Wn xs))) none) Z7 = some (TT a b c wh m (some (.val (.lst [rD (q1 a) b c Wn xs, rD a "qqq" c Wn xs, rD a b "qqq" Wn xs, rD a b c (Wn ++ [cQ]) xs, rD a b c Wn (xs ++ [("qqq" : Str)])]))) (some (.val (rD a b c Wn xs))) (some (.val (rD a b c Wn xs))) none, Z7.set k .dead) := by
    show (match frzW 20 Z7 (.ref k) with
      | some (d, Y2) => some ((TT a b c wh m (some (.ref k)) (some (.val (rD a b c Wn xs))) (some (.val (rD a b c Wn xs))) none).set 3 (some (.val d)), Y2)
      | none => none) = _
    rw [frz_lst hk7]
    rfl
  unfold sPre
  rw [fz]
  dsimp only
  have I8 : Env wh m Wn xs (Z7.set k .dead) := I7.set _ hkm hkw
  generalize Z7.set k YO.dead = Z8 at I8 ⊢
  generalize hτ : TT a b c wh m (some (.val (.lst [rD (q1 a) b c Wn xs, rD a "qqq" c Wn xs, rD a b "qqq" Wn xs, rD a b c (Wn ++ [cQ]) xs, rD a b c Wn (xs ++ [("qqq" : Str)])]))) (some (.val (rD a b c Wn xs))) (some (.val (rD a b c Wn xs))) none = τ
  have s8 : sIf t8 fls sNext τ Z8 = .next τ Z8 := by
    have al := any_loop (r0 := some (wd3 a b c)) (r1 := some wh) (r2 := some (.ref m)) (r3 := some (.val (.lst [rD (q1 a) b c Wn xs, rD a "qqq" c Wn xs, rD a b "qqq" Wn xs, rD a b c (Wn ++ [cQ]) xs, rD a b c Wn (xs ++ [("qqq" : Str)])]))) (r5 := some (.val (rD a b c Wn xs))) (r6 := none) (one := rD a b c Wn xs) (Y := Z8) (rs := [rD (q1 a) b c Wn xs, rD a "qqq" c Wn xs, rD a b "qqq" Wn xs, rD a b c (Wn ++ [cQ]) xs, rD a b c Wn (xs ++ [("qqq" : Str)])]) (fun r hr => by
      simp only [List.mem_cons, List.not_mem_nil, or_false] at hr
      rcases hr with rfl | rfl | rfl | rfl | rfl
      · exact eqO_run (req_nm n2)
      · exact eqO_run (req_nm n3)
      · exact eqO_run (req_nm n4)
      · exact eqO_run (req_wh n1 v2)
      · exact eqO_run (req_sy n1 v1 y2))
    have lc : dLc (dIt (dVar 3)) (gNm 6) (tAll) bd [6] τ Z8 = .ok (.val (.lst [.bl false, .bl false, .bl false, .bl false, .bl false])) Z8 := by
      rw [← hτ]
      show (Ra.bind (match lcL (gNm 6) tAll bd (TT a b c wh m (some (.val (.lst [rD (q1 a) b c Wn xs, rD a "qqq" c Wn xs, rD a b "qqq" Wn xs, rD a b c (Wn ++ [cQ]) xs, rD a b c Wn (xs ++ [("qqq" : Str)])]))) (some (.val (rD a b c Wn xs))) (some (.val (rD a b c Wn xs))) none) (vals [rD (q1 a) b c Wn xs, rD a "qqq" c Wn xs, rD a b "qqq" Wn xs, rD a b c (Wn ++ [cQ]) xs, rD a b c Wn (xs ++ [("qqq" : Str)])]) Z8 with
        | some (us, Y2) => Ra.ok us Y2
        | none => .bad) _) = _
      rw [al]
      rfl
    unfold sIf t8 dTest
    rw [blt1 lc]
    rfl
  have s9 : sIf t9 fls sNext τ Z8 = .next τ (Z8 ++ [.dead]) := by
    have v4 : dVar 4 τ Z8 = .ok (.val (rD a b c Wn xs)) Z8 := by rw [← hτ]; rfl
    have hv := mkV (a := a) (b := b) (c := c) g I8 (r3 := some (.val (.lst [rD (q1 a) b c Wn xs, rD a "qqq" c Wn xs, rD a b "qqq" Wn xs, rD a b c (Wn ++ [cQ]) xs, rD a b c Wn (xs ++ [("qqq" : Str)])]))) (r4 := some (.val (rD a b c Wn xs))) (r5 := some (.val (rD a b c Wn xs))) (r6 := none)
    rw [hτ] at hv
    have o : t9 τ Z8 = .ok false (Z8 ++ [.dead]) := by
      unfold t9 dNot dTest dOp
      rw [v4]
      dsimp only [Re.bind]
      rw [hv]
      dsimp only [Re.bind]
      rw [eqO_run (req_sy n1 v1 y3)]
      rfl
    unfold sIf
    rw [o]
    rfl
  unfold G sSeq
  rw [s8]
  dsimp only [Out.seq]
  rw [s9]
  dsimp only [Out.seq]
  have I9 : Env wh m Wn xs (Z8 ++ [.dead]) := I8.app _
  generalize Z8 ++ [YO.dead] = Z9 at I9 ⊢
  have ks : kdOf Z9 (.ref m) = some .lst := isi_ok I9.sr
  have a2 : dTest (dIsi (ktB ["list"]) (dVar 2)) τ Z9 = .ok true Z9 := by
    rw [← hτ]
    show Re.bindT (isiW (ktB ["list"]) (.ref m) Z9) isB = _
    unfold isiW
    rw [ks]
    rfl
  rcases hW with rfl | ⟨m1, rfl, h1, hmm⟩
  · have a1 : dTest (dIsi (ktB ["list"]) (dVar 1)) τ Z9 = .ok false Z9 := by rw [← hτ]; rfl
    have o : t10 τ Z9 = .ok true Z9 := by
      simp only [t10, dOr, dNot, a1, a2, Te.bindT]
      rfl
    unfold sIf
    rw [o]
    exact ⟨_, rfl⟩
  · have i1 : Z9[m1]? = some (.lst (vals Wn)) := by
      have := I9.wh
      cases this with
      | ref h => exact h
    have a1 : dTest (dIsi (ktB ["list"]) (dVar 1)) τ Z9 = .ok true Z9 := by
      rw [← hτ]
      show Re.bindT (isiW (ktB ["list"]) (.ref m1) Z9) isB = _
      unfold isiW
      rw [isi_ok (.ref i1)]
      rfl
    have o : t10 τ Z9 = .ok false Z9 := by
      simp only [t10, dOr, dNot, a1, a2, Te.bindT]
      rfl
    have s10 : sIf t10 (sRet (dC (.bl true))) sNext τ Z9 = .next τ Z9 := by
      unfold sIf
      rw [o]
      rfl
    rw [s10]
    dsimp only [Out.seq]
    have p2 := push_run (i := 2) (n := m) (d := .str "spoilt") (τ := τ) (Y := Z9) (by rw [← hτ]; rfl) I9.sy (by rw [vals_len', List.length_map]; have := g.l; omega)
    rw [p2]
    dsimp only [Out.seq]
    have i2 : (Z9.set m (.lst (vals (xs.map D.str) ++ [.val (.str "spoilt")])))[m1]? = some (.lst (vals Wn)) := by
      rw [List.getElem?_set_ne (fun e => hmm e.symm)]
      exact i1
    generalize Z9.set m (.lst (vals (xs.map D.str) ++ [.val (.str "spoilt")])) = Z10 at i2 ⊢
    have p3 := push_run (i := 1) (n := m1) (d := .int 5) (τ := τ) (Y := Z10) (by rw [← hτ]; rfl) i2 (by rw [vals_len']; have := g.wl; omega)
    rw [p3]
    dsimp only [Out.seq]
    generalize Z10.set m1 (.lst (vals Wn ++ [.val (.int 5)])) = Z11
    have b1 : dOp (gEqO selEq ktE) (dVar 4) (dVar 5) τ Z11 = .ok (.val (.bl true)) Z11 := by
      rw [← hτ]
      show noX (gEqO selEq ktE (.val (rD a b c Wn xs)) (.val (rD a b c Wn xs)) Z11) = _
      rw [eqO_run q11]
      rfl
    have b2 : dOp gNotIn (dC (.str "spoilt")) (dFld ix_says (dVar 4)) τ Z11 = .ok (.val (.bl true)) Z11 := by
      rw [← hτ]
      show noX (gNotIn (.val (.str "spoilt")) (.val (.tup (dStrs (srt sLe xs)))) Z11) = _
      have : sqOf Z11 (.val (.tup (dStrs (srt sLe xs)))) = some (vals ((srt sLe xs).map D.str)) := by rw [dStrs_map]; rfl
      simp only [gNotIn, orG, gInF, flatD, this, inF_strs, y4, mkB, noX]
      rfl
    have b3 : dOp (gNotInW selP ktE 3) (dC (.int 5)) (dFld ix_when (dVar 4)) τ Z11 = .ok (.val (.bl true)) Z11 := by
      rw [← hτ]
      show noX (gNotInW selP ktE 3 (.val (.int 5)) (.val (.tup Wn)) Z11) = _
      rw [no5_ok g.wl g.w]
      rfl
    refine ⟨Z11, ?_⟩
    simp only [E13, sRet, dAndV, b1, b2, b3, Re.bind, Re.out]
end
end K5
set_option Elab.async false
set_option linter.all false
set_option maxRecDepth 100000
set_option maxHeartbeats 0
namespace K5
open PySem MV
/-! ### draws -/
def L3 (a b c : Int) : YO := .lst [.val (.int a), .val (.int b), .val (.int c)]
def Dr (L : YO) : Prop := ∃ a b c, L = L3 a b c
theorem draw_ok {L : YO} {R : Ys} {m : Int} (h : Dr L) (hm : 0 < m) (hm2 : m < 1073741824) : ∃ i L', fn__law_draw [.ref 0, .val (.int m)] (L :: R) = .ok (.val (.int i)) (L' :: R) ∧ 0 ≤ i ∧ i < m ∧ Dr L' := by
  obtain ⟨a, b, c, rfl⟩ := h
  have z : iEq m 0 = false := by
    cases q : iEq m 0 with
    | false => rfl
    | true => have := iEq_iff.mp q; omega
  have z2 : Nat.blt m.natAbs 1073741824 = true := by
    rw [Nat.blt_eq]; omega
  have g0 : gItem (.ref 0) (.val (.int 0)) (L3 a b c :: R) = .ok (.val (.int a)) (L3 a b c :: R) := rfl
  by_cases ha : 0 < a
  · have q : iLt 0 a = true := by rw [← iLt_dec]; simpa using ha
    have p0 : putIt (.ref 0) (.val (.int 0)) (.val (.int (a.fdiv m))) (L3 a b c :: R) = some (L3 (a.fdiv m) b c :: R) := rfl
    refine ⟨a.fmod m, L3 (a.fdiv m) b c, ?_, Int.fmod_nonneg_of_pos _ hm, Int.fmod_lt_of_pos _ hm, ⟨_, _, _, rfl⟩⟩
    simp [fn__law_draw, runW, F__law_draw, sSeq, sIf, sSet, sPut, sRet, dTest, dOp, dVar, dC, dCons, dNil, dBlt, startT, Re.bind, Re.out, Te.out, Out.seq, Re.bindT, Ra.bind, isB, noX, g0, gI, mkB, mkI, q, gMod, gDiv, gInt, z, z2, p0, Out.ofY, List.replicate]
  · have q : iLt 0 a = false := by rw [← iLt_dec]; simpa using ha
    have g2 : gItem (.ref 0) (.val (.int 2)) (L3 a b c :: R) = .ok (.val (.int c)) (L3 a b c :: R) := rfl
    have p2 : putIt (.ref 0) (.val (.int 2)) (.val (.int (c + 1))) (L3 a b c :: R) = some (L3 a b (c + 1) :: R) := rfl
    have g1 : gItem (.ref 0) (.val (.int 1)) (L3 a b (c + 1) :: R) = .ok (.val (.int b)) (L3 a b (c + 1) :: R) := rfl
    have g12 : gItem (.ref 0) (.val (.int 2)) (L3 a b (c + 1) :: R) = .ok (.val (.int (c + 1))) (L3 a b (c + 1) :: R) := rfl
    obtain ⟨b', hb'⟩ : ∃ b', b' = (b * 40692 + (c + 1) * 6151 + 98765).fmod 2147483629 := ⟨_, rfl⟩
    have p1 : putIt (.ref 0) (.val (.int 1)) (.val (.int b')) (L3 a b (c + 1) :: R) = some (L3 a b' (c + 1) :: R) := rfl
    have g21 : gItem (.ref 0) (.val (.int 1)) (L3 a b' (c + 1) :: R) = .ok (.val (.int b')) (L3 a b' (c + 1) :: R) := rfl
    have m1 : ∀ (i : Int) (Y : Ys), gMul (.val (.int i)) (.val (.int 40692)) Y = .ok (.val (.int (i * 40692))) Y := fun i Y => by
      have : small64 40692 = true := by decide
      simp [gMul, orG, gMulI, gI, this, mkI]
    have m2 : ∀ (i : Int) (Y : Ys), gMul (.val (.int i)) (.val (.int 6151)) Y = .ok (.val (.int (i * 6151))) Y := fun i Y => by
      have : small64 6151 = true := by decide
      simp [gMul, orG, gMulI, gI, this, mkI]
    have ad : ∀ (i j : Int) (Y : Ys), gAdd (.val (.int i)) (.val (.int j)) Y = .ok (.val (.int (i + j))) Y := fun i j Y => rfl
    have md : ∀ (i : Int) (Y : Ys), gMod (.val (.int i)) (.val (.int 2147483629)) Y = .ok (.val (.int (i.fmod 2147483629))) Y := fun i Y => rfl
    have dv : ∀ (i : Int) (Y : Ys), gDiv (.val (.int i)) (.val (.int 32768)) Y = .ok (.val (.int (i.fdiv 32768))) Y := fun i Y => rfl
    have mm : ∀ (i : Int) (Y : Ys), gMod (.val (.int i)) (.val (.int m)) Y = .ok (.val (.int (i.fmod m))) Y := fun i Y => by simp [gMod, gI, z, mkI]
    refine ⟨(b'.fdiv 32768 + b').fmod m, L3 a b' (c + 1), ?_, Int.fmod_nonneg_of_pos _ hm, Int.fmod_lt_of_pos _ hm, ⟨_, _, _, rfl⟩⟩
    simp [fn__law_draw, runW, F__law_draw, sSeq, sIf, sNext, sSet, sPut, sRet, dTest, dOp, dVar, dC, dCons, dNil, dBlt, startT, Re.bind, Re.out, Te.out, Out.seq, Re.bindT, Ra.bind, isB, noX, g0, gI, mkB, mkI, q, gInt, Out.ofY, List.replicate, g2, p2, g1, g12, m1, m2, ad, md, ← hb', p1, g21, dv, mm]
/-- a drawn number, as a call -/
theorem drawE {L : YO} {R : Ys} {m : Int} {τ : Ts} {j : Nat} (h : Dr L) (hj : τ[j]? = some (some (.ref 0))) (hm : 0 < m) (hm2 : m < 1073741824) : ∃ i L', dCall (cPos (dCons (dVar j) (dCons (dC (.int m)) (dNil)))) 2 0 (bmN 2) [] fn__law_draw τ (L :: R) = .ok (.val (.int i)) (L' :: R) ∧ 0 ≤ i ∧ i < m ∧ Dr L' := by
  obtain ⟨i, L', e, i0, i1, h'⟩ := draw_ok (R := R) h hm hm2
  refine ⟨i, L', ?_, i0, i1, h'⟩
  have ci : callW 2 0 (bmN 2) [] fn__law_draw [.ref 0, .val (.int m)] [] (L :: R) = .ok (.val (.int i)) (L' :: R) := by rw [callW_all (n := 2) rfl]; exact e
  simp [dCall, cPos, dCons, dNil, dVar, dC, hj, R2a.bind, ci]
theorem eqA_ii (i j : Int) (Y : Ys) : gEqA (.val (.int i)) (.val (.int j)) Y = .ok (.val (.bl (iEq i j))) Y := rfl
/-- is it nought -/
theorem drawT {L : YO} {R : Ys} {m : Int} {τ : Ts} {j : Nat} (h : Dr L) (hj : τ[j]? = some (some (.ref 0))) (hm : 0 < m) (hm2 : m < 1073741824) : ∃ b L', dTest (dOp gEqA (dCall (cPos (dCons (dVar j) (dCons (dC (.int m)) (dNil)))) 2 0 (bmN 2) [] fn__law_draw) (dC (.int 0))) τ (L :: R) = .ok b (L' :: R) ∧ Dr L' := by
  obtain ⟨i, L', e, _, _, h'⟩ := drawE (R := R) h hj hm hm2
  refine ⟨iEq i 0, L', ?_, h'⟩
  unfold dTest dOp
  rw [e]
  rfl
theorem pick_ok {L : YO} {R : Ys} {ds : List D} (h : Dr L) (h0 : ds ≠ []) (h1 : ds.length < 1000) : ∃ d ∈ ds, ∃ L', fn__law_pick [.ref 0, .val (.lst ds)] (L :: R) = .ok (.val d) (L' :: R) ∧ Dr L' := by
  have hl : 0 < ds.length := List.length_pos_iff.mpr h0
  obtain ⟨i, L', e, i0, i1, h'⟩ := draw_ok (R := R) h (m := (ds.length : Int)) (by omega) (by omega)
  obtain ⟨j, rfl⟩ := Int.eq_ofNat_of_zero_le i0
  have hj : j < ds.length := by omega
  have ha : atP ds (j : Int) = some ds[j] := by
    have : plc ds.length (j : Int) = some j := by
      show plc ds.length (Int.ofNat j) = _
      unfold plc
      dsimp only
      rw [show Nat.blt j ds.length = true by rw [Nat.blt_eq]; exact hj]
    unfold atP
    rw [this]
    simp [hj]
  have hle : orL gLen gLenD [.val (.lst ds)] (L :: R) = .ok (.val (.int ds.length)) (L :: R) := by
    simp [orL, gLen, sqOf, lsOf, vals_len']
  refine ⟨ds[j], List.getElem_mem hj, L', ?_, h'⟩
  have ci : callW 2 0 (bmN 2) [] fn__law_draw [.ref 0, .val (.int ds.length)] [] (L :: R) = .ok (.val (.int j)) (L' :: R) := by rw [callW_all (n := 2) rfl]; exact e
  have gi : gItem (.val (.lst ds)) (.val (.int j)) (L' :: R) = .ok (.val ds[j]) (L' :: R) := by simp [gItem, orG, gIx, ha]
  simp [fn__law_pick, runW, F__law_pick, sRet, dOp, dVar, dCall, dCons, dNil, cPos, dBlt, startT, Re.bind, Re.out, R2a.bind, Ra.bind, noX, hle, ci, gi]
theorem pickE {L : YO} {R : Ys} {ds : List D} {τ : Ts} {j : Nat} {f : Den} (h : Dr L) (hj : τ[j]? = some (some (.ref 0))) (hf : f τ (L :: R) = .ok (.val (.lst ds)) (L :: R)) (h0 : ds ≠ []) (h1 : ds.length < 1000) : ∃ d ∈ ds, ∃ L', dCall (cPos (dCons (dVar j) (dCons f (dNil)))) 2 0 (bmN 2) [] fn__law_pick τ (L :: R) = .ok (.val d) (L' :: R) ∧ Dr L' := by
  obtain ⟨d, hd, L', e, h'⟩ := pick_ok (R := R) h h0 h1
  refine ⟨d, hd, L', ?_, h'⟩
  have ci : callW 2 0 (bmN 2) [] fn__law_pick [.ref 0, .val (.lst ds)] [] (L :: R) = .ok (.val d) (L' :: R) := by rw [callW_all (n := 2) rfl]; exact e
  simp [dCall, cPos, dCons, dNil, dVar, hj, hf, R2a.bind, ci]
/-- a word or an odd thing -/
def Tg (d : D) : Prop := d ∈ w7.map D.str ∨ d ∈ odd
theorem Tg.th {d : D} (h : Tg d) : Th d := by
  rcases h with h | h
  · obtain ⟨x, hx, rfl⟩ := List.mem_map.mp h
    exact .wd (gw_w7 hx)
  · exact .od h
def oddL : Den := dLst (dCons (dC (.str "")) (dCons (dC (.str "longwords")) (dCons (dC (.str "A")) (dCons (dC (.str "a b")) (dCons (dC (.str "a1")) (dCons (dC .non) (dCons (dC (.int 5)) (dCons (dTup (dCons (dC (.str "a")) (dNil))) (dCons (dLst (dCons (dC (.str "a")) (dNil))) (dCons (dC (.bl true)) (dNil)))))))))))
def wdL : Den := dLst (dCons (dC (.str "a")) (dCons (dC (.str "yes")) (dCons (dC (.str "longword")) (dCons (dC (.str "jumpkivy")) (dCons (dC (.str "cdfghlqz")) (dCons (dC (.str "no")) (dCons (dC (.str "x")) (dNil))))))))
theorem some_eq : F__law_some = sSeq (sIf (dTest (dOp gEqA (dCall (cPos (dCons (dVar 0) (dCons (dVar 1) (dNil)))) 2 0 (bmN 2) [] fn__law_draw) (dC (.int 0)))) (sRet (dCall (cPos (dCons (dVar 0) (dCons oddL (dNil)))) 2 0 (bmN 2) [] fn__law_pick)) (sNext)) (sRet (dCall (cPos (dCons (dVar 0) (dCons wdL (dNil)))) 2 0 (bmN 2) [] fn__law_pick)) := rfl
theorem some_ok {L : YO} {R : Ys} {o : Int} (h : Dr L) (h0 : 0 < o) (h1 : o < 1000) : ∃ d, Tg d ∧ ∃ L', fn__law_some [.ref 0, .val (.int o)] (L :: R) = .ok (.val d) (L' :: R) ∧ Dr L' := by
  obtain ⟨i, L1, e1, _, _, hd1⟩ := draw_ok (R := R) h h0 (by omega)
  have ci : callW 2 0 (bmN 2) [] fn__law_draw [.ref 0, .val (.int o)] [] (L :: R) = .ok (.val (.int i)) (L1 :: R) := by rw [callW_all (n := 2) rfl]; exact e1
  have t : dTest (dOp gEqA (dCall (cPos (dCons (dVar 0) (dCons (dVar 1) (dNil)))) 2 0 (bmN 2) [] fn__law_draw) (dC (.int 0))) [some (.ref 0), some (.val (.int o))] (L :: R) = .ok (iEq i 0) (L1 :: R) := by
    have : dCall (cPos (dCons (dVar 0) (dCons (dVar 1) (dNil)))) 2 0 (bmN 2) [] fn__law_draw [some (.ref 0), some (.val (.int o))] (L :: R) = .ok (.val (.int i)) (L1 :: R) := ci
    unfold dTest dOp
    rw [this]
    rfl
  have sh : fn__law_some [.ref 0, .val (.int o)] (L :: R) = (match F__law_some [some (.ref 0), some (.val (.int o))] (L :: R) with
    | .ret w Y1 => Re.ok w Y1
    | .next _ Y1 => .ok (.val .non) Y1
    | .exc c fs _ Y1 => .exc c fs Y1
    | _ => .bad) := rfl
  rw [sh, some_eq]
  unfold sSeq sIf
  rw [t]
  cases iEq i 0 with
  | true =>
    obtain ⟨d, hd, L2, e2, h2⟩ := pickE (R := R) (τ := [some (.ref 0), some (.val (.int o))]) (j := 0) (f := oddL) (ds := odd) hd1 rfl rfl (by unfold odd; exact List.cons_ne_nil _ _) (by decide)
    refine ⟨d, .inr hd, L2, ?_, h2⟩
    show (match ((Re.out (dCall (cPos (dCons (dVar 0) (dCons oddL (dNil)))) 2 0 (bmN 2) [] fn__law_pick [some (.ref 0), some (.val (.int o))] (L1 :: R)) [some (.ref 0), some (.val (.int o))] fun w Y1 => Out.ret w Y1).seq _) with
      | .ret w Y1 => Re.ok w Y1
      | .next _ Y1 => .ok (.val .non) Y1
      | .exc c fs _ Y1 => .exc c fs Y1
      | _ => .bad) = _
    rw [e2]
    rfl
  | false =>
    obtain ⟨d, hd, L2, e2, h2⟩ := pickE (R := R) (τ := [some (.ref 0), some (.val (.int o))]) (j := 0) (f := wdL) (ds := w7.map D.str) hd1 rfl rfl (by unfold w7; exact List.cons_ne_nil _ _) (by decide)
    refine ⟨d, .inl hd, L2, ?_, h2⟩
    show (match (Re.out (dCall (cPos (dCons (dVar 0) (dCons wdL (dNil)))) 2 0 (bmN 2) [] fn__law_pick [some (.ref 0), some (.val (.int o))] (L1 :: R)) [some (.ref 0), some (.val (.int o))] fun w Y1 => Out.ret w Y1) with
      | .ret w Y1 => Re.ok w Y1
      | .next _ Y1 => .ok (.val .non) Y1
      | .exc c fs _ Y1 => .exc c fs Y1
      | _ => .bad) = _
    rw [e2]
    rfl
theorem source_ok {ns : List Int} {t : Int} (h0 : 0 ≤ t) : ∃ L, fn__law_source [.val (.scr ns), .val (.int t)] [] = .ok (.ref 0) [L] ∧ Dr L := by
  have hl : orL gLen gLenD [.val (.scr ns)] [] = .ok (.val (.int ns.length)) [] := by
    simp [orL, gLen, sqOf, lsOf]
  obtain ⟨z, hz⟩ : ∃ z, dIf (dTest (dOp gLt (dVar 1) (dBlt (orL gLen gLenD) (dCons (dVar 0) (dNil))))) (dOp gItem (dVar 0) (dVar 1)) (dOp gAdd (dOp gMul (dC (.int 13)) (dVar 1)) (dC (.int 3))) [some (.val (.scr ns)), some (.val (.int t)), none] [] = .ok (.val (.int z)) [] := by
    cases q : iLt t ns.length with
    | true =>
      have q' : t < ns.length := by rw [← iLt_dec] at q; simpa using q
      obtain ⟨j, rfl⟩ := Int.eq_ofNat_of_zero_le h0
      have hj : j < ns.length := by omega
      have ha : atP ns (j : Int) = some ns[j] := by
        have : plc ns.length (j : Int) = some j := by
          show plc ns.length (Int.ofNat j) = _
          unfold plc
          dsimp only
          rw [show Nat.blt j ns.length = true by rw [Nat.blt_eq]; exact hj]
        unfold atP
        rw [this]
        simp [hj]
      have gi : gItem (.val (.scr ns)) (.val (.int j)) [] = .ok (.val (.int ns[j])) [] := by simp [gItem, orG, gIx, ha, mkI]
      refine ⟨ns[j], ?_⟩
      simp [dIf, dOp, dVar, dCons, dNil, dBlt, Re.bind, Ra.bind, noX, gI, mkB, q, dTest, Re.bindT, Te.bind, isB, hl, gi]
    | false =>
      have m1 : gMul (.val (.int 13)) (.val (.int t)) [] = .ok (.val (.int (13 * t))) [] := by
        have : small64 13 = true := by decide
        simp [gMul, orG, gMulI, gI, this, mkI]
      have ad : ∀ (i j : Int) (Y : Ys), gAdd (.val (.int i)) (.val (.int j)) Y = .ok (.val (.int (i + j))) Y := fun i j Y => rfl
      refine ⟨13 * t + 3, ?_⟩
      simp [dIf, dOp, dVar, dC, dCons, dNil, dBlt, Re.bind, Ra.bind, noX, gI, mkB, q, dTest, Re.bindT, Te.bind, isB, hl, m1, ad]
  have hp : gPow (.val (.int 10)) (.val (.int 18)) [] = .ok (.val (.int 1000000000000000000)) [] := rfl
  have md : ∀ (i : Int) (Y : Ys), gMod (.val (.int i)) (.val (.int 2147483629)) Y = .ok (.val (.int (i.fmod 2147483629))) Y := fun i Y => rfl
  have l3 : lines 3 = true := rfl
  have st : startT 3 [W.val (.scr ns), W.val (.int t)] = [some (.val (.scr ns)), some (.val (.int t)), none] := rfl
  cases q : iLe 1000000000000000000 z with
  | true =>
    refine ⟨L3 z (z.fmod 2147483629) 0, ?_, ⟨_, _, _, rfl⟩⟩
    unfold fn__law_source runW F__law_source
    rw [st]
    unfold sSeq sSet
    rw [hz]
    simp [dIf, dOp, dVar, dC, dCons, dNil, dBlt, Re.bind, Re.out, Out.seq, Ra.bind, noX, gI, mkB, q, dTest, Re.bindT, Te.bind, isB, hp, md, gInt, sRet, dLstR, l3, L3]
  | false =>
    refine ⟨L3 0 (z.fmod 2147483629) 0, ?_, ⟨_, _, _, rfl⟩⟩
    unfold fn__law_source runW F__law_source
    rw [st]
    unfold sSeq sSet
    rw [hz]
    simp [dIf, dOp, dVar, dC, dCons, dNil, dBlt, Re.bind, Re.out, Out.seq, Ra.bind, noX, gI, mkB, q, dTest, Re.bindT, Te.bind, isB, hp, md, gInt, sRet, dLstR, l3, L3]
/-! ### loops -/
theorem forL_ok {P : Ts → Ys → Prop} {g : W → Ts → Ys → Option Ts} {b : SDen} : ∀ {ws : List W} {τ : Ts} {Y : Ys}, (∀ w ∈ ws, ∀ τ Y, P τ Y → ∃ τ1 τ2 Y2, g w τ Y = some τ1 ∧ b τ1 Y = .next τ2 Y2 ∧ P τ2 Y2) → P τ Y → ∃ τ' Y', sForL g b ws τ Y = .next τ' Y' ∧ P τ' Y'
  | [], τ, Y, _, h => ⟨τ, Y, rfl, h⟩
  | w :: ws, τ, Y, hb, h => by
    obtain ⟨τ1, τ2, Y2, e1, e2, h2⟩ := hb w List.mem_cons_self τ Y h
    obtain ⟨τ', Y', e3, h3⟩ := forL_ok (ws := ws) (fun w hw => hb w (List.mem_cons_of_mem _ hw)) h2
    refine ⟨τ', Y', ?_, h3⟩
    unfold sForL
    rw [e1]
    dsimp only
    rw [e2]
    exact e3
theorem ups_mem : ∀ {n : Nat} {lo : Int} {w : W}, w ∈ ups lo n → ∃ j : Nat, j < n ∧ w = .val (.int (lo + j))
  | 0, _, _, h => by simp [ups] at h
  | n + 1, lo, w, h => by
    rcases List.mem_cons.mp (show w ∈ .val (.int lo) :: ups (lo + 1) n from h) with z | z
    · exact ⟨0, by omega, by rw [z]; simp⟩
    · obtain ⟨j, hj, e⟩ := ups_mem z
      exact ⟨j + 1, by omega, by rw [e]; congr 2; push_cast; omega⟩
theorem ups_len : ∀ (n : Nat) (lo : Int), (ups lo n).length = n
  | 0, _ => rfl
  | n + 1, lo => by
    show (ups (lo + 1) n).length + 1 = _
    rw [ups_len n (lo + 1)]
theorem smallI_of {i : Int} (h0 : 0 ≤ i) (h1 : i < 1000) : smallI i = true := by
  obtain ⟨j, rfl⟩ := Int.eq_ofNat_of_zero_le h0
  show Nat.ble j 4611686018427387903 = true
  exact Nat.ble_eq_true_of_le (by omega)
theorem cons1 {f : Den} {τ : Ts} {Y Y1 : Ys} {w : W} (h : f τ Y = .ok w Y1) : dCons f (dNil) τ Y = .ok [w] Y1 := by
  simp only [dCons, h, dNil]
theorem rng1 {f : Den} {τ : Ts} {Y Y1 : Ys} {i : Int} (h : f τ Y = .ok (.val (.int i)) Y1) (h0 : 0 ≤ i) (h1 : i < 1000) : dRng1 (dCons f (dNil)) τ Y = .ok (ups 0 i.toNat) Y1 := by
  simp only [dRng1, dCons, h, dNil, smallI_of h0 h1]
/-! ### needs -/
def Tn (p : D × Bool) : Prop := (p.2 = true ∧ p.1 ∈ goodC) ∨ (p.2 = false ∧ p.1 ∈ oddC)
theorem Tn.tc {p : D × Bool} (h : Tn p) : Tc p := by
  obtain ⟨d, b⟩ := p
  rcases h with ⟨h1, h2⟩ | ⟨h1, h2⟩
  · cases h1
    exact .cd (goodC_4 h2)
  · cases h1
    exact .od h2
def N1 : SDen := sSet 1 (dLst (dCons (dCall (cPos (dCons (dCallS (cPos (dCons (dC (.str "a")) (dNil))) fn_heard) (dCons (dOp (orG gAdd (gBin selAdd rselAdd)) (dCall (cNone) 0 0 (bmN 0) [] fn_bound) (dC (.int 1))) (dNil)))) 2 0 (bmN 2) [] fn_at_least) (dCons (dCall (cPos (dCons (dOp (orG gMul (gBin selMul rselMul)) (dC (.int 2)) (dCallS (cPos (dCons (dC (.str "a")) (dCons (dC (.str "b")) (dNil)))) fn_heard)) (dCons (dOp (orG gAdd (gBin selAdd rselAdd)) (dCall (cNone) 0 0 (bmN 0) [] fn_members) (dC (.int 1))) (dNil)))) 2 0 (bmN 2) [] fn_at_least) (dCons (dCall (cPos (dCons (dCallS (cPos (dCons (dC (.str "zz")) (dNil))) fn_heard) (dCons (dC (.int 1)) (dNil)))) 2 0 (bmN 2) [] fn_at_least) (dNil)))))
def N2 : SDen := sSet 2 (dLst (dCons (dCall (cPos (dCons (dCall (cPos (dCons (dC (.str "a")) (dNil))) 1 0 (bmN 1) [] fn_at) (dCons (dC (.int 1)) (dNil)))) 2 0 (bmN 2) [] fn_at_least) (dCons (dCall (cPos (dCons (dCall (cNone) 0 0 (bmN 0) [] fn_members) (dCons (dCall (cNone) 0 0 (bmN 0) [] fn_bound) (dNil)))) 2 0 (bmN 2) [] fn_at_least) (dCons (dC .non) (dCons (dC (.int 5)) (dCons (dCallS (cPos (dCons (dC (.str "a")) (dNil))) fn_heard) (dCons (dLst (dCons (dC (.str "a")) (dNil))) (dCons (dC (.str "a")) (dNil)))))))))
def nb1 : SDen := sSet 5 (dOp gGt (dCall (cPos (dCons (dVar 0) (dCons (dC (.int 8)) (dNil)))) 2 0 (bmN 2) [] fn__law_draw) (dC (.int 0)))
def nI : Den := dIf (dTest (dVar 5)) (dVar 1) (dVar 2)
def nP : Den := dCall (cPos (dCons (dVar 0) (dCons nI (dNil)))) 2 0 (bmN 2) [] fn__law_pick
def nb2 : SDen := sExpr (dBm gAppend (dVar 3) (dCons (dTup (dCons nP (dCons (dVar 5) (dNil)))) (dNil)))
def N4 : SDen := sFor (dRng1 (dCons (dCall (cPos (dCons (dVar 0) (dCons (dC (.int 4)) (dNil)))) 2 0 (bmN 2) [] fn__law_draw) (dNil))) (gNm 4) (sSeq nb1 nb2)
theorem needs_eq : F__law_needs = sSeq N1 (sSeq N2 (sSeq (sSet 3 (dLstR (dNil))) (sSeq N4 (sPre 3 (sRet (dVar 3)))))) := rfl
theorem N1_run (r0 r1 r2 r3 r4 r5 : Option W) (Y : Ys) : N1 [r0, r1, r2, r3, r4, r5] Y = .next [r0, some (.val (.lst goodC)), r2, r3, r4, r5] Y := by kernel_rfl
theorem N2_run (r0 r1 r2 r3 r4 r5 : Option W) (Y : Ys) : N2 [r0, r1, r2, r3, r4, r5] Y = .next [r0, r1, some (.val (.lst oddC)), r3, r4, r5] Y := by kernel_rfl
abbrev NT (r4 r5 : Option W) : Ts := [some (.ref 0), some (.val (.lst goodC)), some (.val (.lst oddC)), some (.ref 2), r4, r5]
theorem nbody {L S : YO} {l : List (D × Bool)} (h : Dr L) (hl : l.length ≤ 50) (r4 r5 : Option W) : ∃ p L' b, sSeq nb1 nb2 (NT r4 r5) [L, S, .lst (vals (needD l))] = .next (NT r4 (some (.val (.bl b)))) [L', S, .lst (vals (needD (l ++ [p])))] ∧ Tn p ∧ Dr L' := by
  obtain ⟨i, L1, e1, _, _, h1⟩ := drawE (R := [S, .lst (vals (needD l))]) (τ := NT r4 r5) (j := 0) (m := 8) h rfl (by omega) (by omega)
  have s1 : nb1 (NT r4 r5) [L, S, .lst (vals (needD l))] = .next (NT r4 (some (.val (.bl (iLt 0 i))))) [L1, S, .lst (vals (needD l))] := by
    unfold nb1 sSet dOp
    rw [e1]
    rfl
  have key : ∀ (b : Bool) (ds : List D), nI (NT r4 (some (.val (.bl b)))) [L1, S, .lst (vals (needD l))] = .ok (.val (.lst ds)) [L1, S, .lst (vals (needD l))] → ds ≠ [] → ds.length < 1000 → ∃ d ∈ ds, ∃ L', nb2 (NT r4 (some (.val (.bl b)))) [L1, S, .lst (vals (needD l))] = .next (NT r4 (some (.val (.bl b)))) [L', S, .lst (vals (needD (l ++ [(d, b)])))] ∧ Dr L' := fun b ds hn h0 hs => by
    obtain ⟨d, hd, L', e, h'⟩ := pickE (R := [S, .lst (vals (needD l))]) (τ := NT r4 (some (.val (.bl b)))) (j := 0) (f := nI) (ds := ds) h1 rfl hn h0 hs
    refine ⟨d, hd, L', ?_, h'⟩
    have e' : nP (NT r4 (some (.val (.bl b)))) [L1, S, .lst (vals (needD l))] = .ok (.val d) [L', S, .lst (vals (needD l))] := e
    have va : vals (needD (l ++ [(d, b)])) = vals (needD l) ++ [W.val (.tup [d, .bl b])] := by
      unfold needD
      rw [List.map_append, vals_app]
      rfl
    have tu : dTup (dCons nP (dCons (dVar 5) (dNil))) (NT r4 (some (.val (.bl b)))) [L1, S, .lst (vals (needD l))] = .ok (.val (.tup [d, .bl b])) [L', S, .lst (vals (needD l))] := by
      unfold dTup dCons
      rw [e']
      rfl
    have ll : lines ((vals (needD l)).length + 1) = true := lines_small (by rw [vals_len', needD, List.length_map]; omega)
    have ap : gAppend (.ref 2) [.val (.tup [d, .bl b])] [L', S, .lst (vals (needD l))] = .ok (.val .non) [L', S, .lst (vals (needD l) ++ [W.val (.tup [d, .bl b])])] := by
      show (match lines ((vals (needD l)).length + 1) with
        | true => Re.ok (.val .non) [L', S, .lst (vals (needD l) ++ [W.val (.tup [d, .bl b])])]
        | false => .bad) = _
      rw [ll]
    have il : isL (.ref 2) [L1, S, .lst (vals (needD l))] = true := rfl
    have v3 : dVar 3 (NT r4 (some (.val (.bl b)))) [L1, S, .lst (vals (needD l))] = .ok (.ref 2) [L1, S, .lst (vals (needD l))] := rfl
    unfold nb2 sExpr dBm
    rw [v3]
    dsimp only [Re.bind]
    rw [il]
    dsimp only
    rw [cons1 tu]
    dsimp only [Ra.bind]
    rw [ap, va]
    rfl
  unfold sSeq
  rw [s1]
  dsimp only [Out.seq]
  cases hb : iLt 0 i with
  | true =>
    obtain ⟨d, hd, L', e, h'⟩ := key true goodC rfl (by unfold goodC; exact List.cons_ne_nil _ _) (by decide)
    exact ⟨(d, true), L', true, e, .inl ⟨rfl, hd⟩, h'⟩
  | false =>
    obtain ⟨d, hd, L', e, h'⟩ := key false oddC rfl (by unfold oddC; exact List.cons_ne_nil _ _) (by decide)
    exact ⟨(d, false), L', false, e, .inr ⟨rfl, hd⟩, h'⟩
theorem nloop {S : YO} : ∀ (ws : List W) (l : List (D × Bool)) (L : YO) (r4 r5 : Option W), Dr L → (∀ p ∈ l, Tn p) → l.length + ws.length ≤ 40 → ∃ l' L' r4' r5', sForL (gNm 4) (sSeq nb1 nb2) ws (NT r4 r5) [L, S, .lst (vals (needD l))] = .next (NT r4' r5') [L', S, .lst (vals (needD l'))] ∧ (∀ p ∈ l', Tn p) ∧ Dr L' ∧ l'.length = l.length + ws.length
  | [], l, L, r4, r5, h, hl, _ => ⟨l, L, r4, r5, rfl, hl, h, rfl⟩
  | w :: ws, l, L, r4, r5, h, hl, hn => by
    rw [List.length_cons] at hn
    obtain ⟨p, L1, b, e, hp, h1⟩ := nbody (S := S) (l := l) h (by omega) (some w) r5
    obtain ⟨l', L', r4', r5', e2, h2, h3, h4⟩ := nloop (S := S) ws (l ++ [p]) L1 (some w) (some (.val (.bl b))) h1 (fun q hq => by
      rcases List.mem_append.mp hq with z | z
      · exact hl q z
      · rw [List.mem_singleton.mp z]; exact hp) (by rw [List.length_append, List.length_singleton]; omega)
    refine ⟨l', L', r4', r5', ?_, h2, h3, by rw [h4, List.length_append, List.length_singleton, List.length_cons]; omega⟩
    have g : gNm 4 w (NT r4 r5) [L, S, .lst (vals (needD l))] = some (NT (some w) r5) := rfl
    unfold sForL
    rw [g]
    dsimp only
    rw [e]
    exact e2
theorem needs_ok {L S : YO} (h : Dr L) : ∃ l L', fn__law_needs [.ref 0] [L, S] = .ok (.val (.lst (needD l))) [L', S, .dead] ∧ (∀ p ∈ l, Tn p) ∧ l.length ≤ 3 ∧ Dr L' := by
  have e0 : fn__law_needs [.ref 0] [L, S] = (match F__law_needs [some (.ref 0), none, none, none, none, none] [L, S] with
    | .ret w Y1 => Re.ok w Y1
    | .next _ Y1 => .ok (.val .non) Y1
    | .exc c fs _ Y1 => .exc c fs Y1
    | _ => .bad) := rfl
  obtain ⟨i, L1, e1, i0, i1, h1⟩ := drawE (R := [S, .lst (vals (needD []))]) (τ := NT none none) (j := 0) (m := 4) h rfl (by omega) (by omega)
  obtain ⟨l, L2, r4, r5, e2, h2, h3, h4⟩ := nloop (S := S) (ups 0 i.toNat) [] L1 none none h1 (fun p hp => by cases hp) (by rw [ups_len]; simp; omega)
  refine ⟨l, L2, ?_, h2, by rw [h4, ups_len]; simp; omega, h3⟩
  have s3 : sSet 3 (dLstR (dNil)) [some (.ref 0), some (.val (.lst goodC)), some (.val (.lst oddC)), none, none, none] [L, S] = .next (NT none none) [L, S, .lst (vals (needD []))] := rfl
  have rg : dRng1 (dCons (dCall (cPos (dCons (dVar 0) (dCons (dC (.int 4)) (dNil)))) 2 0 (bmN 2) [] fn__law_draw) (dNil)) (NT none none) [L, S, .lst (vals (needD []))] = .ok (ups 0 i.toNat) [L1, S, .lst (vals (needD []))] := rng1 e1 i0 (by omega)
  rw [e0, needs_eq]
  unfold sSeq
  rw [N1_run]
  dsimp only [Out.seq]
  rw [N2_run]
  dsimp only [Out.seq]
  rw [s3]
  dsimp only [Out.seq]
  unfold N4 sFor
  rw [rg]
  dsimp only
  rw [e2]
  dsimp only [Out.seq]
  unfold sPre
  have fz : frzSlot 3 (NT r4 r5) [L2, S, .lst (vals (needD l))] = some ([some (.ref 0), some (.val (.lst goodC)), some (.val (.lst oddC)), some (.val (.lst (needD l))), r4, r5], [L2, S, .dead]) := by
    show (match frzW 20 [L2, S, .lst (vals (needD l))] (.ref 2) with
      | some (d, Y2) => some ((NT r4 r5).set 3 (some (.val d)), Y2)
      | none => none) = _
    rw [frz_lst (n := 2) (k := 19) (ds := needD l) rfl]
    rfl
  rw [fz]
  rfl
end K5
set_option Elab.async false
set_option linter.all false
set_option maxRecDepth 100000
set_option maxHeartbeats 0
namespace K5
open PySem MV
/-! ### the turn -/
def fSome (o : Den) : Den := dCall (cPos (dCons (dVar 3) (dCons o (dNil)))) 2 0 (bmN 2) [] fn__law_some
def dr (m : Int) : Den := dCall (cPos (dCons (dVar 3) (dCons (dC (.int m)) (dNil)))) 2 0 (bmN 2) [] fn__law_draw
def pk (f : Den) : Den := dCall (cPos (dCons (dVar 3) (dCons f (dNil)))) 2 0 (bmN 2) [] fn__law_pick
def oS : Den := dLst (dCons (dC .non) (dCons (dC (.str "yes")) (dCons (dC (.int 5)) (dCons (dC (.dK [])) (dNil)))))
def B1 : SDen := sSet 3 (dCall (cPos (dCons (dVar 0) (dCons (dVar 1) (dNil)))) 2 0 (bmN 2) [] fn__law_source)
def B2 : SDen := sSet 4 (pk (dLst (dCons (dC (.int 5)) (dCons (dC (.int 40)) (dCons (dC (.int 40)) (dNil))))))
def B3 : SDen := sSet 5 (dLc (dRng1 (dCons (dC (.int 3)) (dNil))) (gNm 10) (tAll) (fSome (dVar 4)) [10])
def o2 : Den := dOp gMul (dC (.int 2)) (dVar 4)
def B4 : SDen := sSet 6 (dLcR (dRng1 (dCons (dr 4) (dNil))) (gNm 10) (tAll) (fSome o2) [10])
def B5 : SDen := sSet 7 (dCall (cPos (dCons (dVar 3) (dNil))) 1 0 (bmN 1) [] fn__law_needs)
def g6 : W → Ts → Ys → Option Ts := gTp 2 (gsCons (gNm 11) (gsCons (gNm 12) (gsNil)))
def B6 : SDen := sSet 8 (dLcR (dIt (dVar 7)) g6 (tAll) (dVar 11) [11, 12])
def B7 : SDen := sIf (dTest (dOp gEqA (dr 8) (dC (.int 0)))) (sSet 6 (pk oS)) (sNext)
def B8 : SDen := sIf (dTest (dOp gEqA (dr 8) (dC (.int 0)))) (sAsg (gTp 2 (gsCons (gNm 8) (gsCons (gNm 7) (gsNil)))) (dTup (dCons (pk oS) (dCons (dC .non) (dNil))))) (sNext)
def B9 : SDen := sIf (dAnd (dTest (dIsi (ktB ["list"]) (dVar 8))) (dTest (dOp gEqA (dr 2) (dC (.int 0))))) (sSet 8 (dBlt gTup (dCons (dVar 8) (dNil)))) (sNext)
def B10 : SDen := sSet 9 (dCall (cPos (dCons (dVar 5) (dCons (dVar 7) (dCons (dVar 6) (dNil))))) 3 0 (bmN 3) [] fn__law_due)
def fR : CDen := cPos (dCons (dOp gItem (dVar 5) (dC (.int 0))) (dCons (dOp gItem (dVar 5) (dC (.int 1))) (dCons (dOp gItem (dVar 5) (dC (.int 2))) (dCons (dVar 8) (dCons (dVar 6) (dNil))))))
def dT : Den := dGot (some 2) 4 tried_rest tried_after tried_cl (mkR fR)
def c11 : Den := dCall (cPos (dCons dT (dCons (dVar 9) (dNil)))) 2 0 (bmN 2) [] (fn__law_same 8)
def B11 : SDen := sIf (dNot (dTest c11)) fls (sNext)
def t12 : TDen := dTest (dOp gEqA (dOp gItem (dVar 9) (dC (.int 0))) (dC (.str "rule")))
def c12 : Den := dCall (cPos (dCons (dVar 5) (dCons (dVar 8) (dCons (dVar 6) (dNil))))) 3 0 (bmN 3) [] fn__law_equal_right
def B12 : SDen := sIf t12 (sIf (dNot (dTest c12)) fls (sNext)) (sNext)
def turn : SDen := sSeq B1 (sSeq B2 (sSeq B3 (sSeq B4 (sSeq B5 (sSeq B6 (sSeq B7 (sSeq B8 (sSeq B9 (sSeq B10 (sSeq B11 B12))))))))))
def fin : SDen := sSeq (sSet 2 (dMakeP 2 (cPos (dCons (dC (.str "a")) (dCons (dC (.str "b")) (dCons (dC (.str "c")) (dNil))))) 3 0 (bmN 4 ++ [Bd.d 0, Bd.d 1]) [.ktup [], .ktup []] fn_Rule)) (sRet (dCall (cPos (dCons (dLst (dCons (dFld ix_when (dVar 2)) (dCons (dFld ix_says (dVar 2)) (dNil)))) (dCons (dLst (dCons (dTup (dNil)) (dCons (dTup (dNil)) (dNil)))) (dNil)))) 2 0 (bmN 2) [] (fn__law_same 8)))
def rngL : IDen := dRng1 (dCons (dOp gAdd (dC (.int 6)) (dBlt gMin2 (dCons (dBlt (orL gLen gLenD) (dCons (dVar 0) (dNil))) (dCons (dC (.int 6)) (dNil))))) (dNil))
theorem law_eq : F_law = sSeq (sFor rngL (gNm 1) (sOwn turn)) fin := rfl
theorem someE {L : YO} {R : Ys} {τ : Ts} {o : Den} {k : Int} (h3 : τ[3]? = some (some (.ref 0))) (ho : ∀ Y, o τ Y = .ok (.val (.int k)) Y) (h0 : 0 < k) (h1 : k < 1000) (h : Dr L) : ∃ d, Tg d ∧ ∃ L', fSome o τ (L :: R) = .ok (.val d) (L' :: R) ∧ Dr L' := by
  obtain ⟨d, hd, L', e, h'⟩ := some_ok (R := R) h h0 h1
  refine ⟨d, hd, L', ?_, h'⟩
  have ci : callW 2 0 (bmN 2) [] fn__law_some [.ref 0, .val (.int k)] [] (L :: R) = .ok (.val d) (L' :: R) := by rw [callW_all (n := 2) rfl]; exact e
  simp [fSome, dCall, cPos, dCons, dNil, dVar, h3, ho, R2a.bind, ci]
theorem someL {R : Ys} {τ : Ts} {o : Den} {k : Int} (h3 : ∀ w, (τ.set 10 (some w) : Ts)[3]? = some (some (.ref 0))) (ho : ∀ w Y, o (τ.set 10 (some w)) Y = .ok (.val (.int k)) Y) (h0 : 0 < k) (h1 : k < 1000) : ∀ (ws : List W) (L : YO), Dr L → ∃ ds L', lcL (gNm 10) tAll (fSome o) τ ws (L :: R) = some (vals ds, L' :: R) ∧ (∀ d ∈ ds, Tg d) ∧ ds.length = ws.length ∧ Dr L'
  | [], L, h => ⟨[], L, rfl, by simp, rfl, h⟩
  | w :: ws, L, h => by
    obtain ⟨d, hd, L1, e1, hL1⟩ := someE (R := R) (τ := τ.set 10 (some w)) (o := o) (h3 w) (ho w) h0 h1 h
    obtain ⟨ds, L', e2, hm, hl, h'⟩ := someL (R := R) h3 ho h0 h1 ws L1 hL1
    refine ⟨d :: ds, L', ?_, ?_, by simp [hl], h'⟩
    · unfold lcL
      show (match tAll (τ.set 10 (some w)) (L :: R) with
        | .ok true Y1 => (match fSome o (τ.set 10 (some w)) Y1 with
          | .ok u Y2 => (match lcL (gNm 10) tAll (fSome o) τ ws Y2 with
            | some (us, Y3) => some (u :: us, Y3)
            | none => none)
          | _ => none)
        | .ok false Y1 => lcL (gNm 10) tAll (fSome o) τ ws Y1
        | _ => none) = _
      have ta : tAll (τ.set 10 (some w)) (L :: R) = .ok true (L :: R) := rfl
      rw [ta]
      dsimp only
      rw [e1]
      dsimp only
      rw [e2]
      rfl
    · intro x hx
      rcases List.mem_cons.mp hx with z | z
      · rw [z]; exact hd
      · exact hm x z
section
variable {s : W} {a1 a2 a4 a5 a6 a7 a8 a9 a10 a11 a12 : Option W}
theorem whenL {x : Option W} : ∀ (l : List (D × Bool)) (Y : Ys), lcL g6 tAll (dVar 11) [some s, a1, a2, x, a4, a5, a6, a7, a8, a9, a10, a11, a12] (vals (needD l)) Y = some (vals (fsts l), Y)
  | [], Y => rfl
  | (d, b) :: l, Y => by
    have ih := whenL (x := x) l Y
    have e : vals (needD ((d, b) :: l)) = .val (.tup [d, .bl b]) :: vals (needD l) := rfl
    have g : g6 (.val (.tup [d, .bl b])) [some s, a1, a2, x, a4, a5, a6, a7, a8, a9, a10, a11, a12] Y = some [some s, a1, a2, x, a4, a5, a6, a7, a8, a9, a10, some (.val d), some (.val (.bl b))] := rfl
    rw [e]
    unfold lcL
    rw [g]
    show (match lcL g6 tAll (dVar 11) [some s, a1, a2, x, a4, a5, a6, a7, a8, a9, a10, a11, a12] (vals (needD l)) Y with
      | some (us, Y3) => some (W.val d :: us, Y3)
      | none => none) = _
    rw [ih]
    rfl
abbrev KT (s : W) (a1 a2 a4 a5 a6 a7 a8 a9 a10 a11 a12 : Option W) : Ts := [some s, a1, a2, some (.ref 0), a4, a5, a6, a7, a8, a9, a10, a11, a12]
theorem B2_run {L : YO} (h : Dr L) : ∃ k L', B2 (KT s a1 a2 a4 a5 a6 a7 a8 a9 a10 a11 a12) [L] = .next (KT s a1 a2 (some (.val (.int k))) a5 a6 a7 a8 a9 a10 a11 a12) [L'] ∧ 0 < k ∧ k < 100 ∧ Dr L' := by
  obtain ⟨d, hd, L', e, h'⟩ := pickE (R := []) (τ := KT s a1 a2 a4 a5 a6 a7 a8 a9 a10 a11 a12) (j := 3) (f := dLst (dCons (dC (.int 5)) (dCons (dC (.int 40)) (dCons (dC (.int 40)) (dNil))))) (ds := [.int 5, .int 40, .int 40]) h rfl rfl (List.cons_ne_nil _ _) (by decide)
  have : ∃ k : Int, d = .int k ∧ 0 < k ∧ k < 100 := by
    simp only [List.mem_cons, List.not_mem_nil, or_false] at hd
    rcases hd with rfl | rfl | rfl
    · exact ⟨5, rfl, by omega, by omega⟩
    · exact ⟨40, rfl, by omega, by omega⟩
    · exact ⟨40, rfl, by omega, by omega⟩
  obtain ⟨k, rfl, k0, k1⟩ := this
  refine ⟨k, L', ?_, k0, k1, h'⟩
  unfold B2 sSet
  rw [show pk _ (KT s a1 a2 a4 a5 a6 a7 a8 a9 a10 a11 a12) [L] = _ from e]
  rfl
theorem B3_run {L : YO} {k : Int} (h : Dr L) (k0 : 0 < k) (k1 : k < 100) : ∃ n t e L', B3 (KT s a1 a2 (some (.val (.int k))) a5 a6 a7 a8 a9 a10 a11 a12) [L] = .next (KT s a1 a2 (some (.val (.int k))) (some (.val (.lst [n, t, e]))) a6 a7 a8 a9 a10 a11 a12) [L'] ∧ Tg n ∧ Tg t ∧ Tg e ∧ Dr L' := by
  obtain ⟨ds, L', e, hm, hl, h'⟩ := someL (R := []) (τ := wipeT (KT s a1 a2 (some (.val (.int k))) a5 a6 a7 a8 a9 a10 a11 a12) [10]) (o := dVar 4) (k := k) (fun w => rfl) (fun w Y => rfl) k0 (by omega) (ups 0 3) L h
  have lc : dLc (dRng1 (dCons (dC (.int 3)) (dNil))) (gNm 10) (tAll) (fSome (dVar 4)) [10] (KT s a1 a2 (some (.val (.int k))) a5 a6 a7 a8 a9 a10 a11 a12) [L] = .ok (.val (.lst ds)) [L'] := by
    have r : dRng1 (dCons (dC (.int 3)) (dNil)) (KT s a1 a2 (some (.val (.int k))) a5 a6 a7 a8 a9 a10 a11 a12) [L] = .ok (ups 0 3) [L] := rfl
    unfold dLc lcA
    rw [r]
    dsimp only
    rw [show lines (ups 0 3).length = true from rfl]
    dsimp only
    rw [e]
    dsimp only [Ra.bind]
    rw [dats_vals]
  match ds, hl, hm with
  | [n, t, e], _, hm =>
    refine ⟨n, t, e, L', ?_, hm n (by simp), hm t (by simp), hm e (by simp), h'⟩
    unfold B3 sSet
    rw [lc]
    rfl
theorem B4_run {L : YO} {k : Int} (h : Dr L) (k0 : 0 < k) (k1 : k < 100) : ∃ S L', B4 (KT s a1 a2 (some (.val (.int k))) a5 a6 a7 a8 a9 a10 a11 a12) [L] = .next (KT s a1 a2 (some (.val (.int k))) a5 (some (.ref 1)) a7 a8 a9 a10 a11 a12) [L', .lst (vals S)] ∧ (∀ d ∈ S, Tg d) ∧ S.length ≤ 3 ∧ Dr L' := by
  obtain ⟨i, L1, e1, i0, i1, h1⟩ := drawE (R := []) (τ := KT s a1 a2 (some (.val (.int k))) a5 a6 a7 a8 a9 a10 a11 a12) (j := 3) (m := 4) h rfl (by omega) (by omega)
  have ho : ∀ w Y, o2 ((wipeT (KT s a1 a2 (some (.val (.int k))) a5 a6 a7 a8 a9 a10 a11 a12) [10]).set 10 (some w)) Y = .ok (.val (.int (2 * k))) Y := fun w Y => by
    have m1 : gMul (.val (.int 2)) (.val (.int k)) Y = .ok (.val (.int (2 * k))) Y := by
      have : small64 2 = true := by decide
      simp [gMul, orG, gMulI, gI, this, mkI]
    show noX (gMul (.val (.int 2)) (.val (.int k)) Y) = _
    rw [m1]
    rfl
  obtain ⟨ds, L', e, hm, hl, h'⟩ := someL (R := []) (τ := wipeT (KT s a1 a2 (some (.val (.int k))) a5 a6 a7 a8 a9 a10 a11 a12) [10]) (o := o2) (k := 2 * k) (fun w => rfl) ho (by omega) (by omega) (ups 0 i.toNat) L1 h1
  rw [ups_len] at hl
  refine ⟨ds, L', ?_, hm, by omega, h'⟩
  have r : dRng1 (dCons (dr 4) (dNil)) (KT s a1 a2 (some (.val (.int k))) a5 a6 a7 a8 a9 a10 a11 a12) [L] = .ok (ups 0 i.toNat) [L1] := rng1 e1 i0 (by omega)
  unfold B4 sSet dLcR lcA
  rw [r]
  dsimp only
  rw [lines_small (by rw [ups_len]; omega)]
  dsimp only
  rw [e]
  rfl
theorem B6_run {Y : Ys} {l : List (D × Bool)} (hl : l.length ≤ 3) : B6 (KT s a1 a2 a4 a5 a6 (some (.val (.lst (needD l)))) a8 a9 a10 a11 a12) Y = .next (KT s a1 a2 a4 a5 a6 (some (.val (.lst (needD l)))) (some (.ref Y.length)) a9 a10 a11 a12) (Y ++ [.lst (vals (fsts l))]) := by
  have r : dIt (dVar 7) (KT s a1 a2 a4 a5 a6 (some (.val (.lst (needD l)))) a8 a9 a10 a11 a12) Y = .ok (vals (needD l)) Y := rfl
  have wp : wipeT (KT s a1 a2 a4 a5 a6 (some (.val (.lst (needD l)))) a8 a9 a10 a11 a12) [11, 12] = KT s a1 a2 a4 a5 a6 (some (.val (.lst (needD l)))) a8 a9 a10 none none := rfl
  unfold B6 sSet dLcR lcA
  rw [r]
  dsimp only
  rw [lines_small (by rw [vals_len', needD, List.length_map]; omega)]
  dsimp only
  rw [wp, whenL]
  rfl
/-- says at last -/
def S6 (S : List D) (w : W) (sk : D ⊕ List D) : Prop := (w = .ref 1 ∧ sk = .inr S) ∨ ∃ d ∈ oddS, w = .val d ∧ sk = .inl d
theorem B7_run {L : YO} {R : Ys} {S : List D} (h : Dr L) : ∃ w sk L', B7 (KT s a1 a2 a4 a5 (some (.ref 1)) a7 a8 a9 a10 a11 a12) (L :: R) = .next (KT s a1 a2 a4 a5 (some w) a7 a8 a9 a10 a11 a12) (L' :: R) ∧ S6 S w sk ∧ Dr L' := by
  obtain ⟨b, L1, e1, h1⟩ := drawT (R := R) (τ := KT s a1 a2 a4 a5 (some (.ref 1)) a7 a8 a9 a10 a11 a12) (j := 3) (m := 8) h rfl (by omega) (by omega)
  unfold B7 sIf
  rw [show dTest (dOp gEqA (dr 8) (dC (.int 0))) (KT s a1 a2 a4 a5 (some (.ref 1)) a7 a8 a9 a10 a11 a12) (L :: R) = _ from e1]
  cases b with
  | false => exact ⟨.ref 1, .inr S, L1, rfl, .inl ⟨rfl, rfl⟩, h1⟩
  | true =>
    obtain ⟨d, hd, L', e, h'⟩ := pickE (R := R) (τ := KT s a1 a2 a4 a5 (some (.ref 1)) a7 a8 a9 a10 a11 a12) (j := 3) (f := oS) (ds := oddS) h1 rfl rfl (by unfold oddS; exact List.cons_ne_nil _ _) (by decide)
    refine ⟨.val d, .inl d, L', ?_, .inr ⟨d, hd, rfl, rfl⟩, h'⟩
    show Re.out (pk oS (KT s a1 a2 a4 a5 (some (.ref 1)) a7 a8 a9 a10 a11 a12) (L1 :: R)) _ _ = _
    rw [show pk oS (KT s a1 a2 a4 a5 (some (.ref 1)) a7 a8 a9 a10 a11 a12) (L1 :: R) = _ from e]
    rfl
theorem B8_run {L : YO} {R : Ys} {l : List (D × Bool)} (h : Dr L) : ∃ w wk L', B8 (KT s a1 a2 a4 a5 a6 (some (needW (some l))) (some (.ref 3)) a9 a10 a11 a12) (L :: R) = .next (KT s a1 a2 a4 a5 a6 (some (needW wk)) (some w) a9 a10 a11 a12) (L' :: R) ∧ ((w = .ref 3 ∧ wk = some l) ∨ ∃ d ∈ oddS, w = .val d ∧ wk = none) ∧ Dr L' := by
  obtain ⟨b, L1, e1, h1⟩ := drawT (R := R) (τ := KT s a1 a2 a4 a5 a6 (some (needW (some l))) (some (.ref 3)) a9 a10 a11 a12) (j := 3) (m := 8) h rfl (by omega) (by omega)
  unfold B8 sIf
  rw [show dTest (dOp gEqA (dr 8) (dC (.int 0))) (KT s a1 a2 a4 a5 a6 (some (needW (some l))) (some (.ref 3)) a9 a10 a11 a12) (L :: R) = _ from e1]
  cases b with
  | false => exact ⟨.ref 3, some l, L1, rfl, .inl ⟨rfl, rfl⟩, h1⟩
  | true =>
    obtain ⟨d, hd, L', e, h'⟩ := pickE (R := R) (τ := KT s a1 a2 a4 a5 a6 (some (needW (some l))) (some (.ref 3)) a9 a10 a11 a12) (j := 3) (f := oS) (ds := oddS) h1 rfl rfl (by unfold oddS; exact List.cons_ne_nil _ _) (by decide)
    refine ⟨.val d, none, L', ?_, .inr ⟨d, hd, rfl, rfl⟩, h'⟩
    have tu : dTup (dCons (pk oS) (dCons (dC .non) (dNil))) (KT s a1 a2 a4 a5 a6 (some (needW (some l))) (some (.ref 3)) a9 a10 a11 a12) (L1 :: R) = .ok (.val (.tup [d, .non])) (L' :: R) := by
      unfold dTup dCons
      rw [show pk oS (KT s a1 a2 a4 a5 a6 (some (needW (some l))) (some (.ref 3)) a9 a10 a11 a12) (L1 :: R) = _ from e]
      rfl
    show sAsg (gTp 2 (gsCons (gNm 8) (gsCons (gNm 7) (gsNil)))) (dTup (dCons (pk oS) (dCons (dC .non) (dNil)))) (KT s a1 a2 a4 a5 a6 (some (needW (some l))) (some (.ref 3)) a9 a10 a11 a12) (L1 :: R) = _
    unfold sAsg
    rw [tu]
    rfl
/-- when at last -/
def W8 (l : List (D × Bool)) (w : W) (wk : Option (List (D × Bool))) : Prop := (w = .ref 3 ∧ wk = some l) ∨ (w = .val (.tup (fsts l)) ∧ wk = some l) ∨ ∃ d ∈ oddS, w = .val d ∧ wk = none
abbrev Y4 (L : YO) (S : List D) (l : List (D × Bool)) : Ys := [L, .lst (vals S), .dead, .lst (vals (fsts l))]
theorem isi_odd : ∀ d ∈ oddS, ∀ Y, isiW (ktB ["list"]) (.val d) Y = .ok (.val (.bl false)) Y := Each.of (P := fun d => ∀ Y, isiW (ktB ["list"]) (.val d) Y = .ok (.val (.bl false)) Y) ⟨fun _ => rfl, fun _ => rfl, fun _ => rfl, fun _ => rfl, trivial⟩
theorem B9_run {L : YO} {S : List D} {l : List (D × Bool)} {w : W} {wk : Option (List (D × Bool))} (h : Dr L) (hw : (w = .ref 3 ∧ wk = some l) ∨ ∃ d ∈ oddS, w = .val d ∧ wk = none) : ∃ w' L', B9 (KT s a1 a2 a4 a5 a6 a7 (some w) a9 a10 a11 a12) (Y4 L S l) = .next (KT s a1 a2 a4 a5 a6 a7 (some w') a9 a10 a11 a12) (Y4 L' S l) ∧ W8 l w' wk ∧ Dr L' := by
  unfold B9 sIf dAnd
  rcases hw with ⟨rfl, rfl⟩ | ⟨d, hd, rfl, rfl⟩
  · obtain ⟨b, L1, e1, h1⟩ := drawT (R := [.lst (vals S), .dead, .lst (vals (fsts l))]) (τ := KT s a1 a2 a4 a5 a6 a7 (some (.ref 3)) a9 a10 a11 a12) (j := 3) (m := 2) h rfl (by omega) (by omega)
    have i1 : dTest (dIsi (ktB ["list"]) (dVar 8)) (KT s a1 a2 a4 a5 a6 a7 (some (.ref 3)) a9 a10 a11 a12) (Y4 L S l) = .ok true (Y4 L S l) := rfl
    rw [i1]
    dsimp only [Te.bindT]
    rw [if_pos rfl]
    rw [show dTest (dOp gEqA (dr 2) (dC (.int 0))) (KT s a1 a2 a4 a5 a6 a7 (some (.ref 3)) a9 a10 a11 a12) (Y4 L S l) = _ from e1]
    cases b with
    | false => exact ⟨.ref 3, L1, rfl, .inl ⟨rfl, rfl⟩, h1⟩
    | true =>
      refine ⟨.val (.tup (fsts l)), L1, ?_, .inr (.inl ⟨rfl, rfl⟩), h1⟩
      have gt : gTup [.ref 3] (Y4 L1 S l) = .ok (.val (.tup (fsts l))) (Y4 L1 S l) := tup_src (.ref rfl)
      have v : dVar 8 (KT s a1 a2 a4 a5 a6 a7 (some (.ref 3)) a9 a10 a11 a12) (Y4 L1 S l) = .ok (.ref 3) (Y4 L1 S l) := rfl
      show Re.out (dBlt gTup (dCons (dVar 8) (dNil)) (KT s a1 a2 a4 a5 a6 a7 (some (.ref 3)) a9 a10 a11 a12) (Y4 L1 S l)) _ _ = _
      rw [blt1 v, gt]
      rfl
  · refine ⟨.val d, L, ?_, .inr (.inr ⟨d, hd, rfl, rfl⟩), h⟩
    have i1 : dTest (dIsi (ktB ["list"]) (dVar 8)) (KT s a1 a2 a4 a5 a6 a7 (some (.val d)) a9 a10 a11 a12) (Y4 L S l) = .ok false (Y4 L S l) := by
      show Re.bindT (isiW (ktB ["list"]) (.val d) (Y4 L S l)) isB = _
      rw [isi_odd d hd]
      rfl
    rw [i1]
    rfl
end
/-! ### what is wrong -/
theorem wordOf_some {d : D} (h : Th d) (hn : wordOf d = none) : d ∈ odd := by
  cases h with
  | od h => exact h
  | wd h => rw [wordOf_wd h] at hn; cases hn
theorem chk_mem : ∀ {S : List D} {ks : List Str} {d : D}, chk ks S = some d → d ∈ S
  | [], _, _, h => by cases h
  | x :: r, ks, d, h => by
    unfold chk at h
    cases hw : wordOf x with
    | none => rw [hw] at h; cases h; exact List.mem_cons_self
    | some y =>
      rw [hw] at h
      dsimp only at h
      cases hi : inS y ks with
      | true => rw [hi] at h; cases h; exact List.mem_cons_self
      | false => rw [hi] at h; exact List.mem_cons_of_mem _ (chk_mem h)
theorem th_mem {d : D} (h : Th d) : d ∈ odd ++ gw.map D.str ++ [.non, .str "yes", .int 5, .dK []] := by
  cases h with
  | od h => exact List.mem_append_left _ (List.mem_append_left _ h)
  | wd h => exact List.mem_append_left _ (List.mem_append_right _ (List.mem_map.mpr ⟨_, h, rfl⟩))
theorem fault_some {n s e : D} {S : List D} {sk : D ⊕ List D} {wk : Option (List (D × Bool))} (hn : Th n) (hs : Th s) (he : Th e) (hk : sk = .inr S ∨ ∃ d ∈ oddS, sk = .inl d) (ht : ∀ d ∈ S, Th d) {c : Nat} {g : Str} {d : D} (h : fault n s e sk wk = some (c, g, d)) :
    (c = 3 ∧ g = "word" ∧ d ∈ odd ++ gw.map D.str ++ [.non, .str "yes", .int 5, .dK []]) ∨ (c = 4 ∧ g = "index" ∧ ∃ k : Int, d = .int k) := by
  unfold fault at h
  cases c1 : chk1 n s e with
  | some x =>
    rw [c1] at h
    cases h
    refine .inl ⟨rfl, rfl, ?_⟩
    unfold chk1 at c1
    split at c1
    · cases c1; exact th_mem hn
    · cases c1; exact th_mem hs
    · cases c1; exact th_mem he
    · cases c1
  | none =>
    rw [c1] at h
    dsimp only at h
    rcases hk with rfl | ⟨x, hx, rfl⟩
    · dsimp only at h
      cases c2 : chk [] S with
      | some x =>
        rw [c2] at h
        cases h
        exact .inl ⟨rfl, rfl, th_mem (ht _ (chk_mem c2))⟩
      | none =>
        rw [c2] at h
        dsimp only at h
        cases wk with
        | none => cases h; exact .inr ⟨rfl, rfl, 0, rfl⟩
        | some l =>
          dsimp only at h
          cases c3 : chkC 0 l with
          | some k => rw [c3] at h; cases h; exact .inr ⟨rfl, rfl, _, rfl⟩
          | none => rw [c3] at h; cases h
    · cases h
      exact .inl ⟨rfl, rfl, List.mem_append_right _ hx⟩
theorem chk1_none {n s e : D} (h : chk1 n s e = none) : wordOf n ≠ none ∧ wordOf s ≠ none ∧ wordOf e ≠ none := by
  unfold chk1 at h
  split at h
  · cases h
  · cases h
  · cases h
  · rename_i h1 h2 h3
    exact ⟨by rw [h1]; simp, by rw [h2]; simp, by rw [h3]; simp⟩
theorem Tg.str {d : D} (h : Tg d) (hw : wordOf d ≠ none) : ∃ a ∈ w7, d = .str a := by
  rcases h with h | h
  · obtain ⟨x, hx, rfl⟩ := List.mem_map.mp h
    exact ⟨x, hx, rfl⟩
  · exact (hw (wordOf_od d h)).elim
theorem fault_none {n s e : D} {S : List D} {l : List (D × Bool)} (h : fault n s e (.inr S) (some l) = none) : chk1 n s e = none ∧ chk [] S = none ∧ chkC 0 l = none := by
  unfold fault at h
  cases c1 : chk1 n s e with
  | some x => rw [c1] at h; cases h
  | none =>
    rw [c1] at h
    dsimp only at h
    cases c2 : chk [] S with
    | some x => rw [c2] at h; cases h
    | none =>
      rw [c2] at h
      dsimp only at h
      cases c3 : chkC 0 l with
      | some x => rw [c3] at h; cases h
      | none => exact ⟨rfl, rfl, rfl⟩
theorem chkC_all : ∀ {l : List (D × Bool)} {i : Nat}, chkC i l = none → ∀ p ∈ l, p.2 = true
  | [], _, _, p, hp => by cases hp
  | (d, true) :: l, i, h, p, hp => by
    rcases List.mem_cons.mp hp with rfl | z
    · rfl
    · exact chkC_all (l := l) (i := i + 1) h p z
  | (d, false) :: l, i, h, p, hp => by cases h
theorem call2 {f g : Den} {fn : FDen} {τ : Ts} {Y Y1 Y2 : Ys} {w1 w2 : W} (h1 : f τ Y = .ok w1 Y1) (h2 : g τ Y1 = .ok w2 Y2) : dCall (cPos (dCons f (dCons g (dNil)))) 2 0 (bmN 2) [] fn τ Y = fn [w1, w2] Y2 := by
  simp only [dCall, cPos, dCons, h1, h2, dNil, R2a.bind]
  exact callW_all rfl
end K5
set_option Elab.async false
set_option linter.all false
set_option maxRecDepth 100000
set_option maxHeartbeats 0
namespace K5
open PySem MV
section
variable {s : W} {a1 a2 a4 a9 a10 a11 a12 : Option W} {n t e : D} {S : List D} {l : List (D × Bool)} {L : YO} {w6 w8 : W} {sk : D ⊕ List D} {wk : Option (List (D × Bool))}
abbrev K9 (s : W) (a1 a2 a4 : Option W) (n t e : D) (w6 w8 : W) (wk : Option (List (D × Bool))) (a9 a10 a11 a12 : Option W) : Ts := KT s a1 a2 a4 (some (.val (.lst [n, t, e]))) (some w6) (some (needW wk)) (some w8) a9 a10 a11 a12
theorem B11_run {Y Y1 : Ys} {v : D} (h1 : dT (K9 s a1 a2 a4 n t e w6 w8 wk (some (.val v)) a10 a11 a12) Y = .ok (.val v) Y1) (h2 : fn__law_same 8 [.val v, .val v] Y1 = .ok (.val (.bl true)) Y1) : B11 (K9 s a1 a2 a4 n t e w6 w8 wk (some (.val v)) a10 a11 a12) Y = .next (K9 s a1 a2 a4 n t e w6 w8 wk (some (.val v)) a10 a11 a12) Y1 := by
  have c : c11 (K9 s a1 a2 a4 n t e w6 w8 wk (some (.val v)) a10 a11 a12) Y = .ok (.val (.bl true)) Y1 := by
    unfold c11
    rw [call2 h1 (show dVar 9 (K9 s a1 a2 a4 n t e w6 w8 wk (some (.val v)) a10 a11 a12) Y1 = .ok (.val v) Y1 from rfl), h2]
  unfold B11 sIf dNot dTest
  rw [c]
  rfl
theorem last_run (hn : Tg n) (ht : Tg t) (he : Tg e) (h6 : S6 S w6 sk) (h8 : W8 l w8 wk) (hS : ∀ d ∈ S, Tg d) (hSl : S.length ≤ 3) (hl : ∀ p ∈ l, Tn p) (hll : l.length ≤ 3) :
    ∃ a9' Y', sSeq B10 (sSeq B11 B12) (K9 s a1 a2 a4 n t e w6 w8 wk a9 a10 a11 a12) (Y4 L S l) = .next (K9 s a1 a2 a4 n t e w6 w8 wk a9' a10 a11 a12) Y' := by
  have hS' : SayR (Y4 L S l) w6 sk := by
    rcases h6 with ⟨rfl, rfl⟩ | ⟨d, hd, rfl, rfl⟩
    · exact .row (.ref rfl) (by omega) fun d hd => (hS d hd).th
    · exact .no hd
  have hW' : WhenR (Y4 L S l) w8 wk := by
    rcases h8 with ⟨rfl, rfl⟩ | ⟨rfl, rfl⟩ | ⟨d, hd, rfl, rfl⟩
    · exact .row (.ref rfl) fun p hp => (hl p hp).tc
    · exact .row .tup fun p hp => (hl p hp).tc
    · exact .no hd
  have s10 : B10 (K9 s a1 a2 a4 n t e w6 w8 wk a9 a10 a11 a12) (Y4 L S l) = .next (K9 s a1 a2 a4 n t e w6 w8 wk (some (.val (dueD n t e sk wk))) a10 a11 a12) (Y4 L S l) := by
    unfold B10 sSet
    have c : dCall (cPos (dCons (dVar 5) (dCons (dVar 7) (dCons (dVar 6) (dNil))))) 3 0 (bmN 3) [] fn__law_due (K9 s a1 a2 a4 n t e w6 w8 wk a9 a10 a11 a12) (Y4 L S l) = fn__law_due [.val (.lst [n, t, e]), needW wk, w6] (Y4 L S l) := rfl
    rw [c, due_run hn.th ht.th he.th hS']
    rfl
  unfold sSeq
  rw [s10]
  dsimp only [Out.seq]
  have hf : ∀ a9, fR (K9 s a1 a2 a4 n t e w6 w8 wk a9 a10 a11 a12) (Y4 L S l) = .ok [.val n, .val t, .val e, w8, w6] [] (Y4 L S l) := fun a9 => rfl
  have hk : sk = .inr S ∨ ∃ d ∈ oddS, sk = .inl d := by
    rcases h6 with ⟨_, h⟩ | ⟨d, hd, _, h⟩
    · exact .inl h
    · exact .inr ⟨d, hd, h⟩
  cases hfa : fault n t e sk wk with
  | some x =>
    obtain ⟨c, g, d⟩ := x
    rcases fault_some hn.th ht.th he.th hk (fun d hd => (hS d hd).th) hfa with ⟨rfl, rfl, hd⟩ | ⟨rfl, rfl, k, rfl⟩
    · have dd : dueD n t e sk wk = .tup [.str "word", d] := by
        unfold dueD
        rw [hfa]
        rfl
      rw [dd]
      have tr := tried_w ((mk_run (hf (some (.val (.tup [.str "word", d])))) hn.th ht.th he.th hS' hW').1 _ _ _ hfa)
      have b11 := B11_run (s := s) (a1 := a1) (a2 := a2) (a4 := a4) (n := n) (t := t) (e := e) (w6 := w6) (w8 := w8) (wk := wk) (a10 := a10) (a11 := a11) (a12 := a12) (v := .tup [.str "word", d]) tr (same_word d hd _)
      rw [b11]
      exact ⟨_, _, rfl⟩
    · have dd : dueD n t e sk wk = .tup [.str "condition", .int k] := by
        unfold dueD
        rw [hfa]
        rfl
      rw [dd]
      have tr := tried_c ((mk_run (hf (some (.val (.tup [.str "condition", .int k])))) hn.th ht.th he.th hS' hW').1 _ _ _ hfa)
      have b11 := B11_run (s := s) (a1 := a1) (a2 := a2) (a4 := a4) (n := n) (t := t) (e := e) (w6 := w6) (w8 := w8) (wk := wk) (a10 := a10) (a11 := a11) (a12 := a12) (v := .tup [.str "condition", .int k]) tr (same_cond k _)
      rw [b11]
      exact ⟨_, _, rfl⟩
  | none =>
    have hsk : w6 = .ref 1 ∧ sk = .inr S := by
      rcases h6 with h | ⟨d, hd, _, h⟩
      · exact h
      · obtain ⟨S', l', z, _⟩ := (mk_run (hf none) hn.th ht.th he.th hS' hW').2 hfa
        rw [h] at z
        cases z
    have hwk : wk = some l ∧ (w8 = .ref 3 ∨ w8 = .val (.tup (fsts l))) := by
      rcases h8 with ⟨h1, h2⟩ | ⟨h1, h2⟩ | ⟨d, hd, _, h⟩
      · exact ⟨h2, .inl h1⟩
      · exact ⟨h2, .inr h1⟩
      · obtain ⟨S', l', _, z, _⟩ := (mk_run (hf none) hn.th ht.th he.th hS' hW').2 hfa
        rw [h] at z
        cases z
    obtain ⟨rfl, rfl⟩ := hsk
    obtain ⟨rfl, hw8⟩ := hwk
    obtain ⟨f1, f2, f3⟩ := fault_none hfa
    obtain ⟨g1, g2, g3⟩ := chk1_none f1
    obtain ⟨a, ha, rfl⟩ := hn.str g1
    obtain ⟨b, hb, rfl⟩ := ht.str g2
    obtain ⟨c, hc, rfl⟩ := he.str g3
    have es := chk_none f2
    have hlen : (wds S).length = S.length := by
      have := congrArg List.length es
      rw [List.length_map] at this
      exact this.symm
    have hfl : (fsts l).length = l.length := by simp [fsts]
    have dd : dueD (.str a) (.str b) (.str c) (.inr S) (some l) = .tup [.str "rule", .str a, .str b, .str c, .int (fsts l).length, .tup (dStrs (srt sLe (wds S)))] := by
      unfold dueD
      rw [hfa, hfl]
    rw [dd]
    have mk : mkR fR (K9 s a1 a2 a4 (.str a) (.str b) (.str c) (.ref 1) w8 (some l) (some (.val (.tup [.str "rule", .str a, .str b, .str c, .int (fsts l).length, .tup (dStrs (srt sLe (wds S)))]))) a10 a11 a12) (Y4 L S l) = .ok (.val (ruleD (.str a) (.str b) (.str c) (fsts l) (wds S))) (Y4 L S l ++ [.dead]) := by
      obtain ⟨S', l', z1, z2, _, _, z5⟩ := (mk_run (hf (some (.val (.tup [.str "rule", .str a, .str b, .str c, .int (fsts l).length, .tup (dStrs (srt sLe (wds S)))])))) hn.th ht.th he.th hS' hW').2 hfa
      injection z1 with z1
      injection z2 with z2
      rw [z1, z2]
      rw [← z1, ← z2] at z5 ⊢
      exact z5
    have tr := tried_r mk
    have srl : (srt sLe (wds S)).length ≤ 90 := by
      have hx : ∀ x ∈ wds S, x ∈ w7 := fun x hx => by
        have hm : D.str x ∈ S := by rw [es]; exact List.mem_map.mpr ⟨x, hx, rfl⟩
        obtain ⟨y, hy, e⟩ := (hS _ hm).str (by
          obtain ⟨d, _, hd⟩ := List.mem_filterMap.mp hx
          rw [← wordOf_eq hd, hd]
          simp)
        injection e with e
        rw [e]; exact hy
      have := rows3_ok (L := w7) (p := fun xs => Nat.ble (srt sLe xs).length 90) (by kernel_rfl) (xs := wds S) (by omega) hx
      exact Nat.le_of_ble_eq_true this
    have hx : ∀ x ∈ wds S, x ∈ w7 := fun x hx => by
      have hm : D.str x ∈ S := by rw [es]; exact List.mem_map.mpr ⟨x, hx, rfl⟩
      obtain ⟨y, hy, e⟩ := (hS _ hm).str (by
        obtain ⟨d, _, hd⟩ := List.mem_filterMap.mp hx
        rw [← wordOf_eq hd, hd]
        simp)
      injection e with e
      rw [e]; exact hy
    have b11 := B11_run (s := s) (a1 := a1) (a2 := a2) (a4 := a4) (n := .str a) (t := .str b) (e := .str c) (w6 := .ref 1) (w8 := w8) (wk := some l) (a10 := a10) (a11 := a11) (a12 := a12) tr (same_rule a b c _ _ srl _)
    rw [b11]
    dsimp only [Out.seq]
    have hgc : ∀ d ∈ fsts l, d ∈ goodC := fun d hd => by
      obtain ⟨p, hp, rfl⟩ := List.mem_map.mp hd
      rcases hl p hp with ⟨_, h⟩ | ⟨h, _⟩
      · exact h
      · rw [chkC_all f3 p hp] at h
        cases h
    have giv : Giv a b c (fsts l) (wds S) := ⟨ha, hb, hc, hgc, by omega, hx, by omega, by rw [← es]; exact f2⟩
    obtain ⟨Y', er⟩ := right_run (wh := w8) (m := 1) (Y := Y4 L S l ++ [.dead]) giv (by
      rcases hw8 with h | h
      · exact .inr ⟨3, h, rfl, by decide⟩
      · exact .inl h) (by rw [← es]; rfl)
    refine ⟨some (.val (.tup [.str "rule", .str a, .str b, .str c, .int (fsts l).length, .tup (dStrs (srt sLe (wds S)))])), Y', ?_⟩
    have tt : t12 (K9 s a1 a2 a4 (.str a) (.str b) (.str c) (.ref 1) w8 (some l) (some (.val (.tup [.str "rule", .str a, .str b, .str c, .int (fsts l).length, .tup (dStrs (srt sLe (wds S)))]))) a10 a11 a12) (Y4 L S l ++ [.dead]) = .ok true (Y4 L S l ++ [.dead]) := rfl
    have cc : c12 (K9 s a1 a2 a4 (.str a) (.str b) (.str c) (.ref 1) w8 (some l) (some (.val (.tup [.str "rule", .str a, .str b, .str c, .int (fsts l).length, .tup (dStrs (srt sLe (wds S)))]))) a10 a11 a12) (Y4 L S l ++ [.dead]) = fn__law_equal_right [wd3 a b c, w8, .ref 1] (Y4 L S l ++ [.dead]) := rfl
    unfold B12 sIf
    rw [tt]
    dsimp only [Te.out]
    rw [if_pos rfl]
    unfold dNot dTest
    rw [cc, er]
    rfl
end
def KS (ns : List Int) (τ : Ts) : Prop := ∃ a1 a2 a3 a4 a5 a6 a7 a8 a9 a10 a11 a12, τ = [some (.val (.scr ns)), a1, a2, a3, a4, a5, a6, a7, a8, a9, a10, a11, a12]
theorem turn_ok {ns : List Int} {i : Int} (h0 : 0 ≤ i) (a2 a3 a4 a5 a6 a7 a8 a9 a10 a11 a12 : Option W) : ∃ τ' Y', turn [some (.val (.scr ns)), some (.val (.int i)), a2, a3, a4, a5, a6, a7, a8, a9, a10, a11, a12] [] = .next τ' Y' ∧ KS ns τ' := by
  obtain ⟨L0, e0, h0'⟩ := source_ok (ns := ns) h0
  have s1 : B1 [some (.val (.scr ns)), some (.val (.int i)), a2, a3, a4, a5, a6, a7, a8, a9, a10, a11, a12] [] = .next (KT (.val (.scr ns)) (some (.val (.int i))) a2 a4 a5 a6 a7 a8 a9 a10 a11 a12) [L0] := by
    unfold B1 sSet
    have c : dCall (cPos (dCons (dVar 0) (dCons (dVar 1) (dNil)))) 2 0 (bmN 2) [] fn__law_source [some (.val (.scr ns)), some (.val (.int i)), a2, a3, a4, a5, a6, a7, a8, a9, a10, a11, a12] [] = fn__law_source [.val (.scr ns), .val (.int i)] [] := rfl
    rw [c, e0]
    rfl
  obtain ⟨k, L1, s2, k0, k1, h1⟩ := B2_run (s := .val (.scr ns)) (a1 := some (.val (.int i))) (a2 := a2) (a4 := a4) (a5 := a5) (a6 := a6) (a7 := a7) (a8 := a8) (a9 := a9) (a10 := a10) (a11 := a11) (a12 := a12) h0'
  obtain ⟨n, t, e, L2, s3, hn, ht, he, h2⟩ := B3_run (s := .val (.scr ns)) (a1 := some (.val (.int i))) (a2 := a2) (a5 := a5) (a6 := a6) (a7 := a7) (a8 := a8) (a9 := a9) (a10 := a10) (a11 := a11) (a12 := a12) h1 k0 k1
  obtain ⟨S, L3', s4, hS, hSl, h3⟩ := B4_run (s := .val (.scr ns)) (a1 := some (.val (.int i))) (a2 := a2) (a5 := some (.val (.lst [n, t, e]))) (a6 := a6) (a7 := a7) (a8 := a8) (a9 := a9) (a10 := a10) (a11 := a11) (a12 := a12) h2 k0 k1
  obtain ⟨l, L4, e5, hl, hll, h4⟩ := needs_ok (S := .lst (vals S)) h3
  have s5 : B5 (KT (.val (.scr ns)) (some (.val (.int i))) a2 (some (.val (.int k))) (some (.val (.lst [n, t, e]))) (some (.ref 1)) a7 a8 a9 a10 a11 a12) [L3', .lst (vals S)] = .next (KT (.val (.scr ns)) (some (.val (.int i))) a2 (some (.val (.int k))) (some (.val (.lst [n, t, e]))) (some (.ref 1)) (some (.val (.lst (needD l)))) a8 a9 a10 a11 a12) [L4, .lst (vals S), .dead] := by
    unfold B5 sSet
    have c : dCall (cPos (dCons (dVar 3) (dNil))) 1 0 (bmN 1) [] fn__law_needs (KT (.val (.scr ns)) (some (.val (.int i))) a2 (some (.val (.int k))) (some (.val (.lst [n, t, e]))) (some (.ref 1)) a7 a8 a9 a10 a11 a12) [L3', .lst (vals S)] = fn__law_needs [.ref 0] [L3', .lst (vals S)] := rfl
    rw [c, e5]
    rfl
  have s6 := B6_run (s := .val (.scr ns)) (a1 := some (.val (.int i))) (a2 := a2) (a4 := some (.val (.int k))) (a5 := some (.val (.lst [n, t, e]))) (a6 := some (.ref 1)) (a8 := a8) (a9 := a9) (a10 := a10) (a11 := a11) (a12 := a12) (Y := [L4, .lst (vals S), .dead]) hll
  obtain ⟨w6, sk, L7, s7, h6, h7⟩ := B7_run (s := .val (.scr ns)) (a1 := some (.val (.int i))) (a2 := a2) (a4 := some (.val (.int k))) (a5 := some (.val (.lst [n, t, e]))) (a7 := some (.val (.lst (needD l)))) (a8 := some (.ref 3)) (a9 := a9) (a10 := a10) (a11 := a11) (a12 := a12) (R := [.lst (vals S), .dead, .lst (vals (fsts l))]) (S := S) h4
  obtain ⟨w8, wk, L8, s8, hw, h8⟩ := B8_run (s := .val (.scr ns)) (a1 := some (.val (.int i))) (a2 := a2) (a4 := some (.val (.int k))) (a5 := some (.val (.lst [n, t, e]))) (a6 := some w6) (a9 := a9) (a10 := a10) (a11 := a11) (a12 := a12) (R := [.lst (vals S), .dead, .lst (vals (fsts l))]) (l := l) h7
  obtain ⟨w8', L9, s9, hw', h9⟩ := B9_run (s := .val (.scr ns)) (a1 := some (.val (.int i))) (a2 := a2) (a4 := some (.val (.int k))) (a5 := some (.val (.lst [n, t, e]))) (a6 := some w6) (a7 := some (needW wk)) (a9 := a9) (a10 := a10) (a11 := a11) (a12 := a12) (S := S) h8 hw
  obtain ⟨a9', Y', s10⟩ := last_run (s := .val (.scr ns)) (a1 := some (.val (.int i))) (a2 := a2) (a4 := some (.val (.int k))) (a9 := a9) (a10 := a10) (a11 := a11) (a12 := a12) (L := L9) hn ht he h6 hw' hS hSl hl hll
  refine ⟨KT (.val (.scr ns)) (some (.val (.int i))) a2 (some (.val (.int k))) (some (.val (.lst [n, t, e]))) (some w6) (some (needW wk)) (some w8') a9' a10 a11 a12, Y', ?_, ⟨_, _, _, _, _, _, _, _, _, _, _, _, rfl⟩⟩
  unfold turn sSeq
  rw [s1]
  dsimp only [Out.seq]
  rw [s2]
  dsimp only [Out.seq]
  rw [s3]
  dsimp only [Out.seq]
  rw [s4]
  dsimp only [Out.seq]
  rw [s5]
  dsimp only [Out.seq]
  rw [s6]
  dsimp only [Out.seq]
  rw [show B7 (KT (.val (.scr ns)) (some (.val (.int i))) a2 (some (.val (.int k))) (some (.val (.lst [n, t, e]))) (some (.ref 1)) (some (.val (.lst (needD l)))) (some (.ref ([L4, YO.lst (vals S), YO.dead] : Ys).length)) a9 a10 a11 a12) ([L4, YO.lst (vals S), YO.dead] ++ [.lst (vals (fsts l))]) = _ from s7]
  dsimp only [Out.seq]
  rw [show B8 (KT (.val (.scr ns)) (some (.val (.int i))) a2 (some (.val (.int k))) (some (.val (.lst [n, t, e]))) (some w6) (some (.val (.lst (needD l)))) (some (.ref 3)) a9 a10 a11 a12) (L7 :: [.lst (vals S), .dead, .lst (vals (fsts l))]) = _ from s8]
  dsimp only [Out.seq]
  rw [show B9 (KT (.val (.scr ns)) (some (.val (.int i))) a2 (some (.val (.int k))) (some (.val (.lst [n, t, e]))) (some w6) (some (needW wk)) (some w8) a9 a10 a11 a12) (L8 :: [.lst (vals S), .dead, .lst (vals (fsts l))]) = _ from s9]
  dsimp only [Out.seq]
  exact s10
theorem datT_ks {ns : List Int} {τ : Ts} (h : KS ns τ) : KS ns (datT τ) := by
  obtain ⟨a1, a2, a3, a4, a5, a6, a7, a8, a9, a10, a11, a12, rfl⟩ := h
  have : ∀ τ : Ts, τ.length = 12 → ∃ b1 b2 b3 b4 b5 b6 b7 b8 b9 b10 b11 b12, τ = [b1, b2, b3, b4, b5, b6, b7, b8, b9, b10, b11, b12] := fun τ hl => by
    match τ, hl with
    | [b1, b2, b3, b4, b5, b6, b7, b8, b9, b10, b11, b12], _ => exact ⟨_, _, _, _, _, _, _, _, _, _, _, _, rfl⟩
  obtain ⟨b1, b2, b3, b4, b5, b6, b7, b8, b9, b10, b11, b12, e⟩ := this (datT [a1, a2, a3, a4, a5, a6, a7, a8, a9, a10, a11, a12]) (datT_len _)
  refine ⟨b1, b2, b3, b4, b5, b6, b7, b8, b9, b10, b11, b12, ?_⟩
  rw [← e]
  rfl
theorem fin_run (ns : List Int) (a1 a2 a3 a4 a5 a6 a7 a8 a9 a10 a11 a12 : Option W) (Y : Ys) : fin [some (.val (.scr ns)), a1, a2, a3, a4, a5, a6, a7, a8, a9, a10, a11, a12] Y = .ret (.val (.bl true)) Y := by kernel_rfl
theorem plain (ns : List Int) : ∃ Y, runW F_law 13 [.val (.scr ns)] [] = .ok (.val (.bl true)) Y := by
  have hl : orL gLen gLenD [.val (.scr ns)] [] = .ok (.val (.int ns.length)) [] := by
    simp [orL, gLen, sqOf, lsOf]
  obtain ⟨z, hz, hz0, hz1⟩ : ∃ z : Int, gMin2 [.val (.int ns.length), .val (.int 6)] [] = .ok (.val (.int z)) [] ∧ 0 ≤ z ∧ z ≤ 6 := by
    unfold gMin2
    dsimp only
    cases q : iLt 6 (ns.length : Int) with
    | true => exact ⟨6, rfl, by omega, by omega⟩
    | false =>
      have : ¬ (6 < (ns.length : Int)) := by rw [← iLt_dec] at q; simpa using q
      exact ⟨ns.length, rfl, by omega, by omega⟩
  have ad : ∀ (i j : Int) (Y : Ys), gAdd (.val (.int i)) (.val (.int j)) Y = .ok (.val (.int (i + j))) Y := fun i j Y => rfl
  have er : rngL [some (.val (.scr ns)), none, none, none, none, none, none, none, none, none, none, none, none] [] = .ok (ups 0 (6 + z).toNat) [] := by
    refine rng1 (i := 6 + z) ?_ (by omega) (by omega)
    simp [dOp, dC, dBlt, dCons, dNil, dVar, Re.bind, Ra.bind, noX, hl, hz, ad]
  obtain ⟨τ', Y', e, hk⟩ := forL_ok (P := fun τ Y => KS ns τ) (g := gNm 1) (b := sOwn turn) (ws := ups 0 (6 + z).toNat) (τ := [some (.val (.scr ns)), none, none, none, none, none, none, none, none, none, none, none, none]) (Y := []) (fun w hw τ Y hk => by
    obtain ⟨j, hj, rfl⟩ := ups_mem hw
    obtain ⟨a1, a2, a3, a4, a5, a6, a7, a8, a9, a10, a11, a12, rfl⟩ := hk
    have g : gNm 1 (.val (.int (0 + (j : Int)))) [some (.val (.scr ns)), a1, a2, a3, a4, a5, a6, a7, a8, a9, a10, a11, a12] Y = some [some (.val (.scr ns)), some (.val (.int (0 + (j : Int)))), a2, a3, a4, a5, a6, a7, a8, a9, a10, a11, a12] := rfl
    have hd : ∃ b2 b3 b4 b5 b6 b7 b8 b9 b10 b11 b12, datT [some (.val (.scr ns)), some (.val (.int (0 + (j : Int)))), a2, a3, a4, a5, a6, a7, a8, a9, a10, a11, a12] = [some (.val (.scr ns)), some (.val (.int (0 + (j : Int)))), b2, b3, b4, b5, b6, b7, b8, b9, b10, b11, b12] := by
      have : ∀ τ : Ts, τ.length = 11 → ∃ b2 b3 b4 b5 b6 b7 b8 b9 b10 b11 b12, τ = [b2, b3, b4, b5, b6, b7, b8, b9, b10, b11, b12] := fun τ hl => by
        match τ, hl with
        | [b2, b3, b4, b5, b6, b7, b8, b9, b10, b11, b12], _ => exact ⟨_, _, _, _, _, _, _, _, _, _, _, rfl⟩
      obtain ⟨b2, b3, b4, b5, b6, b7, b8, b9, b10, b11, b12, e⟩ := this (datT [a2, a3, a4, a5, a6, a7, a8, a9, a10, a11, a12]) (datT_len _)
      refine ⟨b2, b3, b4, b5, b6, b7, b8, b9, b10, b11, b12, ?_⟩
      rw [← e]
      rfl
    obtain ⟨b2, b3, b4, b5, b6, b7, b8, b9, b10, b11, b12, hd⟩ := hd
    obtain ⟨τ2, Y2, e2, h2⟩ := turn_ok (ns := ns) (i := 0 + (j : Int)) (by omega) b2 b3 b4 b5 b6 b7 b8 b9 b10 b11 b12
    refine ⟨_, datT τ2, Y, g, ?_, datT_ks h2⟩
    unfold sOwn
    rw [hd, e2]) ⟨_, _, _, _, _, _, _, _, _, _, _, _, rfl⟩
  obtain ⟨a1, a2, a3, a4, a5, a6, a7, a8, a9, a10, a11, a12, rfl⟩ := hk
  refine ⟨Y', ?_⟩
  have st : runW F_law 13 [.val (.scr ns)] [] = (match F_law [some (.val (.scr ns)), none, none, none, none, none, none, none, none, none, none, none, none] [] with
    | .ret w Y1 => Re.ok w Y1
    | .next _ Y1 => .ok (.val .non) Y1
    | .exc c fs _ Y1 => .exc c fs Y1
    | _ => .bad) := rfl
  rw [st, law_eq]
  unfold sSeq sFor
  rw [er]
  dsimp only
  rw [e]
  dsimp only [Out.seq]
  rw [fin_run]
end K5
theorem PySem.Challenge.cw_manyvoices_k05_rules_made_holds : PySem.Challenge.rw_manyvoices_k05_rules_made.Holds :=
  K5.holds_of K5.plain
