import PyProof.Rows.All
import Wide.All
import OpenK.AllK
import Wide.FinOn
import HandS.ForMost
import HandS.Exc
import HandS.Lambda
import HandS.More
import HandS.Star
import HandS.ExcOwn
import HandS.WordsExc
import HandS.IsInst
import HandS.Defaults
import HandS.MethStar
import HandS.DictComp
import HandS.WordsDict
import HandS.TupAny
import HandS.Wide
import HandS.NoneIn
import HandS.Sort
import HandS.Strs
import HandS.Flow
import HandS.Deep
import HandS.Finally
import HandS.RaiseOp
import HandS.SortOrd
import KE.SortData
import HandS.Small
import HandS.Text
import HandS.Property
import HandS.ClsMeth
import HandS.Conv
import KE.KDictSum
import KE.KItemsList
import HandS.ListItems
import PyProof.TupleOfGen
import PyProof.DictUpdate
import KE.KParD
import HandS.Style
import KE.LtData
import HandS.TupLe
import HandS.Ends
import PyProof.ReprRoads
import HandS.Zip
import PyProof.EqKinds
import PyProof.NeKinds
import KE.KExcPX
import HandS.ExcInit
import PyProof.Rows.FactsExc_KeyError
import PyProof.ExcBaseAll.LookupError
import HandS.ExcField
import HandS.ExcIs
import HandS.TryMany
import PyProof.ExcBaseAll.ArithmeticError
import PyProof.ExcBaseAll.ValueError
import PyProof.InstStoreFacts
import KE.KExcIs
import HandS.EndTab
import KE.KNest
import KE.KDictList
import HandS.DictTup
import HandS.TupSets
import HandS.SetBool
import HandS.SetKeys
import HandS.SetFor
import PyProof.Rows.IntBool
import PyProof.Rows.StrLen
import KE.KRevSl
import PyProof.Rows.SortShell
import KE.GoesEnum
import KE.KDictPairs
import KE.DataMinMax
import KE.SortKeyHeap
import KE.KTupSum
import HandS.DictEq
import KE.KDictZip
import KE.KDictCopyH
import HandS.TryOnly
import KE.KSortAsk
import KE.KeyNested
import HandS.FStr
import HandS.OwnEq
import KE.GoesEnumKw
import KE.DatumOrd
import HandS.GenList
import HandS.ExcValue
import KE.GoesMore
import KE.DataMinKey
import PyProof.SeqI3
import HandS.TupMul
import KE.KDictKeyed
import PyProof.DictWalks
import PyProof.Rows.StrJoinRep
import PyProof.Rows.ReprOcc
import PyProof.Rows.StrCase
import PySem.Challenge.RW_leastbrews_k07_stocks_made
set_option Elab.async false
set_option linter.all false
section
set_option maxRecDepth 100000
set_option maxHeartbeats 4000000
theorem PySem.Paired.mp {α β : Type} {F G : α → β → Prop} : ∀ {l₁ : List α} {l₂ : List β}, PySem.Paired F l₁ l₂ → (∀ a b, F a b → G a b) → PySem.Paired G l₁ l₂
  | _, _, .nil, _ => .nil
  | _, _, .cons r t, f => .cons (f _ _ r) (PySem.Paired.mp t f)
namespace B
open PySem L2
inductive Dt where
  | non | bl (b : Bool) | int (i : Int) | str (x : Str) | ty (n : String)
  | lst (xs : List Dt) | tup (xs : List Dt) | dic (kvs : List (Dt × Dt)) | set (xs : List Dt) | frt (xs : List Dt) | kys (xs : List Dt)
  | ins (c : Str) (fs : List (Str × Dt))
  | exc (c : Str) (fs : List (Str × Dt))
  | cls (c : Str) | loc (n : Nat)
  deriving Inhabited
structure Cfg where
  K : PySem.W.Frag
  cl : Str → Option Addr
  inj : ∀ c d C, cl c = some C → cl d = some C → c = d
  tb : List (Addr × Str)
structure Fz where
  F : Hp
  io : List Addr
def kD : Key → Dt
  | .inl i => .int i
  | .inr x => .str x
abbrev RV := V → Dt → Prop
def DicRep (R : RV) (o : HO) (kvs : List (Dt × Dt)) : Prop :=
  (∃ es, o = .dK es ∧ Paired (fun (e : Key × V) (kv : Dt × Dt) => kD e.1 = kv.1 ∧ R e.2 kv.2) es kvs) ∨
  (∃ es, (o = .dT es ∧ es ≠ []) ∧ Paired (fun (e : List Key × V) (kv : Dt × Dt) => Dt.tup (e.1.map kD) = kv.1 ∧ R e.2 kv.2) es kvs)
abbrev FldRep (R : RV) : List (Str × V) → List (Str × Dt) → Prop := Paired fun e f => e.1 = f.1 ∧ R e.2 f.2
def KysOb (a : Addr) (ob : Obj) (vs : List V) : Prop := (a == sysModules) = false ∧ ob.ExactDict ∧ ∃ es ep, ob.data = .dict es ep ∧ Vals vs (es.toList.map (·.key)) ∧ vs.length ≤ sizeLine
def RepS (G : Cfg) (ρ : Fz) (R : RV) (v : V) (d : Dt) : Prop := match d with
  | .non => v = .non
  | .bl b => v = .bl b
  | .int i => v = .int i
  | .str x => v = .str x
  | .ty n => v = .ty n
  | .lst ds => ∃ a vs, v = .ref a ∧ ρ.F a = some (.lst vs) ∧ Paired R vs ds
  | .tup ds => ∃ a vs, v = .ref a ∧ ρ.F a = some (.tup vs) ∧ Paired R vs ds
  | .dic kvs => ∃ a ob o, v = .ref a ∧ ρ.F a = some (.frz ob o) ∧ DicRep R o kvs
  | .set ds => ∃ a vs, v = .ref a ∧ SqL G.K ρ.F a vs ∧ Paired R vs ds
  | .frt ds => ∃ a vs ob, v = .ref a ∧ ρ.F a = some (.frz ob (.tup vs)) ∧ ob.dict = none ∧ Paired R vs ds
  | .kys ds => ∃ a vs ob u, v = .ref a ∧ ρ.F a = some (.frz ob u) ∧ KysOb a ob vs ∧ Paired R vs ds
  | .ins c fs => ∃ a C dx es, v = .ref a ∧ G.cl c = some C ∧ ρ.F a = some (.ins C dx es) ∧ FldRep R es fs
  | .exc c fs => ∃ a : Addr, v = .ref a ∧ (c = ⟨#[a]⟩ ∨ ∃ dd es, c = ⟨#[a, dd]⟩ ∧ ρ.F dd = some (.xd es) ∧ FldRep R es fs)
  | .cls c => ∃ C, v = .ref C ∧ G.cl c = some C
  | .loc n => ∃ a, v = .ref a ∧ ρ.io[n]? = some a
def RepN (G : Cfg) (ρ : Fz) : Nat → RV
  | 0 => fun _ _ => False
  | n + 1 => RepS G ρ (RepN G ρ n)
def Rep (G : Cfg) (ρ : Fz) (v : V) (d : Dt) : Prop := ∃ n, RepN G ρ n v d
structure Ext (ρ ρ' : Fz) : Prop where
  F : ∀ a o, ρ.F a = some o → ρ'.F a = some o
  io : ∀ (n : Nat) a, ρ.io[n]? = some a → ρ'.io[n]? = some a
theorem Ext.refl (ρ : Fz) : Ext ρ ρ := ⟨fun _ _ h => h, fun _ _ h => h⟩
theorem Ext.trans {a b c : Fz} (x : Ext a b) (y : Ext b c) : Ext a c := ⟨fun p o h => y.F p o (x.F p o h), fun n p h => y.io n p (x.io n p h)⟩
theorem Ext.rd {ρ ρ' : Fz} (e : Ext ρ ρ') {a : Addr} {u : HO} (h : Rd ρ.F a u) : Rd ρ'.F a u := by
  rcases h with h | ⟨o, h⟩
  · exact .inl (e.F _ _ h)
  · exact .inr ⟨o, e.F _ _ h⟩
theorem Ext.sl {K : PySem.W.Frag} {ρ ρ' : Fz} (e : Ext ρ ρ') {a : Addr} {xs : List V} (h : SqL K ρ.F a xs) : SqL K ρ'.F a xs := h.elim (fun h => .inl (e.rd h)) .inr
theorem Ext.st {K : PySem.W.Frag} {ρ ρ' : Fz} (e : Ext ρ ρ') {a : Addr} {xs : List V} (h : SqT K ρ.F a xs) : SqT K ρ'.F a xs := h.elim (fun h => .inl (e.rd h)) .inr
section
variable {G : Cfg} {ρ ρ' : Fz} {R R' : RV} {v : V} {d : Dt}
theorem DicRep.imp {o : HO} {kvs : List (Dt × Dt)} (h : ∀ v d, R v d → R' v d) (x : DicRep R o kvs) : DicRep R' o kvs := by
  rcases x with ⟨es, e, p⟩ | ⟨es, e, p⟩
  · exact .inl ⟨es, e, p.mp fun _ _ q => ⟨q.1, h _ _ q.2⟩⟩
  · exact .inr ⟨es, e, p.mp fun _ _ q => ⟨q.1, h _ _ q.2⟩⟩
theorem FldRep.imp {es : List (Str × V)} {fs : List (Str × Dt)} (h : ∀ v d, R v d → R' v d) (x : FldRep R es fs) : FldRep R' es fs := x.mp fun _ _ q => ⟨q.1, h _ _ q.2⟩
theorem RepS.imp (e : Ext ρ ρ') (h : ∀ v d, R v d → R' v d) (x : RepS G ρ R v d) : RepS G ρ' R' v d := by
  cases d with
  | lst ds => obtain ⟨a, vs, ev, s, p⟩ := x; exact ⟨a, vs, ev, e.F _ _ s, p.mp h⟩
  | tup ds => obtain ⟨a, vs, ev, s, p⟩ := x; exact ⟨a, vs, ev, e.F _ _ s, p.mp h⟩
  | set ds => obtain ⟨a, vs, ev, s, p⟩ := x; exact ⟨a, vs, ev, e.sl s, p.mp h⟩
  | frt ds => obtain ⟨a, vs, ob, ev, s, nd, p⟩ := x; exact ⟨a, vs, ob, ev, e.F _ _ s, nd, p.mp h⟩
  | kys ds => obtain ⟨a, vs, ob, u, ev, s, nd, p⟩ := x; exact ⟨a, vs, ob, u, ev, e.F _ _ s, nd, p.mp h⟩
  | dic kvs => obtain ⟨a, ob, o, ev, s, p⟩ := x; exact ⟨a, ob, o, ev, e.F _ _ s, p.imp h⟩
  | ins c fs => obtain ⟨a, C, dx, es, ev, c1, s, p⟩ := x; exact ⟨a, C, dx, es, ev, c1, e.F _ _ s, FldRep.imp h p⟩
  | cls c => obtain ⟨C, ev, h1⟩ := x; exact ⟨C, ev, h1⟩
  | loc n => obtain ⟨a, ev, h1⟩ := x; exact ⟨a, ev, e.io _ _ h1⟩
  | exc c fs => obtain ⟨a, ev, h1⟩ := x; exact ⟨a, ev, h1.imp id fun ⟨dd, es, q1, q2, p⟩ => ⟨dd, es, q1, e.F _ _ q2, FldRep.imp h p⟩⟩
  | _ => exact x
theorem RepN.mono (e : Ext ρ ρ') : ∀ {n : Nat} {v : V} {d : Dt}, RepN G ρ n v d → RepN G ρ' n v d
  | 0, _, _, h => h
  | _ + 1, _, _, h => RepS.imp e (fun _ _ => RepN.mono e) h
theorem RepN.succ : ∀ {n : Nat} {v : V} {d : Dt}, RepN G ρ n v d → RepN G ρ (n + 1) v d
  | 0, _, _, h => h.elim
  | _ + 1, _, _, h => RepS.imp (Ext.refl ρ) (fun _ _ => RepN.succ) h
theorem RepN.le {n m : Nat} (h : n ≤ m) (x : RepN G ρ n v d) : RepN G ρ m v d := by
  induction h with
  | refl => exact x
  | step _ ih => exact ih.succ
theorem Rep.mono (e : Ext ρ ρ') (h : Rep G ρ v d) : Rep G ρ' v d := h.imp fun _ => RepN.mono e
theorem paired_lift {α β : Type} {P : Nat → α → β → Prop} (up : ∀ n m a b, n ≤ m → P n a b → P m a b) : ∀ {xs : List α} {ys : List β}, Paired (fun a b => ∃ n, P n a b) xs ys → ∃ n, Paired (P n) xs ys
  | _, _, .nil => ⟨0, .nil⟩
  | _, _, .cons ⟨n, h⟩ t => by
    obtain ⟨m, q⟩ := paired_lift up t
    exact ⟨max n m, .cons (up _ _ _ _ (Nat.le_max_left n m) h) (q.mp fun a b z => up _ _ _ _ (Nat.le_max_right n m) z)⟩
theorem Rep.out (h : Rep G ρ v d) : RepS G ρ (Rep G ρ) v d := by
  obtain ⟨n, h⟩ := h
  cases n with
  | zero => exact h.elim
  | succ n => exact RepS.imp (Ext.refl ρ) (fun _ _ q => ⟨n, q⟩) h
theorem Rep.mk (h : RepS G ρ (Rep G ρ) v d) : Rep G ρ v d := by
  have lift : ∀ {vs : List V} {ds : List Dt}, Paired (Rep G ρ) vs ds → ∃ n, Paired (RepN G ρ n) vs ds := fun p => paired_lift (fun n m a b l q => q.le l) p
  cases d with
  | lst ds => obtain ⟨a, vs, ev, s, p⟩ := h; obtain ⟨n, p⟩ := lift p; exact ⟨n + 1, a, vs, ev, s, p⟩
  | tup ds => obtain ⟨a, vs, ev, s, p⟩ := h; obtain ⟨n, p⟩ := lift p; exact ⟨n + 1, a, vs, ev, s, p⟩
  | dic kvs =>
    obtain ⟨a, ob, o, ev, s, p⟩ := h
    rcases p with ⟨es, e, p⟩ | ⟨es, e, p⟩
    · obtain ⟨n, p⟩ := paired_lift (P := fun n (e : Key × V) (kv : Dt × Dt) => kD e.1 = kv.1 ∧ RepN G ρ n e.2 kv.2) (fun n m a b l q => ⟨q.1, q.2.le l⟩) (p.mp fun a b q => ⟨q.2.choose, q.1, q.2.choose_spec⟩)
      exact ⟨n + 1, a, ob, o, ev, s, .inl ⟨es, e, p⟩⟩
    · obtain ⟨n, p⟩ := paired_lift (P := fun n (e : List Key × V) (kv : Dt × Dt) => Dt.tup (e.1.map kD) = kv.1 ∧ RepN G ρ n e.2 kv.2) (fun n m a b l q => ⟨q.1, q.2.le l⟩) (p.mp fun a b q => ⟨q.2.choose, q.1, q.2.choose_spec⟩)
      exact ⟨n + 1, a, ob, o, ev, s, .inr ⟨es, e, p⟩⟩
  | ins c fs =>
    obtain ⟨a, C, dx, es, ev, c1, s, p⟩ := h
    obtain ⟨n, p⟩ := paired_lift (P := fun n (e : Str × V) (kv : Str × Dt) => e.1 = kv.1 ∧ RepN G ρ n e.2 kv.2) (fun n m a b l q => ⟨q.1, q.2.le l⟩) (p.mp fun a b q => ⟨q.2.choose, q.1, q.2.choose_spec⟩)
    exact ⟨n + 1, a, C, dx, es, ev, c1, s, p⟩
  | set ds => obtain ⟨a, vs, ev, s, p⟩ := h; obtain ⟨n, p⟩ := lift p; exact ⟨n + 1, a, vs, ev, s, p⟩
  | frt ds => obtain ⟨a, vs, ob, ev, s, nd, p⟩ := h; obtain ⟨n, p⟩ := lift p; exact ⟨n + 1, a, vs, ob, ev, s, nd, p⟩
  | kys ds => obtain ⟨a, vs, ob, u, ev, s, nd, p⟩ := h; obtain ⟨n, p⟩ := lift p; exact ⟨n + 1, a, vs, ob, u, ev, s, nd, p⟩
  | exc c fs =>
    obtain ⟨a, ev, h1⟩ := h
    rcases h1 with h1 | ⟨dd, es, q1, q2, p⟩
    · exact ⟨1, a, ev, .inl h1⟩
    · obtain ⟨n, p⟩ := paired_lift (P := fun n (e : Str × V) (kv : Str × Dt) => e.1 = kv.1 ∧ RepN G ρ n e.2 kv.2) (fun n m a b l q => ⟨q.1, q.2.le l⟩) (p.mp fun a b q => ⟨q.2.choose, q.1, q.2.choose_spec⟩)
      exact ⟨n + 1, a, ev, .inr ⟨dd, es, q1, q2, p⟩⟩
  | _ => exact ⟨1, h⟩
end
def OwnS (G : Cfg) (ρ : Fz) (o : HO) (d : Dt) : Prop := match d with
  | .lst ds => ∃ vs, o = .lst vs ∧ Paired (Rep G ρ) vs ds
  | .dic kvs => DicRep (Rep G ρ) o kvs
  | .ins c fs => ∃ C dx es, G.cl c = some C ∧ o = .ins C dx es ∧ FldRep (Rep G ρ) es fs
  | _ => False
theorem OwnS.mono {G : Cfg} {ρ ρ' : Fz} {o : HO} {d : Dt} (e : Ext ρ ρ') (h : OwnS G ρ o d) : OwnS G ρ' o d := by
  cases d with
  | lst ds => obtain ⟨vs, q, p⟩ := h; exact ⟨vs, q, p.mp fun _ _ z => z.mono e⟩
  | dic kvs => exact h.imp fun _ _ z => z.mono e
  | ins c fs => obtain ⟨C, dx, es, c1, q, p⟩ := h; exact ⟨C, dx, es, c1, q, FldRep.imp (fun _ _ z => z.mono e) p⟩
  | _ => exact h
def Tbs (G : Cfg) (ρ : Fz) (H : Hp) : Prop := ∀ p ∈ G.tb, p.1 ∉ ρ.io ∧ ρ.F p.1 = none ∧ ∃ ps : Array Value, H p.1 = some (.tbl ps) ∧ TriplesOk ps.toList ∧
  ∀ (pos : Pos) (cv : Value), codeAmong pos ps.toList = some cv → ∃ c, cv = .ref c ∧ ρ.F c = some (LamX.CodeO c p.2)
theorem Tbs.ne {G : Cfg} {ρ : Fz} {H : Hp} (t : Tbs G ρ H) {x : Addr} (h : H x = none) : ∀ p ∈ G.tb, p.1 ≠ x := fun p m q => by
  obtain ⟨_, _, ps, e, _⟩ := t p m
  rw [q, h] at e; cases e
theorem Tbs.move {G : Cfg} {ρ ρ' : Fz} {H H' : Hp} (t : Tbs G ρ H) (hF : ∀ c o, ρ.F c = some o → ρ'.F c = some o) (hn : ∀ p ∈ G.tb, ρ'.F p.1 = ρ.F p.1) (hi : ∀ p ∈ G.tb, p.1 ∈ ρ'.io → p.1 ∈ ρ.io) (hH : ∀ p ∈ G.tb, H' p.1 = H p.1) : Tbs G ρ' H' := fun p m => by
  obtain ⟨h1, h2, ps, h3, h4, h5⟩ := t p m
  refine ⟨fun z => h1 (hi p m z), (hn p m).trans h2, ps, (hH p m).trans h3, h4, fun pos cv e => ?_⟩
  obtain ⟨c, e1, e2⟩ := h5 pos cv e
  exact ⟨c, e1, hF _ _ e2⟩
abbrev Wd := List Dt
structure Cov (G : Cfg) (ρ : Fz) (w : Wd) (H : Hp) : Prop where
  F : ∀ a o, ρ.F a = some o → H a = some o
  len : ρ.io.length = w.length
  wo : ∀ (n : Nat) a d, ρ.io[n]? = some a → w[n]? = some d → ρ.F a = none ∧ ∃ o, H a = some o ∧ OwnS G ρ o d
  nd : ρ.io.Nodup
  tb : Tbs G ρ H
structure Stp (G : Cfg) (ρ : Fz) (H : Hp) (ρ' : Fz) (w' : Wd) (H' : Hp) : Prop where
  ext : Ext ρ ρ'
  cov : Cov G ρ' w' H'
  keep : ∀ a o, H a = some o → a ∉ ρ.io → (∀ p ∈ G.tb, p.1 ≠ a) → H' a = some o
  new : ∀ a o, H a = some o → ρ'.F a = ρ.F a ∨ ∃ xs, o = .tup xs
  nio : ∀ a ∈ ρ'.io, a ∈ ρ.io ∨ H a = none
  tb : ∀ p ∈ G.tb, ∃ ps, H p.1 = some (.tbl ps)
theorem Stp.ntb {G : Cfg} {ρ ρ' : Fz} {w' : Wd} {H H' : Hp} (s : Stp G ρ H ρ' w' H') {p : Addr} (h : H p = none) : ∀ q ∈ G.tb, q.1 ≠ p := fun q m e => by
  obtain ⟨ps, z⟩ := s.tb q m
  rw [e, h] at z; cases z
theorem Cov.stp0 {G : Cfg} {ρ : Fz} {w : Wd} {H : Hp} (c : Cov G ρ w H) : ∀ p ∈ G.tb, ∃ ps, H p.1 = some (.tbl ps) := fun p m => let ⟨_, _, ps, e, _⟩ := c.tb p m; ⟨ps, e⟩
theorem Stp.refl {G : Cfg} {ρ : Fz} {w : Wd} {H : Hp} (c : Cov G ρ w H) : Stp G ρ H ρ w H := ⟨Ext.refl ρ, c, fun _ _ h _ _ => h, fun _ _ _ => .inl rfl, fun _ h => .inl h, fun p m => let ⟨_, _, ps, e, _⟩ := c.tb p m; ⟨ps, e⟩⟩
theorem own_tup {G : Cfg} {ρ : Fz} {xs : List V} : ¬ ∃ d, OwnS G ρ (.tup xs) d := fun ⟨d, h⟩ => by
  cases d with
  | lst ds => obtain ⟨vs, q, _⟩ := h; cases q
  | dic kvs => rcases h with ⟨es, q, _⟩ | ⟨es, ⟨q, _⟩, _⟩ <;> cases q
  | ins c fs => obtain ⟨C, dx, es, _, q, _⟩ := h; cases q
  | _ => exact False.elim h
theorem Cov.own {G : Cfg} {ρ : Fz} {w : Wd} {H : Hp} (c : Cov G ρ w H) {a : Addr} (h : a ∈ ρ.io) : ∃ o, H a = some o ∧ ∃ d, OwnS G ρ o d := by
  obtain ⟨n, hn, e⟩ := List.getElem_of_mem h
  have h1 : ρ.io[n]? = some a := by rw [List.getElem?_eq_getElem hn, e]
  have h2 : n < w.length := by rw [← c.len]; exact hn
  obtain ⟨_, o, ho, q⟩ := c.wo n a _ h1 (List.getElem?_eq_getElem h2)
  exact ⟨o, ho, _, q⟩
theorem Cov.there {G : Cfg} {ρ : Fz} {w : Wd} {H : Hp} (c : Cov G ρ w H) {a : Addr} (h : a ∈ ρ.io) : ∃ o, H a = some o := by
  obtain ⟨n, hn, e⟩ := List.getElem_of_mem h
  have h1 : ρ.io[n]? = some a := by rw [List.getElem?_eq_getElem hn, e]
  have h2 : n < w.length := by rw [← c.len]; exact hn
  obtain ⟨_, o, ho, _⟩ := c.wo n a _ h1 (List.getElem?_eq_getElem h2)
  exact ⟨o, ho⟩
theorem Ext.mem {ρ ρ' : Fz} (e : Ext ρ ρ') {a : Addr} (h : a ∈ ρ.io) : a ∈ ρ'.io := by
  obtain ⟨n, hn, q⟩ := List.getElem_of_mem h
  exact List.mem_of_getElem? (e.io n a (by rw [List.getElem?_eq_getElem hn, q]))
theorem Stp.there {G : Cfg} {ρ ρ' : Fz} {w' : Wd} {H H' : Hp} (s : Stp G ρ H ρ' w' H') {a : Addr} {o : HO} (h : H a = some o) : ∃ o', H' a = some o' := by
  by_cases m : a ∈ ρ.io
  · exact s.cov.there (s.ext.mem m)
  · by_cases q : ∀ p ∈ G.tb, p.1 ≠ a
    · exact ⟨o, s.keep a o h m q⟩
    · obtain ⟨p, q⟩ := Classical.not_forall.mp q
      obtain ⟨mp, q⟩ := Classical.not_imp.mp q
      obtain ⟨_, _, ps, e, _⟩ := s.cov.tb p mp
      rw [Classical.not_not.mp q] at e
      exact ⟨_, e⟩
theorem Stp.trans {G : Cfg} {ρ ρ1 ρ2 : Fz} {w1 w2 : Wd} {H H1 H2 : Hp} (a : Stp G ρ H ρ1 w1 H1) (b : Stp G ρ1 H1 ρ2 w2 H2) : Stp G ρ H ρ2 w2 H2 where
  ext := a.ext.trans b.ext
  cov := b.cov
  keep := fun p o h m t => b.keep p o (a.keep p o h m t) (fun q => (a.nio p q).elim m fun z => by rw [h] at z; cases z) t
  tb := a.tb
  new := fun p o h => by
    obtain ⟨o', h'⟩ := a.there h
    rcases a.new p o h with e | e
    · rcases b.new p o' h' with q | ⟨xs, q⟩
      · exact .inl (q.trans e)
      · by_cases m : p ∈ ρ.io
        · obtain ⟨u, hu, v⟩ := a.cov.own (a.ext.mem m)
          rw [h'] at hu; cases hu
          rw [q] at v
          exact absurd v own_tup
        · by_cases t : ∀ x ∈ G.tb, x.1 ≠ p
          · have z := a.keep p o h m t
            rw [h'] at z; cases z
            exact .inr ⟨xs, q⟩
          · obtain ⟨x, t⟩ := Classical.not_forall.mp t
            obtain ⟨mx, t⟩ := Classical.not_imp.mp t
            obtain ⟨_, _, ps, e', _⟩ := a.cov.tb x mx
            rw [Classical.not_not.mp t, h', q] at e'
            cases e'
    · exact .inr e
  nio := fun p m => (b.nio p m).elim (fun q => a.nio p q) fun q => by
    cases e : H p with
    | none => exact .inr rfl
    | some o =>
      obtain ⟨o', h'⟩ := a.there e
      rw [q] at h'; cases h'
inductive Slot where
  | emp | shr (d : Dt) | own (d : Dt)
structure DS where
  sl : List Slot
  w : Wd
structure XD where
  c : Str
  fs : List (Str × Dt)
inductive Out (α : Type) where
  | ok (a : α) (st : DS) | exc (x : XD) (st : DS) | stuck
def Out.bind {α β : Type} (o : Out α) (f : α → DS → Out β) : Out β := match o with
  | .ok a st => f a st
  | .exc x st => .exc x st
  | .stuck => .stuck
def Out.sat {α : Type} (o : Out α) (Q : α → DS → Prop) (E : XD → DS → Prop) : Prop := match o with
  | .ok a st => Q a st
  | .exc x st => E x st
  | .stuck => False
theorem Out.sat_bind {α β : Type} {o : Out α} {f : α → DS → Out β} {Q : β → DS → Prop} {E : XD → DS → Prop} (h : (o.bind f).sat Q E) : o.sat (fun a st => (f a st).sat Q E) E := by
  cases o <;> exact h
theorem Out.sat_mono {α : Type} {o : Out α} {Q Q' : α → DS → Prop} {E E' : XD → DS → Prop} (h : o.sat Q E) (hq : ∀ a st, Q a st → Q' a st) (he : ∀ x st, E x st → E' x st) : o.sat Q' E' := by
  cases o with
  | ok a st => exact hq _ _ h
  | exc x st => exact he _ _ h
  | stuck => exact h
abbrev M (α : Type) := DS → Out α
def RepX (G : Cfg) (ρ : Fz) (H : Hp) (cls : Value) (dd : Option Addr) (x : XD) : Prop :=
  ∃ C, G.cl x.c = some C ∧ cls = .ref C ∧ ((x.fs = [] ∧ dd = none) ∨ ∃ d es, dd = some d ∧ ρ.F d = some (.xd es) ∧ FldRep (Rep G ρ) es x.fs)
structure Ss where
  G : Cfg
  H0 : Hp
  ρ0 : Fz
  W : WX
  X : List (Addr × HO)
def SlotOk (S : Ss) (ρ : Fz) (H : Hp) (v : Option V) : Slot → Prop
  | .emp => True
  | .shr d => ∃ u, v = some u ∧ Rep S.G ρ u d
  | .own d => ∃ p o, v = some (.ref p) ∧ S.H0 p = none ∧ ρ.F p = none ∧ p ∉ ρ.io ∧ H p = some o ∧ OwnS S.G ρ o d
structure SR (S : Ss) (ρ : Fz) (H : Hp) (σ : St) (st : DS) : Prop where
  stp : Stp S.G S.ρ0 S.H0 ρ st.w H
  len : σ.length = st.sl.length
  sl : ∀ (i : Nat) s, st.sl[i]? = some s → SlotOk S ρ H (σ.getD i none) s
  dis : ∀ (i j : Nat) d e p, st.sl[i]? = some (.own d) → st.sl[j]? = some (.own e) → σ.getD i none = some (.ref p) → σ.getD j none = some (.ref p) → i = j
  ex : ∀ p o, (p, o) ∈ S.X → H p = some o ∧ ρ.F p = none ∧ p ∉ ρ.io ∧ (S.H0 p = none ∧ ∀ xs, o ≠ .tup xs) ∧ ∀ (i : Nat) d, st.sl[i]? = some (.own d) → σ.getD i none ≠ some (.ref p)
theorem SR.cov {S : Ss} {ρ : Fz} {H : Hp} {σ : St} {st : DS} (r : SR S ρ H σ st) : Cov S.G ρ st.w H := r.stp.cov
def WantX (S : Ss) (ρ : Fz) (σ : St) (x : XD) (st : DS) : Prop := ∀ cls dd ρ' H', Ext ρ ρ' → SR S ρ' H' σ st → RepX S.G ρ' H' cls dd x → S.W cls dd σ H'
def teD (S : Ss) (f : M Dt) : TE := fun σ H Q => ∃ ρ st, SR S ρ H σ st ∧ (f st).sat (fun d st' => ∀ v ρ' H', Ext ρ ρ' → SR S ρ' H' σ st' → Rep S.G ρ' v d → Q v H') (WantX S ρ σ)
def taD (S : Ss) (f : M (List Dt)) : TA := fun σ H Q => ∃ ρ st, SR S ρ H σ st ∧ (f st).sat (fun ds st' => ∀ vs ρ' H', Ext ρ ρ' → SR S ρ' H' σ st' → Paired (Rep S.G ρ') vs ds → Q vs H') (WantX S ρ σ)
def ttD (S : Ss) (f : M Bool) : TT := fun σ H Q => ∃ ρ st, SR S ρ H σ st ∧ (f st).sat (fun b st' => ∀ ρ' H', Ext ρ ρ' → SR S ρ' H' σ st' → Q b H') (WantX S ρ σ)
structure PD (X : Cx) (S : Ss) (e : Expr) (f : M Dt) : Prop where
  pe : PE X e (teD S f)
structure PDT (X : Cx) (S : Ss) (e : Expr) (f : M Bool) : Prop where
  pt : PT X e (ttD S f)
structure PDA (X : Cx) (S : Ss) (es : List Expr) (f : M (List Dt)) : Prop where
  pa : PA X es (taD S f)
theorem pe_imp {X : Cx} {e : Expr} {t u : TE} (h : PE X e t) (i : ∀ σ H Q, u σ H Q → t σ H Q) : PE X e u := ⟨fun pins s σ H Q I w => h.run pins s σ H Q I (i _ _ _ w)⟩
theorem pt_imp {X : Cx} {e : Expr} {t u : TT} (h : PT X e t) (i : ∀ σ H Q, u σ H Q → t σ H Q) : PT X e u := ⟨fun pins s σ H Q I w => h.run pins s σ H Q I (i _ _ _ w)⟩
theorem pa_imp {X : Cx} {e : List Expr} {t u : TA} (h : PA X e t) (i : ∀ σ H Q, u σ H Q → t σ H Q) : PA X e u := ⟨fun pos pins s σ H Q I w => h.run pos pins s σ H Q I (i _ _ _ w)⟩
theorem ps_imp {X : Cx} {e : Stmt} {t u : TS} (h : PS X e t) (i : ∀ D σ H, u D σ H → t D σ H) : PS X e u := ⟨fun pins s σ H D I w => h.run pins s σ H D I (i _ _ _ w)⟩
theorem pss_imp {X : Cx} {e : List Stmt} {t u : TS} (h : PSs X e t) (i : ∀ D σ H, u D σ H → t D σ H) : PSs X e u := ⟨fun pins s σ H D I w => h.run pins s σ H D I (i _ _ _ w)⟩
inductive SOut where
  | nx (st : DS) | ret (d : Dt) (st : DS) | bk (st : DS) | ct (st : DS) | exc (x : XD) (st : DS) | stuck
abbrev MS := DS → SOut
structure DEnds where
  nx : DS → Prop
  rt : Dt → DS → Prop
  bk : DS → Prop
  ct : DS → Prop
  ex : XD → DS → Prop
def SOut.sat (o : SOut) (D : DEnds) : Prop := match o with
  | .nx st => D.nx st
  | .ret d st => D.rt d st
  | .bk st => D.bk st
  | .ct st => D.ct st
  | .exc x st => D.ex x st
  | .stuck => False
def wantD (S : Ss) (ρ : Fz) (D : Ends) : DEnds where
  nx := fun st => ∀ σ ρ' H, Ext ρ ρ' → SR S ρ' H σ st → D.nx σ H
  rt := fun d st => ∀ v σ ρ' H, Ext ρ ρ' → SR S ρ' H σ st → Rep S.G ρ' v d → D.rt v H
  bk := fun st => ∀ σ ρ' H, Ext ρ ρ' → SR S ρ' H σ st → D.bk σ H
  ct := fun st => ∀ σ ρ' H, Ext ρ ρ' → SR S ρ' H σ st → D.ct σ H
  ex := fun x st => ∀ cls dd σ ρ' H, Ext ρ ρ' → SR S ρ' H σ st → RepX S.G ρ' H cls dd x → S.W cls dd σ H
def tsD (S : Ss) (f : MS) : TS := fun D σ H => ∃ ρ st, SR S ρ H σ st ∧ (f st).sat (wantD S ρ D)
structure PDS (X : Cx) (S : Ss) (s : Stmt) (f : MS) : Prop where
  ps : PS X s (tsD S f)
structure PDB (X : Cx) (S : Ss) (s : List Stmt) (f : MS) : Prop where
  ps : PSs X s (tsD S f)
end B
end
section
set_option maxRecDepth 100000
set_option maxHeartbeats 4000000
namespace B
open PySem L2
theorem Out.go {α β : Type} {o : Out α} {f : α → DS → Out β} {Q : β → DS → Prop} {E E' : XD → DS → Prop} {Q' : α → DS → Prop} (h : (o.bind f).sat Q E) (hq : ∀ a st, (f a st).sat Q E → Q' a st) (he : ∀ x st, E x st → E' x st) : o.sat Q' E' := by
  cases o with
  | ok a st => exact hq _ _ h
  | exc x st => exact he _ _ h
  | stuck => exact h
section
variable {S : Ss} {ρ ρ' : Fz} {H H' : Hp} {σ : St} {st : DS} {w' : Wd}
theorem SR.step (r : SR S ρ H σ st) (s : Stp S.G ρ H ρ' w' H') : SR S ρ' H' σ ⟨st.sl, w'⟩ where
  stp := r.stp.trans s
  len := r.len
  sl := fun i x e => by
    have h := r.sl i x e
    cases x with
    | emp => trivial
    | shr d =>
      obtain ⟨u, e1, q⟩ := h
      exact ⟨u, e1, q.mono s.ext⟩
    | own d =>
      obtain ⟨p, o, e1, h0, hF, hio, hp, q⟩ := h
      refine ⟨p, o, e1, h0, ((s.new p o hp).resolve_right fun ⟨xs, z⟩ => own_tup ⟨d, z ▸ q⟩).trans hF, fun m => ?_, s.keep p o hp hio (r.stp.ntb h0), q.mono s.ext⟩
      rcases s.nio p m with z | z
      · exact hio z
      · rw [hp] at z; cases z
  dis := r.dis
  ex := fun p o m => by
    obtain ⟨h1, h2, h3, h4, h5⟩ := r.ex p o m
    refine ⟨s.keep p o h1 h3 (r.stp.ntb h4.1), ((s.new p o h1).resolve_right fun ⟨xs, z⟩ => h4.2 xs z).trans h2, fun q => ?_, h4, h5⟩
    rcases s.nio p q with z | z
    · exact h3 z
    · rw [h1] at z; cases z
theorem WantX.mono (e : Ext ρ ρ') {x : XD} {st : DS} (h : WantX S ρ σ x st) : WantX S ρ' σ x st := fun cls dd ρ1 H1 e1 r1 x1 => h cls dd ρ1 H1 (e.trans e1) r1 x1
theorem Stp.fresh {G : Cfg} {w : Wd} {p : Addr} {o : HO} (c : Cov G ρ w H) (hp : H p = none) : Stp G ρ H ⟨upd ρ.F p o, ρ.io⟩ w (upd H p o) := by
  have nF : ρ.F p = none := by
    cases e : ρ.F p with
    | none => rfl
    | some u => rw [c.F p u e] at hp; cases hp
  have eF : ∀ a u, ρ.F a = some u → upd ρ.F p o a = some u := fun a u h => by rw [upd_ne (ne_of_none h nF)]; exact h
  have e : Ext ρ ⟨upd ρ.F p o, ρ.io⟩ := ⟨eF, fun _ _ h => h⟩
  refine ⟨e, ⟨fun a u h => ?_, c.len, fun n a d h1 h2 => ?_, c.nd, c.tb.move eF (fun q m => upd_ne (c.tb.ne hp q m)) (fun _ _ z => z) fun q m => upd_ne (c.tb.ne hp q m)⟩, fun a u h _ _ => ?_, fun a u h => ?_, fun a m => .inl m, c.stp0⟩
  · by_cases q : a = p
    · subst q
      have h' : upd ρ.F a o a = some u := h
      rw [upd_same] at h' ⊢
      exact h'
    · have h' : upd ρ.F p o a = some u := h
      rw [upd_ne q] at h' ⊢
      exact c.F a u h'
  · obtain ⟨n1, u, h3, h4⟩ := c.wo n a d h1 h2
    have q : a ≠ p := ne_of_none h3 hp
    exact ⟨by show upd ρ.F p o a = none; rw [upd_ne q]; exact n1, u, by rw [upd_ne q]; exact h3, h4.mono e⟩
  · rw [upd_ne (ne_of_none h hp)]; exact h
  · left
    show upd ρ.F p o a = ρ.F a
    rw [upd_ne (ne_of_none h hp)]
end
def dC (d : Dt) : M Dt := fun st => .ok d st
def dVar (i : Nat) : M Dt := fun st => match st.sl[i]? with
  | some (.shr d) => .ok d st
  | some (.own d) => .ok d { st with sl := st.sl.set i (.shr d) }
  | _ => .stuck
section
variable {X : Cx} {S : Ss}
theorem pd_const {e : Expr} {v : V} {d : Dt} (h : PE X e (tC v)) (r : ∀ ρ, Rep S.G ρ v d) : PD X S e (dC d) :=
  ⟨pe_imp h fun σ H Q ⟨ρ, st, R, q⟩ => q v ρ H (Ext.refl ρ) R (r ρ)⟩
theorem rep_int {G : Cfg} {ρ : Fz} {i : Int} : Rep G ρ (.int i) (.int i) := ⟨1, rfl⟩
theorem rep_str {G : Cfg} {ρ : Fz} {i : Str} : Rep G ρ (.str i) (.str i) := ⟨1, rfl⟩
theorem rep_bl {G : Cfg} {ρ : Fz} {i : Bool} : Rep G ρ (.bl i) (.bl i) := ⟨1, rfl⟩
theorem rep_non {G : Cfg} {ρ : Fz} : Rep G ρ .non .non := ⟨1, rfl⟩
theorem rep_ty {G : Cfg} {ρ : Fz} {n : String} : Rep G ρ (.ty n) (.ty n) := ⟨1, rfl⟩
theorem pd_int {i j pos} : PD X S (.Constant (.int i) j pos) (dC (.int i)) := pd_const pe_int fun _ => rep_int
theorem pd_str {i j pos} : PD X S (.Constant (.str i) j pos) (dC (.str i)) := pd_const pe_str fun _ => rep_str
theorem pd_bl {i j pos} : PD X S (.Constant (.bool i) j pos) (dC (.bl i)) := pd_const pe_bl fun _ => rep_bl
theorem pd_non {j pos} : PD X S (.Constant .none j pos) (dC .non) := pd_const pe_non fun _ => rep_non
def FrzAs (o o' : HO) : Prop := match o with
  | .dK _ => ∃ ob, o' = .frz ob o
  | .dT _ => ∃ ob, o' = .frz ob o
  | _ => o' = o
theorem own_rep {G : Cfg} {ρ : Fz} {p : Addr} {o o' : HO} {d : Dt} (h : OwnS G ρ o d) (z : FrzAs o o') (n : ρ.F p = none) : Rep G ⟨upd ρ.F p o', ρ.io⟩ (.ref p) d := by
  have e : Ext ρ ⟨upd ρ.F p o', ρ.io⟩ := ⟨fun a u h => by show upd ρ.F p o' a = some u; rw [upd_ne (ne_of_none h n)]; exact h, fun _ _ h => h⟩
  have h' := h.mono e
  have s : (⟨upd ρ.F p o', ρ.io⟩ : Fz).F p = some o' := upd_same
  cases d with
  | lst ds => obtain ⟨vs, rfl, q⟩ := h'; cases z; exact .mk ⟨p, vs, rfl, s, q⟩
  | dic kvs =>
    have k : ∃ ob, o' = .frz ob o := by
      rcases h' with ⟨es, rfl, _⟩ | ⟨es, ⟨rfl, _⟩, _⟩ <;> exact z
    obtain ⟨ob, rfl⟩ := k
    exact .mk ⟨p, ob, o, rfl, s, h'⟩
  | ins c fs => obtain ⟨C, dx, es, c1, rfl, q⟩ := h'; cases z; exact .mk ⟨p, C, dx, es, rfl, c1, s, q⟩
  | _ => exact False.elim h'
theorem pe_frz {X : Cx} {e : Expr} {te : TE} (h : PE X e te) : PE X e (fun σ H Q => te σ H fun v H1 => Q v H1 ∨ ∃ p o, H1 p = some o ∧ Mut (some o) ∧ ∀ o', FrzAs o o' → Q v (upd H1 p o')) := by
  refine ⟨fun pins s σ H Q I hw => thn (h.run pins s σ H _ I hw) fun u s1 ⟨v, H1, I1, r, q⟩ => ?_⟩
  rcases q with q | ⟨p, o, hp, mu, q⟩
  · exact ⟨v, H1, I1, r, q⟩
  · by_cases d : ∃ ob, FrzAs o (.frz ob o)
    · obtain ⟨ob, I2⟩ := I1.lock hp mu
      have z : FrzAs o (.frz ob o) := by
        cases o with
        | dK _ => exact ⟨ob, rfl⟩
        | dT _ => exact ⟨ob, rfl⟩
        | frz ob' u => exact mu.elim
        | _ => obtain ⟨ob, z⟩ := d; cases z
      exact ⟨v, _, I2, r, q _ z⟩
    · have z : FrzAs o o := by
        cases o with
        | dK _ => exact absurd ⟨default, default, rfl⟩ d
        | dT _ => exact absurd ⟨default, default, rfl⟩ d
        | _ => rfl
      have e : upd H1 p o = H1 := by
        funext b
        by_cases hb : b = p
        · subst hb; rw [upd_same, hp]
        · rw [upd_ne hb]
      have q2 := q o z
      rw [e] at q2
      exact ⟨v, H1, I1, r, q2⟩
theorem SR.freeze {S : Ss} {ρ : Fz} {H : Hp} {σ : L2.St} {st : DS} {i : Nat} {d : Dt} {p : Addr} {o o' : HO} (R : SR S ρ H σ st) (e : st.sl[i]? = some (.own d)) (e1 : σ.getD i none = some (.ref p)) (h0 : S.H0 p = none) (hF : ρ.F p = none) (hio : p ∉ ρ.io)
    (hp : H p = some o) (r : OwnS S.G ρ o d) (z : FrzAs o o') : SR S ⟨upd ρ.F p o', ρ.io⟩ (upd H p o') σ { st with sl := st.sl.set i (.shr d) } := by
  have ex : Ext ρ ⟨upd ρ.F p o', ρ.io⟩ := ⟨fun a u h => by show upd ρ.F p o' a = some u; rw [upd_ne (ne_of_none h hF)]; exact h, fun _ _ h => h⟩
  have c := R.cov
  refine ⟨⟨R.stp.ext.trans ex, ⟨fun a u h => ?_, c.len, fun n a d h1 h2 => ?_, c.nd, c.tb.move ex.F (fun q m => upd_ne (R.stp.ntb h0 q m)) (fun _ _ z => z) fun q m => upd_ne (R.stp.ntb h0 q m)⟩, fun a u h m t => ?_, fun a u h => ?_, R.stp.nio, R.stp.tb⟩, ?_, fun j x ej => ?_, fun j k d' e' p' h1 h2 h3 h4 => ?_, fun q u m => ?_⟩
  · by_cases q : a = p
    · subst q
      have z2 : upd ρ.F a o' a = some u := h
      rw [upd_same] at z2; cases z2
      exact upd_same
    · have z2 : upd ρ.F p o' a = some u := h
      rw [upd_ne q] at z2
      rw [upd_ne q]
      exact c.F a u z2
  · obtain ⟨n1, u, h3, h4⟩ := c.wo n a d h1 h2
    have q : a ≠ p := fun q => hio (q ▸ List.mem_of_getElem? h1)
    exact ⟨by show upd ρ.F p o' a = none; rw [upd_ne q]; exact n1, u, by rw [upd_ne q]; exact h3, h4.mono ex⟩
  · rw [upd_ne (ne_of_none h h0)]
    exact R.stp.keep a u h m t
  · have q : a ≠ p := ne_of_none h h0
    show upd ρ.F p o' a = _ ∨ _
    rw [upd_ne q]
    exact R.stp.new a u h
  · show σ.length = (st.sl.set i (.shr d)).length
    rw [List.length_set]
    exact R.len
  · by_cases q : j = i
    · subst q
      have hlt := (List.getElem?_eq_some_iff.mp e).1
      rw [List.getElem?_set_self hlt] at ej; cases ej
      exact ⟨.ref p, e1, own_rep r z hF⟩
    · rw [List.getElem?_set_ne (Ne.symm q)] at ej
      have k := R.sl j x ej
      cases x with
      | emp => trivial
      | shr d => obtain ⟨u, e2, r2⟩ := k; exact ⟨u, e2, r2.mono ex⟩
      | own d =>
        obtain ⟨p2, o2, e2, g0, gF, gio, gp, r2⟩ := k
        have ne : p2 ≠ p := fun w => q (R.dis j i _ _ p ej e (w ▸ e2) e1)
        exact ⟨p2, o2, e2, g0, by show upd ρ.F p o' p2 = none; rw [upd_ne ne]; exact gF, gio, by rw [upd_ne ne]; exact gp, r2.mono ex⟩
  · have back : ∀ (m : Nat) d', (st.sl.set i (.shr d))[m]? = some (.own d') → st.sl[m]? = some (.own d') := fun m d' h => by
      by_cases w : m = i
      · subst w
        have hlt := (List.getElem?_eq_some_iff.mp e).1
        rw [List.getElem?_set_self hlt] at h; cases h
      · rw [List.getElem?_set_ne (Ne.symm w)] at h; exact h
    exact R.dis j k _ _ p' (back _ _ h1) (back _ _ h2) h3 h4
  · obtain ⟨g1, g2, g3, g4, g5⟩ := R.ex q u m
    have ne : q ≠ p := fun w => g5 i d e (w ▸ e1)
    refine ⟨by rw [upd_ne ne]; exact g1, by show upd ρ.F p o' q = none; rw [upd_ne ne]; exact g2, g3, g4, fun j d' h => g5 j d' ?_⟩
    by_cases w : j = i
    · subst w
      have hlt := (List.getElem?_eq_some_iff.mp e).1
      rw [List.getElem?_set_self hlt] at h; cases h
    · rw [List.getElem?_set_ne (Ne.symm w)] at h; exact h
theorem own_mut {G : Cfg} {ρ : Fz} {o : HO} {d : Dt} (h : OwnS G ρ o d) : Mut (some o) := by
  cases d with
  | lst ds => obtain ⟨vs, rfl, q⟩ := h; trivial
  | dic kvs => rcases h with ⟨es, rfl, _⟩ | ⟨es, ⟨rfl, _⟩, _⟩ <;> trivial
  | ins c fs => obtain ⟨C, dx, es, c1, rfl, q⟩ := h; trivial
  | _ => exact False.elim h
theorem ext_new {ρ : Fz} {p : Addr} {o : HO} (n : ρ.F p = none) : Ext ρ ⟨upd ρ.F p o, ρ.io⟩ := ⟨fun a u h => by show upd ρ.F p o a = some u; rw [upd_ne (ne_of_none h n)]; exact h, fun _ _ h => h⟩
theorem getD_some {σ : St} {i : Nat} {v : V} (h : σ.getD i none = some v) : σ[i]? = some (some v) := by
  rw [List.getD_eq_getElem?_getD] at h
  cases e : σ[i]? with
  | none => rw [e] at h; cases h
  | some x => rw [e] at h; exact congrArg some h
theorem pd_name {e : Expr} (i : Nat) (h : PE X e (tVar i)) : PD X S e (dVar i) := by
  refine ⟨pe_imp (pe_frz h) fun σ H Q ⟨ρ, st, R, q⟩ => ?_⟩
  unfold dVar at q
  cases e : st.sl[i]? with
  | none => rw [e] at q; exact q.elim
  | some s =>
    rw [e] at q
    have k := R.sl i s e
    cases s with
    | emp => exact q.elim
    | shr d =>
      obtain ⟨u, e1, r⟩ := k
      exact ⟨u, getD_some e1, .inl (q u ρ H (Ext.refl ρ) R r)⟩
    | own d =>
      obtain ⟨p, o, e1, h0, hF, hio, hp, r⟩ := k
      exact ⟨.ref p, getD_some e1, .inr ⟨p, o, hp, own_mut r, fun o' z => q (.ref p) _ _ (ext_new hF) (R.freeze e e1 h0 hF hio hp r z) (own_rep r z hF)⟩⟩
structure NewO (S : Ss) (ρ : Fz) (H : Hp) (σ : L2.St) (st : DS) (p : Addr) (o : HO) (d : Dt) : Prop where
  h0 : S.H0 p = none
  hF : ρ.F p = none
  io : p ∉ ρ.io
  hp : H p = some o
  r : OwnS S.G ρ o d
  dis : ∀ (i : Nat) e, st.sl[i]? = some (.own e) → σ.getD i none ≠ some (.ref p)
  ex : ∀ q u, (q, u) ∈ S.X → q ≠ p
def teO (S : Ss) (f : M Dt) : TE := fun σ H Q => ∃ ρ st, SR S ρ H σ st ∧ (f st).sat (fun d st' => ∀ p o ρ' H', Ext ρ ρ' → SR S ρ' H' σ st' → NewO S ρ' H' σ st' p o d → Q (.ref p) H') (WantX S ρ σ)
structure PO (X : Cx) (S : Ss) (e : Expr) (f : M Dt) : Prop where
  pe : PE X e (teO S f)
theorem SR.add {ρ : Fz} {H : Hp} {σ : L2.St} {st : DS} {p : Addr} {o : HO} (R : SR S ρ H σ st) (hp : H p = none) : SR S ρ (upd H p o) σ st := by
  have c := R.cov
  have h0 : S.H0 p = none := by
    cases e : S.H0 p with
    | none => rfl
    | some u => obtain ⟨u', h'⟩ := R.stp.there e; rw [hp] at h'; cases h'
  refine ⟨⟨R.stp.ext, ⟨fun a u h => ?_, c.len, fun n a d h1 h2 => ?_, c.nd, c.tb.move (fun _ _ h => h) (fun _ _ => rfl) (fun _ _ z => z) fun q m => upd_ne (R.stp.ntb h0 q m)⟩, fun a u h m t => ?_, R.stp.new, R.stp.nio, R.stp.tb⟩, R.len, fun j x ej => ?_, R.dis, fun q u m => ?_⟩
  · rw [upd_ne (ne_of_none (c.F a u h) hp)]; exact c.F a u h
  · obtain ⟨n1, u, h3, h4⟩ := c.wo n a d h1 h2
    exact ⟨n1, u, by rw [upd_ne (ne_of_none h3 hp)]; exact h3, h4⟩
  · rw [upd_ne (ne_of_none h h0)]; exact R.stp.keep a u h m t
  · have k := R.sl j x ej
    cases x with
    | emp => trivial
    | shr d => exact k
    | own d =>
      obtain ⟨p2, o2, e2, g0, gF, gio, gp, r2⟩ := k
      exact ⟨p2, o2, e2, g0, gF, gio, by rw [upd_ne (ne_of_none gp hp)]; exact gp, r2⟩
  · obtain ⟨g1, g⟩ := R.ex q u m
    exact ⟨by rw [upd_ne (ne_of_none g1 hp)]; exact g1, g⟩
theorem SR.new {ρ : Fz} {H : Hp} {σ : L2.St} {st : DS} {p : Addr} {o : HO} {d : Dt} (R : SR S ρ H σ st) (hp : H p = none) (r : OwnS S.G ρ o d) : NewO S ρ (upd H p o) σ st p o d where
  h0 := by
    cases e : S.H0 p with
    | none => rfl
    | some u => obtain ⟨u', h'⟩ := R.stp.there e; rw [hp] at h'; cases h'
  hF := by
    cases e : ρ.F p with
    | none => rfl
    | some u => rw [R.cov.F p u e] at hp; cases hp
  io := fun m => by obtain ⟨u, e⟩ := R.cov.there m; rw [hp] at e; cases e
  hp := upd_same
  r := r
  dis := fun i e h q => by
    obtain ⟨p2, o2, e2, _, _, _, gp, _⟩ := R.sl i _ h
    rw [q] at e2; cases e2
    rw [hp] at gp; cases gp
  ex := fun q u m => ne_of_none (R.ex q u m).1 hp
theorem SR.frz {ρ : Fz} {H : Hp} {σ : L2.St} {st : DS} {p : Addr} {o o' : HO} {d : Dt} (R : SR S ρ H σ st) (n : NewO S ρ H σ st p o d) (z : FrzAs o o') : SR S ⟨upd ρ.F p o', ρ.io⟩ (upd H p o') σ st := by
  have c := R.cov
  have ex := ext_new (ρ := ρ) (o := o') n.hF
  refine ⟨⟨R.stp.ext.trans ex, ⟨fun a u h => ?_, c.len, fun m a d h1 h2 => ?_, c.nd, c.tb.move ex.F (fun q m => upd_ne (R.stp.ntb n.h0 q m)) (fun _ _ z => z) fun q m => upd_ne (R.stp.ntb n.h0 q m)⟩, fun a u h m t => ?_, fun a u h => ?_, R.stp.nio, R.stp.tb⟩, R.len, fun j x ej => ?_, R.dis, fun q u m => ?_⟩
  · by_cases q : a = p
    · subst q
      have z2 : upd ρ.F a o' a = some u := h
      rw [upd_same] at z2; cases z2
      exact upd_same
    · have z2 : upd ρ.F p o' a = some u := h
      rw [upd_ne q] at z2
      rw [upd_ne q]
      exact c.F a u z2
  · obtain ⟨n1, u, h3, h4⟩ := c.wo m a d h1 h2
    have q : a ≠ p := fun q => n.io (q ▸ List.mem_of_getElem? h1)
    exact ⟨by show upd ρ.F p o' a = none; rw [upd_ne q]; exact n1, u, by rw [upd_ne q]; exact h3, h4.mono ex⟩
  · rw [upd_ne (ne_of_none h n.h0)]
    exact R.stp.keep a u h m t
  · show upd ρ.F p o' a = _ ∨ _
    rw [upd_ne (ne_of_none h n.h0)]
    exact R.stp.new a u h
  · have k := R.sl j x ej
    cases x with
    | emp => trivial
    | shr d => obtain ⟨u, e2, r2⟩ := k; exact ⟨u, e2, r2.mono ex⟩
    | own d =>
      obtain ⟨p2, o2, e2, g0, gF, gio, gp, r2⟩ := k
      have ne : p2 ≠ p := fun w => n.dis j _ ej (w ▸ e2)
      exact ⟨p2, o2, e2, g0, by show upd ρ.F p o' p2 = none; rw [upd_ne ne]; exact gF, gio, by rw [upd_ne ne]; exact gp, r2.mono ex⟩
  · obtain ⟨g1, g2, g⟩ := R.ex q u m
    have ne := n.ex q u m
    exact ⟨by rw [upd_ne ne]; exact g1, by show upd ρ.F p o' q = none; rw [upd_ne ne]; exact g2, g⟩
theorem PO.pd {e : Expr} {f : M Dt} (h : PO X S e f) : PD X S e f := by
  refine ⟨pe_imp (pe_frz h.pe) fun σ H Q ⟨ρ, st, R, q⟩ => ⟨ρ, st, R, Out.sat_mono q (fun d st1 q1 p o ρ1 H1 e1 R1 n1 => .inr ⟨p, o, n1.hp, own_mut n1.r, fun o' z => ?_⟩) fun _ _ h => h⟩⟩
  exact q1 (.ref p) _ _ (e1.trans (ext_new n1.hF)) (R1.frz n1 z) (own_rep n1.r z n1.hF)
end
def opt {α : Type} : Option α → M α
  | some d => fun st => .ok d st
  | none => fun _ => .stuck
def d1 {α β : Type} (fa : M α) (g : α → M β) : M β := fun st => (fa st).bind g
def DOp2 (G : Cfg) (r : R2) (g : Dt → Dt → Option Dt) : Prop := ∀ (ρ : Fz) (w : Wd) (H : Hp) (v u : V) (x y d : Dt), Cov G ρ w H → Rep G ρ v x → Rep G ρ u y → g x y = some d → ∀ Q : VK, (∀ z ρ' H', Stp G ρ H ρ' w H' → Rep G ρ' z d → Q z H') → r v u H Q
def DOpL (G : Cfg) (r : List V → Hp → VK → Prop) (g : List Dt → Option Dt) : Prop := ∀ (ρ : Fz) (w : Wd) (H : Hp) (vs : List V) (xs : List Dt) (d : Dt), Cov G ρ w H → Paired (Rep G ρ) vs xs → g xs = some d → ∀ Q : VK, (∀ z ρ' H', Stp G ρ H ρ' w H' → Rep G ρ' z d → Q z H') → r vs H Q
section
variable {X : Cx} {S : Ss} {a b : Expr} {fa fb : M Dt} {pos : Pos}
theorem paired1 {α β : Type} {P : α → β → Prop} {vs : List α} {x : β} (h : Paired P vs [x]) : ∃ v, vs = [v] ∧ P v x := by
  cases h with | cons h t => cases t; exact ⟨_, rfl, h⟩
theorem paired2 {α β : Type} {P : α → β → Prop} {vs : List α} {x y : β} (h : Paired P vs [x, y]) : ∃ v u, vs = [v, u] ∧ P v x ∧ P u y := by
  cases h with | cons h t => cases t with | cons h2 t => cases t; exact ⟨_, _, rfl, h, h2⟩
def toB : Dt → M Bool
  | .bl b => fun st => .ok b st
  | _ => fun _ => .stuck
theorem tst_te {σ : St} {H : Hp} {Q : Bool → Hp → Prop} (h : ttD S (d1 fa toB) σ H Q) : teD S fa σ H fun x H1 => ∃ c, x = .bl c ∧ Q c H1 := by
  obtain ⟨ρ, st, R, q⟩ := h
  refine ⟨ρ, st, R, Out.go q (fun x st1 q1 v ρ1 H1 e1 R1 rx => ?_) fun _ _ h => h⟩
  cases x with
  | bl c => exact ⟨c, rx.out, q1 ρ1 H1 e1 R1⟩
  | _ => exact False.elim q1
theorem pdt_val (h : PD X S a fa) (he : ∀ whole, isTrue a X.env whole = (do let v ← whole; standAt a.pos; holding [v] (truthy v)) := by intro _; rfl) : PDT X S a (d1 fa toB) :=
  ⟨pt_imp (pt_val h.pe he) fun _ _ _ h => tst_te h⟩
def mAnd (f g : M Bool) : M Bool := d1 f fun c => if c then g else fun st => .ok false st
def mOr (f g : M Bool) : M Bool := d1 f fun c => if c then fun st => .ok true st else g
def mNot (f : M Bool) : M Bool := d1 f fun c st => .ok (!c) st
structure PDW (X : Cx) (S : Ss) (e : Expr) (f : M Bool) : Prop where
  pw : PW X e (ttD S f)
theorem PDW.t {e : Expr} {f : M Bool} (h : PDW X S e f) : PDT X S e f := ⟨h.pw.pt⟩
theorem pw_imp {e : Expr} {t u : TT} (h : PW X e t) (i : ∀ σ H Q, u σ H Q → t σ H Q) : PW X e u := ⟨fun wh pins s σ H Q I w => h.run wh pins s σ H Q I (i _ _ _ w)⟩
variable {rest : List Expr} {f g : M Bool}
theorem pdw_and1 (h : PDT X S a f) : PDW X S (.BoolOp .And [a] pos) f := ⟨pw_and1 h.pt⟩
theorem pdw_or1 (h : PDT X S a f) : PDW X S (.BoolOp .Or [a] pos) f := ⟨pw_or1 h.pt⟩
theorem pdw_and (h : PDT X S a f) (k : PDW X S (.BoolOp .And (b :: rest) pos) g) : PDW X S (.BoolOp .And (a :: b :: rest) pos) (mAnd f g) := by
  refine ⟨pw_imp (pw_and h.pt k.pw) fun σ H Q ⟨ρ, st, R, q⟩ => ⟨ρ, st, R, Out.go q (fun c st1 q1 ρ1 H1 e1 R1 => ?_) fun _ _ h => h⟩⟩
  cases c with
  | true => exact ⟨ρ1, st1, R1, Out.sat_mono q1 (fun c st2 q2 ρ2 H2 e2 R2 => q2 ρ2 H2 (e1.trans e2) R2) fun x st h => h.mono e1⟩
  | false => exact q1 ρ1 H1 e1 R1
theorem pdw_or (h : PDT X S a f) (k : PDW X S (.BoolOp .Or (b :: rest) pos) g) : PDW X S (.BoolOp .Or (a :: b :: rest) pos) (mOr f g) := by
  refine ⟨pw_imp (pw_or h.pt k.pw) fun σ H Q ⟨ρ, st, R, q⟩ => ⟨ρ, st, R, Out.go q (fun c st1 q1 ρ1 H1 e1 R1 => ?_) fun _ _ h => h⟩⟩
  cases c with
  | false => exact ⟨ρ1, st1, R1, Out.sat_mono q1 (fun c st2 q2 ρ2 H2 e2 R2 => q2 ρ2 H2 (e1.trans e2) R2) fun x st h => h.mono e1⟩
  | true => exact q1 ρ1 H1 e1 R1
theorem pdt_not (h : PDT X S a f) : PDT X S (.UnaryOp .Not a pos) (mNot f) :=
  ⟨pt_imp (pt_not h.pt) fun σ H Q ⟨ρ, st, R, q⟩ => ⟨ρ, st, R, Out.go q (fun c st1 q1 ρ1 H1 e1 R1 => q1 ρ1 H1 e1 R1) fun _ _ h => h⟩⟩
def vAnd (fa fb : M Dt) : M Dt := d1 fa fun x => match x with
  | .bl true => fb
  | .bl false => fun st => .ok (.bl false) st
  | _ => fun _ => .stuck
def vNot (fa : M Dt) : M Dt := d1 fa fun x => match x with
  | .bl c => fun st => .ok (.bl (!c)) st
  | _ => fun _ => .stuck
theorem pd_one {op} (h : PD X S a fa) : PD X S (.BoolOp op [a] pos) fa := ⟨pe_one h.pe⟩
theorem pd_and (ha : PD X S a fa) (hb : PD X S (.BoolOp .And (b :: rest) pos) fb) : PD X S (.BoolOp .And (a :: b :: rest) pos) (vAnd fa fb) := by
  refine ⟨pe_imp (pe_and ha.pe hb.pe) fun σ H Q ⟨ρ, st, R, q⟩ => ⟨ρ, st, R, Out.go q (fun x st1 q1 v ρ1 H1 e1 R1 rx => ?_) fun _ _ h => h⟩⟩
  cases x with
  | bl c =>
    refine ⟨c, rx.out, ?_⟩
    cases c with
    | true => exact ⟨ρ1, st1, R1, Out.sat_mono q1 (fun c st2 q2 u ρ2 H2 e2 R2 r2 => q2 u ρ2 H2 (e1.trans e2) R2 r2) fun x st h => h.mono e1⟩
    | false => exact q1 _ ρ1 H1 e1 R1 rep_bl
  | _ => exact False.elim q1
theorem pd_not (ha : PD X S a fa) : PD X S (.UnaryOp .Not a pos) (vNot fa) := by
  refine ⟨pe_imp (pe_not ha.pe) fun σ H Q ⟨ρ, st, R, q⟩ => ⟨ρ, st, R, Out.go q (fun x st1 q1 v ρ1 H1 e1 R1 rx => ?_) fun _ _ h => h⟩⟩
  cases x with
  | bl c => exact ⟨c, rx.out, q1 _ ρ1 H1 e1 R1 rep_bl⟩
  | _ => exact False.elim q1
def mIf {α : Type} (c : M Bool) (f g : M α) : M α := d1 c fun b => if b then f else g
theorem pd_if {c : Expr} (hc : PDT X S c f) (ha : PD X S a fa) (hb : PD X S b fb) : PD X S (.IfExp c a b pos) (mIf f fa fb) := by
  refine ⟨pe_imp (pe_ifExp hc.pt ha.pe hb.pe) fun σ H Q ⟨ρ, st, R, q⟩ => ⟨ρ, st, R, Out.go q (fun c st1 q1 ρ1 H1 e1 R1 => ?_) fun _ _ h => h⟩⟩
  cases c with
  | true => exact ⟨ρ1, st1, R1, Out.sat_mono q1 (fun c st2 q2 u ρ2 H2 e2 R2 r2 => q2 u ρ2 H2 (e1.trans e2) R2 r2) fun x st h => h.mono e1⟩
  | false => exact ⟨ρ1, st1, R1, Out.sat_mono q1 (fun c st2 q2 u ρ2 H2 e2 R2 r2 => q2 u ρ2 H2 (e1.trans e2) R2 r2) fun x st h => h.mono e1⟩
end
section
variable {X : Cx} {S : Ss} {e : Expr} {es : List Expr} {fa : M Dt} {fs : M (List Dt)} {pos : Pos}
def aNil : M (List Dt) := fun st => .ok [] st
def aCons (f : M Dt) (g : M (List Dt)) : M (List Dt) := d1 f fun x => d1 g fun xs st => .ok (x :: xs) st
theorem pda_nil : PDA X S [] aNil := ⟨pa_imp pa_nil fun σ H Q ⟨ρ, st, R, q⟩ => q [] ρ H (Ext.refl ρ) R .nil⟩
theorem pda_cons (ha : PD X S e fa) (hr : PDA X S es fs) (hs : starEach (e :: es) X.env = (false, eval e X.env) :: starEach es X.env := by rfl) : PDA X S (e :: es) (aCons fa fs) := by
  refine ⟨pa_imp (pa_cons ha.pe hr.pa hs) fun σ H Q ⟨ρ, st, R, q⟩ => ⟨ρ, st, R, Out.go q (fun x st1 q1 v ρ1 H1 e1 R1 rx => ?_) fun _ _ h => h⟩⟩
  exact ⟨ρ1, st1, R1, Out.go q1 (fun xs st2 q2 vs ρ2 H2 e2 R2 rs => q2 _ ρ2 H2 (e1.trans e2) R2 (.cons (rx.mono e2) rs)) fun x st h => h.mono e1⟩
def LIM : Nat := 1000000
theorem lim_ok {n : Nat} (h : n ≤ LIM) : n ≤ sizeLine := Nat.le_trans h (by decide)
theorem lim_lt {n : Nat} (h : n < LIM) : n < sizeLine := Nat.lt_of_lt_of_le h (by decide)
def mkTup (xs : List Dt) : Option Dt := if xs.length ≤ LIM then some (.tup xs) else none
def mkLst (xs : List Dt) : Option Dt := if xs.length ≤ LIM then some (.lst xs) else none
theorem pd_tup {k} (h : PDA X S es fs) : PD X S (.Tuple es k pos) (d1 fs fun xs => opt (mkTup xs)) := by
  refine ⟨pe_imp (pe_tup h.pa) fun σ H Q ⟨ρ, st, R, q⟩ => ⟨ρ, st, R, Out.go q (fun xs st1 q1 vs ρ1 H1 e1 R1 rs => ?_) fun _ _ h => h⟩⟩
  unfold mkTup at q1
  split at q1
  · rename_i hl
    refine ⟨lim_ok (by rw [rs.length]; exact hl), fun p hp => ?_⟩
    have s := Stp.fresh (o := .tup vs) R1.cov hp
    exact q1 _ _ _ (e1.trans s.ext) (R1.step s) (.mk ⟨p, vs, rfl, upd_same, rs.mp fun _ _ z => z.mono s.ext⟩)
  · exact q1.elim
theorem po_lst (h : PDA X S es fs) : PO X S (.List es pos) (d1 fs fun xs => opt (mkLst xs)) := by
  refine ⟨pe_imp (pe_lst h.pa) fun σ H Q ⟨ρ, st, R, q⟩ => ⟨ρ, st, R, Out.go q (fun xs st1 q1 vs ρ1 H1 e1 R1 rs => ?_) fun _ _ h => h⟩⟩
  unfold mkLst at q1
  split at q1
  · rename_i hl
    exact ⟨lim_ok (by rw [rs.length]; exact hl), fun p hp => q1 p _ ρ1 _ e1 (R1.add hp) (R1.new hp ⟨vs, rfl, rs⟩)⟩
  · exact q1.elim
end
section
variable {X : Cx} {S : Ss} {s : Stmt} {rest : List Stmt} {f g : MS} {e : Expr} {fa : M Dt} {pos : Pos}
theorem wantD_mono {ρ ρ' : Fz} {D : Ends} (e : Ext ρ ρ') {o : SOut} (h : o.sat (wantD S ρ D)) : o.sat (wantD S ρ' D) := by
  cases o with
  | nx st => exact fun σ ρ1 H1 e1 R1 => h σ ρ1 H1 (e.trans e1) R1
  | ret d st => exact fun v σ ρ1 H1 e1 R1 => h v σ ρ1 H1 (e.trans e1) R1
  | bk st => exact fun σ ρ1 H1 e1 R1 => h σ ρ1 H1 (e.trans e1) R1
  | ct st => exact fun σ ρ1 H1 e1 R1 => h σ ρ1 H1 (e.trans e1) R1
  | exc x st => exact fun c dd σ ρ1 H1 e1 R1 => h c dd σ ρ1 H1 (e.trans e1) R1
  | stuck => exact h
def SOut.bind (o : SOut) (f : MS) : SOut := match o with
  | .nx st => f st
  | o => o
def sSeq (f g : MS) : MS := fun st => (f st).bind g
def sNext : MS := .nx
theorem pdb_nil : PDB X S [] sNext := ⟨pss_imp pss_nil fun D σ H ⟨ρ, st, R, q⟩ => q σ ρ H (Ext.refl ρ) R⟩
theorem pdb_one (h : PDS X S s f) : PDB X S [s] f := ⟨pss_one h.ps⟩
theorem pdb_cons (h : PDS X S s f) (k : PDB X S rest g) : PDB X S (s :: rest) (sSeq f g) := by
  refine ⟨pss_imp (pss_cons h.ps k.ps) fun D σ H ⟨ρ, st, R, q⟩ => ⟨ρ, st, R, ?_⟩⟩
  unfold sSeq at q
  cases e : f st with
  | nx st1 => rw [e] at q; exact fun σ1 ρ1 H1 e1 R1 => ⟨ρ1, st1, R1, wantD_mono e1 q⟩
  | ret d st1 => rw [e] at q; exact q
  | bk st1 => rw [e] at q; exact q
  | ct st1 => rw [e] at q; exact q
  | exc x st1 => rw [e] at q; exact q
  | stuck => rw [e] at q; exact q
def Out.toS {α : Type} (o : Out α) (f : α → DS → SOut) : SOut := match o with
  | .ok a st => f a st
  | .exc x st => .exc x st
  | .stuck => .stuck
theorem toS_sat {α : Type} {o : Out α} {f : α → DS → SOut} {ρ : Fz} {σ : St} {D : Ends} (h : (o.toS f).sat (wantD S ρ D)) : o.sat (fun a st => (f a st).sat (wantD S ρ D)) (WantX S ρ σ) := by
  cases o with
  | ok a st => exact h
  | exc x st => exact fun cls dd ρ' H' e R r => h cls dd σ ρ' H' e R r
  | stuck => exact h
def sExpr (f : M Dt) : MS := fun st => (f st).toS fun _ st => .nx st
def sRet (f : M Dt) : MS := fun st => (f st).toS .ret
theorem pds_expr (h : PD X S e fa) (hs : swapsWith e none pos.line X.env = pure false := by rfl) : PDS X S (.Expr e pos) (sExpr fa) :=
  ⟨ps_imp (ps_expr h.pe hs) fun D σ H ⟨ρ, st, R, q⟩ => ⟨ρ, st, R, Out.sat_mono (toS_sat (σ := σ) q) (fun x st1 q1 v ρ1 H1 e1 R1 _ => q1 σ ρ1 H1 e1 R1) fun _ _ h => h⟩⟩
theorem pds_ret (h : PD X S e fa) : PDS X S (.Return (some e) pos) (sRet fa) :=
  ⟨ps_imp (ps_ret h.pe) fun D σ H ⟨ρ, st, R, q⟩ => ⟨ρ, st, R, Out.sat_mono (toS_sat (σ := σ) q) (fun x st1 q1 v ρ1 H1 e1 R1 r => q1 v σ ρ1 H1 e1 R1 r) fun _ _ h => h⟩⟩
def sIf (c : M Bool) (f g : MS) : MS := fun st => (c st).toS fun b => if b then f else g
theorem pds_if {c : Expr} {a b : List Stmt} {fc : M Bool} (hc : PDT X S c fc) (ha : PDB X S a f) (hb : PDB X S b g) : PDS X S (.If c a b pos) (sIf fc f g) := by
  refine ⟨ps_imp (ps_if hc.pt ha.ps hb.ps) fun D σ H ⟨ρ, st, R, q⟩ => ⟨ρ, st, R, Out.sat_mono (toS_sat (σ := σ) q) (fun c st1 q1 ρ1 H1 e1 R1 => ?_) fun _ _ h => h⟩⟩
  cases c with
  | true => exact ⟨ρ1, st1, R1, wantD_mono e1 q1⟩
  | false => exact ⟨ρ1, st1, R1, wantD_mono e1 q1⟩
end
end B
end
section
set_option maxRecDepth 100000
set_option maxHeartbeats 4000000
namespace B
open PySem L2
open PyProof.Rows (envOfC)
structure RoomG (k : Nat) (A : Around) : Prop where
  room : L2.Room k A
  gd : A.guards = some []
namespace RoomG
variable {k k' : Nat} {A : Around}
theorem mono (h : RoomG k A) (l : k' ≤ k) : RoomG k' A := ⟨h.room.mono l, h.gd⟩
theorem in1 (h : RoomG (k + 1) A) : RoomG k A.in1 := ⟨h.room.in1, h.gd⟩
theorem units (h : RoomG k A) : A.units + 64 < cLine := h.room.units
theorem units0 (h : RoomG k A) : A.units < cLine := h.room.units0
theorem un (h : RoomG k A) : A.units + 16 * k + 200 < cLine := h.room.un
theorem hd (h : RoomG k A) : A.handled = none := h.room.hd
theorem depth (h : RoomG k A) : A.depth < recursionLimit := h.room.depth
theorem make (h : RoomG (k + 1) A) (C : Addr) (us : List Value) (kw : List (Str × Value)) : RoomG k (A.under (.builtin "type.__call__" ⟨.ref C :: us, kw⟩)) := ⟨h.room.make C us kw, h.gd⟩
theorem deeper (h : RoomG (k + 1) A) (env : Env) : RoomG k (A.deeper env) := ⟨h.room.deeper env, h.gd⟩
end RoomG
def FnG (P : Program) (w : World) (K : PySem.W.Frag) (mg : Str → Option Value) (base : Heap) (CX : CXT) (k : Nat) (f : Addr) (sp : Sp) : Prop :=
  ∀ (A : Around) (outer : List Env) (s : Shared) (H : Hp) (us : List Value) (vs : List V) (Q : VK) (E : XK), RoomG k A → Env0 P w K mg base A outer s H → Vals vs us → sp vs H Q E →
    codeAny (model P w) A (.call (.ref f) ⟨us, []⟩) (CR CX outer P w H s Q E) s
structure FnOkG (P : Program) (w : World) (K : PySem.W.Frag) (mg : Str → Option Value) (base : Heap) (CX : CXT) (k : Nat) (f : Addr) (fd : FuncData) (ps : List Str) (sp : Sp) : Prop where
  len : ∀ (vs : List V) (H : Hp) (Q : VK) (E : XK), sp vs H Q E → vs.length = ps.length
  run : ∀ (A : Around) (outer : List Env) (s : Shared) (H : Hp) (args : Args) (us : List Value) (vs : List V) (Q : VK) (E : XK), RoomG k A → Env0 P w K mg base A outer s H → BindsTo s fd args (ps.zip us) → Vals vs us → sp vs H Q E →
    codeAny (model P w) A (.call (.ref f) args) (CR CX outer P w H s Q E) s
section
variable {P : Program} {w : World} {K : PySem.W.Frag} {mg : Str → Option Value} {base : Heap} {CX : CXT} {k k' : Nat} {f : Addr} {fd : FuncData} {ps : List Str} {sp sp' : Sp}
theorem FnG.imp (F : FnG P w K mg base CX k f sp) (h : ∀ vs H Q E, sp' vs H Q E → sp vs H Q E) : FnG P w K mg base CX k f sp' := fun A outer s H us vs Q E hr e0 rv q => F A outer s H us vs Q E hr e0 rv (h _ _ _ _ q)
theorem FnG.mono (F : FnG P w K mg base CX k f sp) (l : k ≤ k') : FnG P w K mg base CX k' f sp := fun A outer s H us vs Q E hr e0 rv q => F A outer s H us vs Q E (hr.mono l) e0 rv q
theorem FnOkG.imp (F : FnOkG P w K mg base CX k f fd ps sp) (h : ∀ vs H Q E, sp' vs H Q E → sp vs H Q E) : FnOkG P w K mg base CX k f fd ps sp' :=
  ⟨fun vs H Q E q => F.len _ _ _ _ (h _ _ _ _ q), fun A outer s H args us vs Q E hr e0 b rv q => F.run A outer s H args us vs Q E hr e0 b rv (h _ _ _ _ q)⟩
theorem FnOkG.raw {ds : List Value} {dvs : List V} (F : FnOkG P w K mg base CX k f fd ps sp) (b : Binds K fd ps ds) (r : Vals dvs ds) : FnG P w K mg base CX k f fun vs H Q E => sp (vs ++ dvs) H Q E := by
  intro A outer s H us vs Q E hr e0 rv q
  have KX : K.In s.heap := e0.mod.kin.keeps fun b o e => (e0.bs b o e).1
  have app : ∀ {xs : List V} {ys : List Value} {xs' : List V} {ys' : List Value}, Vals xs ys → Vals xs' ys' → Vals (xs ++ xs') (ys ++ ys') := by
    intro xs ys xs' ys' h1 h2
    induction h1 with
    | nil => exact h2
    | cons h _ ih => exact .cons h ih
  have rv' := app rv r
  have hl := F.len _ _ _ _ q
  exact F.run A outer s H ⟨us, []⟩ (us ++ ds) (vs ++ dvs) Q E hr e0 (b s us KX (by rw [← rv'.length]; exact hl)) rv' q
end
def FnT (P : Program) (w : World) (K : PySem.W.Frag) (mg : Str → Option Value) (base : Heap) (CX : CXT) (k : Nat) (f : Addr) (fd : FuncData) (ps : List Str) (sp : Sp) : Prop :=
  ∃ (body : List Stmt) (oc : Value) (od : Option Addr) (osl : Array (Option Value)), K.lookup f = some ⟨oc, od, .func fd, osl⟩ ∧ fd.body = .stmts body ∧ fd.scope.isCoroutine = false ∧ fd.scope.isGenerator = false ∧ PySem.W.codeIn K fd.code fd.qualname = true ∧
  ∀ (A : Around) (outer : List Env) (s : Shared) (H : Hp) (us : List Value) (vs : List V) (Q : VK) (E : XK) (R : Result → Shared → Prop), RoomG k A → Env0 P w K mg base A outer s H → Vals vs us → vs.length = ps.length → sp vs H Q E → (∀ r s', CR CX outer P w H s Q E r s' → R r s') →
    wpAny (model P w) A.in1 (newFunctionEnv fd.scope fd.globals fd.closure (ps.zip us) (fd.qualname ++ ".<locals>.") (some f) fd.code none fd.builtins)
        (fun env s₂ => s₂.heap.NoLimit ∧ codeAny (model P w) A (.func body env) R s₂) (fun e s' => R (.error e) s') s
theorem fn_tail {CX : CXT} {P : Program} {w : World} {K : PySem.W.Frag} {mg : Str → Option Value} {base : Heap} {k : Nat} {f : Addr} {name qual : Str} {params : Arguments} {body : List Stmt} {scope : Scope} {dV kV doc pm cdv ct oc : Value} {an od : Option Addr}
    {osl : Array (Option Value)} {N ps : List Str} {sp : Sp} (lk : K.lookup f = some ⟨oc, od, .func (PySem.W.fnOf name qual params body scope dV kV doc pm an cdv ct), osl⟩) (hcd : PySem.W.codeIn K cdv qual = true) (S : FnScope N ps scope)
    (hbody : ∀ (A : Around) (outer : List Env) (s : Shared) (H : Hp) (vs : List V) (Q : VK) (E : XK), RoomG k (A.deeper (envOfC qual scope s.heap.objs.size f cdv)) → sp vs H Q E →
      ∃ t, PSs (cxOf CX P w K mg base N qual scope f cdv A outer s H E) body t ∧ t { nx := fun _ H' => Q .non H', rt := Q } (L2.start N vs) H) :
    FnT P w K mg base CX (k + 1) f (PySem.W.fnOf name qual params body scope dV kV doc pm an cdv ct) ps sp := by
  refine ⟨body, oc, od, osl, lk, rfl, S.co, S.gen, hcd, ?_⟩
  intro A outer s H us vs Q E R hr e0 r hl hsp hR
  have KX : K.In s.heap := e0.mod.kin.keeps fun b o e => (e0.bs b o e).1
  have lim : s.heap.NoLimit := e0.mod.nolimit.keeps fun b o e => (e0.bs b o e).1
  have hkind : ∀ y ∈ ps.zip us, scope.names.lookup y.1 = some .local ∨ (scope.names.lookup y.1 = some .cell ∧ ((cellsFrom (s.heap.objs.size + 1) scope.names []).lookup y.1).isSome = true) := fun ⟨n, v⟩ hy => by
    rcases S.par n (List.of_mem_zip hy).1 with q | q
    · exact .inl q
    · exact .inr ⟨q, PySem.W.cellsFrom_some _ _ _ (.inl q)⟩
  refine wpAny_newFunctionEnv_cells S.kind hkind fun env he s1 x => ?_
  subst he
  refine ⟨lim.keeps x.toInCall.keep, codeAny_func ?_⟩
  obtain ⟨t, ht, hq⟩ := hbody A outer s H vs Q E (hr.deeper _) hsp
  have I : Inv (cxOf CX P w K mg base N qual scope f cdv A outer s H E) [] (L2.start N vs) H s1 := inv_start S hr.hd e0 hl r x
  have fin : ∀ {s' : Shared} {σ' : L2.St} {H' : Hp} {v : V} {u : Value}, Inv (cxOf CX P w K mg base N qual scope f cdv A outer s H E) [] σ' H' s' → RelV v u → Q v H' → CE outer P w H s Q u s' :=
    fun {s' σ' H' v u} J rv q => ⟨v, H', J.os, J.bare, J.base, J.hok, rv, q⟩
  refine wpAny_mono (ht.run [] s1 (L2.start N vs) H _ I hq) (fun fl s' hs => ?_) fun e s' hs => ?_
  · cases fl with
    | ret u =>
      obtain ⟨v, σ', H', J, rv, q⟩ := hs
      exact hR _ _ (fin J rv q)
    | next =>
      obtain ⟨σ', H', J, q⟩ := hs
      exact hR _ _ (fin (v := V.non) (u := Value.none) J rfl q)
    | brk =>
      obtain ⟨_, _, _, q⟩ := hs
      exact False.elim q
    | cont =>
      obtain ⟨_, _, _, q⟩ := hs
      exact False.elim q
  · exact wpAny_mono hs (fun _ s'' z => hR _ _ z) fun _ _ z => hR _ _ z
theorem call_T {CX : CXT} {P : Program} {w : World} {K : PySem.W.Frag} {mg : Str → Option Value} {base : Heap} {k : Nat} {f : Addr} {fd : FuncData} {ps : List Str} {sp : Sp} (T : FnT P w K mg base CX k f fd ps sp) (hlen : ∀ vs H Q E, sp vs H Q E → vs.length = ps.length) :
    FnOkG P w K mg base CX k f fd ps sp := by
  obtain ⟨body, oc, od, osl, lk, hb, hco, hgen, hcd, T⟩ := T
  refine ⟨hlen, fun A outer s H args us vs Q E hr e0 bd rv q => ?_⟩
  have KX : K.In s.heap := e0.mod.kin.keeps fun b o e => (e0.bs b o e).1
  refine codeAny_call_function hr.depth (KX _ _ lk) rfl hco hgen hb (PySem.W.codeRec_of KX hcd) (bd _ _ _ _ ?_)
  exact T A outer s H us vs Q E _ hr e0 rv (hlen _ _ _ _ q) q fun r s' h => h
end B
end
section
set_option maxRecDepth 100000
set_option maxHeartbeats 4000000
namespace B
open PySem L2
open PyProof.Rows (envOfC)
inductive Rs where
  | ok (d : Dt) (w : Wd) | exc (x : XD) (w : Wd) | stuck
abbrev FnM := List Dt → Wd → Rs
def Rs.sat (r : Rs) (Q : Dt → Wd → Prop) (E : XD → Wd → Prop) : Prop := match r with
  | .ok d w => Q d w
  | .exc x w => E x w
  | .stuck => False
def spD (G : Cfg) (m : FnM) : Sp := fun vs H Q E => ∃ ρ w ds, Cov G ρ w H ∧ Paired (Rep G ρ) vs ds ∧
  (m ds w).sat (fun d w' => ∀ v ρ' H', Stp G ρ H ρ' w' H' → Rep G ρ' v d → Q v H') (fun x w' => ∀ cls dd ρ' H', Stp G ρ H ρ' w' H' → RepX G ρ' H' cls dd x → E cls dd H')
def SOut.toR : SOut → Rs
  | .nx st => .ok .non st.w
  | .ret d st => .ok d st.w
  | .exc x st => .exc x st.w
  | _ => .stuck
def runB (l n : Nat) (f : MS) : FnM := fun ds w => if ds.length = n then (f ⟨ds.map .shr ++ List.replicate (l - n) .emp, w⟩).toR else .stuck
section
variable {P : Program} {w : World} {K : PySem.W.Frag} {mg : Str → Option Value} {base : Heap}
theorem start_ok {G : Cfg} {ρ : Fz} {H : Hp} {W : WX} {N : List Str} {n : Nat} {vs : List V} {ds : List Dt} {wd : Wd} (c : Cov G ρ wd H) (r : Paired (Rep G ρ) vs ds) (hn : ds.length = n) (hl : n ≤ N.length) :
    SR ⟨G, H, ρ, W, []⟩ ρ H (L2.start N vs) ⟨ds.map .shr ++ List.replicate (N.length - n) .emp, wd⟩ := by
  have hv : vs.length = n := by rw [r.length]; exact hn
  have noown : ∀ (i : Nat) d, (ds.map Slot.shr ++ List.replicate (N.length - n) Slot.emp)[i]? ≠ some (.own d) := fun i d h => by
    rcases List.mem_append.mp (List.mem_of_getElem? h) with m | m
    · obtain ⟨x, _, e⟩ := List.mem_map.mp m
      cases e
    · have z := List.eq_of_mem_replicate m
      cases z
  refine ⟨Stp.refl c, ?_, fun i s h => ?_, fun i j d e p h => absurd h (noown i d), fun p o m => nomatch m⟩
  · show (L2.start N vs).length = (ds.map Slot.shr ++ List.replicate (N.length - n) Slot.emp).length
    unfold L2.start
    rw [List.length_append, List.length_append, List.length_map, List.length_map, List.length_replicate, List.length_replicate, hv, hn]
  · have h' : (ds.map Slot.shr ++ List.replicate (N.length - n) Slot.emp)[i]? = some s := h
    by_cases hi : i < n
    · have hi2 : i < ds.length := by rw [hn]; exact hi
      have hi3 : i < vs.length := by rw [hv]; exact hi
      rw [List.getElem?_append_left (by rw [List.length_map]; exact hi2), List.getElem?_map, List.getElem?_eq_getElem hi2] at h'
      have e : Slot.shr ds[i] = s := Option.some.inj h'
      subst e
      refine ⟨vs[i], ?_, ?_⟩
      · show (L2.start N vs).getD i none = some vs[i]
        unfold L2.start
        rw [List.getD_eq_getElem?_getD, List.getElem?_append_left (by rw [List.length_map]; exact hi3), List.getElem?_map, List.getElem?_eq_getElem hi3]
        rfl
      · have get : ∀ {vs : List V} {ds : List Dt} (i : Nat) (h1 : i < vs.length) (h2 : i < ds.length), Paired (Rep G ρ) vs ds → Rep G ρ vs[i] ds[i] := by
          intro vs ds i h1 h2 p
          induction p generalizing i with
          | nil => exact absurd h1 (Nat.not_lt_zero _)
          | cons q _ ih =>
            cases i with
            | zero => exact q
            | succ i => exact ih i (Nat.lt_of_succ_lt_succ h1) (Nat.lt_of_succ_lt_succ h2)
        exact get i hi3 hi2 r
    · rw [List.getElem?_append_right (by rw [List.length_map, hn]; omega)] at h'
      have z := List.eq_of_mem_replicate (List.mem_of_getElem? h')
      subst z
      trivial
theorem fn_d {x qual : Str} {st : Stmt} {f : Addr} {fd : FuncData} {N ps : List Str} {k : Nat} {G : Cfg} {g : MS} (F : Fun K x qual st f fd) (S : FnScope N ps (defScope st))
    (hbody : ∀ (cdv : Value) (A : Around) (outer : List Env) (s : Shared) (H : Hp) (E : XK) (ρ : Fz), RoomG k (A.deeper (envOfC qual (defScope st) s.heap.objs.size f cdv)) →
      PDB (cxOf (L2.CX P w) P w K mg base N qual (defScope st) f cdv A outer s H E) ⟨G, H, ρ, fun c d _ H => E c d H, []⟩ (defBody st) g) :
    FnOkG P w K mg base (L2.CX P w) (k + 1) f fd ps (spD G (runB N.length ps.length g)) := by
  have hpl : ps.length ≤ N.length := by have := congrArg List.length S.pre; rw [List.length_take] at this; omega
  obtain ⟨oc, od, kV, doc, pm, an, cdv, ct, osl, rfl, lk, hcd⟩ := F.ex
  refine call_T (fn_tail lk hcd S fun A outer s H vs Q E hr h => ?_) fun vs H Q E h => ?_
  · obtain ⟨ρ, wd, ds, c, r, q⟩ := h
    unfold runB at q
    split at q
    case isFalse => exact q.elim
    rename_i e
    refine ⟨_, (hbody cdv A outer s H E ρ hr).ps, ρ, _, start_ok c r e hpl, ?_⟩
    cases o : g ⟨ds.map .shr ++ List.replicate (N.length - ps.length) .emp, wd⟩ with
    | nx st => rw [o] at q; exact fun σ ρ' H' _ R => q .non ρ' H' R.stp rep_non
    | ret d st => rw [o] at q; exact fun v σ ρ' H' _ R r => q v ρ' H' R.stp r
    | exc x st => rw [o] at q; exact fun cls dd σ ρ' H' _ R r => q cls dd ρ' H' R.stp r
    | bk st => rw [o] at q; exact q.elim
    | ct st => rw [o] at q; exact q.elim
    | stuck => rw [o] at q; exact q.elim
  · obtain ⟨ρ, wd, ds, c, r, q⟩ := h
    unfold runB at q
    split at q
    · rename_i e; rw [r.length]; exact e
    · exact q.elim
end
abbrev FnC (X : Cx) (G : Cfg) (k : Nat) (f : Addr) (m : FnM) : Prop := FnG X.prog X.w X.K X.mg X.base (L2.CX X.prog X.w) k f (spD G m)
def callM (m : FnM) (ds : List Dt) : M Dt := fun st => match m ds st.w with
  | .ok d w => .ok d ⟨st.sl, w⟩
  | .exc x w => .exc x ⟨st.sl, w⟩
  | .stuck => .stuck
section
variable {X : Cx} {S : Ss} {k : Nat} {f : Addr} {m : FnM}
theorem run_R {pins : List (Addr × Obj)} {σ : St} {H : Hp} {s : Shared} {Q : VK} {us : List Value} {vs : List V} {sp : Sp} (F : FnG X.prog X.w X.K X.mg X.base (L2.CX X.prog X.w) k f sp) (hr : RoomG k X.A) (tk : Takes X S.W)
    (I : Inv X pins σ H s) (r : Vals vs us) (h : sp vs H Q (WE S.W σ)) : wpAny (model X.prog X.w) X.A (call (.ref f) us) (EP X pins σ Q) X.xe s := by
  refine wpAny_call (codeAny_mono (F X.A X.stack s H us vs Q (WE S.W σ) hr I.env0 r h) fun r s' hq => ?_)
  cases r with
  | error e => exact passAt tk σ pins H s e s' I hq
  | ok fl =>
    cases fl with
    | ret u => exact I.after hq
    | next => exact False.elim hq
    | brk => exact False.elim hq
    | cont => exact False.elim hq
theorem call_sp {ρ0 ρ : Fz} {H : Hp} {σ : St} {st : DS} {Q : VK} {vs : List V} {ds : List Dt} (e0 : Ext ρ0 ρ) (R : SR S ρ H σ st) (rs : Paired (Rep S.G ρ) vs ds)
    (q : (callM m ds st).sat (fun d st' => ∀ v ρ' H', Ext ρ0 ρ' → SR S ρ' H' σ st' → Rep S.G ρ' v d → Q v H') (WantX S ρ0 σ)) : spD S.G m vs H Q (WE S.W σ) := by
  refine ⟨ρ, st.w, ds, R.cov, rs, ?_⟩
  unfold callM at q
  cases o : m ds st.w with
  | ok d w => rw [o] at q; exact fun v ρ' H' s r => q v ρ' H' (e0.trans s.ext) (R.step s) r
  | exc x w => rw [o] at q; exact fun cls dd ρ' H' s r => q cls dd ρ' H' (e0.trans s.ext) (R.step s) r
  | stuck => rw [o] at q; exact q
theorem run_D {pins : List (Addr × Obj)} {σ : St} {H : Hp} {s : Shared} {Q : VK} {us : List Value} {vs : List V} {ρ0 ρ : Fz} {st : DS} {ds : List Dt} (F : FnC X S.G k f m) (hr : RoomG k X.A) (tk : Takes X S.W)
    (I : Inv X pins σ H s) (r : Vals vs us) (e0 : Ext ρ0 ρ) (R : SR S ρ H σ st) (rs : Paired (Rep S.G ρ) vs ds)
    (q : (callM m ds st).sat (fun d st' => ∀ v ρ' H', Ext ρ0 ρ' → SR S ρ' H' σ st' → Rep S.G ρ' v d → Q v H') (WantX S ρ0 σ)) : wpAny (model X.prog X.w) X.A (call (.ref f) us) (EP X pins σ Q) X.xe s :=
  run_R F hr tk I r (call_sp e0 R rs q)
variable {x : Str} {p pos : Pos} {e : Expr} {es : List Expr} {fs : M (List Dt)}
theorem pd_call (F : FnC X S.G k f m) (hr : RoomG k X.A) (tk : Takes X S.W) (hm : X.mg x = some (.ref f)) (hk : PySem.W.keepIn X.K (.ref f) = true) (ha : PDA X S (e :: es) fs) (hg : Gl X x := by rfl)
    (hdb : (x == ("__debug__" : Str)) = false := by decide) (he : starEach (e :: es) X.env = (false, eval e X.env) :: starEach es X.env := by rfl) (hpl : (backTo pos (starEach es X.env)).any (·.1) = false := by rfl) :
    PD X S (.Call (.Name x p) (e :: es) [] pos) (d1 fs (callM m)) := by
  refine ⟨⟨fun pins s σ H Q I h => ?_⟩⟩
  obtain ⟨ρ, st, R, q⟩ := h
  refine wpAny_Call_Name_kw (ld_glob I hg hm ?_ hdb)
  refine PySem.W.callWith_K (h₀ := X.base) I.ok.mod.kin hk (thn (ha.pa.run pos pins s σ H _ I ⟨ρ, st, R, Out.go q (fun ds st1 q1 vs ρ1 H1 e1 R1 rs => (⟨ρ1, st1, ds, e1, R1, rs, q1⟩ :
    ∃ ρ1 st1 ds, Ext ρ ρ1 ∧ SR S ρ1 H1 σ st1 ∧ Paired (Rep S.G ρ1) vs ds ∧ (callM m ds st1).sat (fun d st' => ∀ v ρ' H', Ext ρ ρ' → SR S ρ' H' σ st' → Rep S.G ρ' v d → Q v H') (WantX S ρ σ))) fun _ _ h => h⟩) fun us s1 ⟨vs, H1, I1, r, ρ1, st1, ds, e1, R1, rs, q1⟩ => ⟨I1.kIn, ?_⟩) he hpl
  exact run_D F hr tk I1 r e1 R1 rs q1
end
end B
end
section
set_option maxRecDepth 100000
set_option maxHeartbeats 4000000
namespace B
open PySem L2
open PyProof.Rows (envOfC)
theorem getD_set {σ : L2.St} {i j : Nat} {v : Option V} : (σ.set i v).getD j none = if j = i ∧ i < σ.length then v else σ.getD j none := by
  rw [List.getD_eq_getElem?_getD, List.getD_eq_getElem?_getD]
  by_cases h : j = i
  · subst h
    by_cases hl : j < σ.length
    · rw [List.getElem?_set_self hl, if_pos ⟨rfl, hl⟩]; rfl
    · rw [if_neg (fun q => hl q.2), List.getElem?_eq_none (by rw [List.length_set]; omega), List.getElem?_eq_none (by omega)]
  · rw [if_neg (fun q => h q.1), List.getElem?_set_ne (Ne.symm h)]
theorem get_set {sl : List Slot} {i j : Nat} {x y : Slot} (h : (sl.set i x)[j]? = some y) : (j = i ∧ i < sl.length ∧ y = x) ∨ (j ≠ i ∧ sl[j]? = some y) := by
  by_cases q : j = i
  · subst q
    by_cases hl : j < sl.length
    · rw [List.getElem?_set_self hl] at h; cases h; exact .inl ⟨rfl, hl, rfl⟩
    · rw [List.getElem?_eq_none (by rw [List.length_set]; omega)] at h; cases h
  · rw [List.getElem?_set_ne (Ne.symm q)] at h; exact .inr ⟨q, h⟩
section
variable {S : Ss} {ρ : Fz} {H : Hp} {σ : L2.St} {st : DS} {i : Nat}
theorem SR.set {v : V} {d : Dt} (R : SR S ρ H σ st) (r : Rep S.G ρ v d) : SR S ρ H (σ.set i (some v)) { st with sl := st.sl.set i (.shr d) } where
  stp := R.stp
  len := by show (σ.set i (some v)).length = (st.sl.set i (.shr d)).length; rw [List.length_set, List.length_set]; exact R.len
  sl := fun j s e => by
    rw [getD_set]
    rcases get_set e with ⟨rfl, hl, rfl⟩ | ⟨h, e⟩
    · rw [if_pos ⟨rfl, by rw [R.len]; exact hl⟩]; exact ⟨v, rfl, r⟩
    · rw [if_neg (fun q => h q.1)]; exact R.sl j s e
  dis := fun j k d' e' p h1 h2 h3 h4 => by
    rcases get_set h1 with ⟨_, _, z⟩ | ⟨n1, h1⟩
    · cases z
    rcases get_set h2 with ⟨_, _, z⟩ | ⟨n2, h2⟩
    · cases z
    rw [getD_set, if_neg (fun q => n1 q.1)] at h3
    rw [getD_set, if_neg (fun q => n2 q.1)] at h4
    exact R.dis j k _ _ p h1 h2 h3 h4
  ex := fun p o m => by
    obtain ⟨g1, g2, g3, g4, g5⟩ := R.ex p o m
    refine ⟨g1, g2, g3, g4, fun j d' h => ?_⟩
    rcases get_set h with ⟨_, _, z⟩ | ⟨n1, h⟩
    · cases z
    rw [getD_set, if_neg (fun q => n1 q.1)]
    exact g5 j d' h
theorem SR.setO {p : Addr} {o : HO} {d : Dt} (R : SR S ρ H σ st) (n : NewO S ρ H σ st p o d) : SR S ρ H (σ.set i (some (.ref p))) { st with sl := st.sl.set i (.own d) } where
  stp := R.stp
  len := by show (σ.set i _).length = (st.sl.set i (.own d)).length; rw [List.length_set, List.length_set]; exact R.len
  sl := fun j s e => by
    rw [getD_set]
    rcases get_set e with ⟨rfl, hl, rfl⟩ | ⟨h, e⟩
    · rw [if_pos ⟨rfl, by rw [R.len]; exact hl⟩]; exact ⟨p, o, rfl, n.h0, n.hF, n.io, n.hp, n.r⟩
    · rw [if_neg (fun q => h q.1)]; exact R.sl j s e
  dis := fun j k d' e' p' h1 h2 h3 h4 => by
    rcases get_set h1 with ⟨ej, hl, z⟩ | ⟨n1, g1⟩
    · rcases get_set h2 with ⟨ek, _, _⟩ | ⟨n2, g2⟩
      · rw [ej, ek]
      · rw [getD_set, if_pos ⟨ej, by rw [R.len]; exact hl⟩] at h3
        rw [getD_set, if_neg (fun q => n2 q.1)] at h4
        cases h3
        exact absurd h4 (n.dis k _ g2)
    · rw [getD_set, if_neg (fun q => n1 q.1)] at h3
      rcases get_set h2 with ⟨ek, hl, _⟩ | ⟨n2, g2⟩
      · rw [getD_set, if_pos ⟨ek, by rw [R.len]; exact hl⟩] at h4
        cases h4
        exact absurd h3 (n.dis j _ g1)
      · rw [getD_set, if_neg (fun q => n2 q.1)] at h4
        exact R.dis j k _ _ p' g1 g2 h3 h4
  ex := fun q u m => by
    obtain ⟨g1, g2, g3, g4, g5⟩ := R.ex q u m
    refine ⟨g1, g2, g3, g4, fun j d' h => ?_⟩
    rcases get_set h with ⟨rfl, hl, _⟩ | ⟨n1, h⟩
    · rw [getD_set, if_pos ⟨rfl, by rw [R.len]; exact hl⟩]
      intro z
      cases z
      exact n.ex _ _ m rfl
    · rw [getD_set, if_neg (fun q => n1 q.1)]
      exact g5 j d' h
def wipeS (sl : List Slot) : List Nat → List Slot
  | [] => sl
  | v :: vs => (wipeS sl vs).set v .emp
theorem SR.emp1 (R : SR S ρ H σ st) (v : Option V) : SR S ρ H (σ.set i v) { st with sl := st.sl.set i .emp } where
  stp := R.stp
  len := by show (σ.set i _).length = (st.sl.set i .emp).length; rw [List.length_set, List.length_set]; exact R.len
  sl := fun j s e => by
    rw [getD_set]
    rcases get_set e with ⟨rfl, hl, rfl⟩ | ⟨h, e⟩
    · trivial
    · rw [if_neg (fun q => h q.1)]; exact R.sl j s e
  dis := fun j k d' e' p h1 h2 h3 h4 => by
    rcases get_set h1 with ⟨_, _, z⟩ | ⟨n1, h1⟩
    · cases z
    rcases get_set h2 with ⟨_, _, z⟩ | ⟨n2, h2⟩
    · cases z
    rw [getD_set, if_neg (fun q => n1 q.1)] at h3
    rw [getD_set, if_neg (fun q => n2 q.1)] at h4
    exact R.dis j k _ _ p h1 h2 h3 h4
  ex := fun p o m => by
    obtain ⟨g1, g2, g3, g4, g5⟩ := R.ex p o m
    refine ⟨g1, g2, g3, g4, fun j d' h => ?_⟩
    rcases get_set h with ⟨_, _, z⟩ | ⟨n1, h⟩
    · cases z
    rw [getD_set, if_neg (fun q => n1 q.1)]
    exact g5 j d' h
theorem set_same : ∀ (σ : L2.St) (i : Nat), σ.set i (σ.getD i none) = σ
  | [], _ => rfl
  | _ :: _, 0 => rfl
  | x :: σ, i + 1 => by show x :: σ.set i (σ.getD i none) = x :: σ; rw [set_same σ i]
theorem SR.emp (R : SR S ρ H σ st) : SR S ρ H σ { st with sl := st.sl.set i .emp } := by
  have z := R.emp1 (i := i) (σ.getD i none)
  rw [set_same] at z
  exact z
theorem SR.wipes (R : SR S ρ H σ st) : ∀ vs : List Nat, SR S ρ H σ { st with sl := wipeS st.sl vs }
  | [] => R
  | _ :: vs => (SR.wipes R vs).emp
theorem SR.wipeR (R : SR S ρ H σ st) : ∀ vs : List Nat, SR S ρ H (wipe σ vs) { st with sl := wipeS st.sl vs }
  | [] => R
  | _ :: vs => (SR.wipeR R vs).emp1 none
end
abbrev TgM := Dt → DS → Option DS
def Agree (idx : List Nat) (σ σ' : L2.St) : Prop := σ'.length = σ.length ∧ ∀ i, i ∉ idx → σ'.getD i none = σ.getD i none
theorem Agree.trans {a b : List Nat} {σ σ1 σ2 : L2.St} (x : Agree a σ σ1) (y : Agree b σ1 σ2) : Agree (a ++ b) σ σ2 :=
  ⟨y.1.trans x.1, fun i h => by rw [y.2 i (fun m => h (List.mem_append_right _ m)), x.2 i (fun m => h (List.mem_append_left _ m))]⟩
def tgD (S : Ss) (idx : List Nat) (f : TgM) : TG := fun v σ H Q => ∃ ρ st d st', SR S ρ H σ st ∧ Rep S.G ρ v d ∧ f d st = some st' ∧ ∀ σ' ρ' H', Agree idx σ σ' → Ext ρ ρ' → SR S ρ' H' σ' st' → Q σ' H'
def tgsD (S : Ss) (idx : List Nat) (f : List Dt → DS → Option DS) : TGs := fun vs σ H Q => ∃ ρ st ds st', SR S ρ H σ st ∧ Paired (Rep S.G ρ) vs ds ∧ f ds st = some st' ∧ ∀ σ' ρ' H', Agree idx σ σ' → Ext ρ ρ' → SR S ρ' H' σ' st' → Q σ' H'
structure PDG (X : Cx) (S : Ss) (e : Expr) (idx : List Nat) (f : TgM) : Prop where
  pg : PG X e (tgD S idx f)
structure PDGs (X : Cx) (S : Ss) (es : List Expr) (idx : List Nat) (f : List Dt → DS → Option DS) : Prop where
  pg : PGs X es (tgsD S idx f)
def tName (i : Nat) : TgM := fun d st => some { st with sl := st.sl.set i (.shr d) }
def tNil : List Dt → DS → Option DS
  | [], st => some st
  | _, _ => none
def tCons (f : TgM) (g : List Dt → DS → Option DS) : List Dt → DS → Option DS
  | d :: ds, st => (f d st).bind (g ds)
  | _, _ => none
def tTupT (n : Nat) (f : List Dt → DS → Option DS) : TgM
  | .tup ds, st => if ds.length = n then f ds st else none
  | _, _ => none
section
variable {X : Cx} {S : Ss} {e : Expr} {es : List Expr} {idx idx' : List Nat} {f : TgM} {g : List Dt → DS → Option DS}
theorem pg_imp {t u : TG} (h : PG X e t) (i : ∀ v σ H Q, u v σ H Q → t v σ H Q) : PG X e u := ⟨fun pins s σ H v u Q I r w => h.run pins s σ H v u Q I r (i _ _ _ _ w)⟩
theorem pgs_imp {t u : TGs} (h : PGs X es t) (i : ∀ v σ H Q, u v σ H Q → t v σ H Q) : PGs X es u := ⟨fun pins s σ H v u Q I r w => h.run pins s σ H v u Q I r (i _ _ _ _ w)⟩
theorem pdg_name {i : Nat} (h : PG X e (gName i)) : PDG X S e [i] (tName i) := by
  refine ⟨pg_imp h fun v σ H Q ⟨ρ, st, d, st', R, r, e, q⟩ => ?_⟩
  cases e
  exact q _ ρ H ⟨by rw [List.length_set], fun j m => by rw [getD_set, if_neg (fun z => m (by rw [z.1]; exact List.mem_singleton.mpr rfl))]⟩ (Ext.refl ρ) (R.set r)
theorem pdgs_nil : PDGs X S [] [] tNil := by
  refine ⟨pgs_imp pgs_nil fun vs σ H Q ⟨ρ, st, ds, st', R, r, e, q⟩ => ?_⟩
  cases ds with
  | nil => cases r; cases e; exact ⟨rfl, q σ ρ H ⟨rfl, fun _ _ => rfl⟩ (Ext.refl ρ) R⟩
  | cons _ _ => cases e
theorem pdgs_cons (h : PDG X S e idx f) (k : PDGs X S es idx' g) (hs : (assignEach (e :: es) X.env).map (·.2) = assign e X.env :: (assignEach es X.env).map (·.2) := by rfl) : PDGs X S (e :: es) (idx ++ idx') (tCons f g) := by
  refine ⟨pgs_imp (pgs_cons h.pg k.pg hs) fun vs σ H Q ⟨ρ, st, ds, st', R, r, e, q⟩ => ?_⟩
  cases ds with
  | nil => cases e
  | cons d ds =>
    cases r with
    | cons r rs =>
      have e2 : (f d st).bind (g ds) = some st' := e
      cases e1 : f d st with
      | none => rw [e1] at e2; cases e2
      | some st1 =>
        rw [e1] at e2
        exact ⟨_, _, rfl, ρ, st, d, st1, R, r, e1, fun σ1 ρ1 H1 a1 x1 R1 => ⟨ρ1, st1, ds, st', R1, rs.mp fun _ _ z => z.mono x1, e2, fun σ2 ρ2 H2 a2 x2 R2 => q σ2 ρ2 H2 (a1.trans a2) (x1.trans x2) R2⟩⟩
theorem pdg_tup {k : Nat} {pos : Pos} {n : Nat} (hk : S.G.K = X.K) (hc : X.calm = true) (h : PDGs X S es idx g) (hn : (assignEach es X.env).length = n := by rfl) (hst : (assignEach es X.env).findIdx? (·.1) = none := by rfl) : PDG X S (.Tuple es k pos) idx (tTupT n g) := by
  refine ⟨pg_imp (pg_tup hc h.pg hn hst) fun v σ H Q ⟨ρ, st, d, st', R, r, e, q⟩ => ?_⟩
  cases d with
  | tup ds =>
    obtain ⟨a, vs, ev, s, p⟩ := r.out
    have e2 : (if ds.length = n then g ds st else none) = some st' := e
    split at e2
    · rename_i hl
      refine ⟨a, vs, ev, ?_, by rw [p.length]; exact hl, ρ, st, ds, st', R, p, e2, q⟩
      exact .inl (.inl (R.cov.F _ _ s))
    · cases e2
  | _ => cases e
end
section
variable {X : Cx} {S : Ss} {tg e : Expr} {idx : List Nat} {f : TgM} {fa : M Dt} {pos : Pos}
def sAsg (fa : M Dt) (f : TgM) : MS := fun st => (fa st).toS fun d st1 => match f d st1 with
  | some st2 => .nx st2
  | none => .stuck
def sSet (i : Nat) (fa : M Dt) : MS := fun st => (fa st).toS fun d st1 => .nx { st1 with sl := st1.sl.set i (.shr d) }
def sOwn (i : Nat) (fa : M Dt) : MS := fun st => (fa st).toS fun d st1 => .nx { st1 with sl := st1.sl.set i (.own d) }
theorem asg_te {D : Ends} {σ : L2.St} {H : Hp} (h : tsD S (sAsg fa f) D σ H) : tAsg (teD S fa) (tgD S idx f) D σ H := by
  obtain ⟨ρ, st, R, q⟩ := h
  refine ⟨ρ, st, R, Out.sat_mono (toS_sat (σ := σ) q) (fun d st1 q1 v ρ1 H1 e1 R1 r1 => ?_) fun _ _ h => h⟩
  cases e : f d st1 with
  | none => rw [e] at q1; exact q1.elim
  | some st2 => rw [e] at q1; exact ⟨ρ1, st1, d, st2, R1, r1, e, fun σ' ρ2 H2 _ x2 R' => q1 σ' ρ2 H2 (e1.trans x2) R'⟩
theorem pds_asg (he : PD X S e fa) (hg : PDG X S tg idx f) (hs : swapsWithSole [tg] e pos.line X.env = pure false := by rfl) (hw : swappedStores [tg] e X.env = pure none := by rfl)
    (h1 : (assignEach [tg] X.env).map (·.2) = [assign tg X.env] := by rfl) : PDS X S (.Assign [tg] e pos) (sAsg fa f) := ⟨ps_imp (ps_asg he.pe hg.pg hs hw h1) fun _ _ _ h => asg_te h⟩
theorem pds_set {i : Nat} {s : Stmt} (h : PS X s (tAsg (teD S fa) (gName i))) : PDS X S s (sSet i fa) :=
  ⟨ps_imp h fun D σ H ⟨ρ, st, R, q⟩ => ⟨ρ, st, R, Out.sat_mono (toS_sat (σ := σ) q) (fun d st1 q1 v ρ1 H1 e1 R1 r1 => q1 _ ρ1 H1 e1 (R1.set r1)) fun _ _ h => h⟩⟩
theorem pds_own {i : Nat} {s : Stmt} (h : PS X s (tAsg (teO S fa) (gName i))) : PDS X S s (sOwn i fa) :=
  ⟨ps_imp h fun D σ H ⟨ρ, st, R, q⟩ => ⟨ρ, st, R, Out.sat_mono (toS_sat (σ := σ) q) (fun d st1 q1 p o ρ1 H1 e1 R1 n1 => q1 _ ρ1 H1 e1 (R1.setO n1)) fun _ _ h => h⟩⟩
end
structure ItD (G : Cfg) (J : It) (ρ : Fz) (ds : List Dt) : Prop where
  go : ∀ ρ' w H i, Ext ρ ρ' → Cov G ρ' w H → i < ds.length → J.go i H
  stop : ∀ ρ' w H i, Ext ρ ρ' → Cov G ρ' w H → ds.length ≤ i → J.stop i H
  yld : ∀ ρ' w H i x H' d, Ext ρ ρ' → Cov G ρ' w H → ds[i]? = some d → J.yld i H x H' → ∃ ρ2, Stp G ρ' H ρ2 w H' ∧ Rep G ρ2 x d
def tiD (S : Ss) (f : M (List Dt)) : TI := fun σ H R => ∃ ρ st, SR S ρ H σ st ∧ (f st).sat (fun ds st' => ∀ J ρ' H', Ext ρ ρ' → SR S ρ' H' σ st' → ItD S.G J ρ' ds → R J H') (WantX S ρ σ)
structure PDI (X : Cx) (S : Ss) (tg e : Expr) (f : M (List Dt)) : Prop where
  pi : PI X tg e (tiD S f)
theorem pi_imp {X : Cx} {tg e : Expr} {t u : TI} (h : PI X tg e t) (i : ∀ σ H R, u σ H R → t σ H R) : PI X tg e u := ⟨fun pins s σ H R I w => h.run pins s σ H R I (i _ _ _ w)⟩
def SOut.loop (o : SOut) (next : MS) : SOut := match o with
  | .nx st => next st
  | .ct st => next st
  | .bk st => .nx st
  | o => o
theorem loop_sat {S : Ss} {ρ1 ρ3 : Fz} {D : Ends} {o : SOut} {next : MS} {N : L2.St → Hp → Prop} (e13 : Ext ρ1 ρ3) (h : (o.loop next).sat (wantD S ρ1 D))
    (hn : ∀ st σ ρ H, (next st).sat (wantD S ρ1 D) → Ext ρ3 ρ → SR S ρ H σ st → N σ H) : o.sat (wantD S ρ3 { D with nx := N, ct := N, bk := D.nx }) := by
  cases o with
  | nx st => exact fun σ ρ H e R => hn st σ ρ H h e R
  | ct st => exact fun σ ρ H e R => hn st σ ρ H h e R
  | bk st => exact fun σ ρ H e R => h σ ρ H (e13.trans e) R
  | ret d st => exact fun v σ ρ H e R => h v σ ρ H (e13.trans e) R
  | exc x st => exact fun c dd σ ρ H e R => h c dd σ ρ H (e13.trans e) R
  | stuck => exact h
def forGo (cl : List Nat) (tg : TgM) (body : MS) : List Dt → MS
  | [], st => .nx { st with sl := wipeS st.sl cl }
  | d :: ds, st => match tg d { st with sl := wipeS st.sl cl } with
    | none => .stuck
    | some st1 => (body st1).loop (forGo cl tg body ds)
def sFor (cl : List Nat) (it : M (List Dt)) (tg : TgM) (body : MS) : MS := fun st => (it st).toS (forGo cl tg body)
section
variable {X : Cx} {S : Ss} {tg iter : Expr} {idx : List Nat} {f : TgM} {it : M (List Dt)} {body : List Stmt} {fb : MS} {pos : Pos}
theorem pds_for (cl : List Nat) (hp : PassesOwn (model X.prog X.w) X.A X.env X.xe) (hc : X.calm = true) (hi : PDI X S tg iter it) (hg : PDG X S tg idx f) (hb : PDB X S body fb) (hs : ∀ x, foldedSetIterable iter X.env x = pure x := by intro _; rfl) :
    PDS X S (.For tg iter body [] pos) (sFor cl it f fb) := by
  refine ⟨ps_imp (ps_for hp hc hi.pi hg.pg hb.ps hs) fun D σ H ⟨ρ, st, R, q⟩ => ⟨ρ, st, R, Out.sat_mono (toS_sat (σ := σ) q) (fun ds st1 q1 J ρ1 H1 e1 R1 I1 => ?_) fun _ _ h => h⟩⟩
  refine ⟨fun i m σ' H' => m = ds.length - i ∧ i ≤ ds.length ∧ ∃ ρ' st', Ext ρ1 ρ' ∧ SR S ρ' H' σ' st' ∧ (forGo cl f fb (ds.drop i) st').sat (wantD S ρ1 D), ⟨_, rfl, Nat.zero_le _, ρ1, st1, Ext.refl ρ1, R1, wantD_mono e1 q1⟩, ?_⟩
  rintro i m σ2 H2 ⟨rfl, hi, ρ2, st2, e2, R2, q2⟩
  by_cases hlt : i < ds.length
  · refine .inr ⟨I1.go ρ2 st2.w H2 i e2 R2.cov hlt, _, fun σ' H' n => ⟨ds.length - (i + 1), by omega, n⟩, fun x H3 y => ?_⟩
    obtain ⟨ρ3, s3, r3⟩ := I1.yld ρ2 st2.w H2 i x H3 ds[i] e2 R2.cov (List.getElem?_eq_getElem hlt) y
    have R3 := (R2.step s3).wipes cl
    rw [List.drop_eq_getElem_cons hlt] at q2
    unfold forGo at q2
    cases et : f ds[i] { st2 with sl := wipeS st2.sl cl } with
    | none => rw [et] at q2; exact q2.elim
    | some st4 =>
      rw [et] at q2
      refine ⟨ρ3, _, ds[i], st4, R3, r3, et, fun σ4 ρ4 H4 _ x4 R4 => ⟨ρ4, st4, R4, ?_⟩⟩
      have e13 : Ext ρ1 ρ4 := (e2.trans s3.ext).trans x4
      exact loop_sat e13 q2 fun st5 σ5 ρ5 H5 q5 e5 R5 => ⟨rfl, hlt, ρ5, st5, e13.trans e5, R5, q5⟩
  · have hd : ds.drop i = [] := List.drop_of_length_le (by omega)
    rw [hd] at q2
    exact .inl ⟨I1.stop ρ2 st2.w H2 i e2 R2.cov (by omega), q2 σ2 ρ2 H2 e2 (R2.wipes cl)⟩
end
def whileGo (cl : List Nat) (c : M Bool) (body : MS) : Nat → MS
  | 0, _ => .stuck
  | n + 1, st => (c { st with sl := wipeS st.sl cl }).toS fun b st1 => if b then (body st1).loop (whileGo cl c body n) else .nx st1
section
variable {X : Cx} {S : Ss} {c : Expr} {fc : M Bool} {body : List Stmt} {fb : MS} {pos : Pos}
theorem pds_while (cl : List Nat) (n : Nat) (hp : PassesOwn (model X.prog X.w) X.A X.env X.xe) (hc : PDT X S c fc) (hb : PDB X S body fb) : PDS X S (.While c body [] pos) (whileGo cl fc fb n) := by
  refine ⟨ps_imp (ps_while hp hc.pt hb.ps) fun D σ H ⟨ρ, st, R, q⟩ => ?_⟩
  refine ⟨fun m σ' H' => ∃ ρ' st', Ext ρ ρ' ∧ SR S ρ' H' σ' st' ∧ (whileGo cl fc fb m st').sat (wantD S ρ D), ⟨n, ρ, st, Ext.refl ρ, R, q⟩, ?_⟩
  rintro m σ1 H1 ⟨ρ1, st1, e1, R1, q1⟩
  cases m with
  | zero => exact q1.elim
  | succ m =>
    unfold whileGo at q1
    refine ⟨ρ1, _, R1.wipes cl, Out.sat_mono (toS_sat (σ := σ1) q1) (fun b st2 q2 ρ2 H2 e2 R2 => ?_) fun _ _ h => h.mono e1⟩
    cases b with
    | false => rw [if_neg Bool.false_ne_true] at q2 ⊢; exact q2 σ1 ρ2 H2 (e1.trans e2) R2
    | true =>
      rw [if_pos rfl] at q2 ⊢
      refine ⟨fun σ' H' => ∃ ρ' st', Ext ρ ρ' ∧ SR S ρ' H' σ' st' ∧ (whileGo cl fc fb m st').sat (wantD S ρ D), fun σ' H' n => ⟨m, Nat.lt_succ_self m, n⟩, ρ2, st2, R2, ?_⟩
      exact loop_sat (e1.trans e2) (o := fb st2) q2 fun st5 σ5 ρ5 H5 q5 e5 R5 => ⟨ρ5, st5, (e1.trans e2).trans e5, R5, q5⟩
end
end B
end
section
set_option maxRecDepth 100000
set_option maxHeartbeats 4000000
namespace B
open PySem L2
open PyProof.Rows (envOfC)
theorem wipe_get {σ : L2.St} {i : Nat} : ∀ {vs : List Nat}, (wipe σ vs).getD i none = if i ∈ vs then none else σ.getD i none
  | [] => by rw [if_neg (by simp)]; rfl
  | v :: vs => by
    show ((wipe σ vs).set v none).getD i none = _
    rw [getD_set, wipe_get]
    by_cases h : i = v
    · subst h
      by_cases hl : i < (wipe σ vs).length
      · rw [if_pos ⟨rfl, hl⟩, if_pos List.mem_cons_self]
      · rw [if_neg (fun q => hl q.2), if_pos List.mem_cons_self]
        split
        · rfl
        · rw [wipe_length] at hl
          rw [List.getD_eq_getElem?_getD, List.getElem?_eq_none (by omega)]; rfl
    · rw [if_neg (fun q => h q.1)]
      by_cases m : i ∈ vs
      · rw [if_pos m, if_pos (List.mem_cons_of_mem _ m)]
      · rw [if_neg m, if_neg (fun q => (List.mem_cons.mp q).elim h m)]
theorem st_ext : ∀ {σ σ' : L2.St}, σ.length = σ'.length → (∀ i, σ.getD i none = σ'.getD i none) → σ = σ'
  | [], [], _, _ => rfl
  | x :: σ, y :: σ', hl, h => by
    have h0 : x = y := h 0
    rw [h0, st_ext (σ := σ) (σ' := σ') (Nat.succ.inj hl) fun i => h (i + 1)]
theorem wipe_eq {σ σ2 : L2.St} {idx vs : List Nat} (a : Agree idx (wipe σ vs) σ2) (h : ∀ i ∈ idx, i ∈ vs) : wipe σ2 vs = wipe σ vs := by
  refine st_ext (by rw [wipe_length, wipe_length, a.1, wipe_length]) fun i => ?_
  rw [wipe_get, wipe_get]
  split
  · rfl
  · rename_i m
    rw [a.2 i (fun q => m (h i q)), wipe_get, if_neg m]
def shrOf : Option Slot → Slot
  | some (.shr d) => .shr d
  | _ => .emp
def restore (sl1 sl : List Slot) : List Nat → List Slot
  | [] => sl
  | v :: vs => (restore sl1 sl vs).set v (shrOf sl1[v]?)
theorem restore_length {sl1 sl : List Slot} : ∀ {vs : List Nat}, (restore sl1 sl vs).length = sl.length
  | [] => rfl
  | v :: vs => by unfold restore; rw [List.length_set, restore_length]
theorem restore_get {sl1 sl : List Slot} {i : Nat} {s : Slot} : ∀ {vs : List Nat}, (restore sl1 sl vs)[i]? = some s → (i ∈ vs ∧ s = shrOf sl1[i]?) ∨ (i ∉ vs ∧ sl[i]? = some s)
  | [], h => .inr ⟨by simp, h⟩
  | v :: vs, h => by
    rcases get_set h with ⟨rfl, _, e⟩ | ⟨n, h⟩
    · exact .inl ⟨List.mem_cons_self, e⟩
    · rcases restore_get h with ⟨m, e⟩ | ⟨m, e⟩
      · exact .inl ⟨List.mem_cons_of_mem _ m, e⟩
      · exact .inr ⟨fun q => (List.mem_cons.mp q).elim n m, e⟩
theorem wipeS_get {sl : List Slot} {i : Nat} {s : Slot} : ∀ {vs : List Nat}, i ∉ vs → sl[i]? = some s → (wipeS sl vs)[i]? = some s
  | [], _, h => h
  | v :: vs, m, h => by
    show ((wipeS sl vs).set v .emp)[i]? = _
    rw [List.getElem?_set_ne (fun q => m (by rw [q]; exact List.mem_cons_self))]
    exact wipeS_get (fun q => m (List.mem_cons_of_mem _ q)) h
abbrev Ss.inn (S : Ss) (x : Addr × HO) : Ss := { S with W := fun _ _ _ _ => False, X := x :: S.X }
section
variable {S : Ss} {ρ ρ' : Fz} {H H' : Hp} {σ : L2.St} {st : DS}
theorem SR.inn (R : SR S ρ H σ st) {D : Addr} {o : HO} (hD : H D = none) (ho : ∀ xs, o ≠ .tup xs) : SR (S.inn (D, o)) ρ (upd H D o) σ st := by
  have R1 := R.add (o := o) hD
  have c := R.cov
  refine ⟨R1.stp, R1.len, R1.sl, R1.dis, fun p u m => ?_⟩
  rcases List.mem_cons.mp m with e | m
  · cases e
    refine ⟨upd_same, ?_, fun q => ?_, ⟨?_, ho⟩, fun i d h q => ?_⟩
    · cases e : ρ.F D with
      | none => rfl
      | some u => rw [c.F D u e] at hD; cases hD
    · obtain ⟨u, e⟩ := c.there q; rw [hD] at e; cases e
    · cases e : S.H0 D with
      | none => rfl
      | some u => obtain ⟨u', h'⟩ := R.stp.there e; rw [hD] at h'; cases h'
    · obtain ⟨p2, o2, e2, _, _, _, gp, _⟩ := R.sl i _ h
      rw [q] at e2; cases e2
      rw [hD] at gp; cases gp
  · exact R1.ex p u m
theorem SR.chg {D : Addr} {o o' : HO} (R : SR (S.inn (D, o)) ρ H σ st) (ho : ∀ xs, o' ≠ .tup xs) (nX : ∀ u, (D, u) ∉ S.X) : SR (S.inn (D, o')) ρ (upd H D o') σ st := by
  obtain ⟨g1, g2, g3, g4, g5⟩ := R.ex D o List.mem_cons_self
  have c := R.cov
  refine ⟨⟨R.stp.ext, ⟨fun a u h => ?_, c.len, fun n a d h1 h2 => ?_, c.nd, c.tb.move (fun _ _ h => h) (fun _ _ => rfl) (fun _ _ z => z) fun q m => upd_ne (R.stp.ntb g4.1 q m)⟩, fun a u h m t => ?_, R.stp.new, R.stp.nio, R.stp.tb⟩, R.len, fun j x ej => ?_, R.dis, fun p u m => ?_⟩
  · have ne : a ≠ D := fun q => by rw [q, g2] at h; cases h
    rw [upd_ne ne]; exact c.F a u h
  · obtain ⟨n1, u, h3, h4⟩ := c.wo n a d h1 h2
    have ne : a ≠ D := fun q => g3 (q ▸ List.mem_of_getElem? h1)
    exact ⟨n1, u, by rw [upd_ne ne]; exact h3, h4⟩
  · have ne : a ≠ D := ne_of_none h g4.1
    rw [upd_ne ne]; exact R.stp.keep a u h m t
  · have k := R.sl j x ej
    cases x with
    | emp => trivial
    | shr d => exact k
    | own d =>
      obtain ⟨p2, o2, e2, k0, kF, kio, kp, r2⟩ := k
      have ne : p2 ≠ D := fun q => g5 j d ej (q ▸ e2)
      exact ⟨p2, o2, e2, k0, kF, kio, by rw [upd_ne ne]; exact kp, r2⟩
  · rcases List.mem_cons.mp m with e | m
    · cases e; exact ⟨upd_same, g2, g3, ⟨g4.1, ho⟩, g5⟩
    · obtain ⟨k1, k⟩ := R.ex p u (List.mem_cons_of_mem _ m)
      have ne : p ≠ D := fun q => nX u (q ▸ m)
      exact ⟨by rw [upd_ne ne]; exact k1, k⟩
theorem SR.out {D : Addr} {o : HO} {vs : List Nat} {st1 : DS} {d : Dt} (R1 : SR S ρ H σ st1) (R : SR (S.inn (D, o)) ρ' H' (wipe σ vs) { st with sl := wipeS st.sl vs }) (e : Ext ρ ρ') (nX : ∀ u, (D, u) ∉ S.X) (r : OwnS S.G ρ' o d) :
    SR S ρ' H' σ { st with sl := restore st1.sl st.sl vs } ∧ NewO S ρ' H' σ { st with sl := restore st1.sl st.sl vs } D o d := by
  have wl : ∀ vs : List Nat, (wipeS st.sl vs).length = st.sl.length := fun vs => by
    induction vs with
    | nil => rfl
    | cons v vs ih => show ((wipeS st.sl vs).set v .emp).length = _; rw [List.length_set, ih]
  have back : ∀ (i : Nat) d, (restore st1.sl st.sl vs)[i]? = some (.own d) → (wipeS st.sl vs)[i]? = some (.own d) ∧ σ.getD i none = (wipe σ vs).getD i none := fun i d h => by
    rcases restore_get h with ⟨_, z⟩ | ⟨m, z⟩
    · exfalso
      unfold shrOf at z
      split at z <;> cases z
    · exact ⟨wipeS_get m z, by rw [wipe_get, if_neg m]⟩
  obtain ⟨g1, g2, g3, g4, g5⟩ := R.ex D o List.mem_cons_self
  refine ⟨⟨R.stp, ?_, fun i s h => ?_, fun i j d e p h1 h2 h3 h4 => ?_, fun p u m => ?_⟩, ⟨g4.1, g2, g3, g1, r, fun i e h => ?_, fun q u m z => nX u (z ▸ m)⟩⟩
  · show σ.length = (restore st1.sl st.sl vs).length
    rw [restore_length]
    have z := R.len
    rw [wipe_length] at z
    rw [z]; exact wl vs
  · rcases restore_get h with ⟨m, z⟩ | ⟨m, z⟩
    · rw [z]
      unfold shrOf
      split
      · rename_i d h1
        obtain ⟨u, h2, h3⟩ := R1.sl i _ h1
        exact ⟨u, h2, h3.mono e⟩
      · trivial
    · have k := R.sl i s (wipeS_get m z)
      rw [wipe_get, if_neg m] at k
      exact k
  · obtain ⟨a1, a2⟩ := back i d h1
    obtain ⟨b1, b2⟩ := back j e h2
    exact R.dis i j d e p a1 b1 (a2 ▸ h3) (b2 ▸ h4)
  · obtain ⟨k1, k2, k3, k4, k5⟩ := R.ex p u (List.mem_cons_of_mem _ m)
    refine ⟨k1, k2, k3, k4, fun i d h => ?_⟩
    obtain ⟨a1, a2⟩ := back i d h
    rw [a2]
    exact k5 i d a1
  · obtain ⟨a1, a2⟩ := back i e h
    rw [a2]
    exact g5 i e a1
end
structure PDTs (X : Cx) (S : Ss) (ifs : List Expr) (f : M Bool) : Prop where
  pt : PTs X ifs (ttD S f)
def mYes : M Bool := fun st => .ok true st
theorem pts_imp {X : Cx} {ifs : List Expr} {t u : TT} (h : PTs X ifs t) (i : ∀ σ H Q, u σ H Q → t σ H Q) : PTs X ifs u := ⟨fun pins s σ H Q I w => h.run pins s σ H Q I (i _ _ _ w)⟩
theorem pdts_nil {X : Cx} {S : Ss} : PDTs X S [] mYes := ⟨pts_imp pts_nil fun σ H Q ⟨ρ, st, R, q⟩ => q ρ H (Ext.refl ρ) R⟩
theorem pdts_one {X : Cx} {S : Ss} {c : Expr} {f : M Bool} (h : PDT X S c f) : PDTs X S [c] f := ⟨pts_one h.pt⟩
def lcGo (vs : List Nat) (tg : TgM) (tt : M Bool) (te : M Dt) : List Dt → List Dt → DS → Out (List Dt)
  | [], acc, st => .ok acc st
  | d :: ds, acc, st => match tg d { st with sl := wipeS st.sl vs } with
    | none => .stuck
    | some st1 => match tt st1 with
      | .ok true st2 => match te st2 with
        | .ok y st3 => if acc.length < LIM then lcGo vs tg tt te ds (acc ++ [y]) st3 else .stuck
        | _ => .stuck
      | .ok false st2 => lcGo vs tg tt te ds acc st2
      | _ => .stuck
def mLc (vs : List Nat) (it : M (List Dt)) (tg : TgM) (tt : M Bool) (te : M Dt) : M Dt := fun st => (it st).bind fun ds st1 => (lcGo vs tg tt te ds [] st1).bind fun ys st2 => .ok (.lst ys) { st2 with sl := restore st1.sl st2.sl vs }
theorem pe_any {X : Cx} {e : Expr} {α : Type} {t : α → TE} (h : ∀ x, PE X e (t x)) : PE X e (fun σ H Q => ∃ x, t x σ H Q) := ⟨fun pins s σ H Q I ⟨x, w⟩ => (h x).run pins s σ H Q I w⟩
theorem pts_any {X : Cx} {e : List Expr} {α : Type} {t : α → TT} (h : ∀ x, PTs X e (t x)) : PTs X e (fun σ H Q => ∃ x, t x σ H Q) := ⟨fun pins s σ H Q I ⟨x, w⟩ => (h x).run pins s σ H Q I w⟩
theorem pg_any {X : Cx} {e : Expr} {α : Type} {t : α → TG} (h : ∀ x, PG X e (t x)) : PG X e (fun v σ H Q => ∃ x, t x v σ H Q) := ⟨fun pins s σ H v u Q I r ⟨x, w⟩ => (h x).run pins s σ H v u Q I r w⟩
abbrev gAny (S : Ss) (idx : List Nat) (f : TgM) : TG := fun v σ H Q => ∃ x : Addr × HO, tgD (S.inn x) idx f v σ H Q
abbrev tAny (S : Ss) (f : M Bool) : TT := fun σ H Q => ∃ x : Addr × HO, ttD (S.inn x) f σ H Q
abbrev eAny (S : Ss) (f : M Dt) : TE := fun σ H Q => ∃ x : Addr × HO, teD (S.inn x) f σ H Q
section
variable {X : Cx} {S : Ss} {elt tg iter : Expr} {ifs : List Expr} {scope : Scope} {own : List (Str × Nat)} {pos : Pos} {it : M (List Dt)} {idx : List Nat} {f : TgM} {ft : M Bool} {fe : M Dt}
theorem lc_te {vs : List Nat} (hv : ∀ i ∈ idx, i ∈ vs) {σ : L2.St} {H : Hp} {Q : VK} (h : teO S (mLc vs it f ft fe) σ H Q) : tLc (tiD S it) (gAny S idx f) (tAny S ft) (eAny S fe) vs σ H Q := by
  obtain ⟨ρ, st, R, q⟩ := h
  refine ⟨ρ, st, R, Out.go q (fun ds st1 q1 J ρ1 H1 e1 R1 I1 D hD => ?_) fun _ _ h => h⟩
  have nX : ∀ u, (D, u) ∉ S.X := fun u m => by rw [(R1.ex D u m).1] at hD; cases hD
  refine ⟨fun i m H' => m = ds.length - i ∧ i ≤ ds.length ∧ ∃ ρ' st' acc ac, Ext ρ1 ρ' ∧ SR (S.inn (D, .lst acc)) ρ' H' (wipe σ vs) { st' with sl := wipeS st'.sl vs } ∧ Paired (Rep S.G ρ') acc ac ∧
    ((lcGo vs f ft fe (ds.drop i) ac st').bind fun ys st2 => Out.ok (Dt.lst ys) { st2 with sl := restore st1.sl st2.sl vs }).sat (fun d st' => ∀ p o ρ' H', Ext ρ ρ' → SR S ρ' H' σ st' → NewO S ρ' H' σ st' p o d → Q (.ref p) H') (WantX S ρ σ),
    ⟨_, rfl, Nat.zero_le _, ρ1, st1, [], [], Ext.refl ρ1, (R1.inn hD (fun _ q => by cases q)).wipeR vs, .nil, q1⟩, ?_⟩
  rintro i m H2 ⟨rfl, hi, ρ2, st2, acc, ac, e2, R2, ra, q2⟩
  by_cases hlt : i < ds.length
  · refine .inr ⟨I1.go ρ2 _ H2 i e2 R2.cov hlt, _, fun H' n => ⟨ds.length - (i + 1), by omega, n⟩, fun x H3 y => ?_⟩
    obtain ⟨ρ3, s3, r3⟩ := I1.yld ρ2 _ H2 i x H3 ds[i] e2 R2.cov (List.getElem?_eq_getElem hlt) y
    have R3 := R2.step s3
    rw [List.drop_eq_getElem_cons hlt] at q2
    unfold lcGo at q2
    cases et : f ds[i] { st2 with sl := wipeS st2.sl vs } with
    | none => rw [et] at q2; exact q2.elim
    | some st4 =>
      rw [et] at q2
      refine ⟨(D, .lst acc), ρ3, _, ds[i], st4, R3, r3, et, fun σ4 ρ4 H4 a4 x4 R4 => ⟨wipe_eq a4 hv, (D, .lst acc), ρ4, st4, R4, ?_⟩⟩
      have s34 : Ext ρ2 ρ4 := s3.ext.trans x4
      dsimp only at q2
      cases eb : ft st4 with
      | exc _ _ => rw [eb] at q2; exact q2.elim
      | stuck => rw [eb] at q2; exact q2.elim
      | ok b st5 =>
        rw [eb] at q2
        intro ρ5 H5 e5 R5
        cases b with
        | false =>
          rw [if_neg Bool.false_ne_true]
          refine ⟨rfl, hlt, ρ5, st5, acc, ac, (e2.trans s34).trans e5, ?_, ra.mp fun _ _ z => z.mono (s34.trans e5), q2⟩
          have z := R5.wipeR vs
          rw [wipe_eq a4 hv] at z
          exact z
        | true =>
          rw [if_pos rfl]
          refine ⟨(D, .lst acc), ρ5, st5, R5, ?_⟩
          dsimp only at q2
          cases ee : fe st5 with
          | exc _ _ => rw [ee] at q2; exact q2.elim
          | stuck => rw [ee] at q2; exact q2.elim
          | ok z st6 =>
            rw [ee] at q2
            intro v ρ6 H6 e6 R6 r6
            dsimp only at q2
            split at q2
            · rename_i hz
              refine ⟨acc, (R6.ex D _ List.mem_cons_self).1, lim_lt (by rw [ra.length]; exact hz), rfl, hlt, ρ6, st6, acc ++ [v], ac ++ [z], ((e2.trans s34).trans e5).trans e6, ?_, (ra.mp fun _ _ z => z.mono ((s34.trans e5).trans e6)).snoc r6, q2⟩
              have w := (R6.chg (o' := .lst (acc ++ [v])) (fun _ q => by cases q) nX).wipeR vs
              rw [wipe_eq a4 hv] at w
              exact w
            · exact q2.elim
  · have hd : ds.drop i = [] := List.drop_of_length_le (by omega)
    rw [hd] at q2
    obtain ⟨Ro, no⟩ := SR.out (d := .lst ac) R1 R2 e2 nX ⟨acc, rfl, ra⟩
    exact .inl ⟨I1.stop ρ2 _ H2 i e2 R2.cov (by omega), q2 D (.lst acc) ρ2 H2 (e1.trans e2) Ro no⟩
abbrev CB (X : Cx) (scope : Scope) (P : Cx → Prop) : Prop := ∀ (s : Shared) (H : Hp) (C : Addr) (cl : List (Str × Addr)) (fp : List Addr), P (X.blk s H scope (compEnvC scope cl C X.env) fp)
theorem po_lc (hc : X.calm = true) (hN : X.N.Nodup) (hi : PDI X S tg iter it) (ok : BlkOk X.N X.env.scope scope own) (hg : CB X scope fun Y => ∀ x, PDG Y (S.inn x) tg idx f) (ht : CB X scope fun Y => ∀ x, PDTs Y (S.inn x) ifs ft)
    (he : CB X scope fun Y => ∀ x, PD Y (S.inn x) elt fe) (hv : ∀ i ∈ idx, i ∈ own.map (·.2) := by decide) (hs : ∀ x, foldedSetIterable iter X.env x = pure x := by intro _; rfl) :
    PO X S (.ListComp elt [⟨tg, iter, ifs, 0⟩] scope pos) (mLc (own.map (·.2)) it f ft fe) :=
  ⟨pe_imp (pe_lc hc hN hi.pi ok (fun s H C cl fp => pg_any fun x => (hg s H C cl fp x).pg) (fun s H C cl fp => pts_any fun x => (ht s H C cl fp x).pt) (fun s H C cl fp => pe_any fun x => (he s H C cl fp x).pe) hs) fun _ _ _ h => lc_te hv h⟩
end
end B
end
section
set_option maxRecDepth 100000
set_option maxHeartbeats 4000000
namespace B
open PySem L2
open PyProof.Rows (envOfC)
section
variable {G : Cfg} {ρ : Fz} {w : Wd} {H : Hp} {v : V}
theorem Rep.int {i : Int} (h : Rep G ρ v (.int i)) : v = .int i := h.out
theorem Rep.str {i : Str} (h : Rep G ρ v (.str i)) : v = .str i := h.out
theorem Rep.bl {i : Bool} (h : Rep G ρ v (.bl i)) : v = .bl i := h.out
theorem Rep.non (h : Rep G ρ v .non) : v = .non := h.out
theorem Rep.ty {n : String} (h : Rep G ρ v (.ty n)) : v = .ty n := h.out
theorem Rep.lst {ds : List Dt} (h : Rep G ρ v (.lst ds)) : ∃ a vs, v = .ref a ∧ ρ.F a = some (.lst vs) ∧ Paired (Rep G ρ) vs ds := h.out
theorem Rep.tupS {ds : List Dt} (h : Rep G ρ v (.tup ds)) : ∃ a vs, v = .ref a ∧ ρ.F a = some (.tup vs) ∧ Paired (Rep G ρ) vs ds := h.out
theorem Rep.tup {ds : List Dt} (h : Rep G ρ v (.tup ds)) : ∃ a vs, v = .ref a ∧ SqT G.K ρ.F a vs ∧ Paired (Rep G ρ) vs ds := let ⟨a, vs, e, f, p⟩ := h.tupS; ⟨a, vs, e, .inl (.inl f), p⟩
theorem Rep.frt {ds : List Dt} (h : Rep G ρ v (.frt ds)) : ∃ a vs, v = .ref a ∧ SqT G.K ρ.F a vs ∧ Paired (Rep G ρ) vs ds := let ⟨a, vs, ob, e, f, _, p⟩ := h.out; ⟨a, vs, e, .inl (.inr ⟨ob, f⟩), p⟩
theorem Rep.dic {kvs : List (Dt × Dt)} (h : Rep G ρ v (.dic kvs)) : ∃ a ob o, v = .ref a ∧ ρ.F a = some (.frz ob o) ∧ DicRep (Rep G ρ) o kvs := h.out
theorem Cov.st (c : Cov G ρ w H) {a : Addr} {vs : List V} (h : SqT G.K ρ.F a vs) : SqT G.K H a vs :=
  h.elim (fun s => .inl (s.elim (fun s => .inl (c.F _ _ s)) fun ⟨o, s⟩ => .inr ⟨o, c.F _ _ s⟩)) .inr
theorem strs_of : ∀ {vs : List V} {ns : List Str}, Paired (Rep G ρ) vs (ns.map Dt.str) → vs = ns.map V.str
  | _, [], .nil => rfl
  | _, n :: ns, .cons h t => by rw [h.str, strs_of t]; rfl
theorem bls_of : ∀ {vs : List V} {ns : List Bool}, Paired (Rep G ρ) vs (ns.map Dt.bl) → vs = ns.map V.bl
  | _, [], .nil => rfl
  | _, n :: ns, .cons h t => by rw [h.bl, bls_of t]; rfl
def asInts : List Dt → Option (List Int)
  | [] => some []
  | .int i :: ds => (asInts ds).map (i :: ·)
  | _ => none
def asStrs : List Dt → Option (List Str)
  | [] => some []
  | .str i :: ds => (asStrs ds).map (i :: ·)
  | _ => none
def asBls : List Dt → Option (List Bool)
  | [] => some []
  | .bl i :: ds => (asBls ds).map (i :: ·)
  | _ => none
theorem asInts_eq : ∀ {ds : List Dt} {ns : List Int}, asInts ds = some ns → ds = ns.map Dt.int
  | [], _, h => by cases h; rfl
  | .int i :: ds, _, h => by
    have h : (asInts ds).map (i :: ·) = some _ := h
    cases e : asInts ds with
    | none => rw [e] at h; cases h
    | some ms => rw [e] at h; cases h; rw [asInts_eq e]; rfl
theorem asStrs_eq : ∀ {ds : List Dt} {ns : List Str}, asStrs ds = some ns → ds = ns.map Dt.str
  | [], _, h => by cases h; rfl
  | .str i :: ds, _, h => by
    have h : (asStrs ds).map (i :: ·) = some _ := h
    cases e : asStrs ds with
    | none => rw [e] at h; cases h
    | some ms => rw [e] at h; cases h; rw [asStrs_eq e]; rfl
theorem asBls_eq : ∀ {ds : List Dt} {ns : List Bool}, asBls ds = some ns → ds = ns.map Dt.bl
  | [], _, h => by cases h; rfl
  | .bl i :: ds, _, h => by
    have h : (asBls ds).map (i :: ·) = some _ := h
    cases e : asBls ds with
    | none => rw [e] at h; cases h
    | some ms => rw [e] at h; cases h; rw [asBls_eq e]; rfl
theorem paired_get {α β : Type} {P : α → β → Prop} : ∀ {xs : List α} {ys : List β}, Paired P xs ys → ∀ (i : Nat) y, ys[i]? = some y → ∃ x, xs[i]? = some x ∧ P x y
  | _, _, .nil, _, _, h => by simp at h
  | _, _, .cons h _, 0, _, e => by simp at e; subst e; exact ⟨_, rfl, h⟩
  | _, _, .cons _ t, i + 1, y, e => by
    obtain ⟨x, e1, h⟩ := paired_get t i y (by simpa using e)
    exact ⟨x, by simpa using e1, h⟩
theorem paired_append {α β : Type} {P : α → β → Prop} : ∀ {xs xs' : List α} {ys ys' : List β}, Paired P xs ys → Paired P xs' ys' → Paired P (xs ++ xs') (ys ++ ys')
  | _, _, _, _, .nil, q => q
  | _, _, _, _, .cons h t, q => .cons h (paired_append t q)
theorem paired_drop {α β : Type} {P : α → β → Prop} : ∀ (n : Nat) {xs : List α} {ys : List β}, Paired P xs ys → Paired P (xs.drop n) (ys.drop n)
  | 0, _, _, h => h
  | _ + 1, _, _, .nil => .nil
  | n + 1, _, _, .cons _ t => paired_drop n t
theorem paired_take {α β : Type} {P : α → β → Prop} : ∀ (n : Nat) {xs : List α} {ys : List β}, Paired P xs ys → Paired P (xs.take n) (ys.take n)
  | 0, _, _, _ => .nil
  | _ + 1, _, _, .nil => .nil
  | n + 1, _, _, .cons h t => .cons h (paired_take n t)
theorem paired_set {α β : Type} {P : α → β → Prop} {x : α} {y : β} (h : P x y) : ∀ (i : Nat) {xs : List α} {ys : List β}, Paired P xs ys → Paired P (xs.set i x) (ys.set i y)
  | _, _, _, .nil => .nil
  | 0, _, _, .cons _ t => .cons h t
  | i + 1, _, _, .cons a t => .cons a (paired_set h i t)
end
section
variable {G : Cfg}
def gI (f : Int → Int → Option Dt) : Dt → Dt → Option Dt
  | .int i, .int j => f i j
  | _, _ => none
theorem dop_I {C : Int → Int → Prop} {f : Int → Int → V} {g : Int → Int → Option Dt} (h : ∀ i j d, g i j = some d → C i j ∧ ∀ ρ, Rep G ρ (f i j) d) : DOp2 G (rI C f) (gI g) := by
  intro ρ w H v u x y d c rx ry e Q q
  cases x with
  | int i =>
    cases y with
    | int j => exact ⟨i, j, rx.int, ry.int, (h i j d e).1, q _ ρ H (Stp.refl c) ((h i j d e).2 ρ)⟩
    | _ => cases e
  | _ => cases e
theorem dop_I0 {f : Int → Int → V} {g : Int → Int → Option Dt} (h : ∀ i j d, g i j = some d → ∀ ρ, Rep G ρ (f i j) d) : DOp2 G (rI0 f) (gI g) := by
  intro ρ w H v u x y d c rx ry e Q q
  cases x with
  | int i =>
    cases y with
    | int j => exact ⟨i, j, rx.int, ry.int, q _ ρ H (Stp.refl c) (h i j d e ρ)⟩
    | _ => cases e
  | _ => cases e
def addI := gI fun i j => some (.int (i + j))
def subI := gI fun i j => some (.int (i - j))
def mulI := gI fun i j => if (i.natAbs < 2 ^ 64 ∨ j.natAbs < 2 ^ 64) then some (.int (i * j)) else none
def modI := gI fun i j => if 0 < j then some (.int (i % j)) else none
def powI := gI fun i j => if 0 ≤ j ∧ j ≤ 1000 ∧ i.natAbs < 2 ^ 64 then some (.int (i ^ j.toNat)) else none
def ltI := gI fun i j => some (.bl (decide (i < j)))
def leI := gI fun i j => some (.bl (decide (i ≤ j)))
def gtI := gI fun i j => some (.bl (decide (j < i)))
def geI := gI fun i j => some (.bl (decide (j ≤ i)))
theorem dop_add : DOp2 G (rI0 fun i j => .int (i + j)) addI := dop_I0 fun i j d e ρ => by cases e; exact rep_int
theorem dop_sub : DOp2 G (rI0 fun i j => .int (i - j)) subI := dop_I0 fun i j d e ρ => by cases e; exact rep_int
theorem dop_mul : DOp2 G (rI CMul fun i j => .int (i * j)) mulI := dop_I fun i j d e => by
  split at e
  · rename_i h; cases e
    exact ⟨h.elim (fun h => .inl ⟨by omega, by omega⟩) fun h => .inr ⟨by omega, by omega⟩, fun ρ => rep_int⟩
  · cases e
theorem dop_mod : DOp2 G (rI (fun _ j => 0 < j) fun i j => .int (i % j)) modI := dop_I fun i j d e => by
  split at e
  · rename_i h; cases e; exact ⟨h, fun ρ => rep_int⟩
  · cases e
theorem dop_pow : DOp2 G (rI CPow fun i j => .int (i ^ j.toNat)) powI := dop_I fun i j d e => by
  split at e
  · rename_i h; cases e; exact ⟨⟨h.1, by omega, h.2.2⟩, fun ρ => rep_int⟩
  · cases e
theorem dop_lt : DOp2 G (rI0 fun i j => .bl (decide (i < j))) ltI := dop_I0 fun i j d e ρ => by cases e; exact rep_bl
theorem dop_le : DOp2 G (rI0 fun i j => .bl (decide (i ≤ j))) leI := dop_I0 fun i j d e ρ => by cases e; exact rep_bl
theorem dop_gt : DOp2 G (rI0 fun i j => .bl (decide (j < i))) gtI := dop_I0 fun i j d e ρ => by cases e; exact rep_bl
theorem dop_ge : DOp2 G (rI0 fun i j => .bl (decide (j ≤ i))) geI := dop_I0 fun i j d e ρ => by cases e; exact rep_bl
def gS (f : Str → Str → Option Dt) : Dt → Dt → Option Dt
  | .str i, .str j => f i j
  | _, _ => none
def addS := gS fun i j => if i.length + j.length ≤ LIM then some (.str (i ++ j)) else none
theorem dop_addS : DOp2 G (fun x y H Q => ∃ i j, x = .str i ∧ y = .str j ∧ i.length + j.length ≤ sizeLine ∧ Q (.str (i ++ j)) H) addS := by
  intro ρ w H v u x y d c rx ry e Q q
  cases x with
  | str i =>
    cases y with
    | str j =>
      have e : (if i.length + j.length ≤ LIM then some (Dt.str (i ++ j)) else none) = some d := e
      split at e
      · rename_i h; cases e; exact ⟨i, j, rx.str, ry.str, lim_ok h, q _ ρ H (Stp.refl c) rep_str⟩
      · cases e
    | _ => cases e
  | _ => cases e
def catL : Dt → Dt → Option Dt
  | .lst xs, .lst ys => if xs.length + ys.length ≤ LIM then some (.lst (xs ++ ys)) else none
  | _, _ => none
def DNew2 (G : Cfg) (r : R2) (g : Dt → Dt → Option Dt) : Prop := ∀ (ρ : Fz) (w : Wd) (H : Hp) (v u : V) (x y d : Dt), Cov G ρ w H → Rep G ρ v x → Rep G ρ u y → g x y = some d → ∀ Q : VK, (∀ p o, H p = none → OwnS G ρ o d → Q (.ref p) (upd H p o)) → r v u H Q
def DNewL (G : Cfg) (r : List V → Hp → VK → Prop) (g : List Dt → Option Dt) : Prop := ∀ (ρ : Fz) (w : Wd) (H : Hp) (vs : List V) (xs : List Dt) (d : Dt), Cov G ρ w H → Paired (Rep G ρ) vs xs → g xs = some d → ∀ Q : VK, (∀ p o, H p = none → OwnS G ρ o d → Q (.ref p) (upd H p o)) → r vs H Q
theorem dnew_catL : DNew2 G rCat catL := by
  intro ρ w H v u x y d c rx ry e Q q
  cases x with
  | lst xs =>
    cases y with
    | lst ys =>
      have e : (if xs.length + ys.length ≤ LIM then some (Dt.lst (xs ++ ys)) else none) = some d := e
      split at e
      · rename_i h
        cases e
        obtain ⟨a, vs, rfl, f1, p1⟩ := rx.lst
        obtain ⟨b, us, rfl, f2, p2⟩ := ry.lst
        exact ⟨a, b, vs, us, rfl, rfl, c.F _ _ f1, c.F _ _ f2, lim_ok (by rw [p1.length, p2.length]; exact h), fun p hp => q p _ hp ⟨_, rfl, paired_append p1 p2⟩⟩
      · cases e
    | _ => cases e
  | _ => cases e
end
section
variable {X : Cx} {S : Ss} {a b : Expr} {fa fb : M Dt} {pos : Pos} {fs : M (List Dt)} {e : Expr} {es : List Expr} {x : Str} {p : Pos}
theorem bl_teO {r : List V → Hp → VK → Prop} {g : List Dt → Option Dt} (kk : DNewL S.G r g) {σ : L2.St} {H : Hp} {Q : VK} (h : teO S (d1 fs fun ds => opt (g ds)) σ H Q) : tCB r (taD S fs) σ H Q := by
  obtain ⟨ρ, st, R, q⟩ := h
  refine ⟨ρ, st, R, Out.go q (fun ds st1 q1 vs ρ1 H1 e1 R1 rs => ?_) fun _ _ h => h⟩
  cases e : g ds with
  | none => rw [e] at q1; exact q1.elim
  | some d =>
    rw [e] at q1
    exact kk ρ1 st1.w H1 vs ds d R1.cov rs e Q fun p o hp ho => q1 p o ρ1 _ e1 (R1.add hp) (R1.new hp ho)
theorem po_callTy {T : String} {r : List V → Hp → VK → Prop} {g : List Dt → Option Dt} (hc : CallR X (.type T) r) (kk : DNewL S.G r g) (hm : X.mg x = none) (hv : bootBuiltins x = some (.type T)) (ha : PDA X S (e :: es) fs) (hg : Gl X x := by rfl)
    (hn : x ≠ "__name__" := by decide) (hdb : (x == ("__debug__" : Str)) = false := by decide) (he : starEach (e :: es) X.env = (false, eval e X.env) :: starEach es X.env := by rfl) (hpl : (backTo pos (starEach es X.env)).any (·.1) = false := by rfl) :
    PO X S (.Call (.Name x p) (e :: es) [] pos) (d1 fs fun ds => opt (g ds)) := ⟨pe_imp (pe_callTy hc hg hm hv ha.pa hn hdb he hpl) fun _ _ _ h => bl_teO kk h⟩
end
end B
end
section
set_option maxRecDepth 100000
set_option maxHeartbeats 4000000
namespace B
open PySem L2
open PyProof.Rows (envOfC)
section
variable {G : Cfg} {ρ : Fz} {w : Wd} {H : Hp} {v : V}
theorem Cov.sl (c : Cov G ρ w H) {a : Addr} {vs : List V} (h : ρ.F a = some (.lst vs)) : SqL G.K H a vs := .inl (.inl (c.F _ _ h))
theorem Cov.ssl (c : Cov G ρ w H) {a : Addr} {vs : List V} (h : SqL G.K ρ.F a vs) : SqL G.K H a vs := by
  rcases h with (h | ⟨o, h⟩) | h
  · exact .inl (.inl (c.F _ _ h))
  · exact .inl (.inr ⟨o, c.F _ _ h⟩)
  · exact .inr h
def atD (xs : List Dt) (i : Int) : Option Dt := (ixN xs.length i).bind fun j => xs[j]?
def ixD : Dt → Dt → Option Dt
  | .lst xs, .int i => atD xs i
  | .tup xs, .int i => atD xs i
  | .str z, .int i => if z.length ≤ LIM then (atI z.cps.toList i).map fun c => .str ⟨#[c]⟩ else none
  | _, _ => none
theorem atD_rep {xs : List V} {ds : List Dt} {i : Int} {d : Dt} (p : Paired (Rep G ρ) xs ds) (h : atD ds i = some d) : ∃ v, atI xs i = some v ∧ Rep G ρ v d := by
  unfold atD at h
  unfold atI
  rw [p.length]
  cases e : ixN ds.length i with
  | none => rw [e] at h; cases h
  | some j => rw [e] at h; exact paired_get p j d h
theorem dop_ix : DOp2 G (rIx G.K) ixD := by
  intro ρ w H v u x y d c rx ry e Q q
  cases x with
  | lst xs =>
    cases y with
    | int i =>
      obtain ⟨a, vs, rfl, f, p⟩ := rx.lst
      obtain ⟨z, e1, r⟩ := atD_rep p (show atD xs i = some d from e)
      exact .inl ⟨a, vs, i, z, rfl, ry.int, c.sl f, e1, q z ρ H (Stp.refl c) r⟩
    | _ => cases e
  | tup xs =>
    cases y with
    | int i =>
      obtain ⟨a, vs, rfl, f, p⟩ := rx.tup
      obtain ⟨z, e1, r⟩ := atD_rep p (show atD xs i = some d from e)
      exact .inr (.inl ⟨a, vs, i, z, rfl, ry.int, c.st f, e1, q z ρ H (Stp.refl c) r⟩)
    | _ => cases e
  | str z =>
    cases y with
    | int i =>
      have e : (if z.length ≤ LIM then (atI z.cps.toList i).map fun c => Dt.str ⟨#[c]⟩ else none) = some d := e
      split at e
      · rename_i hl
        cases e2 : atI z.cps.toList i with
        | none => rw [e2] at e; cases e
        | some cc => rw [e2] at e; cases e; exact .inr (.inr ⟨z, i, cc, rx.str, ry.int, lim_ok hl, e2, q _ ρ H (Stp.refl c) rep_str⟩)
      · cases e
    | _ => cases e
  | _ => cases e
def isKey : Dt → Bool
  | .int _ => true
  | .str _ => true
  | _ => false
def eqKey : Dt → Dt → Bool
  | .int i, .int j => decide (i = j)
  | .str i, .str j => decide (i = j)
  | _, _ => false
def getK (kvs : List (Dt × Dt)) (k : Dt) : Option Dt := (kvs.find? fun kv => eqKey kv.1 k).map (·.2)
theorem eqKey_kD {k l : Key} : eqKey (kD k) (kD l) = decide (k = l) := by
  cases k <;> cases l <;> simp [eqKey, kD]
theorem kD_of {k : Dt} (h : isKey k = true) : ∃ l, k = kD l := by
  cases k with
  | int i => exact ⟨.inl i, rfl⟩
  | str i => exact ⟨.inr i, rfl⟩
  | _ => cases h
theorem kV_of {l : Key} {u : V} (h : Rep G ρ u (kD l)) : u = kV l := by
  cases l with
  | inl i => exact h.int
  | inr i => exact h.str
theorem rep_kV {l : Key} : Rep G ρ (kV l) (kD l) := by
  cases l with
  | inl i => exact rep_int
  | inr i => exact rep_str
abbrev KVR (G : Cfg) (ρ : Fz) : List (Key × V) → List (Dt × Dt) → Prop := Paired fun (e : Key × V) (kv : Dt × Dt) => kD e.1 = kv.1 ∧ Rep G ρ e.2 kv.2
theorem getK_rep {es : List (Key × V)} {kvs : List (Dt × Dt)} (p : KVR G ρ es kvs) (l : Key) : (∀ d, getK kvs (kD l) = some d → ∃ v, valV es l = some v ∧ Rep G ρ v d) ∧ (getK kvs (kD l) = none → valV es l = none) := by
  induction p with
  | nil => exact ⟨fun d h => (by cases h), fun _ => rfl⟩
  | @cons e kv es kvs h t ih =>
    unfold getK valV at *
    rw [List.find?_cons, List.find?_cons, ← h.1, eqKey_kD]
    by_cases q : e.1 = l
    · rw [decide_eq_true q]
      exact ⟨fun d hd => ⟨e.2, rfl, (by cases hd; exact h.2)⟩, fun hd => (by cases hd)⟩
    · rw [decide_eq_false q]
      exact ih
theorem dicK {o : HO} {kvs : List (Dt × Dt)} (h : DicRep (Rep G ρ) o kvs) (k : ∃ kv r, kvs = kv :: r ∧ isKey kv.1 = true) : ∃ es, o = .dK es ∧ KVR G ρ es kvs := by
  rcases h with h | ⟨es, ⟨e, _⟩, p⟩
  · exact h
  · obtain ⟨kv, r, rfl, hk⟩ := k
    cases p with
    | cons h t => rw [← h.1] at hk; cases hk
end
structure PDP (X : Cx) (S : Ss) (e : Option Expr) (f : M (Option Int)) : Prop where
  po : L2.PO X e (fun σ H Q => ∃ ρ st, SR S ρ H σ st ∧ (f st).sat (fun d st' => ∀ ρ' H', Ext ρ ρ' → SR S ρ' H' σ st' → Q d H') (WantX S ρ σ))
theorem poo_imp {X : Cx} {e : Option Expr} {t u : TO} (h : L2.PO X e t) (i : ∀ σ H Q, u σ H Q → t σ H Q) : L2.PO X e u := ⟨fun pins s σ H Q I w => h.run pins s σ H Q I (i _ _ _ w)⟩
def pNo : M (Option Int) := fun st => .ok none st
def pInt : Dt → M (Option Int)
  | .int i => fun st => .ok (some i) st
  | _ => fun _ => .stuck
theorem pdp_none {X : Cx} {S : Ss} : PDP X S none pNo := ⟨poo_imp po_none fun σ H Q ⟨ρ, st, R, q⟩ => q ρ H (Ext.refl ρ) R⟩
theorem pdp_some {X : Cx} {S : Ss} {e : Expr} {f : M Dt} (h : PD X S e f) : PDP X S (some e) (d1 f pInt) := by
  refine ⟨poo_imp (po_some h.pe) fun σ H Q ⟨ρ, st, R, q⟩ => ⟨ρ, st, R, Out.go q (fun x st1 q1 v ρ1 H1 e1 R1 rx => ?_) fun _ _ h => h⟩⟩
  cases x with
  | int i => exact ⟨i, rx.int, q1 ρ1 H1 e1 R1⟩
  | _ => exact False.elim q1
def cutD (xs : List Dt) (lo hi : Option Int) : List Dt := (xs.drop (HT.sIx xs.length 0 lo)).take (HT.sIx xs.length xs.length hi - HT.sIx xs.length 0 lo)
theorem cut_rep {G : Cfg} {ρ : Fz} {xs : List V} {ds : List Dt} (p : Paired (Rep G ρ) xs ds) (lo hi : Option Int) : Paired (Rep G ρ) (cutV xs lo hi) (cutD ds lo hi) := by
  unfold cutV cutD
  rw [p.length]
  exact paired_take _ (paired_drop _ p)
def slD (x : Dt) (lo hi : Option Int) : Option Dt := match x with
  | .set xs => some (.lst (cutD xs lo hi))
  | .lst xs => some (.lst (cutD xs lo hi))
  | .tup xs => some (.tup (cutD xs lo hi))
  | .str z => if z.length ≤ LIM then some (.str (cutS z lo hi)) else none
  | _ => none
def mSl (f : M Dt) (fl fh : M (Option Int)) : M Dt := d1 f fun x => d1 fl fun lo => d1 fh fun hi => opt (slD x lo hi)
section
variable {X : Cx} {S : Ss} {e : Expr} {f : M Dt} {lo hi : Option Expr} {fl fh : M (Option Int)} {pos p2 : Pos}
theorem sl_all : SlR X (fun x lo hi H Q => rSlL X.K x lo hi H Q ∨ rSlA X.K x lo hi H Q ∨ rSlS x lo hi H Q) := SlR.or sl_list (SlR.or sl_tupA sl_str)
theorem pd_slice (hk : S.G.K = X.K) (he : PD X S e f) (hl : PDP X S lo fl) (hh : PDP X S hi fh) : PD X S (.Subscript e (.Slice lo hi none p2) pos) (mSl f fl fh) := by
  refine ⟨pe_imp (pe_frz (pe_slice sl_all he.pe hl.po hh.po)) fun σ H Q ⟨ρ, st, R, q⟩ => ⟨ρ, st, R, Out.go q (fun x st1 q1 v ρ1 H1 e1 R1 rx => ?_) fun _ _ h => h⟩⟩
  refine ⟨ρ1, st1, R1, Out.go q1 (fun l st2 q2 ρ2 H2 e2 R2 => ?_) fun x st h => h.mono e1⟩
  refine ⟨ρ2, st2, R2, Out.go q2 (fun u st3 q3 ρ3 H3 e3 R3 => ?_) fun x st h => h.mono (e1.trans e2)⟩
  have r3 := (rx.mono e2).mono e3
  have ee := (e1.trans e2).trans e3
  have c := R3.cov
  cases x with
  | lst xs =>
    obtain ⟨a, vs, rfl, fa, p⟩ := r3.lst
    refine .inl ⟨a, vs, rfl, hk ▸ c.sl fa, fun b hb => .inl ?_⟩
    have s := Stp.fresh (o := .lst (cutV vs l u)) c hb
    exact q3 _ _ _ (ee.trans s.ext) (R3.step s) (.mk ⟨b, _, rfl, upd_same, (cut_rep p l u).mp fun _ _ z => z.mono s.ext⟩)
  | set xs =>
    obtain ⟨a, vs, rfl, fa, p⟩ := r3.out
    refine .inl ⟨a, vs, rfl, hk ▸ c.ssl fa, fun b hb => .inl ?_⟩
    have s := Stp.fresh (o := .lst (cutV vs l u)) c hb
    exact q3 _ _ _ (ee.trans s.ext) (R3.step s) (.mk ⟨b, _, rfl, upd_same, (cut_rep p l u).mp fun _ _ z => z.mono s.ext⟩)
  | tup xs =>
    obtain ⟨a, vs, rfl, fa, p⟩ := r3.tup
    refine .inr (.inl ⟨a, vs, rfl, hk ▸ c.st fa, fun ⟨z1, z2⟩ => .inl ?_, fun _ b hb => .inl ?_⟩)
    · have e : cutD xs l u = xs := by
        unfold cutD
        rw [← p.length, z1, z2, Nat.sub_zero, List.drop_zero, p.length, List.take_length]
      have q4 := q3 (.ref a) ρ3 H3 ee R3
      rw [e] at q4
      exact q4 r3
    · have s := Stp.fresh (o := .tup (cutV vs l u)) c hb
      exact q3 _ _ _ (ee.trans s.ext) (R3.step s) (.mk ⟨b, _, rfl, upd_same, (cut_rep p l u).mp fun _ _ z => z.mono s.ext⟩)
  | str z =>
    have q4 : (opt (if z.length ≤ LIM then some (Dt.str (cutS z l u)) else none) st3).sat _ _ := q3
    split at q4
    · rename_i h
      exact .inr (.inr ⟨z, r3.str, lim_ok h, .inl (q4 _ ρ3 H3 ee R3 rep_str)⟩)
    · exact False.elim q4
  | _ => exact False.elim q3
end
end B
end
section
set_option maxRecDepth 100000
set_option maxHeartbeats 4000000
namespace B
open PySem L2
open PyProof.Rows (envOfC subscriptTail isTrue_plain)
def PoD (S : Ss) (ρ : Fz) (σ : L2.St) (Q : VK) : Dt → DS → Prop := fun d st' => ∀ v ρ' H', Ext ρ ρ' → SR S ρ' H' σ st' → Rep S.G ρ' v d → Q v H'
theorem PoD.mono {S : Ss} {ρ ρ' : Fz} {σ : L2.St} {Q : VK} {d : Dt} {st : DS} (e : Ext ρ ρ') (h : PoD S ρ σ Q d st) : PoD S ρ' σ Q d st := fun v ρ1 H1 e1 R1 r1 => h v ρ1 H1 (e.trans e1) R1 r1
def OpP (X : Cx) (S : Ss) (f : Value → Value → Sem Value) (x y : Dt) (m : M Dt) : Prop :=
  ∀ (pins : List (Addr × Obj)) (s : Shared) (σ : L2.St) (H : Hp) (v u : V) (V' U' : Value) (ρ : Fz) (st : DS) (Q : VK), Inv X pins σ H s → RelV v V' → RelV u U' → SR S ρ H σ st → Rep S.G ρ v x → Rep S.G ρ u y →
    (m st).sat (PoD S ρ σ Q) (WantX S ρ σ) → wpAny (model X.prog X.w) X.A (f V' U') (EP X pins σ Q) X.xe s
def CaP (X : Cx) (S : Ss) (f : List Value → Sem Value) (xs : List Dt) (m : M Dt) : Prop :=
  ∀ (pins : List (Addr × Obj)) (s : Shared) (σ : L2.St) (H : Hp) (vs : List V) (us : List Value) (ρ : Fz) (st : DS) (Q : VK), Inv X pins σ H s → Vals vs us → SR S ρ H σ st → Paired (Rep S.G ρ) vs xs →
    (m st).sat (PoD S ρ σ Q) (WantX S ρ σ) → wpAny (model X.prog X.w) X.A (f us) (EP X pins σ Q) X.xe s
def TrP (X : Cx) (S : Ss) (x : Dt) (m : M Bool) : Prop :=
  ∀ (pins : List (Addr × Obj)) (s : Shared) (σ : L2.St) (H : Hp) (v : V) (V' : Value) (ρ : Fz) (st : DS) (Q : Bool → Hp → Prop), Inv X pins σ H s → RelV v V' → SR S ρ H σ st → Rep S.G ρ v x →
    (m st).sat (fun b st' => ∀ ρ' H', Ext ρ ρ' → SR S ρ' H' σ st' → Q b H') (WantX S ρ σ) → wpAny (model X.prog X.w) X.A (truthy V') (fun b s' => ∃ H', Inv X pins σ H' s' ∧ Q b H') X.xe s
abbrev MO2 := Dt → Dt → M Dt
abbrev OpD (X : Cx) (S : Ss) (f : Value → Value → Sem Value) (g : MO2) : Prop := ∀ x y, OpP X S f x y (g x y)
abbrev CaD (X : Cx) (S : Ss) (f : List Value → Sem Value) (g : List Dt → M Dt) : Prop := ∀ xs, CaP X S f xs (g xs)
abbrev TrD (X : Cx) (S : Ss) (g : Dt → M Bool) : Prop := ∀ x, TrP X S x (g x)
def stk {α : Type} : M α := fun _ => .stuck
def mB2 (fa fb : M Dt) (g : MO2) : M Dt := d1 fa fun x => d1 fb fun y => g x y
section
variable {X : Cx} {S : Ss} {f : Value → Value → Sem Value} {x y : Dt} {a b c : Expr} {fa fb fc : M Dt} {pos : Pos} {g g' : MO2}
theorem frz_post {A : Around} {E : Value → Shared → Prop} {pins : List (Addr × Obj)} {σ : L2.St} {Q : VK} {s : Shared} {m : Sem Value}
    (h : wpAny (model X.prog X.w) A m (EP X pins σ fun v H1 => Q v H1 ∨ ∃ p o, H1 p = some o ∧ Mut (some o) ∧ ∀ o', FrzAs o o' → Q v (upd H1 p o')) E s) : wpAny (model X.prog X.w) A m (EP X pins σ Q) E s := by
  refine wpAny_mono h (fun u s1 ⟨v, H1, I1, r, q⟩ => ?_) fun _ _ z => z
  rcases q with q | ⟨p, o, hp, mu, q⟩
  · exact ⟨v, H1, I1, r, q⟩
  · by_cases d : ∃ ob, FrzAs o (.frz ob o)
    · obtain ⟨ob, I2⟩ := I1.lock hp mu
      have z : FrzAs o (.frz ob o) := by
        cases o with
        | dK _ => exact ⟨ob, rfl⟩
        | dT _ => exact ⟨ob, rfl⟩
        | frz ob' u => exact mu.elim
        | _ => obtain ⟨ob, z⟩ := d; cases z
      exact ⟨v, _, I2, r, q _ z⟩
    · have z : FrzAs o o := by
        cases o with
        | dK _ => exact absurd ⟨default, default, rfl⟩ d
        | dT _ => exact absurd ⟨default, default, rfl⟩ d
        | _ => rfl
      have e : upd H1 p o = H1 := by
        funext b
        by_cases hb : b = p
        · subst hb; rw [upd_same, hp]
        · rw [upd_ne hb]
      have q2 := q o z
      rw [e] at q2
      exact ⟨v, H1, I1, r, q2⟩
theorem opp_of {r : R2} {g : Dt → Dt → Option Dt} (ho : OpR X f r) (k : DOp2 S.G r g) : OpP X S f x y (opt (g x y)) := by
  intro pins s σ H v u V' U' ρ st Q I rv ru R rx ry q
  refine ho pins s σ H v u V' U' Q I rv ru ?_
  cases e : g x y with
  | none => rw [e] at q; exact q.elim
  | some d =>
    rw [e] at q
    exact k ρ st.w H v u x y d R.cov rx ry e Q fun z ρ3 H3 s3 r3 => q z ρ3 H3 s3.ext (R.step s3) r3
theorem opp_new {r : R2} {g : Dt → Dt → Option Dt} (ho : OpR X f r) (k : DNew2 S.G r g) : OpP X S f x y (opt (g x y)) := by
  intro pins s σ H v u V' U' ρ st Q I rv ru R rx ry q
  refine frz_post (ho pins s σ H v u V' U' _ I rv ru ?_)
  cases e : g x y with
  | none => rw [e] at q; exact q.elim
  | some d =>
    rw [e] at q
    refine k ρ st.w H v u x y d R.cov rx ry e _ fun p o hp hn => .inr ⟨p, o, upd_same, own_mut hn, fun o' z => ?_⟩
    have n := R.new hp hn
    exact q (.ref p) _ _ (ext_new n.hF) ((R.add hp).frz n z) (own_rep n.r z n.hF)
theorem cap_of {fv : Value} {r : List V → Hp → VK → Prop} {g : List Dt → Option Dt} {xs : List Dt} (ho : CallR X fv r) (k : DOpL S.G r g) : CaP X S (fun us => call fv us) xs (opt (g xs)) := by
  intro pins s σ H vs us ρ st Q I rv R rx q
  refine ho pins s σ H vs us Q I rv ?_
  cases e : g xs with
  | none => rw [e] at q; exact q.elim
  | some d =>
    rw [e] at q
    exact k ρ st.w H vs xs d R.cov rx e Q fun z ρ3 H3 s3 r3 => q z ρ3 H3 s3.ext (R.step s3) r3
theorem cap_new {fv : Value} {r : List V → Hp → VK → Prop} {g : List Dt → Option Dt} {xs : List Dt} (ho : CallR X fv r) (k : DNewL S.G r g) : CaP X S (fun us => call fv us) xs (opt (g xs)) := by
  intro pins s σ H vs us ρ st Q I rv R rx q
  refine frz_post (ho pins s σ H vs us _ I rv ?_)
  cases e : g xs with
  | none => rw [e] at q; exact q.elim
  | some d =>
    rw [e] at q
    refine k ρ st.w H vs xs d R.cov rx e _ fun p o hp hn => .inr ⟨p, o, upd_same, own_mut hn, fun o' z => ?_⟩
    have n := R.new hp hn
    exact q (.ref p) _ _ (ext_new n.hF) ((R.add hp).frz n z) (own_rep n.r z n.hF)
theorem two_te {T : VK → V → V → St → Hp → Prop} {σ : L2.St} {H : Hp} {Q : VK} (h : teD S (mB2 fa fb g) σ H Q)
    (k : ∀ v u ρ st H2 x y, SR S ρ H2 σ st → Rep S.G ρ v x → Rep S.G ρ u y → (g x y st).sat (PoD S ρ σ Q) (WantX S ρ σ) → T Q v u σ H2) : teD S fa σ H fun v H1 => teD S fb σ H1 fun u H2 => T Q v u σ H2 := by
  obtain ⟨ρ, st, R, q⟩ := h
  refine ⟨ρ, st, R, Out.go q (fun x st1 q1 v ρ1 H1 e1 R1 rx => ?_) fun _ _ h => h⟩
  refine ⟨ρ1, st1, R1, Out.go q1 (fun y st2 q2 u ρ2 H2 e2 R2 ry => ?_) fun x st h => h.mono e1⟩
  exact k v u ρ2 st2 H2 x y R2 (rx.mono e2) ry (Out.sat_mono q2 (fun d st h => PoD.mono (e1.trans e2) h) fun x st h => h.mono (e1.trans e2))
abbrev T2 (S : Ss) (g : MO2) : VK → V → V → L2.St → Hp → Prop := fun Q v u σ H2 => ∃ ρ st x y, SR S ρ H2 σ st ∧ Rep S.G ρ v x ∧ Rep S.G ρ u y ∧ (g x y st).sat (PoD S ρ σ Q) (WantX S ρ σ)
theorem pd_bin {op : Operator} (ho : OpD X S (binaryOp op) g) (ha : PD X S a fa) (hb : PD X S b fb) : PD X S (.BinOp a op b pos) (mB2 fa fb g) := by
  refine ⟨⟨fun pins s σ H Q I h => ?_⟩⟩
  refine wpAny_BinOp (thn (ha.pe.run pins s σ H _ I (two_te (T := T2 S g) h fun v u ρ st H2 x y R rx ry q => ⟨ρ, st, x, y, R, rx, ry, q⟩)) fun V' s1 ⟨v, H1, I1, r1, q1⟩ => thn (hb.pe.run pins s1 σ H1 _ I1 q1) fun U' s2 ⟨u, H2, I2, r2, ρ, st, x, y, R, rx, ry, q2⟩ => ?_)
  exact ho x y pins s2 σ H2 v u V' U' ρ st Q I2 r1 r2 R rx ry q2
theorem pd_cmpU {op : CmpOp} (ho : OpD X S (compareOp op) g) (ha : PD X S a fa) (hb : PD X S b fb) (hm : behindInMarks op b = false) : PD X S (.Compare a [op] [b] pos) (mB2 fa fb g) := by
  refine ⟨⟨fun pins s σ H Q I h => ?_⟩⟩
  refine wpAny_Compare1 (thn (ha.pe.run pins s σ H _ I (two_te (T := T2 S g) h fun v u ρ st H2 x y R rx ry q => ⟨ρ, st, x, y, R, rx, ry, q⟩)) fun V' s1 ⟨v, H1, I1, r1, q1⟩ => thn (hb.pe.run pins s1 σ H1 _ I1 q1) fun U' s2 ⟨u, H2, I2, r2, ρ, st, x, y, R, rx, ry, q2⟩ => ?_) hm
  exact ho x y pins s2 σ H2 v u V' U' ρ st Q I2 r1 r2 R rx ry q2
theorem pdt_cmpU {op : CmpOp} (ho : OpD X S (compareOp op) g) (ha : PD X S a fa) (hb : PD X S b fb) (hm : behindInMarks op b = false) : PDT X S (.Compare a [op] [b] pos) (d1 (mB2 fa fb g) toB) := by
  refine ⟨⟨fun pins s σ H Q I h => ?_⟩⟩
  refine wpAny_isTrue_Compare1 (thn (ha.pe.run pins s σ H _ I (two_te (T := T2 S g) (tst_te h) fun v u ρ st H2 x y R rx ry q => ⟨ρ, st, x, y, R, rx, ry, q⟩)) fun V' s1 ⟨v, H1, I1, r1, q1⟩ => thn (hb.pe.run pins s1 σ H1 _ I1 q1) fun U' s2 ⟨u, H2, I2, r2, ρ, st, x, y, R, rx, ry, q2⟩ =>
    thn (ho x y pins s2 σ H2 v u V' U' ρ st _ I2 r1 r2 R rx ry q2) fun c s3 ⟨z, H3, I3, r3, k, e, q3⟩ => ?_) hm
  subst e
  cases r3
  exact wpAny_truthy_bool ⟨H3, I3, q3⟩
theorem pd_sub (ho : OpD X S (subscriptTail a b) g) (ha : PD X S a fa) (hb : PD X S b fb) : PD X S (.Subscript a b pos) (mB2 fa fb g) := by
  refine ⟨⟨fun pins s σ H Q I h => ?_⟩⟩
  refine PyProof.Rows.Subscript_ (thn (ha.pe.run pins s σ H _ I (two_te (T := T2 S g) h fun v u ρ st H2 x y R rx ry q => ⟨ρ, st, x, y, R, rx, ry, q⟩)) fun V' s1 ⟨v, H1, I1, r1, q1⟩ => thn (hb.pe.run pins s1 σ H1 _ I1 q1) fun U' s2 ⟨u, H2, I2, r2, ρ, st, x, y, R, rx, ry, q2⟩ => ?_)
  exact ho x y pins s2 σ H2 v u V' U' ρ st Q I2 r1 r2 R rx ry q2
def mChain (fa fb fc : M Dt) (g g' : MO2) : M Dt := d1 fa fun x => d1 fb fun y => d1 (g x y) fun z => match z with
  | .bl true => d1 fc fun w => g' y w
  | .bl false => fun st => .ok (.bl false) st
  | _ => stk
theorem pdt_tru {h : Dt → M Bool} (ht : TrD X S h) (ha : PD X S a fa) (he : ∀ whole, isTrue a X.env whole = (do let v ← whole; standAt a.pos; holding [v] (truthy v)) := by intro _; rfl) : PDT X S a (d1 fa h) := by
  refine ⟨⟨fun pins s σ H Q I ⟨ρ, st, R, q⟩ => ?_⟩⟩
  refine isTrue_plain (thn (ha.pe.run pins s σ H _ I ⟨ρ, st, R, Out.go q (fun x st1 q1 v ρ1 H1 e1 R1 rx => (⟨ρ1, st1, x, R1, rx, Out.sat_mono q1 (fun b st2 h ρ2 H2 e2 => h ρ2 H2 (e1.trans e2)) fun x st h => h.mono e1⟩ :
    ∃ ρ1 st1 x, SR S ρ1 H1 σ st1 ∧ Rep S.G ρ1 v x ∧ (h x st1).sat (fun b st' => ∀ ρ' H', Ext ρ1 ρ' → SR S ρ' H' σ st' → Q b H') (WantX S ρ1 σ))) fun _ _ h => h⟩) fun V' s1 ⟨v, H1, I1, r1, ρ1, st1, x, R1, rx, q1⟩ => ?_) (he _)
  exact ht x pins s1 σ H1 v V' ρ1 st1 Q I1 r1 R1 rx q1
theorem pd_callBU {id : String} {x : Str} {p : Pos} {e : Expr} {es : List Expr} {fs : M (List Dt)} {g : List Dt → M Dt} (hc : CaD X S (fun us => call (.builtin id) us) g) (hm : X.mg x = none) (hv : bootBuiltins x = some (.builtin id)) (ha : PDA X S (e :: es) fs) (hg : Gl X x := by rfl)
    (hn : x ≠ "__name__" := by decide) (hdb : (x == ("__debug__" : Str)) = false := by decide) (he : starEach (e :: es) X.env = (false, eval e X.env) :: starEach es X.env := by rfl) (hpl : (backTo pos (starEach es X.env)).any (·.1) = false := by rfl) :
    PD X S (.Call (.Name x p) (e :: es) [] pos) (d1 fs g) := by
  refine ⟨⟨fun pins s σ H Q I ⟨ρ, st, R, q⟩ => ?_⟩⟩
  refine wpAny_Call_Name_kw (ld_blt I hg hm hv ?_ hn hdb)
  refine PyProof.Rows.callWith_builtin1 (thn (ha.pa.run pos pins s σ H _ I ⟨ρ, st, R, Out.go q (fun ds st1 q1 vs ρ1 H1 e1 R1 rs => (⟨ρ1, st1, ds, R1, rs, Out.sat_mono q1 (fun d st h => PoD.mono e1 h) fun x st h => h.mono e1⟩ :
    ∃ ρ1 st1 ds, SR S ρ1 H1 σ st1 ∧ Paired (Rep S.G ρ1) vs ds ∧ (g ds st1).sat (PoD S ρ1 σ Q) (WantX S ρ1 σ))) fun _ _ h => h⟩) fun us s1 ⟨vs, H1, I1, r1, ρ1, st1, ds, R1, rs, q1⟩ => ?_) he hpl
  exact hc ds pins s1 σ H1 vs us ρ1 st1 Q I1 r1 R1 rs q1
theorem pd_callTU {T : String} {x : Str} {p : Pos} {e : Expr} {es : List Expr} {fs : M (List Dt)} {g : List Dt → M Dt} (hc : CaD X S (fun us => call (.type T) us) g) (hm : X.mg x = none) (hv : bootBuiltins x = some (.type T)) (ha : PDA X S (e :: es) fs) (hg : Gl X x := by rfl)
    (hn : x ≠ "__name__" := by decide) (hdb : (x == ("__debug__" : Str)) = false := by decide) (he : starEach (e :: es) X.env = (false, eval e X.env) :: starEach es X.env := by rfl) (hpl : (backTo pos (starEach es X.env)).any (·.1) = false := by rfl) :
    PD X S (.Call (.Name x p) (e :: es) [] pos) (d1 fs g) := by
  refine ⟨⟨fun pins s σ H Q I ⟨ρ, st, R, q⟩ => ?_⟩⟩
  refine wpAny_Call_Name_kw (ld_blt I hg hm hv ?_ hn hdb)
  refine PyProof.Rows.callWith_type1 (thn (ha.pa.run pos pins s σ H _ I ⟨ρ, st, R, Out.go q (fun ds st1 q1 vs ρ1 H1 e1 R1 rs => (⟨ρ1, st1, ds, R1, rs, Out.sat_mono q1 (fun d st h => PoD.mono e1 h) fun x st h => h.mono e1⟩ :
    ∃ ρ1 st1 ds, SR S ρ1 H1 σ st1 ∧ Paired (Rep S.G ρ1) vs ds ∧ (g ds st1).sat (PoD S ρ1 σ Q) (WantX S ρ1 σ))) fun _ _ h => h⟩) fun us s1 ⟨vs, H1, I1, r1, ρ1, st1, ds, R1, rs, q1⟩ => ?_) he hpl
  exact hc ds pins s1 σ H1 vs us ρ1 st1 Q I1 r1 R1 rs q1
end
end B
end
section
set_option maxRecDepth 100000
set_option maxHeartbeats 4000000
namespace B
open PySem L2
open PyProof.Rows (envOfC subscriptTail isTrue_plain)
section
variable {X : Cx} {S : Ss} {k : Nat} {f : Addr} {m : FnM}
theorem run_DA {A : Around} {pins : List (Addr × Obj)} {σ : L2.St} {H : Hp} {s : Shared} {Q : VK} {us : List Value} {vs : List V} {ρ : Fz} {st : DS} {ds : List Dt} (hA : A.frames = X.A.frames) (F : FnC X S.G k f m) (hr : RoomG k A) (tk : Takes X S.W)
    (I : Inv X pins σ H s) (r : Vals vs us) (R : SR S ρ H σ st) (rs : Paired (Rep S.G ρ) vs ds) (q : (callM m ds st).sat (PoD S ρ σ Q) (WantX S ρ σ)) : wpAny (model X.prog X.w) A (call (.ref f) us) (EP X pins σ Q) X.xe s := by
  have e0 : Env0 X.prog X.w X.K X.mg X.base A X.stack s H := by
    have e := I.env0
    exact ⟨by rw [hA]; exact e.frames, e.mod, e.bs, e.bsz, e.funs, e.frf, e.hok, e.bare⟩
  refine wpAny_call (codeAny_mono (F A X.stack s H us vs Q (WE S.W σ) hr e0 r (call_sp (Ext.refl ρ) R rs q)) fun r s' hq => ?_)
  cases r with
  | error e => exact passAt tk σ pins H s e s' I hq
  | ok fl =>
    cases fl with
    | ret u => exact I.after hq
    | next => exact False.elim hq
    | brk => exact False.elim hq
    | cont => exact False.elim hq
abbrev Ow := Str → Option FnM
structure OwF (X : Cx) (G : Cfg) (k : Nat) (nm : Str) (ow : Ow) : Prop where
  f : ∀ c m, ow c = some m → ∃ C f, G.cl c = some C ∧ PySem.W.findIn X.K (.ref C) nm = some (some (.ref f)) ∧ PySem.W.isFn X.K (.ref f) = true ∧ PySem.W.fnIn X.K f = true ∧ PySem.W.selfFirst X.K C = true ∧ FnC X G k f m
def ow0 : Ow := fun _ => none
theorem owf0 {X : Cx} {G : Cfg} {k : Nat} {nm : Str} : OwF X G k nm ow0 := ⟨fun _ _ h => nomatch h⟩
def insOf (w : Wd) : Dt → Option (Str × List (Str × Dt))
  | .ins c fs => some (c, fs)
  | .loc n => match w[n]? with
    | some (.ins c fs) => some (c, fs)
    | _ => none
  | _ => none
theorem ins_at {G : Cfg} {ρ : Fz} {w : Wd} {H : Hp} {v : V} {x : Dt} {c : Str} {fs : List (Str × Dt)} (cv : Cov G ρ w H) (r : Rep G ρ v x) (h : insOf w x = some (c, fs)) :
    ∃ a C dx es, v = .ref a ∧ G.cl c = some C ∧ H a = some (.ins C dx es) ∧ FldRep (Rep G ρ) es fs := by
  cases x with
  | ins c' fs' =>
    cases h
    obtain ⟨a, C, dx, es, rfl, h1, h2, h3⟩ := r.out
    exact ⟨a, C, dx, es, rfl, h1, cv.F _ _ h2, h3⟩
  | loc n =>
    have h : (match w[n]? with | some (.ins c fs) => some (c, fs) | _ => none) = some (c, fs) := h
    split at h
    · rename_i c' fs' e
      cases h
      obtain ⟨a, rfl, h1⟩ := r.out
      obtain ⟨_, o, ho, C, dx, es, h2, rfl, h3⟩ := cv.wo n a _ h1 e
      exact ⟨a, C, dx, es, rfl, h2, ho, h3⟩
    · cases h
  | _ => cases h
def resD (w : Wd) : Dt → Option Dt
  | .loc n => w[n]?
  | d => some d
theorem dic_at {G : Cfg} {ρ : Fz} {w : Wd} {H : Hp} {v : V} {x : Dt} {kvs : List (Dt × Dt)} (cv : Cov G ρ w H) (r : Rep G ρ v x) (h : resD w x = some (.dic kvs)) : ∃ a o, v = .ref a ∧ Rd H a o ∧ DicRep (Rep G ρ) o kvs := by
  cases x with
  | loc n =>
    obtain ⟨a, rfl, h1⟩ := r.out
    obtain ⟨_, o, ho, h3⟩ := cv.wo n a _ h1 h
    exact ⟨a, o, rfl, .inl ho, h3⟩
  | dic k =>
    cases h
    obtain ⟨a, ob, o, rfl, h1, h2⟩ := r.dic
    exact ⟨a, o, rfl, .inr ⟨ob, cv.F _ _ h1⟩, h2⟩
  | _ => cases h
theorem not_ni {G : Cfg} {ρ : Fz} {v : V} {d : Dt} (r : Rep G ρ v d) : ∀ u, RelV v u → u ≠ .notImplemented := by
  intro u ru
  have o := r.out
  cases d with
  | non => cases o; cases ru; intro z; cases z
  | bl b => cases o; cases ru; intro z; cases z
  | int b => cases o; obtain ⟨t, rfl⟩ := ru; intro z; cases z
  | str b => cases o; obtain ⟨t, rfl⟩ := ru; intro z; cases z
  | ty b => cases o; cases ru; intro z; cases z
  | lst ds => obtain ⟨a, vs, rfl, _⟩ := o; cases ru; intro z; cases z
  | tup ds => obtain ⟨a, vs, rfl, _⟩ := o; cases ru; intro z; cases z
  | dic ds => obtain ⟨a, vs, o, rfl, _⟩ := o; cases ru; intro z; cases z
  | ins c fs => obtain ⟨a, C, dx, es, rfl, _⟩ := o; cases ru; intro z; cases z
  | cls c => obtain ⟨a, rfl, _⟩ := o; cases ru; intro z; cases z
  | loc n => obtain ⟨a, rfl, _⟩ := o; cases ru; intro z; cases z
  | set ds => obtain ⟨a, vs, rfl, _⟩ := o; cases ru; intro z; cases z
  | frt ds => obtain ⟨a, vs, ob, rfl, _⟩ := o; cases ru; intro z; cases z
  | kys ds => obtain ⟨a, vs, ob, u, rfl, _⟩ := o; cases ru; intro z; cases z
  | exc c fs => obtain ⟨a, rfl, _⟩ := o; cases ru; intro z; cases z
theorem rep_back {pins : List (Addr × Obj)} {σ : L2.St} {Q : VK} {s : Shared} {A : Around} {m : Sem Value} (h : wpAny (model X.prog X.w) A m (EP X pins σ fun v H => (∀ u, RelV v u → u ≠ .notImplemented) ∧ Q v H) X.xe s) :
    wpAny (model X.prog X.w) A m (PySem.W.CmpBack (EP X pins σ Q)) X.xe s := by
  refine wpAny_mono h (fun u s1 ⟨v, H1, I1, r, n, q⟩ => ?_) fun _ _ z => z
  cases u <;> first | exact ⟨v, H1, I1, r, q⟩ | exact absurd rfl (n _ r)
theorem opp_in_own {x y : Dt} {c : Str} {fs : List (Str × Dt)} {neg : Bool} {op : CmpOp} (hop : op = if neg then .NotIn else .In) (ow : Ow) (F : OwF X S.G k "__contains__" ow) (hr : RoomG k X.A) (tk : Takes X S.W) :
    OpP X S (compareOp op) x y (fun st => match insOf st.w y with
      | some (c, _) => match ow c with
        | some m => ((callM m [y, x] st).bind toB).bind fun b st' => .ok (.bl (if neg then !b else b)) st'
        | none => .stuck
      | none => .stuck) := by
  intro pins s σ H v u V' U' ρ st Q I rv ru R rx ry q
  dsimp only at q
  cases e : insOf st.w y with
  | none => rw [e] at q; exact q.elim
  | some cf =>
    obtain ⟨c, fs⟩ := cf
    rw [e] at q
    dsimp only at q
    cases em : ow c with
    | none => rw [em] at q; exact q.elim
    | some m =>
      rw [em] at q
      obtain ⟨a, C, dx, es, rfl, hc, ha, _⟩ := ins_at R.cov ry e
      obtain ⟨C', g, hc', h1, h2, h3, h4, Fm⟩ := F.f c m em
      rw [hc] at hc'; cases hc'
      cases ru
      obtain ⟨mA, J, _⟩ := ins_get I.hok ha
      obtain ⟨od, J, _⟩ := J.look
      obtain ⟨mm, hF⟩ := I.fr
      have run : wpAny (model X.prog X.w) X.A (call (.ref g) [.ref a, V']) (EP X pins σ fun z H1 => ∃ b, z = .bl b ∧ Q (.bl (if neg then !b else b)) H1) X.xe s := by
        refine run_DA (k := k) rfl Fm hr tk I (.cons (show RelV (V.ref a) (Value.ref a) from rfl) (.cons rv .nil)) R (.cons ry (.cons rx .nil)) ?_
        refine Out.sat_mono (Out.sat_bind (Out.sat_bind q)) (fun d st1 q1 z ρ1 H1 e1 R1 r1 => ?_) fun _ _ h => h
        cases d with
        | bl b => exact ⟨b, r1.out, q1 _ ρ1 H1 e1 R1 rep_bl⟩
        | _ => exact False.elim q1
      have fin : wpAny (model X.prog X.w) X.A (call (.ref g) [.ref a, V']) (fun r s' => wpAny (model X.prog X.w) X.A (truthy r) (fun b => EP X pins σ Q (.bool (if neg then !b else b))) X.xe s') X.xe s := by
        refine thn run fun r s' ⟨z, H1, I1, r1, b, ez, q1⟩ => ?_
        subst ez
        cases r1
        exact wpAny_truthy_bool ⟨.bl _, H1, I1, rfl, q1⟩
      subst hop
      cases neg with
      | false => exact PySem.W.in_K hF I.ok.mod.kin J h1 h2 fin
      | true => exact PySem.W.notIn_K hF I.ok.mod.kin J h1 h2 fin
theorem opp_sub_own {a b : Expr} {x y : Dt} (ow : Ow) (F : OwF X S.G k "__getitem__" ow) (hr : RoomG (k + 1) X.A) (tk : Takes X S.W) (hsl : ∀ o i, subscripted b true o i = runValue (.builtin "lifetime.subscript" ⟨[o, i], []⟩)) :
    OpP X S (subscriptTail a b) x y (fun st => match insOf st.w x with
      | some (c, _) => match ow c with
        | some m => callM m [x, y] st
        | none => .stuck
      | none => .stuck) := by
  intro pins s σ H v u V' U' ρ st Q I rv ru R rx ry q
  dsimp only at q
  cases e : insOf st.w x with
  | none => rw [e] at q; exact q.elim
  | some cf =>
    obtain ⟨c, fs⟩ := cf
    rw [e] at q
    dsimp only at q
    cases em : ow c with
    | none => rw [em] at q; exact q.elim
    | some m =>
      rw [em] at q
      obtain ⟨a, C, dx, es, rfl, hc, ha, _⟩ := ins_at R.cov rx e
      obtain ⟨C', g, hc', h1, h2, h3, h4, Fm⟩ := F.f c m em
      rw [hc] at hc'; cases hc'
      cases rv
      obtain ⟨mA, J, _⟩ := ins_get I.hok ha
      obtain ⟨od, J, _⟩ := J.look
      obtain ⟨mm, hF⟩ := I.fr
      exact PySem.W.sub_K hF I.ok.mod.kin J h1 h3 h2 (run_DA (A := X.A.in1) rfl Fm hr.in1 tk I (.cons (show RelV (V.ref a) (Value.ref a) from rfl) (.cons ru .nil)) R (.cons rx (.cons ry .nil)) q) (hsl _ _)
theorem opp_bin_own {op : Operator} {nm : Str} {x y : Dt} (hnm : PySem.dunder op.info.2 = nm) (ow : Ow) (F : OwF X S.G k nm ow) (hr : RoomG k X.A) (tk : Takes X S.W) :
    OpP X S (binaryOp op) x y (fun st => match insOf st.w x, insOf st.w y with
      | some (c, _), some (c', _) => if c = c' then (match ow c with
        | some m => callM m [x, y] st
        | none => .stuck) else .stuck
      | _, _ => .stuck) := by
  intro pins s σ H v u V' U' ρ st Q I rv ru R rx ry q
  dsimp only at q
  cases e : insOf st.w x with
  | none => rw [e] at q; exact q.elim
  | some cf =>
    cases e' : insOf st.w y with
    | none => rw [e, e'] at q; exact q.elim
    | some cf' =>
      obtain ⟨c, fs⟩ := cf
      obtain ⟨c', fs'⟩ := cf'
      rw [e, e'] at q
      dsimp only at q
      split at q
      case isFalse => exact q.elim
      rename_i ec
      subst ec
      cases em : ow c with
      | none => rw [em] at q; exact q.elim
      | some m =>
        rw [em] at q
        obtain ⟨a, C, dx, es, rfl, hc, ha, _⟩ := ins_at R.cov rx e
        obtain ⟨b, C2, dx2, es2, rfl, hc2, hb, _⟩ := ins_at R.cov ry e'
        obtain ⟨C', g, hc', h1, h2, h3, h4, Fm⟩ := F.f c m em
        rw [hc] at hc'; cases hc'
        rw [hc] at hc2; cases hc2
        cases rv
        cases ru
        obtain ⟨mA, J, _⟩ := ins_get I.hok ha
        obtain ⟨mB, J', _⟩ := ins_get I.hok hb
        obtain ⟨od, J, _⟩ := J.look
        obtain ⟨od', J', _⟩ := J'.look
        obtain ⟨mm, hF⟩ := I.fr
        subst hnm
        refine PySem.W.binop_K hF I.ok.mod.kin J J'.type h4 h1 h2 (rep_back ?_)
        exact run_DA rfl Fm hr tk I (.cons (show RelV (V.ref a) (Value.ref a) from rfl) (.cons (show RelV (V.ref b) (Value.ref b) from rfl) .nil)) R (.cons rx (.cons ry .nil)) (Out.sat_mono q (fun d st1 q1 z ρ1 H1 e1 R1 r1 => ⟨not_ni r1, q1 z ρ1 H1 e1 R1 r1⟩) fun _ _ h => h)
theorem opp_cmp_own {op : CmpOp} {nm : Str} {x y : Dt} (hop : ∀ a b, compareOp op a b = richCompare op a b) (hnm : (cmpInfo op).2.1 = nm) (ow : Ow) (F : OwF X S.G k nm ow) (hr : RoomG k X.A) (tk : Takes X S.W) :
    OpP X S (compareOp op) x y (fun st => match insOf st.w x, insOf st.w y with
      | some (c, _), some (c', _) => if c = c' then (match ow c with
        | some m => callM m [x, y] st
        | none => .stuck) else .stuck
      | _, _ => .stuck) := by
  intro pins s σ H v u V' U' ρ st Q I rv ru R rx ry q
  dsimp only at q
  cases e : insOf st.w x with
  | none => rw [e] at q; exact q.elim
  | some cf =>
    cases e' : insOf st.w y with
    | none => rw [e, e'] at q; exact q.elim
    | some cf' =>
      obtain ⟨c, fs⟩ := cf
      obtain ⟨c', fs'⟩ := cf'
      rw [e, e'] at q
      dsimp only at q
      split at q
      case isFalse => exact q.elim
      rename_i ec
      subst ec
      cases em : ow c with
      | none => rw [em] at q; exact q.elim
      | some m =>
        rw [em] at q
        obtain ⟨a, C, dx, es, rfl, hc, ha, _⟩ := ins_at R.cov rx e
        obtain ⟨b, C2, dx2, es2, rfl, hc2, hb, _⟩ := ins_at R.cov ry e'
        obtain ⟨C', g, hc', h1, h2, h3, h4, Fm⟩ := F.f c m em
        rw [hc] at hc'; cases hc'
        rw [hc] at hc2; cases hc2
        cases rv
        cases ru
        obtain ⟨mA, J, _⟩ := ins_get I.hok ha
        obtain ⟨mB, J', _⟩ := ins_get I.hok hb
        obtain ⟨od, J, _⟩ := J.look
        obtain ⟨od', J', _⟩ := J'.look
        obtain ⟨mm, hF⟩ := I.fr
        subst hnm
        rw [hop]
        refine PySem.W.cmp_K hr.units0 hF I.ok.mod.kin J J'.type (by simp [PySem.W.notFirst]) h1 h2 (rep_back ?_)
        exact run_DA rfl Fm hr tk I (.cons (show RelV (V.ref a) (Value.ref a) from rfl) (.cons (show RelV (V.ref b) (Value.ref b) from rfl) .nil)) R (.cons rx (.cons ry .nil)) (Out.sat_mono q (fun d st1 q1 z ρ1 H1 e1 R1 r1 => ⟨not_ni r1, q1 z ρ1 H1 e1 R1 r1⟩) fun _ _ h => h)
theorem cap_len_own {xs : List Dt} (ow : Ow) (F : OwF X S.G k "__len__" ow) (hr : RoomG (k + 1) X.A) (tk : Takes X S.W) :
    CaP X S (fun us => call (.builtin "len") us) xs (fun st => match xs with
      | [x] => (match insOf st.w x with
        | some (c, _) => match ow c with
          | some m => (callM m [x] st).bind fun d => match d with
            | .int i => if 0 ≤ i ∧ i < 2 ^ 62 then fun st' => .ok (.int i) st' else stk
            | _ => stk
          | none => .stuck
        | none => .stuck)
      | _ => .stuck) := by
  intro pins s σ H vs us ρ st Q I rv R rxs q
  cases rxs with
  | nil => exact q.elim
  | @cons v x vs' xs' rx t =>
    cases t with
    | cons _ _ => exact q.elim
    | nil =>
      cases rv with | cons rv t2 => cases t2 with | nil =>
      dsimp only at q
      cases e : insOf st.w x with
      | none => rw [e] at q; exact q.elim
      | some cf =>
        obtain ⟨c, fs⟩ := cf
        rw [e] at q
        dsimp only at q
        cases em : ow c with
        | none => rw [em] at q; exact q.elim
        | some m =>
          rw [em] at q
          obtain ⟨a, C, dx, es, rfl, hc, ha, _⟩ := ins_at R.cov rx e
          obtain ⟨C', g, hc', h1, h2, h3, h4, Fm⟩ := F.f c m em
          rw [hc] at hc'; cases hc'
          cases rv
          obtain ⟨mA, J, _⟩ := ins_get I.hok ha
          obtain ⟨od, J, _⟩ := J.look
          obtain ⟨mm, hF⟩ := I.fr
          refine PySem.W.len_K hF I.ok.mod.kin J h1 h2 (thn (run_DA (A := X.A.in1) (Q := fun z H1 => ∃ i : Int, z = .int i ∧ (0 ≤ i ∧ i < 2 ^ 62) ∧ Q (.int i) H1) rfl Fm hr.in1 tk I (.cons (show RelV (V.ref a) (Value.ref a) from rfl) .nil) R (.cons rx .nil) ?_) fun r s' ⟨z, H1, I1, r1, i, ez, hi, q1⟩ => ?_)
          · refine Out.sat_mono (Out.sat_bind q) (fun d st1 q1 z ρ1 H1 e1 R1 r1 => ?_) fun _ _ h => h
            cases d with
            | int i =>
              dsimp only at q1
              split at q1
              · rename_i hi; exact ⟨i, r1.out, hi, q1 _ ρ1 H1 e1 R1 rep_int⟩
              · exact q1.elim
            | _ => exact False.elim q1
          · subst ez
            obtain ⟨t, rfl⟩ := r1
            exact ⟨⟨hi.1, by omega⟩, .int i, H1, I1.kept (h' := s'.heap) (t' := s'.toks + 1) fun b ob q => q, ⟨_, rfl⟩, q1⟩
end
end B
end
section
set_option maxRecDepth 100000
set_option maxHeartbeats 4000000
namespace B
open PySem L2
open PyProof.Rows (envOfC subscriptTail isTrue_plain)
mutual
def pyD : Dt → Option PyData
  | .non => some .none
  | .bl b => some (.bool b)
  | .int i => some (.int i)
  | .str x => some (.str x)
  | .lst xs => (pyDs xs).map .list
  | .tup xs => (pyDs xs).map .tuple
  | .ty _ => none
  | .dic _ => none
  | .set _ => none
  | .frt xs => (pyDs xs).map .tuple
  | .kys _ => none
  | .ins _ _ => none
  | .exc _ _ => none
  | .cls _ => none
  | .loc _ => none
def pyDs : List Dt → Option (List PyData)
  | [] => some []
  | d :: ds => match pyD d with
    | some p => (pyDs ds).map (p :: ·)
    | none => none
end
section
variable {G : Cfg} {ρ : Fz} {w : Wd} {H : Hp}
mutual
theorem dp_of (c : Cov G ρ w H) : ∀ (d : Dt) {v : V} {p : PyData}, Rep G ρ v d → pyD d = some p → Dp G.K H v p
  | .non, v, p, r, h => by rw [pyD] at h; cases h; rw [r.non]; exact .non
  | .bl b, v, p, r, h => by rw [pyD] at h; cases h; rw [r.bl]; exact .bl b
  | .int b, v, p, r, h => by rw [pyD] at h; cases h; rw [r.int]; exact .int b
  | .str b, v, p, r, h => by rw [pyD] at h; cases h; rw [r.str]; exact .str b
  | .lst xs, v, p, r, h => by
    rw [pyD] at h
    cases e : pyDs xs with
    | none => rw [e] at h; cases h
    | some ps =>
      rw [e] at h; cases h
      obtain ⟨a, vs, rfl, f, q⟩ := r.lst
      exact .lst (c.sl f) (dps_of c xs q e)
  | .tup xs, v, p, r, h => by
    rw [pyD] at h
    cases e : pyDs xs with
    | none => rw [e] at h; cases h
    | some ps =>
      rw [e] at h; cases h
      obtain ⟨a, vs, rfl, f, q⟩ := r.tup
      exact .tup (c.st f) (dps_of c xs q e)
  | .ty _, _, _, _, h => by rw [pyD] at h; cases h
  | .dic _, _, _, _, h => by rw [pyD] at h; cases h
  | .set _, _, _, _, h => by rw [pyD] at h; cases h
  | .kys _, _, _, _, h => by rw [pyD] at h; cases h
  | .frt xs, v, p, r, h => by
    rw [pyD] at h
    cases e : pyDs xs with
    | none => rw [e] at h; cases h
    | some ps =>
      rw [e] at h; cases h
      obtain ⟨a, vs, rfl, f, q⟩ := r.frt
      exact .tup (c.st f) (dps_of c xs q e)
  | .ins _ _, _, _, _, h => by rw [pyD] at h; cases h
  | .exc _ _, _, _, _, h => by rw [pyD] at h; cases h
  | .cls _, _, _, _, h => by rw [pyD] at h; cases h
  | .loc _, _, _, _, h => by rw [pyD] at h; cases h
theorem dps_of (c : Cov G ρ w H) : ∀ (ds : List Dt) {vs : List V} {ps : List PyData}, Paired (Rep G ρ) vs ds → pyDs ds = some ps → DpAll G.K H vs ps
  | [], vs, ps, r, h => by rw [pyDs] at h; cases h; cases r; exact .nil
  | d :: ds, vs, ps, r, h => by
    rw [pyDs] at h
    cases e : pyD d with
    | none => rw [e] at h; cases h
    | some p =>
      rw [e] at h
      dsimp only at h
      cases e2 : pyDs ds with
      | none => rw [e2] at h; cases h
      | some qs =>
        rw [e2] at h; cases h
        cases r with
        | cons r rs => exact .cons (dp_of c d r e) (dps_of c ds rs e2)
end
def eqB (x y : Dt) : Option Bool := match pyD x, pyD y with
  | some p, some q => if SeqAt.shaped p && SeqAt.shaped q then some (PyData.eqv p q) else none
  | _, _ => none
def eqD (x y : Dt) : Option Dt := (eqB x y).map .bl
def neD (x y : Dt) : Option Dt := (eqB x y).map fun b => .bl (!b)
theorem eqB_dp {x y : Dt} {v u : V} {b : Bool} (c : Cov G ρ w H) (rx : Rep G ρ v x) (ry : Rep G ρ u y) (e : eqB x y = some b) : ∃ p q, Dp G.K H v p ∧ Dp G.K H u q ∧ SeqAt.shaped p = true ∧ SeqAt.shaped q = true ∧ b = PyData.eqv p q := by
  unfold eqB at e
  cases ex : pyD x with
  | none => rw [ex] at e; cases e
  | some p =>
    cases ey : pyD y with
    | none => rw [ex, ey] at e; cases e
    | some q =>
      rw [ex, ey] at e
      dsimp only at e
      split at e
      · rename_i h
        cases e
        rw [Bool.and_eq_true] at h
        exact ⟨p, q, dp_of c x rx ex, dp_of c y ry ey, h.1, h.2, rfl⟩
      · cases e
theorem dop_eq : DOp2 G (rEqD G.K) eqD := by
  intro ρ w H v u x y d c rx ry e Q q
  unfold eqD at e
  cases eb : eqB x y with
  | none => rw [eb] at e; cases e
  | some b =>
    rw [eb] at e; cases e
    obtain ⟨p, r, h1, h2, h3, h4, rfl⟩ := eqB_dp c rx ry eb
    exact ⟨p, r, h1, h2, h3, h4, q _ ρ H (Stp.refl c) rep_bl⟩
theorem dop_ne : DOp2 G (rNeD G.K) neD := by
  intro ρ w H v u x y d c rx ry e Q q
  unfold neD at e
  cases eb : eqB x y with
  | none => rw [eb] at e; cases e
  | some b =>
    rw [eb] at e; cases e
    obtain ⟨p, r, h1, h2, h3, h4, rfl⟩ := eqB_dp c rx ry eb
    exact ⟨p, r, h1, h2, h3, h4, q _ ρ H (Stp.refl c) rep_bl⟩
def inL (x y : Dt) : Option Dt := match pyD x, y with
  | some p, .lst ys => match pyDs ys with
    | some qs => if SeqAt.shaped p && SeqAt.shaped (.list qs) then some (.bl (qs.any fun z => PyData.eqv z p)) else none
    | none => none
  | _, _ => none
theorem inL_dp {x y d : Dt} {v u : V} (c : Cov G ρ w H) (rx : Rep G ρ v x) (ry : Rep G ρ u y) (e : inL x y = some d) : ∃ p qs, Dp G.K H v p ∧ Dp G.K H u (.list qs) ∧ SeqAt.shaped p = true ∧ SeqAt.shaped (.list qs) = true ∧ d = .bl (qs.any fun z => PyData.eqv z p) := by
  unfold inL at e
  split at e
  · rename_i p ys ex
    split at e
    · rename_i qs ey
      split at e
      · rename_i h
        cases e
        rw [Bool.and_eq_true] at h
        exact ⟨p, qs, dp_of c x rx ex, dp_of c (.lst ys) ry (by rw [pyD, ey]; rfl), h.1, h.2, rfl⟩
      · cases e
    · cases e
  · cases e
theorem dop_inL : DOp2 G (rInD G.K) inL := by
  intro ρ w H v u x y d c rx ry e Q q
  obtain ⟨p, qs, h1, h2, h3, h4, rfl⟩ := inL_dp c rx ry e
  exact ⟨p, qs, h1, h2, h3, h4, q _ ρ H (Stp.refl c) rep_bl⟩
def notB (o : Option Dt) : Option Dt := match o with
  | some (.bl b) => some (.bl (!b))
  | _ => none
def vD : Dt → Option V
  | .non => some .non
  | .bl b => some (.bl b)
  | .int i => some (.int i)
  | .str x => some (.str x)
  | _ => none
theorem vD_rep {d : Dt} {v z : V} (r : Rep G ρ v d) (h : vD d = some z) : v = z ∧ flatV z = true := by
  cases d <;> cases h
  · exact ⟨r.non, rfl⟩
  · exact ⟨r.bl, rfl⟩
  · exact ⟨r.int, rfl⟩
  · exact ⟨r.str, rfl⟩
def vDs : List Dt → Option (List V)
  | [] => some []
  | d :: ds => match vD d, vDs ds with
    | some v, some vs => some (v :: vs)
    | _, _ => none
theorem vDs_rep : ∀ {ds : List Dt} {vs zs : List V}, Paired (Rep G ρ) vs ds → vDs ds = some zs → vs = zs ∧ zs.all flatV = true
  | [], _, _, .nil, h => by cases h; exact ⟨rfl, rfl⟩
  | d :: ds, _, _, .cons r rs, h => by
    unfold vDs at h
    cases e : vD d with
    | none => rw [e] at h; cases h
    | some v =>
      cases e2 : vDs ds with
      | none => rw [e, e2] at h; cases h
      | some vs =>
        rw [e, e2] at h; cases h
        obtain ⟨a1, a2⟩ := vD_rep r e
        obtain ⟨b1, b2⟩ := vDs_rep rs e2
        exact ⟨by rw [a1, b1], by rw [List.all_cons, a2, b2]; rfl⟩
def inF (x y : Dt) : Option Dt := match vD x, y with
  | some v, .lst ys => (vDs ys).map fun vs => .bl (inV v vs)
  | some v, .tup ys => (vDs ys).map fun vs => .bl (inV v vs)
  | _, _ => none
theorem dop_inF {neg : Bool} : DOp2 G (rIn G.K neg) (fun x y => if neg then notB (inF x y) else inF x y) := by
  intro ρ w H v u x y d c rx ry e Q q
  have e : (if neg then notB (inF x y) else inF x y) = some d := e
  have key : ∀ (z : V) (ys : List Dt) (vs : List V), vD x = some z → vDs ys = some vs → inF x y = some (.bl (inV z vs)) → (∃ p xs, u = .ref p ∧ (SqL G.K H p xs ∨ SqT G.K H p xs) ∧ Paired (Rep G ρ) xs ys) → rIn G.K neg v u H Q := by
    intro z ys vs h1 h2 h3 ⟨p, xs, h4, h5, h6⟩
    obtain ⟨rfl, f1⟩ := vD_rep rx h1
    obtain ⟨rfl, f2⟩ := vDs_rep h6 h2
    refine ⟨p, xs, h4, h5, f1, f2, ?_⟩
    rw [h3] at e
    cases neg with
    | false => cases e; exact q _ ρ H (Stp.refl c) rep_bl
    | true => cases e; exact q _ ρ H (Stp.refl c) rep_bl
  cases ex : vD x with
  | none => unfold inF at e; rw [ex] at e; cases neg <;> cases e
  | some z =>
    cases y with
    | lst ys =>
      cases ey : vDs ys with
      | none => unfold inF at e; rw [ex] at e; dsimp only at e; rw [ey] at e; cases neg <;> cases e
      | some vs =>
        obtain ⟨a, xs, h1, h2, h3⟩ := ry.lst
        exact key z ys vs ex ey (by unfold inF; rw [ex]; dsimp only; rw [ey]; rfl) ⟨a, xs, h1, .inl (c.sl h2), h3⟩
    | tup ys =>
      cases ey : vDs ys with
      | none => unfold inF at e; rw [ex] at e; dsimp only at e; rw [ey] at e; cases neg <;> cases e
      | some vs =>
        obtain ⟨a, xs, h1, h2, h3⟩ := ry.tup
        exact key z ys vs ex ey (by unfold inF; rw [ex]; dsimp only; rw [ey]; rfl) ⟨a, xs, h1, .inr (c.st h2), h3⟩
    | _ => unfold inF at e; rw [ex] at e; cases neg <;> cases e
def inS (x y : Dt) : Option Dt := match x, y with
  | .str i, .str j => match i.cps.toList with
    | [c] => some (.bl (decide (c ∈ j.cps.toList)))
    | _ => none
  | _, _ => none
theorem inS_of {x y d : Dt} {v u : V} (rx : Rep G ρ v x) (ry : Rep G ρ u y) (e : inS x y = some d) : ∃ (c : Nat) (z : Str), v = .str ⟨#[c]⟩ ∧ u = .str z ∧ d = .bl (decide (c ∈ z.cps.toList)) := by
  unfold inS at e
  split at e
  · rename_i i j
    split at e
    · rename_i cc hc
      cases e
      refine ⟨cc, j, ?_, ry.str, rfl⟩
      rw [rx.str]
      obtain ⟨cs⟩ := i
      have h : cs = #[cc] := by
        have := congrArg List.toArray hc
        simpa using this
      rw [h]
    · cases e
  · cases e
theorem dop_inS : DOp2 G (fun x y H Q => ∃ (c : Nat) (z : Str), x = .str ⟨#[c]⟩ ∧ y = .str z ∧ Q (.bl (decide (c ∈ z.cps.toList))) H) inS := by
  intro ρ w H v u x y d c rx ry e Q q
  obtain ⟨cc, z, h1, h2, rfl⟩ := inS_of rx ry e
  exact ⟨cc, z, h1, h2, q _ ρ H (Stp.refl c) rep_bl⟩
def fdivI := gI fun i j => if 0 < j ∧ j.natAbs < 2 ^ 1000 then some (.int (i / j)) else none
theorem dop_fdiv : DOp2 G (rI CDivW fun i j => .int (i / j)) fdivI := dop_I fun i j d e => by
  split at e
  · rename_i h
    cases e
    refine ⟨⟨h.1, ?_⟩, fun ρ => rep_int⟩
    by_cases h0 : j.natAbs = 0
    · rw [h0]; decide
    · exact Nat.lt_of_lt_of_le ((Nat.log2_lt h0).mpr h.2) (by decide)
  · cases e
def ltS := gS fun i j => some (.bl (decide (i.cps.toList < j.cps.toList)))
theorem dop_ltS : DOp2 G (fun x y H Q => ∃ i j, x = .str i ∧ y = .str j ∧ Q (.bl (decide (i.cps.toList < j.cps.toList))) H) ltS := by
  intro ρ w H v u x y d c rx ry e Q q
  cases x with
  | str i =>
    cases y with
    | str j => cases e; exact ⟨i, j, rx.str, ry.str, q _ ρ H (Stp.refl c) rep_bl⟩
    | _ => cases e
  | _ => cases e
def catT : Dt → Dt → Option Dt
  | .tup xs, .tup ys => if xs.length + ys.length ≤ LIM then some (.tup (xs ++ ys)) else none
  | _, _ => none
theorem dop_catT : DOp2 G (rCatA G.K) catT := by
  intro ρ w H v u x y d c rx ry e Q q
  cases x with
  | tup xs =>
    cases y with
    | tup ys =>
      have e : (if xs.length + ys.length ≤ LIM then some (Dt.tup (xs ++ ys)) else none) = some d := e
      split at e
      · rename_i h
        cases e
        obtain ⟨a, vs, rfl, f1, p1⟩ := rx.tup
        obtain ⟨b, us, rfl, f2, p2⟩ := ry.tup
        refine ⟨a, b, vs, us, rfl, rfl, c.st f1, c.st f2, lim_ok (by rw [p1.length, p2.length]; exact h), fun z => ?_, fun _ z => ?_, fun _ _ p hp => ?_⟩
        · subst z; cases p1; exact q _ ρ H (Stp.refl c) ry
        · subst z; cases p2; rw [List.append_nil] at q; exact q _ ρ H (Stp.refl c) rx
        · have s := Stp.fresh (o := .tup (vs ++ us)) c hp
          exact q _ _ _ s (.mk ⟨p, _, rfl, upd_same, (paired_append p1 p2).mp fun _ _ z => z.mono s.ext⟩)
      · cases e
    | _ => cases e
  | _ => cases e
def mulS : Dt → Dt → Option Dt
  | .str x, .int n => if 0 ≤ n ∧ n ≤ 1000 ∧ x.length ≤ 1000 then some (.str (Txt.mul x n)) else none
  | _, _ => none
end
section
variable {X : Cx}
theorem op_mulS : OpR X (binaryOp .Mult) (fun x y H Q => ∃ i j, x = .str i ∧ y = .int j ∧ (0 ≤ j ∧ j ≤ 1000 ∧ i.length ≤ 1000) ∧ Q (.str (Txt.mul i j)) H) := by
  intro pins s σ H x y v u Q I rx ry ⟨i, j, ex, ey, hb, q⟩
  subst ex ey
  obtain ⟨t, rfl⟩ := rx
  obtain ⟨t', rfl⟩ := ry
  refine SB.mul (PyProof.Rows.mulOk_of 1000 1000 (by omega) (by omega) (by omega) (by decide) (by decide)) fun t2 k2 => ?_
  exact ⟨.str _, H, I.kept (h' := s.heap) (t' := k2) fun b ob q => q, ⟨_, rfl⟩, q⟩
end
theorem dop_mulS {G : Cfg} : DOp2 G (fun x y H Q => ∃ i j, x = .str i ∧ y = .int j ∧ (0 ≤ j ∧ j ≤ 1000 ∧ i.length ≤ 1000) ∧ Q (.str (Txt.mul i j)) H) mulS := by
  intro ρ w H v u x y d c rx ry e Q q
  cases x with
  | str i =>
    cases y with
    | int j =>
      have e : (if 0 ≤ j ∧ j ≤ 1000 ∧ i.length ≤ 1000 then some (Dt.str (Txt.mul i j)) else none) = some d := e
      split at e
      · rename_i h; cases e; exact ⟨i, j, rx.str, ry.int, h, q _ ρ H (Stp.refl c) rep_str⟩
      · cases e
    | _ => cases e
  | _ => cases e
end B
end
section
set_option maxRecDepth 100000
set_option maxHeartbeats 4000000
namespace B
open PySem L2
open PyProof.Rows (envOfC subscriptTail isTrue_plain)
section
variable {X : Cx} {S : Ss} {f : Value → Value → Sem Value} {x y : Dt} {k : Nat}
theorem opp_or {o1 o2 : Option Dt} (h1 : OpP X S f x y (opt o1)) (h2 : OpP X S f x y (opt o2)) : OpP X S f x y (opt (o1.or o2)) := by
  cases o1 with
  | none => exact h2
  | some d => exact h1
theorem cap_or {f : List Value → Sem Value} {xs : List Dt} {o1 o2 : Option Dt} (h1 : CaP X S f xs (opt o1)) (h2 : CaP X S f xs (opt o2)) : CaP X S f xs (opt (o1.or o2)) := by
  cases o1 with
  | none => exact h2
  | some d => exact h1
def byIns (z : Dt) (m1 m2 : M Dt) : M Dt := fun st => match insOf st.w z with
  | some _ => m1 st
  | none => m2 st
theorem opp_ins {z : Dt} {m1 m2 : M Dt} (h1 : OpP X S f x y m1) (h2 : OpP X S f x y m2) : OpP X S f x y (byIns z m1 m2) := by
  intro pins s σ H v u V' U' ρ st Q I rv ru R rx ry q
  unfold byIns at q
  split at q
  · exact h1 pins s σ H v u V' U' ρ st Q I rv ru R rx ry q
  · exact h2 pins s σ H v u V' U' ρ st Q I rv ru R rx ry q
def ownBin (ow : Ow) (x y : Dt) : M Dt := fun st => match insOf st.w x, insOf st.w y with
  | some (c, _), some (c', _) => if c = c' then (match ow c with
    | some m => callM m [x, y] st
    | none => .stuck) else .stuck
  | _, _ => .stuck
def ownIn (ow : Ow) (neg : Bool) (x y : Dt) : M Dt := fun st => match insOf st.w y with
  | some (c, _) => match ow c with
    | some m => ((callM m [y, x] st).bind toB).bind fun b st' => .ok (.bl (if neg then !b else b)) st'
    | none => .stuck
  | none => .stuck
def ownSub (ow : Ow) (x y : Dt) : M Dt := fun st => match insOf st.w x with
  | some (c, _) => match ow c with
    | some m => callM m [x, y] st
    | none => .stuck
  | none => .stuck
def addU (ow : Ow) : MO2 := fun x y => byIns x (ownBin ow x y) (opt ((addI x y).or ((addS x y).or ((catL x y).or (catT x y)))))
theorem opd_add {ow : Ow} (hk : S.G.K = X.K) (F : OwF X S.G k "__add__" ow) (hr : RoomG k X.A) (tk : Takes X S.W) : OpD X S (binaryOp .Add) (addU ow) := fun x y =>
  opp_ins (opp_bin_own rfl ow F hr tk) (opp_or (opp_of op_add dop_add) (opp_or (opp_of op_add_str dop_addS) (opp_or (opp_new op_cat dnew_catL) (opp_of op_catA (hk ▸ dop_catT)))))
def subU (ow : Ow) : MO2 := fun x y => byIns x (ownBin ow x y) (opt (subI x y))
theorem opd_sub {ow : Ow} (F : OwF X S.G k "__sub__" ow) (hr : RoomG k X.A) (tk : Takes X S.W) : OpD X S (binaryOp .Sub) (subU ow) := fun x y =>
  opp_ins (opp_bin_own rfl ow F hr tk) (opp_of op_sub dop_sub)
def mulU : MO2 := fun x y => opt ((mulI x y).or (mulS x y))
theorem opd_mul : OpD X S (binaryOp .Mult) mulU := fun x y => opp_or (opp_of op_mul dop_mul) (opp_of op_mulS dop_mulS)
def modU : MO2 := fun x y => opt (modI x y)
theorem opd_mod : OpD X S (binaryOp .Mod) modU := fun x y => opp_of op_mod dop_mod
def powU : MO2 := fun x y => opt (powI x y)
theorem opd_pow : OpD X S (binaryOp .Pow) powU := fun x y => opp_of op_pow dop_pow
def fdivU : MO2 := fun x y => opt (fdivI x y)
theorem opd_fdiv : OpD X S (binaryOp .FloorDiv) fdivU := fun x y => opp_of op_fdivW dop_fdiv
def eqU (ow : Ow) : MO2 := fun x y => byIns x (ownBin ow x y) (opt (eqD x y))
def neU : MO2 := fun x y => opt (neD x y)
theorem opd_eq {ow : Ow} (hk : S.G.K = X.K) (F : OwF X S.G k "__eq__" ow) (hr : RoomG k X.A) (tk : Takes X S.W) : OpD X S (compareOp .Eq) (eqU ow) := fun x y =>
  opp_ins (opp_cmp_own (fun _ _ => rfl) rfl ow F hr tk) (opp_of (op_eqD hr.units) (hk ▸ dop_eq))
theorem opd_ne (hk : S.G.K = X.K) (hr : RoomG k X.A) : OpD X S (compareOp .NotEq) neU := fun x y => opp_of (op_neD hr.units) (hk ▸ dop_ne)
def ltU (ow : Ow) : MO2 := fun x y => byIns x (ownBin ow x y) (opt ((ltI x y).or (ltS x y)))
theorem opd_lt {ow : Ow} (F : OwF X S.G k "__lt__" ow) (hr : RoomG k X.A) (tk : Takes X S.W) : OpD X S (compareOp .Lt) (ltU ow) := fun x y =>
  opp_ins (opp_cmp_own (fun _ _ => rfl) rfl ow F hr tk) (opp_or (opp_of op_lt dop_lt) (opp_of op_lt_str dop_ltS))
def leU : MO2 := fun x y => opt (leI x y)
theorem opd_le : OpD X S (compareOp .LtE) leU := fun x y => opp_of op_le dop_le
def gtU : MO2 := fun x y => opt (gtI x y)
theorem opd_gt : OpD X S (compareOp .Gt) gtU := fun x y => opp_of op_gt dop_gt
def geU : MO2 := fun x y => opt (geI x y)
theorem opd_ge : OpD X S (compareOp .GtE) geU := fun x y => opp_of op_ge dop_ge
section
variable {G : Cfg} {ρ : Fz} {w : Wd} {H : Hp} {v u : V} {kvs : List (Dt × Dt)} {l : Dt}
theorem dget_of (cv : Cov G ρ w H) {a : Addr} {o : HO} (hr : Rd H a o) (h : DicRep (Rep G ρ) o kvs) (ru : Rep G ρ u l) (hk : isKey l = true) (hne : ∃ es, o = .dK es) :
    (∀ d, getK kvs l = some d → ∃ z, DGet H a u (some z) ∧ Rep G ρ z d) ∧ (getK kvs l = none → DGet H a u none) := by
  obtain ⟨j, rfl⟩ := kD_of hk
  have eu := kV_of ru
  obtain ⟨es, rfl⟩ := hne
  rcases h with ⟨es, e, p⟩ | ⟨es, ⟨e, _⟩, p⟩
  · cases e
    obtain ⟨g1, g2⟩ := getK_rep p j
    refine ⟨fun d hd => ?_, fun hn => .inl ⟨es, j, hr, eu, (g2 hn).symm⟩⟩
    obtain ⟨z, e, r⟩ := g1 d hd
    exact ⟨z, .inl ⟨es, j, hr, eu, e.symm⟩, r⟩
  · cases e
end
def dgD (w : Wd) (x y : Dt) : Option Dt := match resD w x with
  | some (.dic (kv :: r)) => if isKey y && isKey kv.1 then getK (kv :: r) y else none
  | _ => none
theorem dgD_of {G : Cfg} {ρ : Fz} {w : Wd} {H : Hp} {v u : V} {x y d : Dt} (cv : Cov G ρ w H) (rx : Rep G ρ v x) (ry : Rep G ρ u y) (h : dgD w x y = some d) : ∃ a z, v = .ref a ∧ DGet H a u (some z) ∧ Rep G ρ z d := by
  unfold dgD at h
  split at h
  · rename_i kv r e
    split at h
    · rename_i hk
      rw [Bool.and_eq_true] at hk
      obtain ⟨a, o, rfl, hr, dr⟩ := dic_at cv rx e
      obtain ⟨es, rfl, p⟩ := dicK dr ⟨kv, r, rfl, hk.2⟩
      obtain ⟨z, g, rz⟩ := (dget_of cv hr dr ry hk.1 ⟨es, rfl⟩).1 d h
      exact ⟨a, z, rfl, g, rz⟩
    · cases h
  · cases h
theorem opp_dget {a b : Expr} (hr : RoomG k X.A) (hs : NoSl b) : OpP X S (subscriptTail a b) x y (fun st => opt (dgD st.w x y) st) := by
  intro pins s σ H v u V' U' ρ st Q I rv ru R rx ry q
  dsimp only at q
  cases e : dgD st.w x y with
  | none => rw [e] at q; exact q.elim
  | some d =>
    rw [e] at q
    obtain ⟨p, z, rfl, g, rz⟩ := dgD_of R.cov rx ry e
    cases rv
    refine PyProof.Rows.tail_any (ops := [.ref p, U']) (dict_typeIs I g) PySem.F.slot_dict_getitem.lookup (d_getItem (by have := hr.units; omega) I g ru fun w' s3 I3 rw' => ⟨z, H, I3, rw', q z ρ H (Ext.refl ρ) R rz⟩) (hs _ _)
theorem opp_ix {a b : Expr} (hk : S.G.K = X.K) (hs : PlainIx b) : OpP X S (subscriptTail a b) x y (opt (ixD x y)) := by
  intro pins s σ H v u V' U' ρ st Q I rv ru R rx ry q
  refine ix_seq a b pins s σ H v u V' U' Q I rv ru ?_ (hs _ _)
  cases e : ixD x y with
  | none => rw [e] at q; exact q.elim
  | some d =>
    rw [e] at q
    exact (hk ▸ dop_ix : DOp2 S.G (rIx X.K) ixD) ρ st.w H v u x y d R.cov rx ry e Q fun z ρ3 H3 s3 r3 => q z ρ3 H3 s3.ext (R.step s3) r3
theorem opp_w {o1 o2 : Wd → Option Dt} (h1 : OpP X S f x y (fun st => opt (o1 st.w) st)) (h2 : OpP X S f x y (fun st => opt (o2 st.w) st)) : OpP X S f x y (fun st => opt ((o1 st.w).or (o2 st.w)) st) := by
  intro pins s σ H v u V' U' ρ st Q I rv ru R rx ry q
  cases e : o1 st.w with
  | none => dsimp only at q; rw [e] at q; exact h2 pins s σ H v u V' U' ρ st Q I rv ru R rx ry q
  | some d => dsimp only at q; rw [e] at q; exact h1 pins s σ H v u V' U' ρ st Q I rv ru R rx ry (by dsimp only; rw [e]; exact q)
def getU (ow : Ow) : MO2 := fun x y => byIns x (ownSub ow x y) (fun st => opt ((ixD x y).or (dgD st.w x y)) st)
theorem opd_get {ow : Ow} {a b : Expr} (hk : S.G.K = X.K) (F : OwF X S.G k "__getitem__" ow) (hr : RoomG (k + 1) X.A) (tk : Takes X S.W) (hs : PlainIx b := by intro _ _; rfl) (hsl : ∀ o i, subscripted b true o i = runValue (.builtin "lifetime.subscript" ⟨[o, i], []⟩) := by intro _ _; rfl) :
    OpD X S (subscriptTail a b) (getU ow) := fun x y => opp_ins (opp_sub_own ow F hr tk hsl) (opp_w (o1 := fun _ => ixD x y) (o2 := fun w => dgD w x y) (opp_ix hk hs) (opp_dget hr hs))
def diB (w : Wd) (y x : Dt) : Option Bool := match resD w x with
  | some (.dic []) => if isKey y then some false else none
  | some (.dic (kv :: r)) => if isKey y && isKey kv.1 then some (getK (kv :: r) y).isSome else none
  | _ => none
theorem diB_of {G : Cfg} {ρ : Fz} {w : Wd} {H : Hp} {v u : V} {x y : Dt} {b : Bool} (cv : Cov G ρ w H) (rx : Rep G ρ v x) (ry : Rep G ρ u y) (h : diB w y x = some b) : ∃ a z, v = .ref a ∧ b = z.isSome ∧ DGet H a u z := by
  unfold diB at h
  split at h
  · rename_i e
    split at h
    · rename_i hk
      cases h
      obtain ⟨a, o, rfl, hr, dr⟩ := dic_at cv rx e
      obtain ⟨j, rfl⟩ := kD_of hk
      rcases dr with ⟨es, rfl, p⟩ | ⟨es, ⟨rfl, n⟩, p⟩
      · cases p; exact ⟨a, none, rfl, rfl, .inl ⟨[], j, hr, kV_of ry, rfl⟩⟩
      · cases p; exact absurd rfl n
    · cases h
  · rename_i kv r e
    split at h
    · rename_i hk
      cases h
      rw [Bool.and_eq_true] at hk
      obtain ⟨a, o, rfl, hr, dr⟩ := dic_at cv rx e
      obtain ⟨es, rfl, p⟩ := dicK dr ⟨kv, r, rfl, hk.2⟩
      have g := dget_of cv hr dr ry hk.1 ⟨es, rfl⟩
      cases eg : getK (kv :: r) y with
      | none => exact ⟨a, none, rfl, rfl, g.2 eg⟩
      | some d => obtain ⟨z, h1, _⟩ := g.1 d eg; exact ⟨a, some z, rfl, rfl, h1⟩
    · cases h
  · cases h
end
end B
end
section
set_option maxRecDepth 100000
set_option maxHeartbeats 4000000
namespace B
open PySem L2
open PyProof.Rows (envOfC subscriptTail isTrue_plain)
section
variable {X : Cx} {S : Ss} {f : Value → Value → Sem Value} {x y : Dt} {k : Nat}
theorem opp_din {neg : Bool} {op : CmpOp} (hop : op = if neg then .NotIn else .In) (hr : RoomG k X.A) : OpP X S (compareOp op) x y (fun st => opt ((diB st.w x y).map fun b => .bl (if neg then !b else b)) st) := by
  intro pins s σ H v u V' U' ρ st Q I rv ru R rx ry q
  dsimp only at q
  cases e : diB st.w x y with
  | none => rw [e] at q; exact q.elim
  | some b =>
    rw [e] at q
    obtain ⟨a, z, rfl, hb, g⟩ := diB_of R.cov ry rx e
    subst hb
    cases ru
    subst hop
    have hu : X.A.units + 1 < cLine := by have := hr.units; omega
    cases neg with
    | false => exact d_in hu I g rv fun s3 I3 => ⟨.bl _, H, I3, rfl, q _ ρ H (Ext.refl ρ) R rep_bl⟩
    | true => exact d_notIn hu I g rv fun s3 I3 => ⟨.bl _, H, I3, rfl, q _ ρ H (Ext.refl ρ) R rep_bl⟩
def inU (ow : Ow) : MO2 := fun x y => byIns y (ownIn ow false x y) (fun st => opt ((inS x y).or (((diB st.w x y).map fun b => .bl (if false then !b else b)).or ((inF x y).or (inL x y)))) st)
theorem opd_in {ow : Ow} (hk : S.G.K = X.K) (F : OwF X S.G k "__contains__" ow) (hr : RoomG (k + 1) X.A) (tk : Takes X S.W) : OpD X S (compareOp .In) (inU ow) := fun x y =>
  opp_ins (opp_in_own (neg := false) (c := default) (fs := []) rfl ow F (hr.mono (Nat.le_succ k)) tk)
    (opp_w (o1 := fun _ => inS x y) (o2 := fun w => ((diB w x y).map fun b => .bl (if false then !b else b)).or ((inF x y).or (inL x y))) (opp_of op_in_sign dop_inS)
      (opp_w (o1 := fun w => (diB w x y).map fun b => .bl (if false then !b else b)) (o2 := fun _ => (inF x y).or (inL x y)) (opp_din rfl hr) (opp_or (opp_of op_in_seq (hk ▸ dop_inF (neg := false))) (opp_of (op_inD (by have := hr.un; omega)) (hk ▸ dop_inL)))))
def truD (w : Wd) (x : Dt) : Option Bool := match x with
  | .non => some false
  | .bl b => some b
  | .int i => some (i != 0)
  | .str z => if z.length ≤ LIM then some ((z.length : Int) != 0) else none
  | .lst xs => some (!xs.isEmpty)
  | .tup xs => some (!xs.isEmpty)
  | _ => match resD w x with
    | some (.dic kvs) => if kvs.all (fun kv => isKey kv.1) then some (!kvs.isEmpty) else none
    | _ => none
theorem dicK_all {G : Cfg} {ρ : Fz} {o : HO} {kvs : List (Dt × Dt)} (h : DicRep (Rep G ρ) o kvs) (k : kvs.all (fun kv => isKey kv.1) = true) : ∃ es, o = .dK es ∧ KVR G ρ es kvs := by
  cases kvs with
  | nil =>
    rcases h with h | ⟨es, ⟨_, n⟩, p⟩
    · exact h
    · cases p; exact absurd rfl n
  | cons kv r => exact dicK h ⟨kv, r, rfl, by rw [List.all_cons, Bool.and_eq_true] at k; exact k.1⟩
theorem trp_tru (hk : S.G.K = X.K) : TrP X S x (fun st => opt (truD st.w x) st) := by
  intro pins s σ H v V' ρ st Q I rv R rx q
  dsimp only at q
  cases e : truD st.w x with
  | none => rw [e] at q; exact q.elim
  | some b =>
    rw [e] at q
    have fin : ∀ k, k = b → TruV X.K v H k → wpAny (model X.prog X.w) X.A (truthy V') (fun b s' => ∃ H', Inv X pins σ H' s' ∧ Q b H') X.xe s := fun k ek t => tru_ok pins s σ H v V' Q I rv ⟨k, t, ek ▸ q ρ H (Ext.refl ρ) R⟩
    have dict : ∀ kvs, resD st.w x = some (.dic kvs) → (if kvs.all (fun kv => isKey kv.1) then some (!kvs.isEmpty) else none) = some b → wpAny (model X.prog X.w) X.A (truthy V') (fun b s' => ∃ H', Inv X pins σ H' s' ∧ Q b H') X.xe s := by
      intro kvs er e
      split at e
      · rename_i hall
        cases e
        obtain ⟨a, o, rfl, hr, dr⟩ := dic_at R.cov rx er
        obtain ⟨es, rfl, p⟩ := dicK_all dr hall
        cases rv
        obtain ⟨hz, hS, vs, r, m⟩ := dk_rd I.hok hr
        have hlen : es.length = vs.length := Paired.length r
        have hl := line63
        refine wpAny_truthy_dict hS m (by omega) ⟨H, I.tok _, ?_⟩
        rw [isEmpty_kv r]
        have : (!es.isEmpty) = !kvs.isEmpty := by cases p <;> rfl
        rw [this]
        exact q ρ H (Ext.refl ρ) R
      · cases e
    cases x with
    | non => cases e; exact fin false rfl (by rw [rx.non]; rfl)
    | bl b => cases e; exact fin _ rfl (by rw [rx.bl]; rfl)
    | int b => cases e; exact fin _ rfl (by rw [rx.int]; rfl)
    | str z =>
      have e : (if z.length ≤ LIM then some ((z.length : Int) != 0) else none) = some b := e
      split at e
      · rename_i hl; cases e; exact fin _ rfl (by rw [rx.str]; exact ⟨lim_ok hl, rfl⟩)
      · cases e
    | lst xs =>
      cases e
      obtain ⟨a, vs, rfl, h1, p⟩ := rx.lst
      exact fin _ (by cases p <;> rfl) (.inl ⟨vs, hk ▸ R.cov.sl h1, rfl⟩)
    | tup xs =>
      cases e
      obtain ⟨a, vs, rfl, h1, p⟩ := rx.tup
      exact fin _ (by cases p <;> rfl) (.inr (.inl ⟨vs, hk ▸ R.cov.st h1, rfl⟩))
    | dic kvs => exact dict kvs rfl e
    | loc n =>
      have e : (match resD st.w (.loc n) with
        | some (.dic kvs) => if kvs.all (fun kv => isKey kv.1) then some (!kvs.isEmpty) else none
        | _ => none) = some b := e
      split at e
      · rename_i kvs er; exact dict kvs er e
      · cases e
    | ty n => cases e
    | set n => cases e
    | frt n => cases e
    | kys n => cases e
    | ins c n => cases e
    | exc c n => cases e
    | cls n => cases e
def truU (ow : Ow) (x : Dt) : M Bool := fun st => match insOf st.w x with
  | some (c, _) => match ow c with
    | some m => (callM m [x] st).bind toB
    | none => .ok true st
  | none => opt (truD st.w x) st
def mOrT (fa fb : M Dt) (h : Dt → M Bool) : M Dt := d1 fa fun x => d1 (h x) fun c => if c then fun st => .ok x st else fb
def lenD (w : Wd) (x : Dt) : Option Dt := match x with
  | .str z => if z.length ≤ LIM then some (.int z.length) else none
  | .lst xs => some (.int xs.length)
  | .tup xs => some (.int xs.length)
  | _ => match resD w x with
    | some (.dic kvs) => if kvs.all (fun kv => isKey kv.1) then some (.int kvs.length) else none
    | _ => none
def len1 (w : Wd) : List Dt → Option Dt
  | [x] => lenD w x
  | _ => none
theorem cap_len (hk : S.G.K = X.K) {xs : List Dt} : CaP X S (fun us => call (.builtin "len") us) xs (fun st => opt (len1 st.w xs) st) := by
  intro pins s σ H vs us ρ st Q I rv R rxs q
  dsimp only at q
  cases e : len1 st.w xs with
  | none => rw [e] at q; exact q.elim
  | some d =>
    rw [e] at q
    cases rxs with
    | nil => cases e
    | @cons v x vs' xs' rx t =>
      cases t with
      | cons _ _ => cases e
      | nil =>
        have e : lenD st.w x = some d := e
        have fin : ∀ n : Nat, d = .int n → LenV X.K v H n → wpAny (model X.prog X.w) X.A (call (.builtin "len") us) (EP X pins σ Q) X.xe s := fun n ed l => call_len pins s σ H [v] us Q I rv ⟨v, n, rfl, l, q _ ρ H (Ext.refl ρ) R (ed ▸ rep_int)⟩
        have dict : ∀ kvs, resD st.w x = some (.dic kvs) → (if kvs.all (fun kv => isKey kv.1) then some (Dt.int kvs.length) else none) = some d → wpAny (model X.prog X.w) X.A (call (.builtin "len") us) (EP X pins σ Q) X.xe s := by
          intro kvs er e
          split at e
          · rename_i hall
            cases e
            obtain ⟨a, o, rfl, hr, dr⟩ := dic_at R.cov rx er
            obtain ⟨es, rfl, p⟩ := dicK_all dr hall
            obtain ⟨u, rfl, ru⟩ := vals1 rv
            cases ru
            refine d_len I hr fun t s' I' => ⟨.int es.length, H, I', ⟨t, rfl⟩, q _ ρ H (Ext.refl ρ) R ?_⟩
            rw [p.length]
            exact rep_int
          · cases e
        cases x with
        | str z =>
          have e : (if z.length ≤ LIM then some (Dt.int z.length) else none) = some d := e
          split at e
          · rename_i hl; cases e; exact fin _ rfl (by rw [rx.str]; exact ⟨lim_ok hl, rfl⟩)
          · cases e
        | lst xs =>
          cases e
          obtain ⟨a, vs, rfl, h1, p⟩ := rx.lst
          exact fin _ rfl (.inl ⟨vs, hk ▸ R.cov.sl h1, p.length.symm⟩)
        | tup xs =>
          cases e
          obtain ⟨a, vs, rfl, h1, p⟩ := rx.tup
          exact fin _ rfl (.inr ⟨vs, hk ▸ R.cov.st h1, p.length.symm⟩)
        | dic kvs => exact dict kvs rfl e
        | loc n =>
          have e : (match resD st.w (.loc n) with
            | some (.dic kvs) => if kvs.all (fun kv => isKey kv.1) then some (Dt.int kvs.length) else none
            | _ => none) = some d := e
          split at e
          · rename_i kvs er; exact dict kvs er e
          · cases e
        | non => cases e
        | bl b => cases e
        | int b => cases e
        | ty n => cases e
        | set n => cases e
        | frt n => cases e
        | kys n => cases e
        | ins c n => cases e
        | exc c n => cases e
        | cls n => cases e
def ownLen (ow : Ow) (xs : List Dt) : M Dt := fun st => match xs with
  | [x] => (match insOf st.w x with
    | some (c, _) => match ow c with
      | some m => (callM m [x] st).bind fun d => match d with
        | .int i => if 0 ≤ i ∧ i < 2 ^ 62 then fun st' => .ok (.int i) st' else stk
        | _ => stk
      | none => .stuck
    | none => .stuck)
  | _ => .stuck
def lenU (ow : Ow) (xs : List Dt) : M Dt := fun st => match xs with
  | [x] => byIns x (ownLen ow [x]) (fun st => opt (len1 st.w [x]) st) st
  | _ => .stuck
theorem cad_len {ow : Ow} (hk : S.G.K = X.K) (F : OwF X S.G k "__len__" ow) (hr : RoomG (k + 1) X.A) (tk : Takes X S.W) : CaD X S (fun us => call (.builtin "len") us) (lenU ow) := by
  intro xs pins s σ H vs us ρ st Q I rv R rxs q
  unfold lenU at q
  split at q
  · unfold byIns at q
    split at q
    · exact cap_len_own ow F hr tk pins s σ H vs us ρ st Q I rv R rxs q
    · exact cap_len hk pins s σ H vs us ρ st Q I rv R rxs q
  · exact q.elim
end
def encD (d : Dt) : PyData := (pyD d).getD .none
def allAlike (ps : List PyData) : Bool := ps.all fun p => ps.all fun q => PySem.W.alike p q
def isTup1 : PyData → Bool
  | .tuple (_ :: _) => true
  | _ => false
def isPlain : PyData → Bool
  | .none => false
  | .tuple _ => false
  | _ => true
def srtD (ds : List Dt) : Option (List Dt) := match pyDs ds with
  | some ps => if allAlike ps && (ps.all isTup1 || ps.all isPlain) && decide (ds.length ≤ LIM) && ps.all (fun p => decide (p.depth ≤ 60)) then some (ds.mergeSort (PySem.W.dataLe false encD)) else none
  | none => none
theorem pyDs_map : ∀ {ds : List Dt} {ps : List PyData}, pyDs ds = some ps → ds.map encD = ps ∧ ∀ d ∈ ds, pyD d = some (encD d)
  | [], _, h => by rw [pyDs] at h; cases h; exact ⟨rfl, fun _ m => nomatch m⟩
  | d :: ds, _, h => by
    rw [pyDs] at h
    cases e : pyD d with
    | none => rw [e] at h; cases h
    | some p =>
      rw [e] at h
      dsimp only at h
      cases e2 : pyDs ds with
      | none => rw [e2] at h; cases h
      | some qs =>
        rw [e2] at h; cases h
        obtain ⟨h1, h2⟩ := pyDs_map e2
        have he : encD d = p := by unfold encD; rw [e]; rfl
        refine ⟨by rw [List.map_cons, h1, he], fun z m => ?_⟩
        rcases List.mem_cons.mp m with rfl | m
        · rw [he]; exact e
        · exact h2 z m
theorem each_of {G : Cfg} {ρ : Fz} {P : Value → Dt → Prop} : ∀ {vs : List V} {us : List Value} {ds : List Dt}, Vals vs us → Paired (Rep G ρ) vs ds → (∀ v u d, d ∈ ds → RelV v u → Rep G ρ v d → P u d) → PySem.W.EachIs P us ds
  | _, _, _, .nil, .nil, _ => .nil
  | _, _, _, .cons r rs, .cons p ps, h => .cons (h _ _ _ List.mem_cons_self r p) (each_of rs ps fun v u d m => h v u d (List.mem_cons_of_mem _ m))
theorem each_back {G : Cfg} {ρ : Fz} : ∀ {us : List Value} {ds : List Dt}, PySem.W.EachIs (fun u d => ∃ v, RelV v u ∧ Rep G ρ v d) us ds → ∃ vs, Vals vs us ∧ Paired (Rep G ρ) vs ds
  | _, _, .nil => ⟨[], .nil, .nil⟩
  | _, _, .cons ⟨v, r, p⟩ t => by
    obtain ⟨vs, rs, ps⟩ := each_back t
    exact ⟨v :: vs, .cons r rs, .cons p ps⟩
def srt1 : List Dt → Option Dt
  | [.lst ds] => (srtD ds).map .lst
  | _ => none
section
variable {X : Cx} {S : Ss} {k : Nat}
theorem cap_sorted (hk : S.G.K = X.K) (hr : RoomG k X.A) {xs : List Dt} : CaP X S (fun us => call (.builtin "sorted") us) xs (opt (srt1 xs)) := by
  intro pins s σ H vs us ρ st Q I rv R rxs q
  cases e : srt1 xs with
  | none => rw [e] at q; exact q.elim
  | some d =>
    rw [e] at q
    unfold srt1 at e
    split at e
    case h_2 => cases e
    rename_i ds
    cases rxs with | cons rx t => cases t with | nil =>
    obtain ⟨u, rfl, ru⟩ := vals1 rv
    obtain ⟨a, ws, rfl, f, p⟩ := rx.lst
    cases ru
    cases es : srtD ds with
    | none => rw [es] at e; cases e
    | some zs =>
      rw [es] at e; cases e
      unfold srtD at es
      split at es
      case h_2 => cases es
      rename_i ps ep
      split at es
      case isFalse => cases es
      rename_i hc
      cases es
      rw [Bool.and_eq_true, Bool.and_eq_true, Bool.and_eq_true] at hc
      obtain ⟨⟨⟨h1, h2⟩, h3⟩, h4⟩ := hc
      obtain ⟨em, en⟩ := pyDs_map ep
      have c := R.cov
      obtain ⟨its, rv, hl, hz⟩ := I.list (hk ▸ c.sl f : SqL X.K H a ws)
      refine frz_post ?_
      refine PySem.W.sorted_data (R := fun u d => ∃ v, RelV v u ∧ Rep S.G ρ v d) (enc := encD) hl.isList (each_of rv p fun v u d _ r1 r2 => ⟨v, r1, r2⟩) (each_of rv p fun v u d m r1 r2 => ?_) ?_ ?_ ?_ ?_ fun out ho eo => ?_
      · exact Dp.reads I _ _ _ (hk ▸ dp_of c d r2 (en d m)) r1
      · rw [em]
        intro x hx y hy
        exact List.all_eq_true.mp (List.all_eq_true.mp h1 x hx) y hy
      · rw [em]
        rw [Bool.or_eq_true] at h2
        rcases h2 with h2 | h2
        · refine .inl fun d hd => ?_
          have := List.all_eq_true.mp h2 d hd
          unfold isTup1 at this
          split at this
          · exact ⟨_, _, rfl⟩
          · cases this
        · refine .inr fun d hd => ?_
          have := List.all_eq_true.mp h2 d hd
          unfold isPlain at this
          split at this
          · cases this
          · cases this
          · rename_i n1 n2
            exact ⟨fun z => n1 z, fun xs z => n2 xs z⟩
      · exact lim_ok (of_decide_eq_true h3)
      · intro b hb
        have : encD b ∈ ps := em ▸ List.mem_map.mpr ⟨b, hb, rfl⟩
        have := of_decide_eq_true (List.all_eq_true.mp h4 _ this)
        have := hr.units
        omega
      · obtain ⟨ys, ry, py⟩ := each_back eo
        obtain ⟨e, hn⟩ := PyProof.Rows.sortedAll_at s.heap its (List.toArray out)
        have hH : H (s.heap.objs.size + 1) = none := I.hok.fresh (Nat.le_succ _)
        have n := R.new (o := .lst ys) (d := .lst (ds.mergeSort (PySem.W.dataLe false encD))) hH ⟨_, rfl, py⟩
        have hlen : ys.length ≤ sizeLine := by
          rw [ry.length, ho]; exact lim_ok (of_decide_eq_true h3)
        refine ⟨.ref (s.heap.objs.size + 1), upd H (s.heap.objs.size + 1) (.lst ys), I.laid (t' := s.toks) (fun b o q => PyProof.Rows.sortedAll_old q) (Nat.le_succ _) ⟨hlen, _, e, ry, hn⟩, rfl, .inr ⟨_, _, upd_same, trivial, fun o' z => ?_⟩⟩
        exact q (.ref _) _ _ (ext_new n.hF) ((R.add hH).frz n z) (own_rep n.r z n.hF)
end
end B
end
section
set_option maxRecDepth 100000
set_option maxHeartbeats 4000000
namespace B
open PySem L2
open PyProof.Rows (envOfC subscriptTail isTrue_plain)
mutual
def clo (n : Nat) : Dt → Bool
  | .loc m => decide (m < n)
  | .lst xs => clos n xs
  | .tup xs => clos n xs
  | .dic kvs => cloK n kvs
  | .set xs => clos n xs
  | .frt xs => clos n xs
  | .kys xs => clos n xs
  | .ins _ fs => cloF n fs
  | .exc _ fs => cloF n fs
  | .non => true
  | .bl _ => true
  | .int _ => true
  | .str _ => true
  | .ty _ => true
  | .cls _ => true
def clos (n : Nat) : List Dt → Bool
  | [] => true
  | d :: ds => clo n d && clos n ds
def cloK (n : Nat) : List (Dt × Dt) → Bool
  | [] => true
  | d :: ds => clo n d.2 && cloK n ds
def cloF (n : Nat) : List (Str × Dt) → Bool
  | [] => true
  | d :: ds => clo n d.2 && cloF n ds
end
section
variable {G : Cfg} {F : Hp} {io : List Addr} {n : Nat}
theorem pr_nil {α β : Type} {P : α → β → Prop} {xs : List α} (h : Paired P xs []) : xs = [] := by cases h; rfl
theorem pr_cons {α β : Type} {P : α → β → Prop} {xs : List α} {y : β} {ys : List β} (h : Paired P xs (y :: ys)) : ∃ x xs', xs = x :: xs' ∧ P x y ∧ Paired P xs' ys := by cases h with | cons h t => exact ⟨_, _, rfl, h, t⟩
mutual
theorem rep_cut : ∀ (d : Dt) {v : V}, clo n d = true → Rep G ⟨F, io⟩ v d → Rep G ⟨F, io.take n⟩ v d
  | .loc m, v, h, r => by
    rw [clo] at h
    obtain ⟨a, ev, e⟩ := r.out
    exact .mk ⟨a, ev, by show (io.take n)[m]? = some a; rw [List.getElem?_take_of_lt (of_decide_eq_true h)]; exact e⟩
  | .lst ds, v, h, r => by
    rw [clo] at h
    obtain ⟨a, vs, ev, s, p⟩ := r.out
    exact .mk ⟨a, vs, ev, s, reps_cut ds h p⟩
  | .tup ds, v, h, r => by
    rw [clo] at h
    obtain ⟨a, vs, ev, s, p⟩ := r.out
    exact .mk ⟨a, vs, ev, s, reps_cut ds h p⟩
  | .dic kvs, v, h, r => by
    rw [clo] at h
    obtain ⟨a, ob, o, ev, s, p⟩ := r.out
    refine .mk ⟨a, ob, o, ev, s, ?_⟩
    rcases p with ⟨es, e, p⟩ | ⟨es, e, p⟩
    · exact .inl ⟨es, e, repk_cut (g := fun e : Key × V => e.2) (q := fun e d => kD e.1 = d) kvs h p⟩
    · exact .inr ⟨es, e, repk_cut (g := fun e : List Key × V => e.2) (q := fun e d => Dt.tup (e.1.map kD) = d) kvs h p⟩
  | .set ds, v, h, r => by
    rw [clo] at h
    obtain ⟨a, vs, ev, s, p⟩ := r.out
    exact .mk ⟨a, vs, ev, s, reps_cut ds h p⟩
  | .frt ds, v, h, r => by
    rw [clo] at h
    obtain ⟨a, vs, ob, ev, s, nd, p⟩ := r.out
    exact .mk ⟨a, vs, ob, ev, s, nd, reps_cut ds h p⟩
  | .kys ds, v, h, r => by
    rw [clo] at h
    obtain ⟨a, vs, ob, u, ev, s, nd, p⟩ := r.out
    exact .mk ⟨a, vs, ob, u, ev, s, nd, reps_cut ds h p⟩
  | .ins c fs, v, h, r => by
    rw [clo] at h
    obtain ⟨a, C, dx, es, ev, hc, s, p⟩ := r.out
    exact .mk ⟨a, C, dx, es, ev, hc, s, repf_cut fs h p⟩
  | .exc c fs, v, h, r => by
    rw [clo] at h
    obtain ⟨a, ev, h1⟩ := r.out
    exact .mk ⟨a, ev, h1.imp id fun ⟨dd, es, q1, q2, p⟩ => ⟨dd, es, q1, q2, repf_cut fs h p⟩⟩
  | .non, v, h, r => .mk r.out
  | .bl _, v, h, r => .mk r.out
  | .int _, v, h, r => .mk r.out
  | .str _, v, h, r => .mk r.out
  | .ty _, v, h, r => .mk r.out
  | .cls _, v, h, r => .mk r.out
theorem reps_cut : ∀ (ds : List Dt) {vs : List V}, clos n ds = true → Paired (Rep G ⟨F, io⟩) vs ds → Paired (Rep G ⟨F, io.take n⟩) vs ds
  | [], vs, h, r => by rw [pr_nil r]; exact .nil
  | d :: ds, vs, h, r => by
    rw [clos, Bool.and_eq_true] at h
    obtain ⟨v, vs', rfl, r, rs⟩ := pr_cons r
    exact .cons (rep_cut d h.1 r) (reps_cut ds h.2 rs)
theorem repk_cut {α : Type} {g : α → V} {q : α → Dt → Prop} : ∀ (kvs : List (Dt × Dt)) {es : List α}, cloK n kvs = true → Paired (fun e (kv : Dt × Dt) => q e kv.1 ∧ Rep G ⟨F, io⟩ (g e) kv.2) es kvs → Paired (fun e (kv : Dt × Dt) => q e kv.1 ∧ Rep G ⟨F, io.take n⟩ (g e) kv.2) es kvs
  | [], vs, h, r => by rw [pr_nil r]; exact .nil
  | (k, d) :: ds, vs, h, r => by
    rw [cloK, Bool.and_eq_true] at h
    obtain ⟨v, vs', rfl, r, rs⟩ := pr_cons r
    exact .cons ⟨r.1, rep_cut d h.1 r.2⟩ (repk_cut ds h.2 rs)
theorem repf_cut : ∀ (fs : List (Str × Dt)) {es : List (Str × V)}, cloF n fs = true → FldRep (Rep G ⟨F, io⟩) es fs → FldRep (Rep G ⟨F, io.take n⟩) es fs
  | [], vs, h, r => by rw [pr_nil r]; exact .nil
  | (k, d) :: ds, vs, h, r => by
    rw [cloF, Bool.and_eq_true] at h
    obtain ⟨v, vs', rfl, r, rs⟩ := pr_cons r
    exact .cons ⟨r.1, rep_cut d h.1 r.2⟩ (repf_cut ds h.2 rs)
end
theorem own_cut {o : HO} : ∀ (d : Dt), clo n d = true → OwnS G ⟨F, io⟩ o d → OwnS G ⟨F, io.take n⟩ o d
  | .lst ds, h, r => by rw [clo] at h; obtain ⟨vs, e, p⟩ := r; exact ⟨vs, e, reps_cut ds h p⟩
  | .dic kvs, h, r => by
    rw [clo] at h
    rcases r with ⟨es, e, p⟩ | ⟨es, e, p⟩
    · exact .inl ⟨es, e, repk_cut (g := fun e : Key × V => e.2) (q := fun e d => kD e.1 = d) kvs h p⟩
    · exact .inr ⟨es, e, repk_cut (g := fun e : List Key × V => e.2) (q := fun e d => Dt.tup (e.1.map kD) = d) kvs h p⟩
  | .ins c fs, h, r => by
    rw [clo] at h
    obtain ⟨C, dx, es, hc, e, p⟩ := r
    exact ⟨C, dx, es, hc, e, repf_cut fs h p⟩
end
def goIn (i : Nat) (st : DS) : Option DS := match st.sl[i]? with
  | some (.own d) => some ⟨st.sl.set i (.shr (.loc st.w.length)), st.w ++ [d]⟩
  | _ => none
def sloC (n : Nat) : Slot → Bool
  | .emp => true
  | .shr d => clo n d
  | .own d => clo n d
def isLoc (n : Nat) : Option Slot → Bool
  | some (.shr (.loc m)) => decide (m = n)
  | _ => false
def goOut (i n : Nat) (st : DS) : Option DS := match st.w[n]? with
  | some d => if st.w.length = n + 1 ∧ isLoc n st.sl[i]? = true ∧ clos n st.w = true ∧ (st.sl.set i .emp).all (sloC n) = true then some ⟨st.sl.set i (.own d), st.w.take n⟩ else none
  | none => none
theorem clos_all {n : Nat} : ∀ {ds : List Dt}, clos n ds = true → ∀ d ∈ ds, clo n d = true
  | [], _, _, m => nomatch m
  | d :: ds, h, z, m => by
    rw [clos, Bool.and_eq_true] at h
    rcases List.mem_cons.mp m with rfl | m
    · exact h.1
    · exact clos_all h.2 z m
section
variable {S : Ss} {ρ ρ' : Fz} {H H' : Hp} {σ : L2.St} {st st' : DS} {i : Nat}
theorem io_nodup {l : List Addr} {p : Addr} (h : l.Nodup) (n : p ∉ l) : (l ++ [p]).Nodup := by
  rw [List.nodup_append]
  exact ⟨h, by simp, fun a ha b hb => by rw [List.mem_singleton.mp hb]; exact fun z => n (z ▸ ha)⟩
theorem SR.goIn (R : SR S ρ H σ st) (h : goIn i st = some st') : ∃ p, σ.getD i none = some (.ref p) ∧ ρ.io.length = st.w.length ∧ SR S ⟨ρ.F, ρ.io ++ [p]⟩ H σ st' := by
  unfold B.goIn at h
  split at h
  case h_2 => cases h
  rename_i d e
  cases h
  obtain ⟨p, o, e1, h0, hF, hio, hp, r⟩ := R.sl i _ e
  have c := R.cov
  have ex : Ext ρ ⟨ρ.F, ρ.io ++ [p]⟩ := ⟨fun _ _ h => h, fun n a h => by
    show (ρ.io ++ [p])[n]? = some a
    rw [List.getElem?_append_left (List.getElem?_eq_some_iff.mp h).1]; exact h⟩
  refine ⟨p, e1, c.len, ⟨R.stp.ext.trans ex, ⟨c.F, by rw [List.length_append, List.length_append, c.len]; rfl, fun n a d' h1 h2 => ?_, io_nodup c.nd hio, c.tb.move (fun _ _ h => h) (fun _ _ => rfl) (fun q m z => (List.mem_append.mp z).elim id fun z => absurd (List.mem_singleton.mp z) (R.stp.ntb h0 q m)) fun _ _ => rfl⟩, fun a u h m t => R.stp.keep a u h m t, R.stp.new, fun a m => ?_, R.stp.tb⟩, ?_, fun j s ej => ?_, fun j k d1 e2 q h1 h2 h3 h4 => ?_, fun q u m => ?_⟩
  · have h1' : (ρ.io ++ [p])[n]? = some a := h1
    by_cases hn : n < ρ.io.length
    · rw [List.getElem?_append_left hn] at h1'
      rw [List.getElem?_append_left (by rw [← c.len]; exact hn)] at h2
      obtain ⟨z1, o', z2, z3⟩ := c.wo n a d' h1' h2
      exact ⟨z1, o', z2, z3.mono ex⟩
    · rw [List.getElem?_append_right (Nat.le_of_not_lt hn)] at h1'
      rw [List.getElem?_append_right (by rw [← c.len]; exact Nat.le_of_not_lt hn)] at h2
      have hz : n - ρ.io.length = 0 := by
        rcases Nat.eq_zero_or_pos (n - ρ.io.length) with z | z
        · exact z
        · rw [List.getElem?_eq_none (by simp; omega)] at h1'; cases h1'
      rw [hz] at h1'
      rw [← c.len, hz] at h2
      cases h1'; cases h2
      exact ⟨hF, o, hp, r.mono ex⟩
  · rcases List.mem_append.mp m with m | m
    · exact R.stp.nio a m
    · rw [List.mem_singleton.mp m]; exact .inr h0
  · show σ.length = (st.sl.set i _).length; rw [List.length_set]; exact R.len
  · rcases get_set ej with ⟨rfl, hl, rfl⟩ | ⟨hn, ej⟩
    · refine ⟨.ref p, e1, .mk ⟨p, rfl, ?_⟩⟩
      show (ρ.io ++ [p])[st.w.length]? = some p
      rw [← c.len, List.getElem?_append_right (Nat.le_refl _), Nat.sub_self]; rfl
    · have k := R.sl j s ej
      cases s with
      | emp => trivial
      | shr d => obtain ⟨u, e2, r2⟩ := k; exact ⟨u, e2, r2.mono ex⟩
      | own d' =>
        obtain ⟨p2, o2, e2, g0, gF, gio, gp, r2⟩ := k
        refine ⟨p2, o2, e2, g0, gF, fun m => ?_, gp, r2.mono ex⟩
        rcases List.mem_append.mp m with m | m
        · exact gio m
        · exact hn (R.dis j i _ _ p ej e (by rw [e2, List.mem_singleton.mp m]) e1)
  · rcases get_set h1 with ⟨_, _, z⟩ | ⟨n1, h1⟩
    · cases z
    rcases get_set h2 with ⟨_, _, z⟩ | ⟨n2, h2⟩
    · cases z
    exact R.dis j k _ _ q h1 h2 h3 h4
  · obtain ⟨g1, g2, g3, g4, g5⟩ := R.ex q u m
    refine ⟨g1, g2, fun m => ?_, g4, fun j d' h => ?_⟩
    · rcases List.mem_append.mp m with m | m
      · exact g3 m
      · exact g5 i d e (by rw [e1, List.mem_singleton.mp m])
    · rcases get_set h with ⟨_, _, z⟩ | ⟨n1, h⟩
      · cases z
      exact g5 j d' h
theorem SR.goOut {n : Nat} {p : Addr} (e : Ext ⟨ρ.F, ρ.io ++ [p]⟩ ρ') (hn : ρ.io.length = n) (R : SR S ρ' H σ st) (h0 : S.H0 p = none ∨ True) (hS : Ext S.ρ0 ρ) (hp0 : S.H0 p = none) (h : goOut i n st = some st') :
    Ext ρ ⟨ρ'.F, ρ'.io.take n⟩ ∧ SR S ⟨ρ'.F, ρ'.io.take n⟩ H σ st' := by
  unfold B.goOut at h
  split at h
  case h_2 => cases h
  rename_i d ed
  split at h
  case isFalse => cases h
  rename_i hc
  obtain ⟨hl, hm, hcl, hsl⟩ := hc
  cases h
  have c := R.cov
  have hio : ρ'.io[n]? = some p := e.io n p (by show (ρ.io ++ [p])[n]? = some p; rw [List.getElem?_append_right (by omega), ← hn, Nat.sub_self]; rfl)
  have ex : Ext ρ ⟨ρ'.F, ρ'.io.take n⟩ := ⟨fun a o h => e.F a o h, fun m a h => by
    have hlt := (List.getElem?_eq_some_iff.mp h).1
    show (ρ'.io.take n)[m]? = some a
    rw [List.getElem?_take_of_lt (by omega)]
    exact e.io m a (by show (ρ.io ++ [p])[m]? = some a; rw [List.getElem?_append_left hlt]; exact h)⟩
  obtain ⟨wF, o, ho, wr⟩ := c.wo n p d hio ed
  have hpt : p ∉ ρ'.io.take n := fun m => by
    obtain ⟨j, hj, ej⟩ := List.getElem_of_mem m
    have hj1 : j < ρ'.io.length := by rw [List.length_take] at hj; omega
    have hj2 : j < n := by rw [List.length_take] at hj; omega
    have e1 : ρ'.io[j]? = some p := by rw [List.getElem?_eq_getElem hj1]; rw [List.getElem_take] at ej; rw [ej]
    have hn' := (List.getElem?_eq_some_iff.mp hio).1
    have := c.nd
    rw [List.nodup_iff_pairwise_ne] at this
    have e2 := List.pairwise_iff_getElem.mp this j n hj1 hn' hj2
    rw [List.getElem?_eq_getElem hj1] at e1
    rw [List.getElem?_eq_getElem hn'] at hio
    exact e2 ((Option.some.inj e1).trans (Option.some.inj hio).symm)
  have wcl : ∀ m d', st.w[m]? = some d' → clo n d' = true := fun m d' h => clos_all hcl d' (List.mem_of_getElem? h)
  obtain ⟨hi, hsi⟩ : i < st.sl.length ∧ σ.getD i none = some (.ref p) := by
    unfold isLoc at hm
    split at hm
    · rename_i m em
      have hm := of_decide_eq_true hm
      subst hm
      obtain ⟨u, eu, ru⟩ := R.sl i _ em
      obtain ⟨a, rfl, ea⟩ := ru.out
      rw [hio] at ea; cases ea
      exact ⟨(List.getElem?_eq_some_iff.mp em).1, eu⟩
    · cases hm
  refine ⟨ex, ⟨⟨hS.trans ex, ⟨c.F, by rw [List.length_take, List.length_take, c.len], fun m a d' h1 h2 => ?_, c.nd.sublist (List.take_sublist _ _), c.tb.move (fun _ _ h => h) (fun _ _ => rfl) (fun q m z => List.mem_of_mem_take z) fun _ _ => rfl⟩, fun a u h m t => R.stp.keep a u h m t, R.stp.new, fun a m => R.stp.nio a (List.mem_of_mem_take m), R.stp.tb⟩, ?_, fun j s ej => ?_, fun j k d1 e2 q h1 h2 h3 h4 => ?_, fun q u m => ?_⟩⟩
  · have hlt : m < n := by
      have := (List.getElem?_eq_some_iff.mp h2).1
      rw [List.length_take] at this; omega
    have h1' : (ρ'.io.take n)[m]? = some a := h1
    rw [List.getElem?_take_of_lt hlt] at h1' h2
    obtain ⟨z1, o', z2, z3⟩ := c.wo m a d' h1' h2
    exact ⟨z1, o', z2, own_cut d' (wcl m d' h2) z3⟩
  · show σ.length = (st.sl.set i _).length; rw [List.length_set]; exact R.len
  · rcases get_set ej with ⟨rfl, _, rfl⟩ | ⟨hnj, ej⟩
    · exact ⟨p, o, hsi, hp0, wF, hpt, ho, own_cut d (wcl n d ed) wr⟩
    · have k := R.sl j s ej
      have hs : sloC n s = true := List.all_eq_true.mp hsl s (List.mem_of_getElem? (by rw [List.getElem?_set_ne (Ne.symm hnj)]; exact ej))
      cases s with
      | emp => trivial
      | shr d => obtain ⟨u, e2, r2⟩ := k; exact ⟨u, e2, rep_cut d hs r2⟩
      | own d' =>
        obtain ⟨p2, o2, e2, g0, gF, gio, gp, r2⟩ := k
        exact ⟨p2, o2, e2, g0, gF, fun m => gio (List.mem_of_mem_take m), gp, own_cut d' hs r2⟩
  · have pin : p ∈ ρ'.io := List.mem_of_getElem? hio
    rcases get_set h1 with ⟨ej, _, _⟩ | ⟨n1, g1⟩
    · rcases get_set h2 with ⟨ek, _, _⟩ | ⟨n2, g2⟩
      · rw [ej, ek]
      · obtain ⟨p2, o2, e3, _, _, gio, _⟩ := R.sl k _ g2
        rw [ej, hsi] at h3; cases h3
        rw [h4] at e3; cases e3
        exact absurd pin gio
    · rcases get_set h2 with ⟨ek, _, _⟩ | ⟨n2, g2⟩
      · obtain ⟨p2, o2, e3, _, _, gio, _⟩ := R.sl j _ g1
        rw [ek, hsi] at h4; cases h4
        rw [h3] at e3; cases e3
        exact absurd pin gio
      · exact R.dis j k _ _ q g1 g2 h3 h4
  · obtain ⟨g1, g2, g3, g4, g5⟩ := R.ex q u m
    refine ⟨g1, g2, fun m => g3 (List.mem_of_mem_take m), g4, fun j d' h => ?_⟩
    rcases get_set h with ⟨ej, _, _⟩ | ⟨n1, h⟩
    · rw [ej, hsi]; intro z; cases z; exact g3 (List.mem_of_getElem? hio)
    · exact g5 j d' h
end
def cloX (n : Nat) (x : XD) : Bool := cloF n x.fs
def peek {α : Type} (cl : Nat → α → Bool) (i : Nat) (f : M α) : M α := fun st => match goIn i st with
  | none => .stuck
  | some st0 => match f st0 with
    | .ok r st1 => if cl st.w.length r then (match goOut i st.w.length st1 with | some st2 => .ok r st2 | none => .stuck) else .stuck
    | .exc x st1 => if cloX st.w.length x then (match goOut i st.w.length st1 with | some st2 => .exc x st2 | none => .stuck) else .stuck
    | .stuck => .stuck
section
variable {X : Cx} {S : Ss} {e : Expr} {i : Nat}
theorem repx_cut {G : Cfg} {F : Hp} {io : List Addr} {n : Nat} {H : Hp} {cls : Value} {dd : Option Addr} {x : XD} (h : cloX n x = true) (r : RepX G ⟨F, io⟩ H cls dd x) : RepX G ⟨F, io.take n⟩ H cls dd x := by
  obtain ⟨C, h1, h2, h3⟩ := r
  refine ⟨C, h1, h2, ?_⟩
  rcases h3 with h3 | ⟨d, es, h4, h5, h6⟩
  · exact .inl h3
  · exact .inr ⟨d, es, h4, h5, repf_cut _ h h6⟩
def sPeek (i : Nat) (f : MS) : MS := fun st => match goIn i st with
  | none => .stuck
  | some st0 => match f st0 with
    | .nx st1 => (match goOut i st.w.length st1 with | some st2 => .nx st2 | none => .stuck)
    | .bk st1 => (match goOut i st.w.length st1 with | some st2 => .bk st2 | none => .stuck)
    | .ct st1 => (match goOut i st.w.length st1 with | some st2 => .ct st2 | none => .stuck)
    | .ret r st1 => if clo st.w.length r then (match goOut i st.w.length st1 with | some st2 => .ret r st2 | none => .stuck) else .stuck
    | .exc x st1 => if cloX st.w.length x then (match goOut i st.w.length st1 with | some st2 => .exc x st2 | none => .stuck) else .stuck
    | .stuck => .stuck
theorem pds_peek {s : Stmt} {f : MS} (h : PDS X S s f) : PDS X S s (sPeek i f) := by
  refine ⟨ps_imp h.ps fun D σ H ⟨ρ, st, R, q⟩ => ?_⟩
  unfold sPeek at q
  cases eg : goIn i st with
  | none => rw [eg] at q; exact q.elim
  | some st0 =>
    rw [eg] at q
    obtain ⟨p, e1, hl, R0⟩ := R.goIn eg
    have hp0 : S.H0 p = none := by
      unfold goIn at eg
      split at eg
      · rename_i d e
        obtain ⟨p', o, e1', h0, _⟩ := R.sl i _ e
        rw [e1] at e1'; cases e1'; exact h0
      · cases eg
    have back : ∀ {st1 st2 : DS} {σ1 : L2.St} {ρ1 : Fz} {H1 : Hp}, goOut i st.w.length st1 = some st2 → Ext ⟨ρ.F, ρ.io ++ [p]⟩ ρ1 → SR S ρ1 H1 σ1 st1 → Ext ρ ⟨ρ1.F, ρ1.io.take st.w.length⟩ ∧ SR S ⟨ρ1.F, ρ1.io.take st.w.length⟩ H1 σ1 st2 :=
      fun eo x1 R1 => SR.goOut (p := p) (ρ := ρ) x1 hl R1 (.inr trivial) R.stp.ext hp0 eo
    refine ⟨_, st0, R0, ?_⟩
    dsimp only at q
    cases ef : f st0 with
    | nx st1 =>
      rw [ef] at q
      dsimp only at q
      cases eo : goOut i st.w.length st1 with
      | none => rw [eo] at q; exact q.elim
      | some st2 => rw [eo] at q; exact fun σ1 ρ1 H1 x1 R1 => let ⟨ex, R2⟩ := back eo x1 R1; q σ1 _ H1 ex R2
    | bk st1 =>
      rw [ef] at q
      dsimp only at q
      cases eo : goOut i st.w.length st1 with
      | none => rw [eo] at q; exact q.elim
      | some st2 => rw [eo] at q; exact fun σ1 ρ1 H1 x1 R1 => let ⟨ex, R2⟩ := back eo x1 R1; q σ1 _ H1 ex R2
    | ct st1 =>
      rw [ef] at q
      dsimp only at q
      cases eo : goOut i st.w.length st1 with
      | none => rw [eo] at q; exact q.elim
      | some st2 => rw [eo] at q; exact fun σ1 ρ1 H1 x1 R1 => let ⟨ex, R2⟩ := back eo x1 R1; q σ1 _ H1 ex R2
    | ret r st1 =>
      rw [ef] at q
      dsimp only at q
      split at q
      case isFalse => exact q.elim
      rename_i hcl
      cases eo : goOut i st.w.length st1 with
      | none => rw [eo] at q; exact q.elim
      | some st2 => rw [eo] at q; exact fun v σ1 ρ1 H1 x1 R1 r1 => let ⟨ex, R2⟩ := back eo x1 R1; q v σ1 _ H1 ex R2 (rep_cut r hcl r1)
    | exc x st1 =>
      rw [ef] at q
      dsimp only at q
      split at q
      case isFalse => exact q.elim
      rename_i hcl
      cases eo : goOut i st.w.length st1 with
      | none => rw [eo] at q; exact q.elim
      | some st2 => rw [eo] at q; exact fun c dd σ1 ρ1 H1 x1 R1 r1 => let ⟨ex, R2⟩ := back eo x1 R1; q c dd σ1 _ H1 ex R2 (repx_cut hcl r1)
    | stuck => rw [ef] at q; exact q.elim
def toLoc (f : M Dt) : M Dt := fun st => (f st).bind fun d st1 => .ok (.loc st1.w.length) { st1 with w := st1.w ++ [d] }
theorem pd_loc {f : M Dt} (h : PO X S e f) : PD X S e (toLoc f) := by
  refine ⟨pe_imp h.pe fun σ H Q ⟨ρ, st, R, q⟩ => ⟨ρ, st, R, Out.go q (fun d st1 q1 p o ρ1 H1 e1 R1 n1 => ?_) fun _ _ h => h⟩⟩
  have c := R1.cov
  have ex : Ext ρ1 ⟨ρ1.F, ρ1.io ++ [p]⟩ := ⟨fun _ _ h => h, fun n a h => by
    show (ρ1.io ++ [p])[n]? = some a
    rw [List.getElem?_append_left (List.getElem?_eq_some_iff.mp h).1]; exact h⟩
  refine q1 (.ref p) ⟨ρ1.F, ρ1.io ++ [p]⟩ H1 (e1.trans ex) ⟨⟨R1.stp.ext.trans ex, ⟨c.F, by rw [List.length_append, List.length_append, c.len]; rfl, fun n a d' h1 h2 => ?_, io_nodup c.nd n1.io, c.tb.move (fun _ _ h => h) (fun _ _ => rfl) (fun q m z => (List.mem_append.mp z).elim id fun z => absurd (List.mem_singleton.mp z) (R1.stp.ntb n1.h0 q m)) fun _ _ => rfl⟩, fun a u h m t => R1.stp.keep a u h m t, R1.stp.new, fun a m => ?_, R1.stp.tb⟩, R1.len, fun j s ej => ?_, R1.dis, fun q u m => ?_⟩ ?_
  · have h1' : (ρ1.io ++ [p])[n]? = some a := h1
    by_cases hn : n < ρ1.io.length
    · rw [List.getElem?_append_left hn] at h1'
      rw [List.getElem?_append_left (by rw [← c.len]; exact hn)] at h2
      obtain ⟨z1, o', z2, z3⟩ := c.wo n a d' h1' h2
      exact ⟨z1, o', z2, z3.mono ex⟩
    · rw [List.getElem?_append_right (Nat.le_of_not_lt hn)] at h1'
      rw [List.getElem?_append_right (by rw [← c.len]; exact Nat.le_of_not_lt hn)] at h2
      have hz : n - ρ1.io.length = 0 := by
        rcases Nat.eq_zero_or_pos (n - ρ1.io.length) with z | z
        · exact z
        · rw [List.getElem?_eq_none (by simp; omega)] at h1'; cases h1'
      rw [hz] at h1'
      rw [← c.len, hz] at h2
      cases h1'; cases h2
      exact ⟨n1.hF, o, n1.hp, n1.r.mono ex⟩
  · rcases List.mem_append.mp m with m | m
    · exact R1.stp.nio a m
    · rw [List.mem_singleton.mp m]; exact .inr n1.h0
  · have k := R1.sl j s ej
    cases s with
    | emp => trivial
    | shr d => obtain ⟨u, e2, r2⟩ := k; exact ⟨u, e2, r2.mono ex⟩
    | own d' =>
      obtain ⟨p2, o2, e2, g0, gF, gio, gp, r2⟩ := k
      refine ⟨p2, o2, e2, g0, gF, fun m => ?_, gp, r2.mono ex⟩
      rcases List.mem_append.mp m with m | m
      · exact gio m
      · rw [List.mem_singleton.mp m] at e2; exact n1.dis j _ ej e2
  · obtain ⟨g1, g2, g3, g4, g5⟩ := R1.ex q u m
    refine ⟨g1, g2, fun m' => ?_, g4, g5⟩
    rcases List.mem_append.mp m' with m' | m'
    · exact g3 m'
    · exact n1.ex q u m (List.mem_singleton.mp m')
  · refine .mk ⟨p, rfl, ?_⟩
    show (ρ1.io ++ [p])[st1.w.length]? = some p
    rw [← c.len, List.getElem?_append_right (Nat.le_refl _), Nat.sub_self]; rfl
end
end B
end
section
set_option maxRecDepth 100000
set_option maxHeartbeats 4000000
namespace B
open PySem L2
open PyProof.Rows (envOfC subscriptTail isTrue_plain)
section
variable {S : Ss} {ρ : Fz} {H : Hp} {σ : L2.St} {st : DS} {n : Nat} {a : Addr} {d : Dt} {o : HO}
theorem SR.setW (R : SR S ρ H σ st) (h : ρ.io[n]? = some a) (r : OwnS S.G ρ o d) : SR S ρ (upd H a o) σ { st with w := st.w.set n d } := by
  have c := R.cov
  have hio : a ∈ ρ.io := List.mem_of_getElem? h
  have hn : n < st.w.length := by rw [← c.len]; exact (List.getElem?_eq_some_iff.mp h).1
  obtain ⟨nF, u0, hu0, _⟩ := c.wo n a _ h (List.getElem?_eq_getElem hn)
  refine ⟨⟨R.stp.ext, ⟨fun b u hb => ?_, by rw [List.length_set]; exact c.len, fun m b d' h1 h2 => ?_, c.nd, c.tb.move (fun _ _ h => h) (fun _ _ => rfl) (fun _ _ z => z) fun q m => upd_ne fun z => (c.tb q m).1 (z ▸ hio)⟩, fun b u hb hm tt => ?_, R.stp.new, R.stp.nio, R.stp.tb⟩, R.len, fun j s ej => ?_, R.dis, fun q u m => ?_⟩
  · rw [upd_ne (ne_of_none hb nF)]; exact c.F b u hb
  · by_cases e : m = n
    · subst e
      rw [h] at h1; cases h1
      rw [List.getElem?_set_self hn] at h2; cases h2
      exact ⟨nF, o, upd_same, r⟩
    · rw [List.getElem?_set_ne (Ne.symm e)] at h2
      obtain ⟨z1, o', z2, z3⟩ := c.wo m b d' h1 h2
      have ne : b ≠ a := fun q => by
        have := c.nd
        rw [List.nodup_iff_pairwise_ne] at this
        have hm := (List.getElem?_eq_some_iff.mp h1).1
        have hn' := (List.getElem?_eq_some_iff.mp h).1
        rw [List.getElem?_eq_getElem hm] at h1
        rw [List.getElem?_eq_getElem hn'] at h
        have e1 := Option.some.inj h1
        have e2 := Option.some.inj h
        rcases Nat.lt_or_gt_of_ne e with lt | gt
        · exact List.pairwise_iff_getElem.mp this m n hm hn' lt (by rw [e1, e2, q])
        · exact List.pairwise_iff_getElem.mp this n m hn' hm gt (by rw [e1, e2, q])
      exact ⟨z1, o', by rw [upd_ne ne]; exact z2, z3⟩
  · have ne : b ≠ a := fun q => by
      subst q
      rcases R.stp.nio b hio with z | z
      · exact hm z
      · rw [hb] at z; cases z
    rw [upd_ne ne]; exact R.stp.keep b u hb hm tt
  · have k := R.sl j s ej
    cases s with
    | emp => trivial
    | shr d => exact k
    | own d' =>
      obtain ⟨p2, o2, e2, g0, gF, gio, gp, r2⟩ := k
      exact ⟨p2, o2, e2, g0, gF, gio, by rw [upd_ne (fun q : p2 = a => gio (q ▸ hio))]; exact gp, r2⟩
  · obtain ⟨g1, g2, g3, g4, g5⟩ := R.ex q u m
    exact ⟨by rw [upd_ne (fun z : q = a => g3 (z ▸ hio))]; exact g1, g2, g3, g4, g5⟩
end
section
variable {G : Cfg} {ρ : Fz} {w : Wd} {H : Hp} {v u : V} {x : Dt}
theorem lst_at {xs : List Dt} (cv : Cov G ρ w H) (r : Rep G ρ v x) (h : resD w x = some (.lst xs)) : ∃ a vs, v = .ref a ∧ SqL G.K H a vs ∧ Paired (Rep G ρ) vs xs := by
  cases x with
  | loc n =>
    obtain ⟨a, rfl, h1⟩ := r.out
    obtain ⟨_, o, ho, vs, rfl, p⟩ := cv.wo n a _ h1 h
    exact ⟨a, vs, rfl, .inl (.inl ho), p⟩
  | lst k =>
    cases h
    obtain ⟨a, vs, rfl, h1, h2⟩ := r.lst
    exact ⟨a, vs, rfl, cv.sl h1, h2⟩
  | _ => cases h
def tyB (w : Wd) (x : Dt) : String := match x with
  | .str _ => "str"
  | .int _ => "int"
  | _ => match resD w x with
    | some (.lst _) => "list"
    | some (.dic _) => "dict"
    | _ => ""
end
section
variable {X : Cx} {S : Ss} {T : String} {pins : List (Addr × Obj)} {σ : L2.St} {H : Hp} {s : Shared} {ρ : Fz} {st : DS} {v : V} {V' : Value} {x : Dt}
theorem tyB_is (hk : S.G.K = X.K) (hT : tyB st.w x = T) (h0 : T ≠ "") (I : Inv X pins σ H s) (rv : RelV v V') (R : SR S ρ H σ st) (rx : Rep S.G ρ v x) : s.TypeIs V' T ∧ ∀ a, V' = .ref a → ∃ ob, s.heap.get? a = some ob ∧ ob.dict = none := by
  have ls : ∀ xs, resD st.w x = some (.lst xs) → s.TypeIs V' "list" ∧ ∀ a, V' = .ref a → ∃ ob, s.heap.get? a = some ob ∧ ob.dict = none := fun xs e => by
    obtain ⟨a, vs, rfl, h1, _⟩ := lst_at R.cov rx e
    exact tyV_is I rv (.inl ⟨rfl, vs, hk ▸ h1⟩)
  have dc : ∀ xs, resD st.w x = some (.dic xs) → s.TypeIs V' "dict" ∧ ∀ a, V' = .ref a → ∃ ob, s.heap.get? a = some ob ∧ ob.dict = none := fun xs e => by
    obtain ⟨a, o, rfl, h1, h2⟩ := dic_at R.cov rx e
    cases rv
    have : IsD H a := by
      rcases h2 with ⟨es, rfl, _⟩ | ⟨es, ⟨rfl, _⟩, _⟩
      · exact .inl ⟨es, h1⟩
      · exact .inr ⟨es, h1⟩
    obtain ⟨t1, t2, _⟩ := isD_at I this
    exact ⟨t1, t2⟩
  cases x with
  | str z => subst hT; exact tyV_is I rv (by rw [rx.str]; rfl)
  | int z => subst hT; exact tyV_is I rv (by rw [rx.int]; rfl)
  | lst xs => subst hT; exact ls xs rfl
  | dic xs => subst hT; exact dc xs rfl
  | loc n =>
    have hT : (match resD st.w (.loc n) with | some (.lst _) => "list" | some (.dic _) => "dict" | _ => "") = T := hT
    split at hT
    · rename_i xs e; subst hT; exact ls xs e
    · rename_i xs e; subst hT; exact dc xs e
    · exact absurd hT.symm h0
  | _ => exact absurd hT.symm h0
end
abbrev MOm := Dt → List Dt → M Dt
def MeD (X : Cx) (S : Ss) (id : String) (g : MOm) : Prop :=
  ∀ x xs (pins : List (Addr × Obj)) (s : Shared) (σ : L2.St) (H : Hp) (v : V) (V' : Value) (vs : List V) (us : List Value) (ρ : Fz) (st : DS) (Q : VK), Inv X pins σ H s → RelV v V' → Vals vs us → SR S ρ H σ st → Rep S.G ρ v x → Paired (Rep S.G ρ) vs xs →
    (g x xs st).sat (PoD S ρ σ Q) (WantX S ρ σ) → wpAny (model X.prog X.w) X.A (call (.builtin id) (V' :: us)) (EP X pins σ Q) X.xe s
def mMe (T : String) (fo : M Dt) (fs : M (List Dt)) (g : MOm) : M Dt := d1 fo fun x st => if tyB st.w x = T then (fs st).bind fun ds => g x ds else .stuck
section
variable {X : Cx} {S : Ss} {T : String} {name : Str} {id : String} {o e : Expr} {es : List Expr} {fo : M Dt} {fs : M (List Dt)} {g : MOm} {apos cpos : Pos}
theorem pd_me1 (hk : S.G.K = X.K) (h0 : T ≠ "") (pa : PlainAttrs T) (slot : PySem.Slot T name id) (hty : typeOf (.builtin id) = pure (.type "method_descriptor")) (hm : MeD X S id g) (ho : PD X S o fo) (ha : PDA X S (e :: es) fs)
    (hbase : attributeBase o name X.env (eval o X.env) = eval o X.env := by rfl)
    (hfew : ((backTo cpos (starEach (e :: es) X.env)).all (fun x => !x.1) && (backToKw cpos (keywordEach [] X.env)).all (fun x => x.1.isSome)
      && decide ((e :: es).length + ([] : List Keyword).length + (if ([] : List Keyword).isEmpty then 0 else 1) < 30)) = true := by rfl)
    (hline : (apos.endLine == cpos.line) = true := by rfl) (hs : starEach (e :: es) X.env = (false, eval e X.env) :: starEach es X.env := by rfl) (hplain : (backTo cpos (starEach es X.env)).any (·.1) = false := by rfl) :
    PD X S (.Call (.Attribute o name apos) (e :: es) [] cpos) (mMe T fo fs g) := by
  refine ⟨⟨fun pins s σ H Q I ⟨ρ, st, R, q⟩ => ?_⟩⟩
  refine wpAny_Call_method_late hbase hfew hline rfl (thn (ho.pe.run pins s σ H _ I ⟨ρ, st, R, Out.go q (fun x st1 q1 v ρ1 H1 e1 R1 rx => (⟨ρ1, st1, x, e1, R1, rx, q1⟩ :
    ∃ ρ1 st1 x, Ext ρ ρ1 ∧ SR S ρ1 H1 σ st1 ∧ Rep S.G ρ1 v x ∧ (if tyB st1.w x = T then (fs st1).bind fun ds => g x ds else Out.stuck).sat (PoD S ρ σ Q) (WantX S ρ σ))) fun _ _ h => h⟩) fun V' s1 ⟨v, H1, I1, r1, ρ1, st1, x, e1, R1, rx, q1⟩ => ?_)
  split at q1
  case isFalse => exact q1.elim
  rename_i hT
  obtain ⟨h1, h2⟩ := tyB_is hk hT h0 I1 r1 R1 rx
  refine ⟨T, id, pa, slot, hty, h1, h2, ?_⟩
  have hA := ha.pa.run cpos pins s1 σ H1 (fun vs H2 => ∃ ρ2 st2 ds, Ext ρ1 ρ2 ∧ SR S ρ2 H2 σ st2 ∧ Paired (Rep S.G ρ2) vs ds ∧ (g x ds st2).sat (PoD S ρ σ Q) (WantX S ρ σ)) I1 ⟨ρ1, st1, R1, Out.go q1 (fun ds st2 q2 vs ρ2 H2 e2 R2 rs => ⟨ρ2, st2, ds, e2, R2, rs, q2⟩) fun x st h => h.mono e1⟩
  rw [hs] at hA ⊢
  refine Calls.callWith_builtin (by show (false || (backTo cpos (starEach es X.env)).any (·.1)) = false; rw [hplain] <;> rfl) (Calls.evalArgs_plain ?_)
  refine thn hA fun us s2 ⟨vs, H2, I2, r2, ρ2, st2, ds, e2, R2, rs, q2⟩ => ?_
  exact hm x ds pins s2 σ H2 v V' vs us ρ2 st2 Q I2 r1 r2 R2 (rx.mono e2) rs (Out.sat_mono q2 (fun d st h => PoD.mono (e1.trans e2) h) fun x st h => h.mono (e1.trans e2))
theorem pd_me0 (hk : S.G.K = X.K) (h0 : T ≠ "") (pa : PlainAttrs T) (slot : PySem.Slot T name id) (hty : typeOf (.builtin id) = pure (.type "method_descriptor")) (hm : MeD X S id g) (ho : PD X S o fo)
    (hbase : attributeBase o name X.env (eval o X.env) = eval o X.env := by rfl) (hline : (apos.endLine == cpos.line) = true := by rfl) :
    PD X S (.Call (.Attribute o name apos) [] [] cpos) (mMe T fo aNil g) := by
  refine ⟨⟨fun pins s σ H Q I ⟨ρ, st, R, q⟩ => ?_⟩⟩
  refine wpAny_Call_method0_late hbase hline (thn (ho.pe.run pins s σ H _ I ⟨ρ, st, R, Out.go q (fun x st1 q1 v ρ1 H1 e1 R1 rx => (⟨ρ1, st1, x, e1, R1, rx, q1⟩ :
    ∃ ρ1 st1 x, Ext ρ ρ1 ∧ SR S ρ1 H1 σ st1 ∧ Rep S.G ρ1 v x ∧ (if tyB st1.w x = T then (aNil st1).bind fun ds => g x ds else Out.stuck).sat (PoD S ρ σ Q) (WantX S ρ σ))) fun _ _ h => h⟩) fun V' s1 ⟨v, H1, I1, r1, ρ1, st1, x, e1, R1, rx, q1⟩ => ?_)
  split at q1
  case isFalse => exact q1.elim
  rename_i hT
  obtain ⟨h1, h2⟩ := tyB_is hk hT h0 I1 r1 R1 rx
  refine ⟨T, id, pa, slot, hty, h1, h2, Calls.callWith_builtin rfl (PySem.evalArgs_none ?_)⟩
  exact hm x [] pins s1 σ H1 v V' [] [] ρ1 st1 Q I1 r1 .nil R1 rx .nil (Out.sat_mono q1 (fun d st h => PoD.mono e1 h) fun x st h => h.mono e1)
def chL (x : Dt) (f : List Dt → Option (Dt × List Dt)) : M Dt := fun st => match x with
  | .loc n => match st.w[n]? with
    | some (.lst xs) => match f xs with
      | some (r, ys) => .ok r ⟨st.sl, st.w.set n (.lst ys)⟩
      | none => .stuck
    | _ => .stuck
  | _ => .stuck
theorem chL_of {x : Dt} {f : List Dt → Option (Dt × List Dt)} {st : DS} {A : Dt → DS → Prop} {B : XD → DS → Prop} (h : (chL x f st).sat A B) : ∃ n xs r ys, x = .loc n ∧ st.w[n]? = some (.lst xs) ∧ f xs = some (r, ys) ∧ A r ⟨st.sl, st.w.set n (.lst ys)⟩ := by
  unfold chL at h
  split at h
  case h_2 => exact h.elim
  rename_i n
  split at h
  case h_2 => exact h.elim
  rename_i xs e
  split at h
  case h_2 => exact h.elim
  rename_i r ys ef
  exact ⟨n, xs, r, ys, rfl, e, ef, h⟩
theorem loc_lst {ρ : Fz} {H : Hp} {σ : L2.St} {st : DS} {v : V} {n : Nat} {xs : List Dt} (R : SR S ρ H σ st) (rx : Rep S.G ρ v (.loc n)) (h : st.w[n]? = some (.lst xs)) : ∃ a vs, v = .ref a ∧ ρ.io[n]? = some a ∧ H a = some (.lst vs) ∧ Paired (Rep S.G ρ) vs xs := by
  obtain ⟨a, rfl, h1⟩ := rx.out
  obtain ⟨_, o, ho, vs, rfl, p⟩ := R.cov.wo n a _ h1 h
  exact ⟨a, vs, rfl, h1, ho, p⟩
def gAppend : MOm := fun x ds => match ds with
  | [y] => chL x fun xs => if xs.length < LIM then some (.non, xs ++ [y]) else none
  | _ => stk
theorem me_append : MeD X S "list.append" gAppend := by
  intro x ds pins s σ H v V' vs us ρ st Q I rv rs R rx rds q
  unfold gAppend at q
  split at q
  case h_2 => exact q.elim
  rename_i y
  obtain ⟨n, xs, r, ys, rfl, e, ef, q⟩ := chL_of q
  split at ef
  case isFalse => cases ef
  rename_i hl
  cases ef
  obtain ⟨a, ws, rfl, hio, ha, p⟩ := loc_lst R rx e
  obtain ⟨z, rfl, rz⟩ := paired1 rds
  exact mt_append pins s σ H (.ref a) [z] V' us Q I rv rs ⟨a, ws, z, rfl, rfl, ha, lim_lt (by rw [p.length]; exact hl), q .non ρ _ (Ext.refl ρ) (R.setW hio ⟨_, rfl, p.snoc rz⟩) rep_non⟩
def gPop : MOm := fun x ds => match ds with
  | [] => chL x fun xs => match xs[xs.length - 1]? with
    | some y => some (y, xs.dropLast)
    | none => none
  | [.int i] => chL x fun xs => if -(2 ^ 62) ≤ i ∧ i < 2 ^ 62 then (match seqIndex? i xs.length with
    | some k => match xs[k]? with
      | some y => some (y, xs.eraseIdx k)
      | none => none
    | none => none) else none
  | _ => stk
theorem paired_dropLast {α β : Type} {P : α → β → Prop} : ∀ {xs : List α} {ys : List β}, Paired P xs ys → Paired P xs.dropLast ys.dropLast
  | _, _, .nil => .nil
  | _, _, .cons h .nil => .nil
  | _, _, .cons h (.cons h2 t) => .cons h (paired_dropLast (.cons h2 t))
theorem paired_erase {α β : Type} {P : α → β → Prop} : ∀ (k : Nat) {xs : List α} {ys : List β}, Paired P xs ys → Paired P (xs.eraseIdx k) (ys.eraseIdx k)
  | _, _, _, .nil => .nil
  | 0, _, _, .cons h t => t
  | k + 1, _, _, .cons h t => .cons h (paired_erase k t)
theorem me_pop : MeD X S "list.pop" gPop := by
  intro x ds pins s σ H v V' vs us ρ st Q I rv rs R rx rds q
  unfold gPop at q
  split at q
  case h_3 => exact q.elim
  · obtain ⟨n, xs, r, ys, rfl, e, ef, q⟩ := chL_of q
    split at ef
    case h_2 => cases ef
    rename_i y ey
    cases ef
    obtain ⟨a, ws, rfl, hio, ha, p⟩ := loc_lst R rx e
    cases rds
    obtain ⟨z, ez, rz⟩ := paired_get p _ _ ey
    rw [← p.length] at ez
    exact mt_pop pins s σ H (.ref a) [] V' us Q I rv rs ⟨a, ws, z, rfl, rfl, ha, ez, q z ρ _ (Ext.refl ρ) (R.setW hio ⟨_, rfl, paired_dropLast p⟩) rz⟩
  · rename_i i
    obtain ⟨n, xs, r, ys, rfl, e, ef, q⟩ := chL_of q
    split at ef
    case isFalse => cases ef
    rename_i hi
    split at ef
    case h_2 => cases ef
    rename_i k ek
    split at ef
    case h_2 => cases ef
    rename_i y ey
    cases ef
    obtain ⟨a, ws, rfl, hio, ha, p⟩ := loc_lst R rx e
    obtain ⟨z, rfl, rz⟩ := paired1 rds
    obtain ⟨b, eb, rb⟩ := paired_get p _ _ ey
    rw [← p.length] at ek
    exact mt_popAt pins s σ H (.ref a) [z] V' us Q I rv rs ⟨a, ws, i, k, b, rfl, by rw [rz.int], ha, by omega, by omega, ek, eb, q b ρ _ (Ext.refl ρ) (R.setW hio ⟨_, rfl, paired_erase k p⟩) rb⟩
def joinD (x : Dt) (ds : List Dt) : Option Dt := match x with
  | .str a => (match ds with
    | [.lst ys] => match asStrs ys with
      | some zs => if (zs.map (·.length)).sum + zs.length * a.length ≤ LIM then some (.str (Txt.join a zs)) else none
      | none => none
    | _ => none)
  | _ => none
def gJoin : MOm := fun x ds => opt (joinD x ds)
theorem me_join (hk : S.G.K = X.K) : MeD X S "str.join" gJoin := by
  intro x ds pins s σ H v V' vs us ρ st Q I rv rs R rx rds q
  unfold gJoin at q
  cases ej : joinD x ds with
  | none => rw [ej] at q; exact q.elim
  | some dj =>
  rw [ej] at q
  unfold joinD at ej
  split at ej
  case h_2 => cases ej
  rename_i a
  split at ej
  case h_2 => cases ej
  rename_i ys
  split at ej
  case h_2 => cases ej
  rename_i zs ez
  split at ej
  case isFalse => cases ej
  rename_i hl
  cases ej
  obtain ⟨z, rfl, rz⟩ := paired1 rds
  obtain ⟨p, ws, rfl, hf, pw⟩ := rz.lst
  have e := asStrs_eq ez
  subst e
  have e2 := strs_of pw
  subst e2
  exact mt_join pins s σ H v [.ref p] V' us Q I rv rs ⟨a, p, zs, rx.str, rfl, .inl (hk ▸ R.cov.sl hf), Nat.le_trans hl (by decide), q _ ρ H (Ext.refl ρ) R rep_str⟩
def dgO (w : Wd) (x y : Dt) : Option (Option Dt) := match resD w x with
  | some (.dic []) => if isKey y then some none else none
  | some (.dic (kv :: r)) => if isKey y && isKey kv.1 then some (getK (kv :: r) y) else none
  | _ => none
theorem dgO_of {G : Cfg} {ρ : Fz} {w : Wd} {H : Hp} {v u : V} {x y : Dt} {od : Option Dt} (cv : Cov G ρ w H) (rx : Rep G ρ v x) (ry : Rep G ρ u y) (h : dgO w x y = some od) : ∃ a oz, v = .ref a ∧ DGet H a u oz ∧ ((od = none ∧ oz = none) ∨ ∃ d z, od = some d ∧ oz = some z ∧ Rep G ρ z d) := by
  unfold dgO at h
  split at h
  · rename_i e
    split at h
    · rename_i hk
      cases h
      obtain ⟨a, o, rfl, hr, dr⟩ := dic_at cv rx e
      obtain ⟨j, rfl⟩ := kD_of hk
      rcases dr with ⟨es, rfl, p⟩ | ⟨es, ⟨rfl, n⟩, p⟩
      · cases p; exact ⟨a, none, rfl, .inl ⟨[], j, hr, kV_of ry, rfl⟩, .inl ⟨rfl, rfl⟩⟩
      · cases p; exact absurd rfl n
    · cases h
  · rename_i kv r e
    split at h
    · rename_i hk
      cases h
      rw [Bool.and_eq_true] at hk
      obtain ⟨a, o, rfl, hr, dr⟩ := dic_at cv rx e
      obtain ⟨es, rfl, p⟩ := dicK dr ⟨kv, r, rfl, hk.2⟩
      have g := dget_of cv hr dr ry hk.1 ⟨es, rfl⟩
      cases eg : getK (kv :: r) y with
      | none => exact ⟨a, none, rfl, g.2 eg, .inl ⟨rfl, rfl⟩⟩
      | some d => obtain ⟨z, h1, h2⟩ := g.1 d eg; exact ⟨a, some z, rfl, h1, .inr ⟨d, z, rfl, rfl, h2⟩⟩
    · cases h
  · cases h
def gGet : MOm := fun x ds st => match ds with
  | [y] => (match dgO st.w x y with
    | some od => .ok (od.getD .non) st
    | none => .stuck)
  | [y, z] => (match dgO st.w x y with
    | some od => .ok (od.getD z) st
    | none => .stuck)
  | _ => .stuck
theorem me_get {k : Nat} (hr : RoomG k X.A) : MeD X S "dict.get" gGet := by
  intro x ds pins s σ H v V' vs us ρ st Q I rv rs R rx rds q
  have hu : X.A.units + 1 < cLine := by have := hr.units; omega
  unfold gGet at q
  split at q
  case h_3 => exact q.elim
  · rename_i y
    split at q
    case h_2 => exact q.elim
    rename_i od e
    obtain ⟨z, rfl, rz⟩ := paired1 rds
    obtain ⟨a, oz, rfl, g, hz⟩ := dgO_of R.cov rx rz e
    obtain ⟨U, rfl, rU⟩ := vals1 rs
    cases rv
    refine d_get1 hu I g rU fun w' s' I' r' => ⟨_, H, I', r', q _ ρ H (Ext.refl ρ) R ?_⟩
    rcases hz with ⟨rfl, rfl⟩ | ⟨d, z, rfl, rfl, h⟩
    · exact rep_non
    · exact h
  · rename_i y y2
    split at q
    case h_2 => exact q.elim
    rename_i od e
    obtain ⟨z, z2, rfl, rz, rz2⟩ := paired2 rds
    obtain ⟨a, oz, rfl, g, hz⟩ := dgO_of R.cov rx rz e
    obtain ⟨U, U2, rfl, rU, rU2⟩ := vals2 rs
    cases rv
    refine d_get2 hu I g rU rU2 fun w' s' I' r' => ⟨_, H, I', r', q _ ρ H (Ext.refl ρ) R ?_⟩
    rcases hz with ⟨rfl, rfl⟩ | ⟨d, z, rfl, rfl, h⟩
    · exact rz2
    · exact h
end
def putD (kvs : List (Dt × Dt)) (k v : Dt) : List (Dt × Dt) := if (kvs.any fun kv => eqKey kv.1 k) = true then kvs.map (fun kv => if eqKey kv.1 k then (kv.1, v) else kv) else kvs ++ [(k, v)]
theorem put_rep {G : Cfg} {ρ : Fz} {es : List (Key × V)} {kvs : List (Dt × Dt)} {l : Key} {v : V} {d : Dt} (p : KVR G ρ es kvs) (r : Rep G ρ v d) : KVR G ρ (putK es l v) (putD kvs (kD l) d) := by
  have e : (es.any fun kv => decide (kv.1 = l)) = (kvs.any fun kv => eqKey kv.1 (kD l)) := by
    clear r
    induction p with
    | nil => rfl
    | cons h t ih => rw [List.any_cons, List.any_cons, ih, ← h.1, eqKey_kD]
  unfold putK putD
  rw [e]
  split
  · rename_i h
    clear h e
    induction p with
    | nil => exact .nil
    | @cons e kv es kvs h t ih =>
      rw [List.map_cons, List.map_cons]
      refine .cons ?_ ih
      rw [← h.1, eqKey_kD]
      by_cases q : e.1 = l
      · rw [if_pos q, decide_eq_true q, if_pos rfl]; exact ⟨rfl, r⟩
      · rw [if_neg q, decide_eq_false q, if_neg Bool.false_ne_true]; exact h
  · exact paired_append p (.cons ⟨rfl, r⟩ .nil)
def setI (x i v : Dt) (st : DS) : Option DS := match x with
  | .loc n => match st.w[n]? with
    | some (.lst xs) => match i with
      | .int k => (ixN xs.length k).map fun j => ⟨st.sl, st.w.set n (.lst (xs.set j v))⟩
      | _ => none
    | some (.dic kvs) => if isKey i && kvs.all (fun kv => isKey kv.1) && decide (kvs.length < LIM) then some ⟨st.sl, st.w.set n (.dic (putD kvs i v))⟩ else none
    | _ => none
  | _ => none
def rSetLD : TSet := fun o i v H Q => rSetL o i v H Q ∨ rSetD o i v H Q
theorem set_LD {X : Cx} (hu : X.A.units + 1 < cLine) : PSet X rSetLD := fun pins s σ H o i v ov iv u Q I ro ri rv h => h.elim (set_list pins s σ H o i v ov iv u Q I ro ri rv) (set_dict hu pins s σ H o i v ov iv u Q I ro ri rv)
theorem setI_of {S : Ss} {ρ : Fz} {H : Hp} {σ : L2.St} {st st' : DS} {x i d : Dt} {v j z : V} {Q : Hp → Prop} (R : SR S ρ H σ st) (rx : Rep S.G ρ v x) (ri : Rep S.G ρ j i) (rd : Rep S.G ρ z d) (h : setI x i d st = some st') (hq : ∀ H', SR S ρ H' σ st' → Q H') : rSetLD v j z H Q := by
  unfold setI at h
  split at h
  case h_2 => cases h
  rename_i n
  split at h
  case h_3 => cases h
  · rename_i xs e
    split at h
    case h_2 => cases h
    rename_i k
    cases ek : ixN xs.length k with
    | none => rw [ek] at h; cases h
    | some m =>
      rw [ek] at h; cases h
      obtain ⟨a, ws, rfl, hio, ha, p⟩ := loc_lst R rx e
      exact .inl ⟨a, ws, k, m, rfl, ri.int, ha, by rw [p.length]; exact ek, hq _ (R.setW hio ⟨_, rfl, paired_set rd m p⟩)⟩
  · rename_i kvs e
    split at h
    case isFalse => cases h
    rename_i hc
    cases h
    rw [Bool.and_eq_true, Bool.and_eq_true] at hc
    obtain ⟨⟨h1, h2⟩, h3⟩ := hc
    obtain ⟨a, rfl, hio⟩ := rx.out
    obtain ⟨_, o, ho, dr⟩ := R.cov.wo n a _ hio e
    obtain ⟨es, rfl, p⟩ := dicK_all dr h2
    obtain ⟨l, rfl⟩ := kD_of h1
    exact .inr ⟨a, _, rfl, .inl ⟨es, l, ho, kV_of ri, lim_lt (by rw [p.length]; exact of_decide_eq_true h3), rfl⟩, hq _ (R.setW hio (.inl ⟨_, rfl, put_rep p rd⟩))⟩
def tSub (fo fi : M Dt) : TgM := fun d st => match fo st with
  | .ok x st1 => match fi st1 with
    | .ok i st2 => setI x i d st2
    | _ => none
  | _ => none
section
variable {X : Cx} {S : Ss} {o i : Expr} {fo fi : M Dt} {pos : Pos} {k : Nat}
theorem pdg_sub (hr : RoomG k X.A) (ho : PD X S o fo) (hi : PD X S i fi)
    (ha : ∀ v, assign (.Subscript o i pos) X.env v = (do
      let ov ← holding [v] (eval o X.env)
      let iv ← holding [v, ov] (eval i X.env)
      standAt pos
      holding [v, ov, iv] (setItem ov iv v)
      release [v, ov, iv] []) := by intro _; rfl) : PDG X S (.Subscript o i pos) [] (tSub fo fi) := by
  refine ⟨pg_imp (pg_sub ho.pe hi.pe (set_LD (by have := hr.units; omega)) ha) fun v σ H Q ⟨ρ, st, d, st', R, r, e, q⟩ => ?_⟩
  unfold tSub at e
  refine ⟨ρ, st, R, ?_⟩
  cases e1 : fo st with
  | exc _ _ => rw [e1] at e; cases e
  | stuck => rw [e1] at e; cases e
  | ok x st1 =>
    rw [e1] at e
    dsimp only at e
    intro vo ρ1 H1 x1 R1 r1
    refine ⟨ρ1, st1, R1, ?_⟩
    cases e2 : fi st1 with
    | exc _ _ => rw [e2] at e; cases e
    | stuck => rw [e2] at e; cases e
    | ok y st2 =>
      rw [e2] at e
      dsimp only at e
      intro vi ρ2 H2 x2 R2 r2
      exact setI_of R2 (r1.mono x2) r2 (r.mono (x1.trans x2)) e fun H3 R3 => q σ ρ2 H3 ⟨rfl, fun _ _ => rfl⟩ (x1.trans x2) R3
end
end B
end
section
set_option maxRecDepth 100000
set_option maxHeartbeats 4000000
namespace B
open PySem L2 ClX
open PyProof.Rows (envOfC subscriptTail isTrue_plain)
theorem fld_look {R : RV} {f : Str} : ∀ {es : List (Str × V)} {fs : List (Str × Dt)}, FldRep R es fs → (∀ d, fs.lookup f = some d → ∃ v, es.lookup f = some v ∧ R v d) ∧ (fs.lookup f = none → es.lookup f = none)
  | _, _, .nil => ⟨fun _ h => (by cases h), fun _ => rfl⟩
  | (k, v) :: es, (k', d) :: fs, .cons ⟨hk, hr⟩ t => by
    have hk : k = k' := hk
    subst hk
    obtain ⟨i1, i2⟩ := fld_look (f := f) t
    rw [List.lookup_cons, List.lookup_cons]
    cases e : f == k with
    | true => exact ⟨fun z h => (by cases h; exact ⟨v, rfl, hr⟩), fun h => (by cases h)⟩
    | false => exact ⟨i1, i2⟩
section
variable {X : Cx} {S : Ss} {k : Nat} {f : Addr} {m : FnM}
theorem run_DAc {A : Around} {pins : List (Addr × Obj)} {σ : L2.St} {H : Hp} {s : Shared} {Q : VK} {us : List Value} {vs : List V} {ρ : Fz} {st : DS} {ds : List Dt} (hA : A.frames = X.A.frames) (F : FnC X S.G k f m) (hr : RoomG k A) (tk : Takes X S.W)
    (I : Inv X pins σ H s) (r : Vals vs us) (R : SR S ρ H σ st) (rs : Paired (Rep S.G ρ) vs ds) (q : (callM m ds st).sat (PoD S ρ σ Q) (WantX S ρ σ)) :
    codeAny (model X.prog X.w) A (.call (.ref f) ⟨us, []⟩) (fun r s' => match r with | .ok (.ret v) => EP X pins σ Q v s' | .ok _ => False | .error e => X.xe e s') s := by
  have e0 : Env0 X.prog X.w X.K X.mg X.base A X.stack s H := by
    have e := I.env0
    exact ⟨by rw [hA]; exact e.frames, e.mod, e.bs, e.bsz, e.funs, e.frf, e.hok, e.bare⟩
  refine codeAny_mono (F A X.stack s H us vs Q (WE S.W σ) hr e0 r (call_sp (Ext.refl ρ) R rs q)) fun r s' hq => ?_
  cases r with
  | error e => exact passAt tk σ pins H s e s' I hq
  | ok fl =>
    cases fl with
    | ret u => exact I.after hq
    | next => exact False.elim hq
    | brk => exact False.elim hq
    | cont => exact False.elim hq
def noX {α : Type} (f : M α) : M α := fun st => match f st with
  | .ok a st' => .ok a st'
  | _ => .stuck
theorem run_DA0 {A : Around} {pins : List (Addr × Obj)} {σ : L2.St} {H : Hp} {s : Shared} {Q : VK} {us : List Value} {vs : List V} {ρ : Fz} {st : DS} {ds : List Dt} (hA : A.frames = X.A.frames) (F : FnC X S.G k f m) (hr : RoomG k A)
    (I : Inv X pins σ H s) (r : Vals vs us) (R : SR S ρ H σ st) (rs : Paired (Rep S.G ρ) vs ds) {E : XD → DS → Prop} (q : (noX (callM m ds) st).sat (PoD S ρ σ Q) E) :
    codeAny (model X.prog X.w) A (.call (.ref f) ⟨us, []⟩) (fun r s' => match r with | .ok (.ret v) => EP X pins σ Q v s' | _ => False) s := by
  have e0 : Env0 X.prog X.w X.K X.mg X.base A X.stack s H := by
    have e := I.env0
    exact ⟨by rw [hA]; exact e.frames, e.mod, e.bs, e.bsz, e.funs, e.frf, e.hok, e.bare⟩
  have sp : spD S.G m vs H Q (fun _ _ _ => False) := by
    refine ⟨ρ, st.w, ds, R.cov, rs, ?_⟩
    unfold noX callM at q
    cases o : m ds st.w with
    | ok d w => rw [o] at q; exact fun v ρ' H' s r => q v ρ' H' s.ext (R.step s) r
    | exc x w => rw [o] at q; exact q.elim
    | stuck => rw [o] at q; exact q.elim
  refine codeAny_mono (F A X.stack s H us vs Q (fun _ _ _ => False) hr e0 r sp) fun r s' hq => ?_
  cases r with
  | error e => exact passAt (X := X.nox) (W := fun _ _ _ _ => False) takes0 σ pins H s e s' (I.wish _) hq
  | ok fl =>
    cases fl with
    | ret u => exact I.after hq
    | next => exact False.elim hq
    | brk => exact False.elim hq
    | cont => exact False.elim hq
abbrev At := Str → Option (Option FnM)
structure AtF (X : Cx) (G : Cfg) (k : Nat) (f : Str) (pr : At) : Prop where
  f : ∀ c r, pr c = some r → ∃ C, G.cl c = some C ∧ Cls X.K C ∧ match r with
    | none => NoAttr X.K C f
    | some m => ∃ p g, PropOf X.K C f p g ∧ FnC X G k g m
def getA (f : Str) (pr : At) (x : Dt) : M Dt := fun st => match insOf st.w x with
  | some (c, fs) => match pr c with
    | some none => match fs.lookup f with
      | some d => .ok d st
      | none => .stuck
    | some (some m) => noX (callM m [x]) st
    | none => .stuck
  | none => .stuck
theorem pd_attr {e : Expr} {fe : M Dt} {f : Str} {pos : Pos} {pr : At} (F : AtF X S.G k f pr) (hr : RoomG (k + 1) X.A) (tk : Takes X S.W) (he : PD X S e fe) (hb : attributeBase e f X.env (eval e X.env) = eval e X.env := by rfl) :
    PD X S (.Attribute e f pos) (d1 fe (getA f pr)) := by
  refine ⟨⟨fun pins s σ H Q I ⟨ρ, st, R, q⟩ => ?_⟩⟩
  refine attr_of hb (thn (he.pe.run pins s σ H _ I ⟨ρ, st, R, Out.go q (fun x st1 q1 v ρ1 H1 e1 R1 rx => (⟨ρ1, st1, x, R1, rx, Out.sat_mono q1 (fun d st h => PoD.mono e1 h) fun x st h => h.mono e1⟩ :
    ∃ ρ1 st1 x, SR S ρ1 H1 σ st1 ∧ Rep S.G ρ1 v x ∧ (getA f pr x st1).sat (PoD S ρ1 σ Q) (WantX S ρ1 σ))) fun _ _ h => h⟩) fun V' s1 ⟨v, H1, I1, r1, ρ1, st1, x, R1, rx, q1⟩ => ?_)
  unfold getA at q1
  split at q1
  case h_2 => exact q1.elim
  rename_i c fs e
  obtain ⟨a, C, dx, es, rfl, hc, ha, hf⟩ := ins_at R1.cov rx e
  cases r1
  split at q1
  case h_3 => exact q1.elim
  · rename_i ep
    split at q1
    case h_2 => exact q1.elim
    rename_i d ed
    obtain ⟨C', hc', cl, n⟩ := F.f c none ep
    rw [hc] at hc'; cases hc'
    obtain ⟨z, ez, rz⟩ := (fld_look hf).1 d ed
    exact getattr_ok I1 ha cl n ez fun u s2 I2 ru => ⟨z, H1, I2, ru, q1 z ρ1 H1 (Ext.refl ρ1) R1 rz⟩
  · rename_i m ep
    obtain ⟨C', hc', cl, p, g, hp, Fm⟩ := F.f c (some m) ep
    rw [hc] at hc'; cases hc'
    obtain ⟨mA, O, _, _, _, _⟩ := ins_get I1.hok ha
    obtain ⟨od, J, _⟩ := O.look
    obtain ⟨rest, hrec⟩ := hp.rec_
    have I2 := I1.tok (s1.toks + 1)
    have hcc : (PySem.W.clsIn X.K C).isSome = true := by
      obtain ⟨cd, hc, _⟩ := PySem.W.any_some cl.hd
      rw [hc]
      rfl
    refine PySem.W.get_bind I1.kIn J (PySem.W.plainGet_of (cl.get f)).1 (PySem.W.findObj_data hcc hp.at_ hp.get hp.tak) (PySem.W.plainGet_of (cl.get f)).2 (wpAny_call (PySem.W.prop_get (s := { s1 with toks := s1.toks + 1 }) I1.kIn hrec ?_))
    refine codeAny_mono (run_DA0 (A := X.A.in1) rfl Fm hr.in1 I2 (.cons (show RelV (V.ref a) (Value.ref a) from rfl) .nil) R1 (.cons rx .nil) q1) fun r s' hq => ?_
    cases r with
    | error er => exact False.elim hq
    | ok fl =>
      cases fl with
      | ret u =>
        obtain ⟨v, H', I3, rv, q3⟩ := hq
        show wpAny _ _ (handedOut u) _ _ _
        rw [PySem.W.handedOut_of (handed_of rv)]
        exact wpAny_pure ⟨v, H', I3, rv, q3⟩
      | next => exact False.elim hq
      | brk => exact False.elim hq
      | cont => exact False.elim hq
structure MtF (X : Cx) (G : Cfg) (k : Nat) (nm : Str) (ow : Ow) : Prop where
  f : ∀ c m, ow c = some m → ∃ C g, G.cl c = some C ∧ Cls X.K C ∧ Meth X.K C nm g ∧ FnC X G k g m
def okMt (nm : Str) (x : Dt) : M Dt := fun st => match insOf st.w x with
  | some (c, fs) => match fs.lookup nm with
    | none => .ok x st
    | some _ => .stuck
  | none => .stuck
theorem pd_meth {o e : Expr} {es : List Expr} {fo : M Dt} {fs : M (List Dt)} {nm : Str} {apos pos : Pos} {ow : Ow} {pl : Sem Bool} (F : MtF X S.G k nm ow) (hr : RoomG k X.A) (tk : Takes X S.W) (ho : PD X S o fo) (ha : PDA X S (e :: es) fs)
    (hst : starEach (e :: es) X.env = (false, eval e X.env) :: starEach es X.env := by rfl) (hpl : (backTo pos (starEach es X.env)).any (·.1) = false := by rfl)
    (ht : eval (.Call (.Attribute o nm apos) (e :: es) [] pos) X.env = (do
      let ov ← eval o X.env
      standAt apos.atName
      let (f, first) ← holding [ov] (getMethod ov nm pl)
      callWith pos f first (backTo pos (starEach (e :: es) X.env)) (backToKw pos (keywordEach [] X.env))) := by rfl) :
    PD X S (.Call (.Attribute o nm apos) (e :: es) [] pos) (d1 fo fun x => d1 (okMt nm x) fun _ => fun st => match insOf st.w x with
      | some (c, _) => match ow c with
        | some m => (fs st).bind fun ds => callM m (x :: ds)
        | none => .stuck
      | none => .stuck) := by
  refine ⟨⟨fun pins s σ H Q I ⟨ρ, st, R, q⟩ => ?_⟩⟩
  refine PySem.W.methodCall_KW (pl := pl) (thn (ho.pe.run pins s σ H _ I ⟨ρ, st, R, Out.go q (fun x st1 q1 v ρ1 H1 e1 R1 rx => (⟨ρ1, st1, x, e1, R1, rx, q1⟩ :
    ∃ ρ1 st1 x, Ext ρ ρ1 ∧ SR S ρ1 H1 σ st1 ∧ Rep S.G ρ1 v x ∧ ((d1 (okMt nm x) fun _ => fun st => match insOf st.w x with
      | some (c, _) => match ow c with
        | some m => (fs st).bind fun ds => callM m (x :: ds)
        | none => .stuck
      | none => .stuck) st1).sat (PoD S ρ σ Q) (WantX S ρ σ))) fun _ _ h => h⟩) fun V' s1 ⟨v, H1, I1, r1, ρ1, st1, x, e1, R1, rx, q1⟩ => ?_) ht
  unfold d1 okMt at q1
  cases e : insOf st1.w x with
  | none => rw [e] at q1; exact q1.elim
  | some cf =>
    obtain ⟨c, fl⟩ := cf
    rw [e] at q1
    dsimp only at q1
    cases el : fl.lookup nm with
    | some _ => rw [el] at q1; exact q1.elim
    | none =>
      rw [el] at q1
      have q1 : (match insOf st1.w x with
        | some (c, _) => match ow c with
          | some m => (fs st1).bind fun ds => callM m (x :: ds)
          | none => .stuck
        | none => .stuck).sat (PoD S ρ σ Q) (WantX S ρ σ) := q1
      rw [e] at q1
      dsimp only at q1
      cases em : ow c with
      | none => rw [em] at q1; exact q1.elim
      | some m =>
        rw [em] at q1
        obtain ⟨C, g, hc, cl, hm, Fm⟩ := F.f c m em
        obtain ⟨a, C', dx, es', rfl, hc', ha', hf⟩ := ins_at R1.cov rx e
        rw [hc] at hc'; cases hc'
        cases r1
        refine getmeth_ok I1 ha' cl hm ((fld_look hf).2 el) ?_
        refine PySem.W.callWith_K (first := [.ref a]) (h₀ := X.base) I.ok.mod.kin hm.kp (thn (ha.pa.run pos pins s1 σ H1 (fun vs H2 => ∃ ρ2 st2 ds, Ext ρ1 ρ2 ∧ SR S ρ2 H2 σ st2 ∧ Paired (Rep S.G ρ2) vs ds ∧ (callM m (x :: ds) st2).sat (PoD S ρ σ Q) (WantX S ρ σ)) I1
          ⟨ρ1, st1, R1, Out.go q1 (fun ds st2 q2 vs ρ2 H2 e2 R2 rs => ⟨ρ2, st2, ds, e2, R2, rs, q2⟩) fun x st h => h.mono e1⟩) fun us s2 ⟨vs, H2, I2, r2, ρ2, st2, ds, e2, R2, rs, q2⟩ => ⟨I2.kIn, ?_⟩) hst hpl
        exact run_DA (us := .ref a :: us) rfl Fm hr tk I2 (.cons (show RelV (V.ref a) (Value.ref a) from rfl) r2) R2 (.cons (rx.mono e2) rs) (Out.sat_mono q2 (fun d st h => PoD.mono (e1.trans e2) h) fun x st h => h.mono (e1.trans e2))
theorem pd_cmeth {o e : Expr} {es : List Expr} {fs : M (List Dt)} {nm : Str} {apos pos : Pos} {m : FnM} {c : Str} {C p g : Addr} {mc : Value} {pl : Sem Bool} (hc : S.G.cl c = some C) (r : CRead X.K C mc) (cm : CMet X.K C mc nm p g) (F : FnC X S.G k g m) (hr : RoomG k X.A) (tk : Takes X S.W) (ho : PE X o (tC (.ref C))) (ha : PDA X S (e :: es) fs)
    (hst : starEach (e :: es) X.env = (false, eval e X.env) :: starEach es X.env := by rfl) (hpl : (backTo pos (starEach es X.env)).any (·.1) = false := by rfl)
    (ht : eval (.Call (.Attribute o nm apos) (e :: es) [] pos) X.env = (do
      let ov ← eval o X.env
      standAt apos.atName
      let (f, first) ← holding [ov] (getMethod ov nm pl)
      callWith pos f first (backTo pos (starEach (e :: es) X.env)) (backToKw pos (keywordEach [] X.env))) := by rfl) :
    PD X S (.Call (.Attribute o nm apos) (e :: es) [] pos) (d1 fs fun ds => callM m (.cls c :: ds)) := by
  refine ⟨⟨fun pins s σ H Q I ⟨ρ, st, R, q⟩ => ?_⟩⟩
  refine PySem.W.methodCall_KW (pl := pl) (thn (ho.run pins s σ H (fun v H1 => v = .ref C ∧ H1 = H) I ⟨rfl, rfl⟩) fun u s1 ⟨x, H1, I1, rx, ex, eH⟩ => ?_) ht
  subst ex eH
  obtain rfl : u = Value.ref C := rx
  refine getmethcm_ok I1 r cm fun s2 I2 => ?_
  refine callwith_cm I2 (base_none I1 (Nat.le_refl _)) cm.fi (thn (ha.pa.run pos _ s2 σ H1 (fun vs H2 => ∃ ρ2 st2 ds, Ext ρ ρ2 ∧ SR S ρ2 H2 σ st2 ∧ Paired (Rep S.G ρ2) vs ds ∧ (callM m (.cls c :: ds) st2).sat (PoD S ρ σ Q) (WantX S ρ σ)) I2
    ⟨ρ, st, R, Out.go q (fun ds st2 q2 vs ρ2 H2 e2 R2 rs => ⟨ρ2, st2, ds, e2, R2, rs, q2⟩) fun x st h => h⟩) fun us s3 ⟨vs, H2, I3, rv, ρ2, st2, ds, e2, R2, rs, q2⟩ => ⟨⟨pin_at I3, I3.kIn⟩, ?_⟩) hst hpl
  have z : wpAny (model X.prog X.w) X.A (call (.ref s1.heap.objs.size) us) (EP X ((s1.heap.objs.size, PySem.W.methodObj (.ref g) (.ref C)) :: pins) σ Q) X.xe s3 :=
    wpAny_call (PySem.W.method_call (pin_at I3) (run_DAc (us := .ref C :: us) (vs := .ref C :: vs) rfl F hr tk I3 (.cons rfl rv) R2 (.cons (show Rep S.G ρ2 (.ref C) (.cls c) from .mk ⟨C, rfl, hc⟩) rs) (Out.sat_mono q2 (fun d st h => PoD.mono e2 h) fun x st h => h.mono e2)))
  exact thn z fun _ _ y => unpinE y
def putFD (f : Str) (y : Dt) : List (Str × Dt) → List (Str × Dt)
  | [] => [(f, y)]
  | (g, z) :: r => if g = f then (g, y) :: r else (g, z) :: putFD f y r
theorem putF_rep {R : RV} {f : Str} {v : V} {d : Dt} (r : R v d) : ∀ {es : List (Str × V)} {fs : List (Str × Dt)}, FldRep R es fs → FldRep R (putF f v es) (putFD f d fs)
  | _, _, .nil => .cons ⟨rfl, r⟩ .nil
  | (k, u) :: es, (k', d') :: fs, .cons ⟨hk, hr⟩ t => by
    have hk : k = k' := hk
    subst hk
    unfold putF putFD
    by_cases e : k = f
    · rw [if_pos e, if_pos e]; exact .cons ⟨rfl, r⟩ t
    · rw [if_neg e, if_neg e]; exact .cons ⟨rfl, hr⟩ (putF_rep r t)
def sFldD (f : Str) (pr : At) (fo fv : M Dt) : MS := fun st => (fv st).toS fun y st1 => (fo st1).toS fun x st2 => match x with
  | .loc n => match st2.w[n]? with
    | some (.ins c fs) => match pr c with
      | some none => if fs.length < 1000 then .nx { st2 with w := st2.w.set n (.ins c (putFD f y fs)) } else .stuck
      | _ => .stuck
    | _ => .stuck
  | _ => .stuck
theorem pds_fld {o value : Expr} {fo fv : M Dt} {f : Str} {pos pos' : Pos} {pr : At} (F : AtF X S.G k f pr) (ho : PD X S o fo) (hv : PD X S value fv) (hs : swapsWith value (some (.Attribute o f pos')) pos.line X.env = pure false := by rfl) :
    PDS X S (.Assign [.Attribute o f pos'] value pos) (sFldD f pr fo fv) := by
  refine ⟨ps_imp (ps_fld ho.pe hv.pe hs) fun D σ H ⟨ρ, st, R, q⟩ => ⟨ρ, st, R, Out.sat_mono (toS_sat (σ := σ) q) (fun y st1 q1 z ρ1 H1 e1 R1 rz => ?_) fun _ _ h => h⟩⟩
  refine ⟨ρ1, st1, R1, Out.sat_mono (toS_sat (σ := σ) q1) (fun x st2 q2 v ρ2 H2 e2 R2 rx => ?_) fun x st h => WantX.mono e1 h⟩
  cases x with
  | loc n =>
    have q2 : SOut.sat (match st2.w[n]? with
      | some (.ins c fs) => match pr c with
        | some none => if fs.length < 1000 then .nx { st2 with w := st2.w.set n (.ins c (putFD f y fs)) } else .stuck
        | _ => .stuck
      | _ => .stuck) (wantD S ρ D) := q2
    split at q2
    case h_2 => exact q2.elim
    rename_i c fs e
    split at q2
    case h_2 => exact q2.elim
    rename_i ep
    split at q2
    case isFalse => exact q2.elim
    rename_i hl
    obtain ⟨C, hc, cl, n'⟩ := F.f c none ep
    obtain ⟨a, rfl, hio⟩ := rx.out
    obtain ⟨_, ob, ho, C', dx, es, hc', rfl, p⟩ := R2.cov.wo n a _ hio e
    rw [hc] at hc'; cases hc'
    refine ⟨a, C, dx, es, rfl, ho, cl, n', by rw [p.length]; exact hl, ?_⟩
    exact q2 σ ρ2 _ (e1.trans e2) (R2.setW hio ⟨C, dx, _, hc, rfl, putF_rep (rz.mono e2) p⟩)
  | _ => exact False.elim q2
end
end B
end
section
set_option maxRecDepth 100000
set_option maxHeartbeats 4000000
namespace B
open PySem L2 ClX
open PyProof.Rows (envOfC subscriptTail isTrue_plain)
section
variable {X : Cx} {S : Ss} {tg e : Expr} {fe : M Dt}
theorem pi_or {t u : TI} (h : PI X tg e t) (h' : PI X tg e u) : PI X tg e (fun σ H R => t σ H R ∨ u σ H R) := ⟨fun pins s σ H R I w => w.elim (h.run pins s σ H R I) (h'.run pins s σ H R I)⟩
def strsD (z : Str) : List Dt := z.cps.toList.map fun c => .str ⟨#[c]⟩
theorem it_list {G : Cfg} {K : PySem.W.Frag} {ρ : Fz} {a : Addr} {vs : List V} {ds : List Dt} (hk : G.K = K) (f : ρ.F a = some (.lst vs)) (p : Paired (Rep G ρ) vs ds) : ItD G (Itl K a) ρ ds := by
  subst hk
  refine ⟨fun ρ' w H i e c hi => ?_, fun ρ' w H i e c hi => ?_, fun ρ' w H i x H' d e c hd y => ?_⟩
  · exact ⟨vs, vs[i]'(by rw [p.length]; exact hi), c.sl (e.F _ _ f), List.getElem?_eq_getElem _⟩
  · exact ⟨vs, c.sl (e.F _ _ f), by rw [p.length]; exact hi⟩
  · obtain ⟨rfl, h⟩ := y
    obtain ⟨z, ez, r⟩ := paired_get p i d hd
    have := h vs (c.sl (e.F _ _ f))
    rw [ez] at this; cases this
    exact ⟨ρ', Stp.refl c, r.mono e⟩
theorem it_tup {G : Cfg} {K : PySem.W.Frag} {ρ : Fz} {a : Addr} {vs : List V} {ds : List Dt} (hk : G.K = K) (f : SqT G.K ρ.F a vs) (p : Paired (Rep G ρ) vs ds) : ItD G (Itt K a) ρ ds := by
  subst hk
  refine ⟨fun ρ' w H i e c hi => ?_, fun ρ' w H i e c hi => ?_, fun ρ' w H i x H' d e c hd y => ?_⟩
  · exact ⟨vs, vs[i]'(by rw [p.length]; exact hi), c.st (e.st f), List.getElem?_eq_getElem _⟩
  · exact ⟨vs, c.st (e.st f), by rw [p.length]; exact hi⟩
  · obtain ⟨rfl, h⟩ := y
    obtain ⟨z, ez, r⟩ := paired_get p i d hd
    have := h vs (c.st (e.st f))
    rw [ez] at this; cases this
    exact ⟨ρ', Stp.refl c, r.mono e⟩
theorem it_str {G : Cfg} {ρ : Fz} {z : Str} : ItD G (Its z) ρ (strsD z) := by
  have hl : (strsD z).length = z.cps.size := by unfold strsD; rw [List.length_map, Array.length_toList]
  refine ⟨fun ρ' w H i e c hi => ?_, fun ρ' w H i e c hi => ?_, fun ρ' w H i x H' d e c hd y => ?_⟩
  · show i < z.cps.size; rw [← hl]; exact hi
  · show z.cps.size ≤ i; rw [← hl]; exact hi
  · obtain ⟨rfl, cc, e1, rfl⟩ := y
    unfold strsD at hd
    rw [List.getElem?_map, Array.getElem?_toList, e1] at hd
    cases hd
    exact ⟨ρ', Stp.refl c, rep_str⟩
theorem it_keys {G : Cfg} {ρ : Fz} {a : Addr} {ob : Obj} {es : List (Key × V)} {kvs : List (Dt × Dt)} (f : ρ.F a = some (.frz ob (.dK es))) (p : KVR G ρ es kvs) : ItD G (Itk a ob es) ρ (kvs.map (·.1)) := by
  refine ⟨fun ρ' w H i e c hi => ?_, fun ρ' w H i e c hi => ?_, fun ρ' w H i x H' d e c hd y => ?_⟩
  · exact ⟨c.F _ _ (e.F _ _ f), by rw [p.length]; rw [List.length_map] at hi; exact hi⟩
  · exact ⟨c.F _ _ (e.F _ _ f), by rw [p.length]; rw [List.length_map] at hi; exact hi⟩
  · obtain ⟨rfl, k, v, e1, rfl⟩ := y
    rw [List.getElem?_map] at hd
    cases eq : kvs[i]? with
    | none => rw [eq] at hd; cases hd
    | some kv =>
      rw [eq] at hd; cases hd
      obtain ⟨z, ez, r⟩ := paired_get p i kv eq
      rw [e1] at ez; cases ez
      refine ⟨ρ', Stp.refl c, ?_⟩
      show Rep G ρ' (kV k) kv.1
      rw [← r.1]; exact rep_kV
def pairD (kv : Dt × Dt) : Dt := .tup [kv.1, kv.2]
theorem it_items {G : Cfg} {ρ : Fz} {a : Addr} {ob : Obj} {es : List (Key × V)} {kvs : List (Dt × Dt)} (f : ρ.F a = some (.frz ob (.dK es))) (p : KVR G ρ es kvs) : ItD G (Iti a ob es) ρ (kvs.map pairD) := by
  refine ⟨fun ρ' w H i e c hi => ?_, fun ρ' w H i e c hi => ?_, fun ρ' w H i x H' d e c hd y => ?_⟩
  · exact ⟨c.F _ _ (e.F _ _ f), by rw [p.length]; rw [List.length_map] at hi; exact hi⟩
  · exact ⟨c.F _ _ (e.F _ _ f), by rw [p.length]; rw [List.length_map] at hi; exact hi⟩
  · obtain ⟨T, k, v, e1, rfl, hT, rfl⟩ := y
    rw [List.getElem?_map] at hd
    cases eq : kvs[i]? with
    | none => rw [eq] at hd; cases hd
    | some kv =>
      rw [eq] at hd; cases hd
      obtain ⟨z, ez, r⟩ := paired_get p i kv eq
      rw [e1] at ez; cases ez
      have s := Stp.fresh (o := .tup [kV k, v]) c hT
      refine ⟨_, s, .mk ⟨T, _, rfl, upd_same, .cons ?_ (.cons ((r.2.mono e).mono s.ext) .nil)⟩⟩
      rw [← r.1]; exact rep_kV
theorem it_range {G : Cfg} {ρ : Fz} {lo : Int} {n : Nat} : ItD G (Itr lo n) ρ ((List.range n).map fun i => .int (lo + (i : Nat))) := by
  refine ⟨fun ρ' w H i e c hi => ?_, fun ρ' w H i e c hi => ?_, fun ρ' w H i x H' d e c hd y => ?_⟩
  · show i < n; rw [List.length_map, List.length_range] at hi; exact hi
  · show n ≤ i; rw [List.length_map, List.length_range] at hi; exact hi
  · obtain ⟨rfl, rfl⟩ := y
    rw [List.getElem?_map] at hd
    by_cases hi : i < n
    · rw [List.getElem?_range hi] at hd; cases hd; exact ⟨ρ', Stp.refl c, rep_int⟩
    · rw [List.getElem?_eq_none (by rw [List.length_range]; omega)] at hd; cases hd
def iterD : Dt → M (List Dt)
  | .lst xs => fun st => .ok xs st
  | .tup xs => fun st => .ok xs st
  | .str z => fun st => .ok (strsD z) st
  | .dic kvs => if kvs.all (fun kv => isKey kv.1) then fun st => .ok (kvs.map (·.1)) st else stk
  | _ => stk
theorem pdi_val (hk : S.G.K = X.K) (he : PD X S e fe) : PDI X S tg e (d1 fe iterD) := by
  refine ⟨pi_imp (pi_or (pi_list he.pe) (pi_or (pi_tup he.pe) (pi_or (pi_str he.pe) (pi_keys he.pe)))) fun σ H Q ⟨ρ, st, R, q⟩ => ?_⟩
  cases e1 : fe st with
  | exc x st1 =>
    have q' : WantX S ρ σ x st1 := by unfold d1 at q; rw [e1] at q; exact q
    exact .inl ⟨ρ, st, R, by rw [e1]; exact q'⟩
  | stuck => unfold d1 at q; rw [e1] at q; exact q.elim
  | ok x st1 =>
    have q' : (iterD x st1).sat (fun ds st' => ∀ J ρ' H', Ext ρ ρ' → SR S ρ' H' σ st' → ItD S.G J ρ' ds → Q J H') (WantX S ρ σ) := by unfold d1 at q; rw [e1] at q; exact q
    have mk : ∀ (T : V → Hp → Prop), (∀ v ρ1 H1, Ext ρ ρ1 → SR S ρ1 H1 σ st1 → Rep S.G ρ1 v x → T v H1) → teD S fe σ H T := fun T h => ⟨ρ, st, R, by rw [e1]; exact h⟩
    cases x with
    | lst xs =>
      refine .inl (mk _ fun v ρ1 H1 x1 R1 r1 => ?_)
      obtain ⟨a, vs, rfl, f, p⟩ := r1.lst
      exact ⟨a, rfl, ⟨vs, hk ▸ R1.cov.sl f⟩, q' _ ρ1 H1 x1 R1 (it_list hk f p)⟩
    | tup xs =>
      refine .inr (.inl (mk _ fun v ρ1 H1 x1 R1 r1 => ?_))
      obtain ⟨a, vs, rfl, f, p⟩ := r1.tup
      exact ⟨a, rfl, ⟨vs, hk ▸ R1.cov.st f⟩, q' _ ρ1 H1 x1 R1 (it_tup hk f p)⟩
    | str z => exact .inr (.inr (.inl (mk _ fun v ρ1 H1 x1 R1 r1 => ⟨z, r1.str, q' _ ρ1 H1 x1 R1 it_str⟩)))
    | dic kvs =>
      have q2 : ((if kvs.all (fun kv => isKey kv.1) then fun st => Out.ok (kvs.map (·.1)) st else stk) st1).sat (fun ds st' => ∀ J ρ' H', Ext ρ ρ' → SR S ρ' H' σ st' → ItD S.G J ρ' ds → Q J H') (WantX S ρ σ) := q'
      split at q2
      case isFalse => exact q2.elim
      rename_i hall
      refine .inr (.inr (.inr (mk _ fun v ρ1 H1 x1 R1 r1 => ?_)))
      obtain ⟨a, ob, o, rfl, f, dr⟩ := r1.dic
      obtain ⟨es, rfl, p⟩ := dicK_all dr hall
      exact ⟨a, ob, rfl, .inl ⟨es, R1.cov.F _ _ f, q2 _ ρ1 H1 x1 R1 (it_keys f p)⟩⟩
    | _ => exact q'.elim
def valsD (g : Dt × Dt → Dt) : Dt → M (List Dt)
  | .dic kvs => if kvs.all (fun kv => isKey kv.1) then fun st => .ok (kvs.map g) st else stk
  | _ => stk
theorem pdi_items {apos cpos tpos : Pos} {elts : List Expr} {kk : Nat} (he : PD X S e fe) (hbase : attributeBase e "items" X.env (eval e X.env) = eval e X.env := by rfl) (hline : (apos.endLine == cpos.line) = true := by rfl) :
    PDI X S (.Tuple elts kk tpos) (.Call (.Attribute e "items" apos) [] [] cpos) (d1 fe (valsD pairD)) := by
  refine ⟨pi_imp (pi_items he.pe hbase hline) fun σ H Q ⟨ρ, st, R, q⟩ => ⟨ρ, st, R, Out.go q (fun x st1 q1 v ρ1 H1 e1 R1 rx => ?_) fun _ _ h => h⟩⟩
  unfold valsD at q1
  split at q1
  case h_2 => exact q1.elim
  rename_i kvs
  split at q1
  case isFalse => exact q1.elim
  rename_i hall
  obtain ⟨a, ob, o, rfl, f, dr⟩ := rx.dic
  obtain ⟨es, rfl, p⟩ := dicK_all dr hall
  exact ⟨a, ob, es, rfl, R1.cov.F _ _ f, q1 _ ρ1 H1 e1 R1 (it_items f p)⟩
def rng1 : List Dt → M (List Dt)
  | [.int j] => if -(2 ^ 62) ≤ j ∧ j < 2 ^ 62 then fun st => .ok ((List.range j.toNat).map fun i => .int (0 + (i : Nat))) st else stk
  | _ => stk
theorem pdi_range1 {a : Expr} {fs : M (List Dt)} {p pos : Pos} (hm : X.mg "range" = none) (ha : PDA X S [a] fs) (hg : Gl X "range" := by rfl) (hs : starEach [a] X.env = [(false, eval a X.env)] := by rfl) : PDI X S tg (.Call (.Name "range" p) [a] [] pos) (d1 fs rng1) := by
  refine ⟨pi_imp (pi_range1 hg hm ha.pa hs) fun σ H Q ⟨ρ, st, R, q⟩ => ⟨ρ, st, R, Out.go q (fun ds st1 q1 vs ρ1 H1 e1 R1 rs => ?_) fun _ _ h => h⟩⟩
  unfold rng1 at q1
  split at q1
  case h_2 => exact q1.elim
  · rename_i j
    split at q1
    case isFalse => exact q1.elim
    rename_i hj
    obtain ⟨v, rfl, rv⟩ := paired1 rs
    exact ⟨j, by rw [rv.int], hj.1, hj.2, q1 _ ρ1 H1 e1 R1 it_range⟩
end
end B
end
section
set_option maxRecDepth 100000
set_option maxHeartbeats 4000000
namespace B
open PySem L2 ClX
open PyProof.Rows (envOfC subscriptTail isTrue_plain)
def tprD (S : Ss) (f : M (List (Dt × Dt))) : St → Hp → (List (V × V) → Hp → Prop) → Prop := fun σ H Q => ∃ ρ st, SR S ρ H σ st ∧ (f st).sat (fun ds st' => ∀ vs ρ' H', Ext ρ ρ' → SR S ρ' H' σ st' → Paired (fun (v : V × V) (d : Dt × Dt) => Rep S.G ρ' v.1 d.1 ∧ Rep S.G ρ' v.2 d.2) vs ds → Q vs H') (WantX S ρ σ)
def prNil : M (List (Dt × Dt)) := fun st => .ok [] st
def prCons (fk fv : M Dt) (r : M (List (Dt × Dt))) : M (List (Dt × Dt)) := d1 fk fun k => d1 fv fun v => d1 r fun ps st => .ok ((k, v) :: ps) st
structure PDPs (X : Cx) (S : Ss) (pos : Pos) (keys : List (Option Expr)) (values : List Expr) (f : M (List (Dt × Dt))) : Prop where
  pp : ∃ trs, PPs X pos keys values trs ∧ ∀ (x : Addr × HO) (σ : L2.St) (H : Hp) (Q : List (V × V) → Hp → Prop), tprD (S.inn x) f σ H Q → tPairs trs σ H Q
section
variable {X : Cx} {S : Ss} {pos : Pos} {k v : Expr} {ks : List (Option Expr)} {vs : List Expr} {fk fv : M Dt} {r : M (List (Dt × Dt))}
theorem pdps_nil : PDPs X S pos [] [] prNil := ⟨⟨[], pps_nil, fun x σ H Q ⟨ρ, st, R, q⟩ => q [] ρ H (Ext.refl ρ) R .nil⟩⟩
theorem pdps_cons (hk : ∀ x, PD X (S.inn x) k fk) (hv : ∀ x, PD X (S.inn x) v fv) (hr : PDPs X S pos ks vs r) : PDPs X S pos (some k :: ks) (v :: vs) (prCons fk fv r) := by
  obtain ⟨trs, h1, h2⟩ := hr.pp
  refine ⟨⟨(eAny S fk, eAny S fv) :: trs, pps_cons (pe_any fun x => (hk x).pe) (pe_any fun x => (hv x).pe) h1, fun x σ H Q ⟨ρ, st, R, q⟩ => ?_⟩⟩
  refine ⟨x, ρ, st, R, Out.go q (fun dk st1 q1 uk ρ1 H1 e1 R1 rk => ?_) fun _ _ h => h⟩
  refine ⟨x, ρ1, st1, R1, Out.go q1 (fun dv st2 q2 uv ρ2 H2 e2 R2 rv => ?_) fun x st h => WantX.mono e1 h⟩
  refine h2 x σ H2 _ ⟨ρ2, st2, R2, Out.go q2 (fun ps st3 q3 ws ρ3 H3 e3 R3 rs => ?_) fun x st h => WantX.mono (e1.trans e2) h⟩
  exact q3 _ ρ3 H3 ((e1.trans e2).trans e3) R3 (.cons ⟨(rk.mono e2).mono e3, rv.mono e3⟩ rs)
def mergeD (acc : List (Dt × Dt)) (more : List (Dt × Dt)) : List (Dt × Dt) := more.foldl (fun a kv => putD a kv.1 kv.2) acc
theorem merge_rep {G : Cfg} {ρ : Fz} : ∀ {kvs : List (Key × V)} {ps : List (Dt × Dt)} {es : List (Key × V)} {acc : List (Dt × Dt)}, KVR G ρ kvs ps → KVR G ρ es acc → KVR G ρ (mergeK es kvs) (mergeD acc ps)
  | _, _, _, _, .nil, q => q
  | (k, v) :: kvs, (l, d) :: ps, es, acc, .cons h t, q => by
    have h1 : kD k = l := h.1
    subst h1
    show KVR G ρ (mergeK (putK es k v) kvs) (mergeD (putD acc (kD k) d) ps)
    exact merge_rep t (put_rep q h.2)
theorem kvr_of {G : Cfg} {ρ : Fz} : ∀ {ps : List (Dt × Dt)} {vs : List (V × V)}, Paired (fun (v : V × V) (d : Dt × Dt) => Rep G ρ v.1 d.1 ∧ Rep G ρ v.2 d.2) vs ps → ps.all (fun kv => isKey kv.1) = true → ∃ kvs : List (Key × V), vs = kvs.map (fun kv => (kV kv.1, kv.2)) ∧ KVR G ρ kvs ps
  | [], _, .nil, _ => ⟨[], rfl, .nil⟩
  | (l, d) :: ps, (u, v) :: vs, .cons h t, a => by
    rw [List.all_cons, Bool.and_eq_true] at a
    obtain ⟨kvs, e, p⟩ := kvr_of t a.2
    obtain ⟨j, hj⟩ := kD_of a.1
    have hj : l = kD j := hj
    subst hj
    have := kV_of h.1
    have hu : u = kV j := this
    exact ⟨(j, v) :: kvs, by rw [List.map_cons, e, hu], .cons ⟨rfl, h.2⟩ p⟩
theorem SR.outD {D : Addr} {o : HO} {ρ : Fz} {H : Hp} {σ : L2.St} {st : DS} {d : Dt} (R : SR (S.inn (D, o)) ρ H σ st) (nX : ∀ u, (D, u) ∉ S.X) (r : OwnS S.G ρ o d) : SR S ρ H σ st ∧ NewO S ρ H σ st D o d := by
  obtain ⟨g1, g2, g3, g4, g5⟩ := R.ex D o List.mem_cons_self
  exact ⟨⟨R.stp, R.len, R.sl, R.dis, fun p u m => R.ex p u (List.mem_cons_of_mem _ m)⟩, ⟨g4.1, g2, g3, g1, r, fun i e h => g5 i e h, fun q u m z => nX u (z ▸ m)⟩⟩
def mDic (f : M (List (Dt × Dt))) : M Dt := d1 (noX f) fun ps => opt (if ps.all (fun kv => isKey kv.1) && decide (ps.length ≤ 15) then some (.dic (mergeD [] ps)) else none)
theorem po_dict {keys : List (Option Expr)} {values : List Expr} {f : M (List (Dt × Dt))} (h : PDPs X S pos keys values f) (hall : keys.all (·.isSome) = true := by rfl) (hl : keys.length = values.length := by rfl) (h0 : keys ≠ [] := by exact List.cons_ne_nil _ _) (h15 : keys.length ≤ 15 := by decide) :
    PO X S (.Dict keys values pos) (mDic f) := by
  obtain ⟨trs, h1, h2⟩ := h.pp
  refine ⟨pe_imp (pe_disp h1 hall hl h0 h15) fun σ H Q ⟨ρ, st, R, q⟩ p hp => ?_⟩
  have R1 := R.inn (D := p) (o := .dK []) hp (fun _ q => by cases q)
  have nX : ∀ u, (p, u) ∉ S.X := fun u m => by rw [(R.ex _ u m).1] at hp; cases hp
  refine h2 (p, .dK []) σ _ _ ⟨ρ, st, R1, ?_⟩
  unfold mDic d1 noX at q
  cases ef : f st with
  | exc x st1 => rw [ef] at q; exact q.elim
  | stuck => rw [ef] at q; exact q.elim
  | ok ds st1 =>
    rw [ef] at q
    intro vs ρ2 H2 e2 R2 rp
    have q : (opt (if ds.all (fun kv => isKey kv.1) && decide (ds.length ≤ 15) then some (.dic (mergeD [] ds)) else none) st1).sat (fun d st' => ∀ p o ρ' H', Ext ρ ρ' → SR S ρ' H' σ st' → NewO S ρ' H' σ st' p o d → Q (.ref p) H') (WantX S ρ σ) := q
    split at q
    case isFalse => exact q.elim
    rename_i hc
    rw [Bool.and_eq_true] at hc
    obtain ⟨kvs, ep, pk⟩ := kvr_of rp hc.1
    have R3 := R2.chg (o' := .dK (mergeK [] kvs)) (fun _ q => by cases q) nX
    obtain ⟨R4, n4⟩ := R3.outD (d := .dic (mergeD [] ds)) nX (.inl ⟨_, rfl, merge_rep pk .nil⟩)
    exact ⟨(R2.ex _ _ List.mem_cons_self).1, kvs, ep, by rw [pk.length]; exact of_decide_eq_true hc.2, q p _ ρ2 _ e2 R4 n4⟩
theorem po_dict0 : PO X S (.Dict [] [] pos) (fun st => .ok (.dic []) st) :=
  ⟨pe_imp pe_dnewK fun σ H Q ⟨ρ, st, R, q⟩ p hp => q p _ ρ _ (Ext.refl ρ) (R.add hp) (R.new hp (.inl ⟨[], rfl, .nil⟩))⟩
end
def dcGo (vs : List Nat) (tg : TgM) (tt : M Bool) (tk tv : M Dt) : List Dt → List (Dt × Dt) → DS → Out (List (Dt × Dt))
  | [], acc, st => .ok acc st
  | d :: ds, acc, st => match tg d { st with sl := wipeS st.sl vs } with
    | none => .stuck
    | some st1 => match tt st1 with
      | .ok true st2 => match tk st2 with
        | .ok k st3 => match tv st3 with
          | .ok y st4 => if acc.length < LIM ∧ isKey k = true then dcGo vs tg tt tk tv ds (putD acc k y) st4 else .stuck
          | _ => .stuck
        | _ => .stuck
      | .ok false st2 => dcGo vs tg tt tk tv ds acc st2
      | _ => .stuck
def mDc (vs : List Nat) (it : M (List Dt)) (tg : TgM) (tt : M Bool) (tk tv : M Dt) : M Dt := fun st => (it st).bind fun ds st1 => (dcGo vs tg tt tk tv ds [] st1).bind fun ys st2 => .ok (.dic ys) { st2 with sl := restore st1.sl st2.sl vs }
section
variable {X : Cx} {S : Ss} {kx vx tg iter : Expr} {ifs : List Expr} {scope : Scope} {own : List (Str × Nat)} {pos : Pos} {it : M (List Dt)} {idx : List Nat} {f : TgM} {ft : M Bool} {fk fe : M Dt}
theorem dc_te {vs : List Nat} (hv : ∀ i ∈ idx, i ∈ vs) {σ : L2.St} {H : Hp} {Q : VK} (h : teO S (mDc vs it f ft fk fe) σ H Q) : tDc (tiD S it) (gAny S idx f) (tAny S ft) (eAny S fk) (eAny S fe) vs σ H Q := by
  obtain ⟨ρ, st, R, q⟩ := h
  refine ⟨ρ, st, R, Out.go q (fun ds st1 q1 J ρ1 H1 e1 R1 I1 D hD => ?_) fun _ _ h => h⟩
  have nX : ∀ u, (D, u) ∉ S.X := fun u m => by rw [(R1.ex D u m).1] at hD; cases hD
  refine ⟨fun i m H' => m = ds.length - i ∧ i ≤ ds.length ∧ ∃ ρ' st' acc ac, Ext ρ1 ρ' ∧ SR (S.inn (D, .dK acc)) ρ' H' (wipe σ vs) { st' with sl := wipeS st'.sl vs } ∧ KVR S.G ρ' acc ac ∧
    ((dcGo vs f ft fk fe (ds.drop i) ac st').bind fun ys st2 => Out.ok (Dt.dic ys) { st2 with sl := restore st1.sl st2.sl vs }).sat (fun d st' => ∀ p o ρ' H', Ext ρ ρ' → SR S ρ' H' σ st' → NewO S ρ' H' σ st' p o d → Q (.ref p) H') (WantX S ρ σ),
    ⟨_, rfl, Nat.zero_le _, ρ1, st1, [], [], Ext.refl ρ1, (R1.inn hD (fun _ q => by cases q)).wipeR vs, .nil, q1⟩, ?_⟩
  rintro i m H2 ⟨rfl, hi, ρ2, st2, acc, ac, e2, R2, ra, q2⟩
  by_cases hlt : i < ds.length
  · refine .inr ⟨I1.go ρ2 _ H2 i e2 R2.cov hlt, _, fun H' n => ⟨ds.length - (i + 1), by omega, n⟩, fun x H3 y => ?_⟩
    obtain ⟨ρ3, s3, r3⟩ := I1.yld ρ2 _ H2 i x H3 ds[i] e2 R2.cov (List.getElem?_eq_getElem hlt) y
    have R3 := R2.step s3
    rw [List.drop_eq_getElem_cons hlt] at q2
    unfold dcGo at q2
    cases et : f ds[i] { st2 with sl := wipeS st2.sl vs } with
    | none => rw [et] at q2; exact q2.elim
    | some st4 =>
      rw [et] at q2
      refine ⟨(D, .dK acc), ρ3, _, ds[i], st4, R3, r3, et, fun σ4 ρ4 H4 a4 x4 R4 => ⟨wipe_eq a4 hv, (D, .dK acc), ρ4, st4, R4, ?_⟩⟩
      have s34 : Ext ρ2 ρ4 := s3.ext.trans x4
      dsimp only at q2
      cases eb : ft st4 with
      | exc _ _ => rw [eb] at q2; exact q2.elim
      | stuck => rw [eb] at q2; exact q2.elim
      | ok b st5 =>
        rw [eb] at q2
        intro ρ5 H5 e5 R5
        cases b with
        | false =>
          rw [if_neg Bool.false_ne_true]
          refine ⟨rfl, hlt, ρ5, st5, acc, ac, (e2.trans s34).trans e5, ?_, ra.mp fun _ _ z => ⟨z.1, z.2.mono (s34.trans e5)⟩, q2⟩
          have z := R5.wipeR vs
          rw [wipe_eq a4 hv] at z
          exact z
        | true =>
          rw [if_pos rfl]
          refine ⟨(D, .dK acc), ρ5, st5, R5, ?_⟩
          dsimp only at q2
          cases ek : fk st5 with
          | exc _ _ => rw [ek] at q2; exact q2.elim
          | stuck => rw [ek] at q2; exact q2.elim
          | ok kd st6 =>
            rw [ek] at q2
            dsimp only at q2
            intro vk ρ6 H6 e6 R6 rk
            refine ⟨(D, .dK acc), ρ6, st6, R6, ?_⟩
            cases ee : fe st6 with
            | exc _ _ => rw [ee] at q2; exact q2.elim
            | stuck => rw [ee] at q2; exact q2.elim
            | ok z st7 =>
              rw [ee] at q2
              dsimp only at q2
              intro v ρ7 H7 e7 R7 r7
              split at q2
              · rename_i hz
                obtain ⟨j, rfl⟩ := kD_of hz.2
                have x7 : Ext ρ2 ρ7 := ((s34.trans e5).trans e6).trans e7
                refine ⟨acc, j, kV_of rk, (R7.ex D _ List.mem_cons_self).1, lim_lt (by rw [ra.length]; exact hz.1), rfl, hlt, ρ7, st7, putK acc j v, putD ac (kD j) z, e2.trans x7, ?_, put_rep (ra.mp fun _ _ z => ⟨z.1, z.2.mono x7⟩) r7, q2⟩
                have w := (R7.chg (o' := .dK (putK acc j v)) (fun _ q => by cases q) nX).wipeR vs
                rw [wipe_eq a4 hv] at w
                exact w
              · exact q2.elim
  · have hd : ds.drop i = [] := List.drop_of_length_le (by omega)
    rw [hd] at q2
    obtain ⟨Ro, no⟩ := SR.out (d := .dic ac) R1 R2 e2 nX (.inl ⟨acc, rfl, ra⟩)
    exact .inl ⟨I1.stop ρ2 _ H2 i e2 R2.cov (by omega), q2 D (.dK acc) ρ2 H2 (e1.trans e2) Ro no⟩
theorem po_dc (hc : X.calm = true) (hN : X.N.Nodup) (hi : PDI X S tg iter it) (ok : BlkOk X.N X.env.scope scope own) (hg : CB X scope fun Y => ∀ x, PDG Y (S.inn x) tg idx f) (ht : CB X scope fun Y => ∀ x, PDTs Y (S.inn x) ifs ft)
    (hk : CB X scope fun Y => ∀ x, PD Y (S.inn x) kx fk) (he : CB X scope fun Y => ∀ x, PD Y (S.inn x) vx fe) (hv : ∀ i ∈ idx, i ∈ own.map (·.2) := by decide) (hs : ∀ x, foldedSetIterable iter X.env x = pure x := by intro _; rfl) :
    PO X S (.DictComp kx vx [⟨tg, iter, ifs, 0⟩] scope pos) (mDc (own.map (·.2)) it f ft fk fe) :=
  ⟨pe_imp (pe_dc hc hN hi.pi ok (fun s H C cl fp => pg_any fun x => (hg s H C cl fp x).pg) (fun s H C cl fp => pts_any fun x => (ht s H C cl fp x).pt) (fun s H C cl fp => pe_any fun x => (hk s H C cl fp x).pe) (fun s H C cl fp => pe_any fun x => (he s H C cl fp x).pe) hs) fun _ _ _ h => dc_te hv h⟩
end
end B
end
section
set_option maxRecDepth 100000
set_option maxHeartbeats 4000000
namespace B
open PySem L2 ClX
open PyProof.Rows (envOfC subscriptTail isTrue_plain)
section
variable {X : Cx} {S : Ss} {k : Nat}
def intD : List Dt → Option Dt
  | [.int i] => some (.int i)
  | [.bl b] => some (.int (if b then 1 else 0))
  | _ => none
theorem cad_int : CaD X S (fun us => call (.type "int") us) (fun ds => opt (intD ds)) := fun xs => cap_of call_int1 (by
  intro ρ w H vs xs d c rs e Q q
  unfold intD at e
  split at e
  · cases e; obtain ⟨v, rfl, r⟩ := paired1 rs; exact .inl ⟨_, by rw [r.int], q _ ρ H (Stp.refl c) rep_int⟩
  · cases e; obtain ⟨v, rfl, r⟩ := paired1 rs; exact .inr ⟨_, by rw [r.bl], q _ ρ H (Stp.refl c) rep_int⟩
  · cases e)
def allD : List Dt → Option Dt
  | [.lst ds] => (asBls ds).map fun bs => .bl (bs.all id)
  | _ => none
def anyD : List Dt → Option Dt
  | [.lst ds] => (asBls ds).map fun bs => .bl (bs.any id)
  | _ => none
theorem cad_all (hk : S.G.K = X.K) (hc : X.calm = true) : CaD X S (fun us => call (.builtin "all") us) (fun ds => opt (allD ds)) := fun xs => cap_of (cr_all hc) (by
  intro ρ w H vs xs d c rs e Q q
  unfold allD at e
  split at e
  case h_2 => cases e
  rename_i ds
  cases eb : asBls ds with
  | none => rw [eb] at e; cases e
  | some bs =>
    rw [eb] at e; cases e
    obtain ⟨v, rfl, r⟩ := paired1 rs
    obtain ⟨a, ws, rfl, f, p⟩ := r.lst
    rw [asBls_eq eb] at p
    rw [bls_of p] at f
    exact ⟨a, bs, rfl, hk ▸ c.sl f, q _ ρ H (Stp.refl c) rep_bl⟩)
def tupD : List Dt → Option Dt
  | [.lst ds] => some (.tup ds)
  | [.tup ds] => some (.tup ds)
  | _ => none
theorem cad_tuple (hk : S.G.K = X.K) : CaD X S (fun us => call (.type "tuple") us) (fun ds => opt (tupD ds)) := fun xs => cap_of call_tuple_of (by
  intro ρ w H vs xs d c rs e Q q
  unfold tupD at e
  split at e
  · cases e
    obtain ⟨v, rfl, r⟩ := paired1 rs
    obtain ⟨a, ws, rfl, f, p⟩ := r.lst
    refine ⟨a, ws, rfl, .inl ⟨hk ▸ c.sl f, fun l hl => ?_⟩⟩
    have s := Stp.fresh (o := .tup ws) c hl
    exact q _ _ _ s (.mk ⟨l, _, rfl, upd_same, p.mp fun _ _ z => z.mono s.ext⟩)
  · cases e
    obtain ⟨v, rfl, r⟩ := paired1 rs
    obtain ⟨a, ws, rfl, f, p⟩ := r.tup
    exact ⟨a, ws, rfl, .inr ⟨hk ▸ c.st f, q _ ρ H (Stp.refl c) r⟩⟩
  · cases e)
def lstD : List Dt → Option Dt
  | [.lst ds] => some (.lst ds)
  | [.tup ds] => some (.lst ds)
  | _ => none
theorem dnew_list (hk : S.G.K = X.K) : DNewL S.G (fun xs H Q => ∃ p ys, xs = [.ref p] ∧ (SqL X.K H p ys ∨ SqT X.K H p ys) ∧ ∀ l, H l = none → Q (.ref l) (upd H l (.lst ys))) lstD := by
  intro ρ w H vs xs d c rs e Q q
  unfold lstD at e
  split at e
  · cases e
    obtain ⟨v, rfl, r⟩ := paired1 rs
    obtain ⟨a, ws, rfl, f, p⟩ := r.lst
    exact ⟨a, ws, rfl, .inl (hk ▸ c.sl f), fun l hl => q l _ hl ⟨_, rfl, p⟩⟩
  · cases e
    obtain ⟨v, rfl, r⟩ := paired1 rs
    obtain ⟨a, ws, rfl, f, p⟩ := r.tup
    exact ⟨a, ws, rfl, .inr (hk ▸ c.st f), fun l hl => q l _ hl ⟨_, rfl, p⟩⟩
  · cases e
def keysD : List Dt → Option Dt
  | [.dic kvs] => if kvs.all (fun kv => isKey kv.1) then some (.lst (kvs.map (·.1))) else none
  | _ => none
theorem keys_rep {G : Cfg} {ρ : Fz} : ∀ {es : List (Key × V)} {kvs : List (Dt × Dt)}, KVR G ρ es kvs → Paired (Rep G ρ) (es.map fun kv => kV kv.1) (kvs.map (·.1))
  | _, _, .nil => .nil
  | e :: _, kv :: _, .cons h t => .cons (by show Rep G ρ (kV e.1) kv.1; rw [← h.1]; exact rep_kV) (keys_rep t)
theorem dnew_keys : DNewL S.G (fun xs H Q => ∃ (a : Addr) (kvs : List (Key × V)), xs = [.ref a] ∧ Rd H a (.dK kvs) ∧ ∀ p, H p = none → Q (.ref p) (upd H p (.lst (kvs.map fun kv => kV kv.1)))) keysD := by
  intro ρ w H vs xs d c rs e Q q
  unfold keysD at e
  split at e
  case h_2 => cases e
  split at e
  case isFalse => cases e
  rename_i hall
  cases e
  obtain ⟨v, rfl, r⟩ := paired1 rs
  obtain ⟨a, o, rfl, hr, dr⟩ := dic_at c r rfl
  obtain ⟨es, rfl, p⟩ := dicK_all dr hall
  exact ⟨a, es, rfl, hr, fun l hl => q l _ hl ⟨_, rfl, keys_rep p⟩⟩
theorem cad_list (hk : S.G.K = X.K) (hc : X.calm = true) : CaD X S (fun us => call (.type "list") us) (fun ds => opt ((lstD ds).or (keysD ds))) := fun xs => cap_or (cap_new call_list_of (dnew_list hk)) (cap_new (call_listD hc) dnew_keys)
def leS (a b : Str) : Bool := !decide (b.cps.toList < a.cps.toList)
def sortS (ks : List Str) : List Str := ks.mergeSort leS
theorem leS_iff (a b : Str) : leS a b = true ↔ a.cps.toList ≤ b.cps.toList := by
  unfold leS
  rw [Bool.not_eq_true', decide_eq_false_iff_not]
  exact List.not_lt
theorem leS_tr (a b c : Str) (h1 : leS a b = true) (h2 : leS b c = true) : leS a c = true := by
  rw [leS_iff] at *
  exact List.le_trans h1 h2
theorem leS_tot (a b : Str) : (leS a b || leS b a) = true := by
  rw [Bool.or_eq_true, leS_iff, leS_iff]
  exact List.le_total _ _
theorem leS_anti (a b : Str) (h1 : leS a b = true) (h2 : leS b a = true) : a = b := by
  rw [leS_iff] at *
  have e := List.le_antisymm h1 h2
  obtain ⟨⟨a⟩⟩ := a
  obtain ⟨⟨b⟩⟩ := b
  cases e
  rfl
theorem rising_iff : ∀ (ks : List Str) (p : Str), PyProof.Rows.risingS p ks = true ↔ (p :: ks).Pairwise (fun a b => leS a b = true)
  | [], p => by simp [PyProof.Rows.risingS]
  | x :: r, p => by
    show (!PySem.Spec.ltCps x.cps.toList p.cps.toList && PyProof.Rows.risingS x r) = true ↔ _
    rw [Bool.and_eq_true, rising_iff r x, PyProof.Rows.ltCps_eq]
    constructor
    · intro ⟨h1, h2⟩
      have h1 : leS p x = true := h1
      refine List.pairwise_cons.mpr ⟨fun y hy => ?_, h2⟩
      rcases List.mem_cons.mp hy with rfl | hy
      · exact h1
      · exact leS_tr _ _ _ h1 (List.rel_of_pairwise_cons h2 hy)
    · intro h
      exact ⟨List.rel_of_pairwise_cons h List.mem_cons_self, (List.pairwise_cons.mp h).2⟩
theorem sortS_uniq {ys ks : List Str} (hp : ys.Perm ks) (hs : PyProof.Rows.sortedS ys = true) : ys = sortS ks := by
  have h1 : ys.Pairwise (fun a b => leS a b = true) := by
    cases ys with
    | nil => exact .nil
    | cons y r => exact (rising_iff r y).mp hs
  exact List.Perm.eq_of_pairwise (fun a b _ _ => leS_anti a b) h1 (List.pairwise_mergeSort leS_tr leS_tot ks) (hp.trans (List.mergeSort_perm ks leS).symm)
def srtK : List Dt → Option Dt
  | [.dic kvs] => match asStrs (kvs.map (·.1)) with
    | some ks => if ks.length < 64 then some (.lst ((sortS ks).map .str)) else none
    | none => none
  | _ => none
theorem keys_strs {G : Cfg} {ρ : Fz} : ∀ {es : List (Key × V)} {kvs : List (Dt × Dt)} {ks : List Str}, KVR G ρ es kvs → asStrs (kvs.map (·.1)) = some ks → es.map (·.1) = ks.map Sum.inr
  | _, _, _, .nil, h => by cases h; rfl
  | (e, v) :: es, (l, d) :: kvs, ks, .cons h t, hs => by
    have h1 : kD e = l := h.1
    subst h1
    cases e with
    | inl i => cases hs
    | inr x =>
      have hs : (asStrs (kvs.map (·.1))).map (x :: ·) = some ks := hs
      cases e2 : asStrs (kvs.map (·.1)) with
      | none => rw [e2] at hs; cases hs
      | some ls => rw [e2] at hs; cases hs; rw [List.map_cons, List.map_cons, keys_strs t e2]
theorem all_key {kvs : List (Dt × Dt)} : ∀ {ks : List Str}, asStrs (kvs.map (·.1)) = some ks → kvs.all (fun kv => isKey kv.1) = true := by
  induction kvs with
  | nil => intro _ _; rfl
  | cons kv r ih =>
    intro ks h
    obtain ⟨l, d⟩ := kv
    cases l with
    | str x =>
      have h : (asStrs (r.map (·.1))).map (x :: ·) = some ks := h
      cases e2 : asStrs (r.map (·.1)) with
      | none => rw [e2] at h; cases h
      | some ls => rw [List.all_cons, ih e2]; rfl
    | _ => cases h
theorem strs_rep {G : Cfg} {ρ : Fz} : ∀ {ks : List Str}, Paired (Rep G ρ) (ks.map V.str) (ks.map Dt.str)
  | [] => .nil
  | _ :: _ => .cons rep_str strs_rep
theorem dnew_srtK : DNewL S.G (fun xs H Q => ∃ (a : Addr) (kvs : List (Key × V)) (ks : List Str), xs = [.ref a] ∧ Rd H a (.dK kvs) ∧ kvs.map (·.1) = ks.map Sum.inr ∧ ks.length < 64 ∧
    ∀ ys p, ys.Perm ks → PyProof.Rows.sortedS ys = true → H p = none → Q (.ref p) (upd H p (.lst (ys.map V.str)))) srtK := by
  intro ρ w H vs xs d c rs e Q q
  unfold srtK at e
  split at e
  case h_2 => cases e
  split at e
  case h_2 => cases e
  rename_i ks ek
  split at e
  case isFalse => cases e
  rename_i hl
  cases e
  obtain ⟨v, rfl, r⟩ := paired1 rs
  obtain ⟨a, o, rfl, hr, dr⟩ := dic_at c r rfl
  obtain ⟨es, rfl, p⟩ := dicK_all dr (all_key ek)
  refine ⟨a, es, ks, rfl, hr, keys_strs p ek, hl, fun ys l hp hs hl => ?_⟩
  rw [sortS_uniq hp hs]
  exact q l _ hl ⟨_, rfl, strs_rep⟩
theorem cad_sorted (hk : S.G.K = X.K) (hc : X.calm = true) (hr : RoomG k X.A) : CaD X S (fun us => call (.builtin "sorted") us) (fun ds => opt ((srt1 ds).or (srtK ds))) := fun xs => cap_or (cap_sorted hk hr) (cap_new (call_sortedD hc) dnew_srtK)
def prsD : List Dt → Option (List (Dt × Dt))
  | [] => some []
  | .tup [a, b] :: ds => if isKey a then (prsD ds).map ((a, b) :: ·) else none
  | _ => none
def dicD : List Dt → Option Dt
  | [.lst ds] => (prsD ds).map fun ps => .dic (mergeD [] ps)
  | _ => none
theorem prs_rep {G : Cfg} {ρ : Fz} : ∀ {ds : List Dt} {vs : List V} {ps : List (Dt × Dt)}, Paired (Rep G ρ) vs ds → prsD ds = some ps → ∃ (as : List Addr) (kvs : List (Key × V)), vs = as.map V.ref ∧ Paired (fun p kv => SqT G.K ρ.F p [kV kv.1, kv.2]) as kvs ∧ KVR G ρ kvs ps
  | [], _, _, .nil, h => by cases h; exact ⟨[], [], rfl, .nil, .nil⟩
  | d :: ds, v :: vs, ps, .cons r rs, h => by
    cases d with
    | tup xs =>
      match xs, h, r with
      | [], h, _ => cases h
      | [_], h, _ => cases h
      | _ :: _ :: _ :: _, h, _ => cases h
      | [a, b], h, r =>
        have h : (if isKey a then (prsD ds).map ((a, b) :: ·) else none) = some ps := h
        split at h
        case isFalse => cases h
        rename_i hk
        cases e : prsD ds with
        | none => rw [e] at h; cases h
        | some qs =>
          rw [e] at h; cases h
          obtain ⟨as, kvs, e1, p1, p2⟩ := prs_rep rs e
          obtain ⟨t, ws, rfl, f, pw⟩ := r.tup
          obtain ⟨u1, u2, rfl, r1, r2⟩ := paired2 pw
          obtain ⟨j, rfl⟩ := kD_of hk
          rw [kV_of r1] at f
          exact ⟨t :: as, (j, u2) :: kvs, by rw [e1]; rfl, .cons f p1, .cons ⟨rfl, r2⟩ p2⟩
    | _ => cases h
theorem cad_dict (hk : S.G.K = X.K) (hc : X.calm = true) : CaD X S (fun us => call (.type "dict") us) (fun ds => opt (dicD ds)) := fun xs => cap_new (call_dictP hc) (by
  intro ρ w H vs xs d c rs e Q q
  unfold dicD at e
  split at e
  case h_2 => cases e
  rename_i ds
  cases ep : prsD ds with
  | none => rw [ep] at e; cases e
  | some ps =>
    rw [ep] at e; cases e
    obtain ⟨v, rfl, r⟩ := paired1 rs
    obtain ⟨a, ws, rfl, f, p⟩ := r.lst
    obtain ⟨as, kvs, rfl, p1, p2⟩ := prs_rep p ep
    exact ⟨a, as, kvs, rfl, hk ▸ c.sl f, p1.mp fun _ _ z => hk ▸ c.st z, fun l hl => q l _ hl (.inl ⟨_, rfl, merge_rep p2 .nil⟩)⟩)
theorem po_dictC {x : Str} {p pos : Pos} {e : Expr} {es : List Expr} {fs : M (List Dt)} (hk : S.G.K = X.K) (hc : X.calm = true) (hm : X.mg "dict" = none) (ha : PDA X S (e :: es) fs) (hg : Gl X "dict" := by rfl)
    (he : starEach (e :: es) X.env = (false, eval e X.env) :: starEach es X.env := by rfl) (hpl : (backTo pos (starEach es X.env)).any (·.1) = false := by rfl) :
    PO X S (.Call (.Name "dict" p) (e :: es) [] pos) (d1 fs fun ds => opt (dicD ds)) := po_callTy (call_dictP hc) (by
  intro ρ w H vs xs d c rs e Q q
  unfold dicD at e
  split at e
  case h_2 => cases e
  rename_i ds
  cases ep : prsD ds with
  | none => rw [ep] at e; cases e
  | some ps =>
    rw [ep] at e; cases e
    obtain ⟨v, rfl, r⟩ := paired1 rs
    obtain ⟨a, ws, rfl, f, p⟩ := r.lst
    obtain ⟨as, kvs, rfl, p1, p2⟩ := prs_rep p ep
    exact ⟨a, as, kvs, rfl, hk ▸ c.sl f, p1.mp fun _ _ z => hk ▸ c.st z, fun l hl => q l _ hl (.inl ⟨_, rfl, merge_rep p2 .nil⟩)⟩) hm rfl ha hg (by decide) (by decide) he hpl
def repD : List Dt → Option Dt
  | [.non] => some (.str "None")
  | [.bl b] => some (.str (if b then "True" else "False"))
  | [.int i] => if i.natAbs < 2 ^ 1000 then some (.str (toString i)) else none
  | [.str x] => if (reprText x).length ≤ LIM then some (.str (reprText x)) else none
  | _ => none
theorem cad_repr : CaD X S (fun us => call (.builtin "repr") us) (fun ds => opt (repD ds)) := by
  intro xs pins s σ H vs us ρ st Q I rv R rxs q
  dsimp only at q
  cases e : repD xs with
  | none => rw [e] at q; exact q.elim
  | some d =>
    rw [e] at q
    unfold repD at e
    split at e
    · cases e
      obtain ⟨v, rfl, r⟩ := paired1 rxs
      obtain ⟨u, rfl, ru⟩ := vals1 rv
      rw [r.non] at ru
      cases ru
      exact PySem.P.repr_of_none ⟨.str _, H, I.tok _, ⟨_, rfl⟩, q _ ρ H (Ext.refl ρ) R rep_str⟩
    · cases e
      obtain ⟨v, rfl, r⟩ := paired1 rxs
      obtain ⟨u, rfl, ru⟩ := vals1 rv
      rw [r.bl] at ru
      cases ru
      exact PySem.P.repr_of_bool ⟨.str _, H, I.tok _, ⟨_, rfl⟩, q _ ρ H (Ext.refl ρ) R rep_str⟩
    · rename_i i
      split at e
      case isFalse => cases e
      rename_i hi
      cases e
      obtain ⟨v, rfl, r⟩ := paired1 rxs
      obtain ⟨u, rfl, ru⟩ := vals1 rv
      rw [r.int] at ru
      obtain ⟨t, rfl⟩ := ru
      refine PySem.P.repr_of_int ?_ ⟨.str _, H, I.tok _, ⟨_, rfl⟩, q _ ρ H (Ext.refl ρ) R rep_str⟩
      by_cases h0 : i.natAbs = 0
      · rw [h0]; decide
      · exact Nat.lt_of_lt_of_le ((Nat.log2_lt h0).mpr hi) (by decide)
    · rename_i x
      split at e
      case isFalse => cases e
      rename_i hi
      cases e
      obtain ⟨v, rfl, r⟩ := paired1 rxs
      obtain ⟨u, rfl, ru⟩ := vals1 rv
      rw [r.str] at ru
      obtain ⟨t, rfl⟩ := ru
      exact PySem.P.repr_of_str ⟨.str _, H, I.tok _, ⟨_, rfl⟩, q _ ρ H (Ext.refl ρ) R rep_str⟩ (lim_ok hi)
    · cases e
inductive Tp where
  | ty (n : String) | cl (c : Str)
  deriving DecidableEq
def tpOf (w : Wd) : Dt → Option Tp
  | .non => some (.ty "NoneType")
  | .bl _ => some (.ty "bool")
  | .int _ => some (.ty "int")
  | .str _ => some (.ty "str")
  | .tup _ => some (.ty "tuple")
  | .ins c _ => some (.cl c)
  | .lst _ => some (.ty "list")
  | .dic kvs => if kvs.all (fun kv => isKey kv.1) then some (.ty "dict") else none
  | .loc n => match w[n]? with
    | some (.lst _) => some (.ty "list")
    | some (.dic _) => some (.ty "dict")
    | some (.ins c _) => some (.cl c)
    | _ => none
  | _ => none
def tpC : Dt → Option Tp
  | .ty n => some (.ty n)
  | .cls c => some (.cl c)
  | _ => none
def tpV (G : Cfg) : Tp → Option Value
  | .ty n => some (.type n)
  | .cl c => (G.cl c).map .ref
abbrev IsT := Tp → Tp → Option Bool
structure InF (K : PySem.W.Frag) (C : Addr) : Prop where
  cl : Cls K C
  ha : PySem.W.findIn K (.ref C) "__class__" = some (some (.builtin "object.__class__"))
  hn : PySem.W.specialIn K (.builtin "object.__class__") "__get__" = some (some (.builtin "getset_descriptor.__get__"))
  htk : PySem.W.takesIn K (.builtin "object.__class__") = some true
  hm : PySem.W.mroIn K C (.type "object") = some true
structure IsF (X : Cx) (G : Cfg) (is : IsT) : Prop where
  f : ∀ t c b, is t c = some b → ∃ vt vc, tpV G t = some vt ∧ tpV G c = some vc ∧ PySem.W.kitOne X.K vt vc = some b
  i : ∀ c t b, is (.cl c) t = some b → ∃ C, G.cl c = some C ∧ InF X.K C
def isD (is : IsT) (w : Wd) : List Dt → Option Dt
  | [x, c] => match tpOf w x, tpC c with
    | some t, some k => (is t k).map .bl
    | _, _ => none
  | _ => none
theorem ty_at {G : Cfg} {K : PySem.W.Frag} {ρ : Fz} {w : Wd} {H : Hp} {v : V} {x : Dt} {t : Tp} (hk : G.K = K) (cv : Cov G ρ w H) (r : Rep G ρ v x) (h : tpOf w x = some t) (hi : ∀ c, t = .cl c → ∃ C, G.cl c = some C ∧ InF K C) : ∃ vt, tpV G t = some vt ∧ TyX K H v vt := by
  have ins : ∀ c fs, insOf w x = some (c, fs) → t = .cl c → ∃ vt, tpV G t = some vt ∧ TyX K H v vt := fun c fs e et => by
    obtain ⟨a, C, dx, es, rfl, hc, ha, _⟩ := ins_at cv r e
    subst et
    obtain ⟨C', hc', F⟩ := hi c rfl
    rw [hc] at hc'; cases hc'
    exact ⟨.ref C, by show (G.cl c).map Value.ref = _; rw [hc]; rfl, .base (.ins ha F.cl F.ha F.hn F.htk F.hm)⟩
  cases x with
  | non => cases h; rw [r.non]; exact ⟨_, rfl, .base .non⟩
  | bl b => cases h; rw [r.bl]; exact ⟨_, rfl, .base (.bl _)⟩
  | int b => cases h; rw [r.int]; exact ⟨_, rfl, .base (.int _)⟩
  | str b => cases h; rw [r.str]; exact ⟨_, rfl, .base (.str _)⟩
  | lst ds => cases h; obtain ⟨a, vs, rfl, f, _⟩ := r.lst; exact ⟨_, rfl, .base (.lst (cv.F _ _ f))⟩
  | tup ds =>
    cases h
    obtain ⟨a, vs, rfl, f, _⟩ := r.tup
    subst hk
    rcases cv.st f with (f | ⟨o, f⟩) | ⟨o, its, n, e1, e2, _⟩
    · exact ⟨_, rfl, .base (.tup f)⟩
    · exact ⟨_, rfl, .fTuple f⟩
    · exact ⟨_, rfl, .kTuple e1 e2⟩
  | dic kvs =>
    have h : (if kvs.all (fun kv => isKey kv.1) then some (Tp.ty "dict") else none) = some t := h
    split at h
    case isFalse => cases h
    rename_i hall
    cases h
    obtain ⟨a, ob, o, rfl, f, dr⟩ := r.dic
    obtain ⟨es, rfl, p⟩ := dicK_all dr hall
    exact ⟨_, rfl, .fDict (cv.F _ _ f)⟩
  | ins c fs => cases h; exact ins c fs rfl rfl
  | loc n =>
    have h : (match w[n]? with | some (.lst _) => some (Tp.ty "list") | some (.dic _) => some (.ty "dict") | some (.ins c _) => some (.cl c) | _ => none) = some t := h
    obtain ⟨a, rfl, h1⟩ := r.out
    split at h
    · rename_i e
      cases h
      obtain ⟨_, o, ho, vs, rfl, p⟩ := cv.wo n a _ h1 e
      exact ⟨_, rfl, .base (.lst ho)⟩
    · rename_i e
      cases h
      obtain ⟨_, o, ho, dr⟩ := cv.wo n a _ h1 e
      rcases dr with ⟨es, rfl, _⟩ | ⟨es, ⟨rfl, _⟩, _⟩
      · exact ⟨_, rfl, .base (.dK ho)⟩
      · exact ⟨_, rfl, .base (.dT ho)⟩
    · rename_i c fs e
      cases h
      exact ins c fs (by show (match w[n]? with | some (.ins c fs) => some (c, fs) | _ => none) = _; rw [e]) rfl
    · cases h
  | _ => cases h
theorem cap_isi {is : IsT} (hk : S.G.K = X.K) (F : IsF X S.G is) {xs : List Dt} : CaP X S (fun us => call (.builtin "isinstance") us) xs (fun st => opt (isD is st.w xs) st) := by
  intro pins s σ H vs us ρ st Q I rv R rxs q
  dsimp only at q
  cases e : isD is st.w xs with
  | none => rw [e] at q; exact q.elim
  | some d =>
    rw [e] at q
    unfold isD at e
    split at e
    case h_2 => cases e
    rename_i x c
    split at e
    case h_2 => cases e
    rename_i t k et ek
    cases ei : is t k with
    | none => rw [ei] at e; cases e
    | some b =>
      rw [ei] at e; cases e
      obtain ⟨v, u, rfl, r1, r2⟩ := paired2 rxs
      obtain ⟨vt, vc, h1, h2, h3⟩ := F.f t k b ei
      obtain ⟨vt', h1', ty⟩ := ty_at hk R.cov r1 et (fun c e => by subst e; exact F.i c k b ei)
      rw [h1] at h1'; cases h1'
      have kc : ClsV u vc := by
        cases c with
        | ty n => cases ek; cases h2; rw [r2.ty]; exact .ty n
        | cls c =>
          cases ek
          obtain ⟨C, rfl, hc⟩ := r2.out
          have h2 : (S.G.cl c).map Value.ref = some vc := h2
          rw [hc] at h2; cases h2
          exact .own C
        | _ => cases ek
      exact call_isi pins s σ H [v, u] us Q I rv ⟨v, u, vt, vc, b, rfl, kc, ty, h3, q _ ρ H (Ext.refl ρ) R rep_bl⟩
end
end B
end
section
set_option maxRecDepth 100000
set_option maxHeartbeats 4000000
namespace B
open PySem PySem.SeqAt L2 ClX PyProof.V
open PyProof.Rows (envOfC subscriptTail isTrue_plain)
section
variable {prog : Program} {w : World} {A : Around} {E : Value → Shared → Prop} {s : Shared}
open Builtin in
theorem code_tuple_col {Q₁ : Value → Shared → Prop} {r : Addr} {T : String} (hT : s.TypeIs (.ref r) T) (hne : (T == "tuple") = false)
    (h : wpAny (model prog w) A.in1 (collect (.ref r)) (fun vs s' => vs.length ≤ sizeLine ∧ Q₁ (.ref s'.heap.objs.size) { s' with heap := s'.heap.push { cls := .type "tuple", data := .seq vs.toArray } }) (fun e s' => wants Q₁ E (.error e) s') s) :
    codeAny (model prog w) A (.call (.builtin "tuple.__new__") ⟨[.type "tuple", .ref r], []⟩) (wants Q₁ E) s := by
  refine codeAny_of_tree ?_
  show wpAny _ A.in1 (do checkBuiltinCall "tuple.__new__" ⟨[.type "tuple", .ref r], []⟩; again (.builtin "tuple.__new__" ⟨[.type "tuple", .ref r], []⟩)) _ _ s
  refine wpAny_bind (wpAny_of_eq (F.newCall_tuple_1 _) (wpAny_pure ⟨plainId_quiet F.plain_tuple_new _, codeAny_builtin F.entry_tuple_new ?_⟩))
  rw [Around.under_plainId F.plain_tuple_new _]
  have hsub := sub_tuple_self
  have hinit := init_tuple_lookup
  have hmh := madeHere_tuple
  wp_walk using wpAny_typeOf hT
  rw [if_neg (by intro z; have := beq_iff_eq.mp z; cases this; exact absurd hne (by decide))]
  refine wpAny_bind (wpAny_mono h (fun vs s' hq => ?_) fun _ _ z => z)
  obtain ⟨hl, hq⟩ := hq
  refine wpAny_bind (wpAny_pure ?_)
  show wpAny _ _ (Builtin.Tuple.tupleExact vs.toArray >>= fun v => ret v) _ _ _
  unfold Builtin.Tuple.tupleExact
  refine wpAny_bind (wpAny_newObj_type ?_ (by show vs.toArray.size ≤ sizeLine; rw [List.size_toArray]; exact hl))
  exact wpAny_pure hq
theorem call_tuple_col {Q : Value → Shared → Prop} {r : Addr} {T : String} (hT : s.TypeIs (.ref r) T) (hne : (T == "tuple") = false)
    (h : wpAny (model prog w) A.in1.in1 (collect (.ref r)) (fun vs s' => vs.length ≤ sizeLine ∧ Q (.ref s'.heap.objs.size) { s' with heap := s'.heap.push { cls := .type "tuple", data := .seq vs.toArray } }) (fun _ _ => False) s) :
    wpAny (model prog w) A (call (.type "tuple") [.ref r]) Q E s := by
  refine callType_codes (Q₁ := fun obj s₁ => s₁.TypeIs obj "tuple" ∧ Q obj s₁) F.called_tuple (F.typeCall_tuple_1 _) F.entry_object_init
    (code_tuple_col (A := A.in1) hT hne (wpAny_mono h (fun vs s' hq => ⟨hq.1, ⟨_, Heap.get?_push_size _ rfl, rfl⟩, hq.2⟩) fun _ _ z => z.elim)) fun obj s₁ h₁ => ?_
  exact ⟨h₁.1, F.args_object_init_2 obj _, object_init_meets F.called_tuple.init.lookup F.called_tuple.made (by decide) prog w A.in1 _ s₁ ⟨h₁.1, rfl, h₁.2⟩⟩
end
structure View (X : Cx) (T : String) (s : Shared) (r a : Addr) (vs : List (Key × Value)) : Prop where
  ty : s.heap.get? r = some { cls := .type T, data := .fields #[.ref a] }
  lo : (a == sysModules) = false
  dd : s.heap.DictOf (mixKind X.prog X.w) a vs
section
variable {X : Cx} {S : Ss} {k : Nat} {e : Expr} {fe : M Dt}
def viewD (x : Dt) : Option (List (Dt × Dt)) := match x with
  | .dic kvs => if kvs.all (fun kv => isKey kv.1) then some kvs else none
  | _ => none
theorem eval_values {apos cpos : Pos} {pins : List (Addr × Obj)} {s : Shared} {σ : L2.St} {H : Hp} {Q' : Value → Shared → Prop} {P : Dt → DS → Prop} {ρ : Fz} {st : DS} (I : Inv X pins σ H s) (R : SR S ρ H σ st) (he : PD X S e fe)
    (q : (fe st).sat P (WantX S ρ σ))
    (h : ∀ x st1 kvs ρ1 H1 s1 r a es vs, P x st1 → viewD x = some kvs → Ext ρ ρ1 → SR S ρ1 H1 σ st1 → Inv X pins σ H1 s1 → KV es vs → KVR S.G ρ1 es kvs → kvs.length ≤ sizeLine → View X "dict_values" s1 r a vs → Q' (.ref r) s1)
    (hv : ∀ x st1, P x st1 → viewD x ≠ none)
    (hbase : attributeBase e "values" X.env (eval e X.env) = eval e X.env := by rfl) (hline : (apos.endLine == cpos.line) = true := by rfl) :
    wpAny (model X.prog X.w) X.A (eval (.Call (.Attribute e "values" apos) [] [] cpos) X.env) Q' X.xe s := by
  refine wpAny_Call_method (T := "dict") (id := "dict.values") hbase rfl hline F.plainAttrs_dict F.slot_dict_values F.type_dict_values (thn (he.pe.run pins s σ H (fun v H1 => ∃ x st1 ρ1, P x st1 ∧ Ext ρ ρ1 ∧ SR S ρ1 H1 σ st1 ∧ Rep S.G ρ1 v x) I ⟨ρ, st, R, Out.sat_mono q (fun x st1 hp v ρ1 H1 e1 R1 rx => ⟨x, st1, ρ1, hp, e1, R1, rx⟩) fun _ _ h => h⟩) fun u s1 ⟨v, H1, I1, rv, x, st1, ρ1, hp, e1, R1, rx⟩ => ?_)
  have hvx := hv x st1 hp
  unfold viewD at hvx
  split at hvx
  case h_2 => exact absurd rfl hvx
  rename_i kvs
  split at hvx
  case isFalse => exact absurd rfl hvx
  rename_i hall
  obtain ⟨a, o, rfl, hr, dr⟩ := dic_at R1.cov rx rfl
  obtain ⟨es, rfl, p⟩ := dicK_all dr hall
  cases rv
  obtain ⟨hz, hs0, vs, kv, hdo⟩ := dk_rd I1.hok hr
  refine ⟨hdo.typeIs, hdo.mapOf.noDict, ?_⟩
  show wpAny _ _ (callWith cpos (.builtin "dict.values") [.ref a] [] []) _ X.xe s1
  refine method_meetsIn F.slot_dict_values F.entry_dict_values rfl (PySem.evalArgs_none ⟨rfl, hdo.typeIs, F.args_dict_values_1 _, _, meets_dict_values (mixKind X.prog X.w) a hs0, ⟨vs, hdo⟩, ?_⟩)
  have I2 : Inv X pins σ H1 { s1 with heap := s1.heap.push { cls := .type "dict_values", data := .fields #[.ref a] } } := I1.kept (t' := s1.toks) fun b ob q => Heap.get?_push_of_some _ q
  exact h _ st1 kvs ρ1 H1 _ s1.heap.objs.size a es vs hp (by show (if _ then some kvs else none) = some kvs; rw [if_pos hall]) e1 R1 I2 kv p (by rw [← p.length]; exact hz) ⟨Heap.get?_push_size _ rfl, hs0, hdo.push _⟩
theorem eval_items {apos cpos : Pos} {pins : List (Addr × Obj)} {s : Shared} {σ : L2.St} {H : Hp} {Q' : Value → Shared → Prop} {P : Dt → DS → Prop} {ρ : Fz} {st : DS} (I : Inv X pins σ H s) (R : SR S ρ H σ st) (he : PD X S e fe)
    (q : (fe st).sat P (WantX S ρ σ))
    (h : ∀ x st1 kvs ρ1 H1 s1 r a es vs, P x st1 → viewD x = some kvs → Ext ρ ρ1 → SR S ρ1 H1 σ st1 → Inv X pins σ H1 s1 → KV es vs → KVR S.G ρ1 es kvs → kvs.length ≤ sizeLine → View X "dict_items" s1 r a vs → Q' (.ref r) s1)
    (hv : ∀ x st1, P x st1 → viewD x ≠ none)
    (hbase : attributeBase e "items" X.env (eval e X.env) = eval e X.env := by rfl) (hline : (apos.endLine == cpos.line) = true := by rfl) :
    wpAny (model X.prog X.w) X.A (eval (.Call (.Attribute e "items" apos) [] [] cpos) X.env) Q' X.xe s := by
  refine wpAny_Call_method (T := "dict") (id := "dict.items") hbase rfl hline F.plainAttrs_dict F.slot_dict_items F.type_dict_items (thn (he.pe.run pins s σ H (fun v H1 => ∃ x st1 ρ1, P x st1 ∧ Ext ρ ρ1 ∧ SR S ρ1 H1 σ st1 ∧ Rep S.G ρ1 v x) I ⟨ρ, st, R, Out.sat_mono q (fun x st1 hp v ρ1 H1 e1 R1 rx => ⟨x, st1, ρ1, hp, e1, R1, rx⟩) fun _ _ h => h⟩) fun u s1 ⟨v, H1, I1, rv, x, st1, ρ1, hp, e1, R1, rx⟩ => ?_)
  have hvx := hv x st1 hp
  unfold viewD at hvx
  split at hvx
  case h_2 => exact absurd rfl hvx
  rename_i kvs
  split at hvx
  case isFalse => exact absurd rfl hvx
  rename_i hall
  obtain ⟨a, o, rfl, hr, dr⟩ := dic_at R1.cov rx rfl
  obtain ⟨es, rfl, p⟩ := dicK_all dr hall
  cases rv
  obtain ⟨hz, hs0, vs, kv, hdo⟩ := dk_rd I1.hok hr
  refine ⟨hdo.typeIs, hdo.mapOf.noDict, ?_⟩
  show wpAny _ _ (callWith cpos (.builtin "dict.items") [.ref a] [] []) _ X.xe s1
  refine method_meetsIn F.slot_dict_items F.entry_dict_items rfl (PySem.evalArgs_none ⟨rfl, hdo.typeIs, F.args_dict_items_1 _, _, meets_dict_items (mixKind X.prog X.w) a hs0, ⟨vs, hdo⟩, ?_⟩)
  have I2 : Inv X pins σ H1 { s1 with heap := s1.heap.push { cls := .type "dict_items", data := .fields #[.ref a] } } := I1.kept (t' := s1.toks) fun b ob q => Heap.get?_push_of_some _ q
  exact h _ st1 kvs ρ1 H1 _ s1.heap.objs.size a es vs hp (by show (if _ then some kvs else none) = some kvs; rw [if_pos hall]) e1 R1 I2 kv p (by rw [← p.length]; exact hz) ⟨Heap.get?_push_size _ rfl, hs0, hdo.push _⟩
def sumV (x : Dt) : Option Dt := match viewD x with
  | some kvs => (asInts (kvs.map (·.2))).map fun ns => .int ns.sum
  | none => none
theorem preSum_list : ∀ (ns : List Int), preSum (fun i => ns.getD i 0) ns.length = ns.sum
  | [] => rfl
  | n :: ns => by
    show preSum (fun i => (n :: ns).getD i 0) (ns.length + 1) = _
    rw [PySem.W.kdu_shift, List.sum_cons]
    have := preSum_list ns
    show n + preSum (fun i => ns.getD i 0) ns.length = _
    rw [this]
theorem pd_sumV {p pos apos cpos : Pos} (hm : X.mg "sum" = none) (hc : X.calm = true) (he : PD X S e fe) (hg : Gl X "sum" := by rfl)
    (hs : starEach [.Call (.Attribute e "values" apos) [] [] cpos] X.env = (false, eval (.Call (.Attribute e "values" apos) [] [] cpos) X.env) :: starEach [] X.env := by rfl)
    (hbase : attributeBase e "values" X.env (eval e X.env) = eval e X.env := by rfl) (hline : (apos.endLine == cpos.line) = true := by rfl) :
    PD X S (.Call (.Name "sum" p) [.Call (.Attribute e "values" apos) [] [] cpos] [] pos) (d1 fe fun x => opt (sumV x)) := by
  refine ⟨⟨fun pins s σ H Q I ⟨ρ, st, R, q⟩ => ?_⟩⟩
  refine wpAny_Call_Name_kw (ld_blt I hg hm (by rfl) ?_)
  refine PyProof.Rows.callWith_builtin1 ?_ hs rfl
  rw [hs]
  refine Calls.spliced_cons ?_
  refine eval_values I R he (Out.sat_bind q) (fun x st1 kvs ρ1 H1 s1 r a es vs hp hv e1 R1 I1 kv pk hz V => ?_) (fun x st1 hp hn => ?_) hbase hline
  · have hp : (opt (sumV x) st1).sat (PoD S ρ σ Q) (WantX S ρ σ) := hp
    refine Calls.spliced_nil ?_
    unfold sumV at hp
    rw [hv] at hp
    dsimp only at hp
    cases ei : asInts (kvs.map (·.2)) with
    | none => rw [ei] at hp; exact hp.elim
    | some ns =>
      rw [ei] at hp
      obtain ⟨m, hF⟩ := I1.fr
      obtain ⟨ep, hat⟩ := V.dd.dictAt
      have ev : kvs.map (·.2) = ns.map Dt.int := asInts_eq ei
      have hn : vs.length = ns.length := by rw [← Paired.length kv, pk.length, ← List.length_map (as := kvs) (f := (·.2)), ev, List.length_map]
      have vints : ∀ (i : Nat) (v : Value), (∃ k, vs[i]? = some (k, v)) → ∃ t, v = .int (ns.getD i 0) t := fun i v ⟨k, e⟩ => by
        unfold KV at kv
        obtain ⟨x1, g1, g2⟩ := paired_get kv i (k, v) e
        obtain ⟨d1, g3, g4⟩ := LiI.paired_get pk g1
        have g5 : (kvs.map (·.2))[i]? = some d1.2 := by rw [List.getElem?_map, g3]; rfl
        rw [ev, List.getElem?_map] at g5
        cases g6 : ns[i]? with
        | none => rw [g6] at g5; cases g5
        | some n =>
          rw [g6] at g5
          have g7 : Dt.int n = d1.2 := Option.some.inj g5
          have r := g4.2
          rw [← g7] at r
          have g2 := g2.2
          rw [r.int] at g2
          obtain ⟨t, rfl⟩ := g2
          exact ⟨t, by rw [List.getD_eq_getElem?_getD, g6]; rfl⟩
      have K := PySem.W.kdl_values (prog := X.prog) (w := X.w) (knd := mixKind X.prog X.w) (kvs := vs) (ep := ep) (r := r) (d := a)
      have hok : s1.heap.IsValuesView r a ∧ s1.heap.DictAt (mixKind X.prog X.w) a vs ep := ⟨⟨_, V.ty, rfl, rfl⟩, hat⟩
      show wpAny (model X.prog X.w) X.A (call (.builtin "sum") [.ref r]) (EP X pins σ Q) X.xe s1
      refine call_sum_walkAnyS ?_
      obtain ⟨oI, St, hit, W, stt⟩ := K.iter X.A.in1 s1 (I1.ok.hd hc) hok
      refine hit _ _ ⟨s1.heap.objs.size, _, _, _, vs.length, _, _, (fun i => ns.getD i 0), rfl, W.toS, stt, fun b hb => ?_, vints, fun s' t' hm => ?_⟩
      · show b < (s1.heap.push oI).objs.size
        rw [Heap.size_push]
        rcases List.mem_cons.mp hb with e | hb
        · rw [e]; exact Nat.lt_succ_self _
        · rw [List.mem_singleton.mp hb]; exact Nat.lt_succ_of_lt (K.there _ hok).2
      · have hk : ∀ b o, s1.heap.get? b = some o → s'.heap.get? b = some o := fun b o e =>
          hm.heap b o (fun hI => absurd (Heap.lt_size e) (by rw [List.mem_singleton.mp hI]; exact Nat.lt_irrefl _)) (Heap.get?_push_of_some _ e)
        rw [Moved.eq_with hm]
        rw [hn, preSum_list]
        exact ⟨.int ns.sum, H1, I1.kept (t' := s'.toks) hk, ⟨_, rfl⟩, hp _ ρ1 H1 e1 R1 rep_int⟩
  · have hp : (opt (sumV x) st1).sat (PoD S ρ σ Q) (WantX S ρ σ) := hp
    unfold sumV at hp
    rw [hn] at hp
    exact hp.elim
end
end B
end
section
set_option maxRecDepth 100000
set_option maxHeartbeats 4000000
namespace B
open PySem PySem.SeqAt L2 ClX PyProof.V
open PyProof.Rows (envOfC subscriptTail isTrue_plain)
theorem putT_stp {G : Cfg} {w : Wd} : ∀ (as : List Addr) (es : List (Key × V)) (kvs : List (Dt × Dt)) (H : Hp) (ρ : Fz), Cov G ρ w H → as.Nodup → (∀ t ∈ as, H t = none) → as.length = es.length → KVR G ρ es kvs →
    ∃ ρ', Stp G ρ H ρ' w (LiI.putT H as es) ∧ Paired (Rep G ρ') (as.map V.ref) (kvs.map pairD)
  | [], es, kvs, H, ρ, c, _, _, hl, p => by
    cases es with
    | nil => cases p; exact ⟨ρ, Stp.refl c, .nil⟩
    | cons _ _ => cases hl
  | a :: as, [], _, _, _, _, _, _, hl, _ => by cases hl
  | a :: as, e :: es, kvs, H, ρ, c, nd, hn, hl, p => by
    obtain ⟨n1, n2⟩ := List.nodup_cons.mp nd
    cases p with
    | @cons _ kv _ kvs' h t =>
      have ha := hn a List.mem_cons_self
      have s := Stp.fresh (o := .tup [kV e.1, e.2]) c ha
      obtain ⟨ρ', s', r'⟩ := putT_stp as es kvs' (upd H a (.tup [kV e.1, e.2])) _ s.cov n2 (fun t ht => by rw [upd_ne (fun q : t = a => n1 (q ▸ ht))]; exact hn t (List.mem_cons_of_mem _ ht)) (Nat.succ.inj hl) (t.mp fun _ _ z => ⟨z.1, z.2.mono s.ext⟩)
      refine ⟨ρ', s.trans s', .cons ?_ r'⟩
      have r1 : Rep G ⟨upd ρ.F a (.tup [kV e.1, e.2]), ρ.io⟩ (.ref a) (pairD kv) := .mk ⟨a, _, rfl, upd_same, .cons (by rw [← h.1]; exact rep_kV) (.cons (h.2.mono s.ext) .nil)⟩
      exact r1.mono s'.ext
section
variable {X : Cx} {S : Ss} {k : Nat} {e : Expr} {fe : M Dt}
theorem tups_laid {pins : List (Addr × Obj)} {σ : L2.St} {H : Hp} {s : Shared} {h' : Heap} {tk : Nat} {kvs : List (Key × V)} {vs : List (Key × Value)} {as : List Addr} (I : Inv X pins σ H s) (kv : KV kvs vs)
    (hk : ∀ b o, s.heap.get? b = some o → h'.get? b = some o) (hl : as.length = vs.length) (hG : PySem.W.KdxG (mixKind X.prog X.w) vs s.heap.objs.size h' as) :
    as.Nodup ∧ (∀ t ∈ as, H t = none) ∧ Inv X pins σ (LiI.putT H as kvs) { s with heap := h', toks := tk } := by
  have lk : kvs.length = vs.length := Paired.length kv
  have nd : as.Nodup := List.Pairwise.imp (fun {a b} (h : a < b) => Nat.ne_of_lt h) hG.rise
  have new : ∀ t ∈ as, H t = none := fun t ht => I.hok.fresh (Nat.le_of_lt (hG.above t ht))
  have atP := LiI.putT_at as kvs H (by omega) nd
  have off : ∀ b, b ∉ as → LiI.putT H as kvs b = H b := fun b h1 => LiI.putT_off as kvs _ h1
  have low : ∀ b o, s.heap.get? b = some o → b ∉ as := fun b o e z => absurd (Heap.lt_size e) (Nat.not_lt.mpr (Nat.le_of_lt (hG.above b z)))
  have kp : ∀ b u, H b = some u → (LiI.putT H as kvs) b = some u := fun b u e => by
    rw [off b (fun z => by rw [new b z] at e; cases e)]
    exact e
  refine ⟨nd, new, ?_⟩
  refine I.call' (ch := []) rfl ⟨fun b o q _ _ _ => hk b o q, fun b o q _ _ _ => ⟨o.slots, hk b o q⟩, fun b o q n _ => ?_, fun b o q _ => ⟨o, hk b o q⟩, fun b xs q => kp b _ q, fun b o u q => kp b _ q, fun b ps q => ⟨#[], by rw [kp b _ q]; simp⟩⟩ (fun b u q => ?_) I.bare fun b z => by simp at z
  · rw [off b (low b o q)]
    exact n
  · by_cases hb : b ∈ as
    · obtain ⟨j, pk, e1, e2, e3⟩ := LiI.paired_ix atP hb
      rw [e3] at q
      cases q
      obtain ⟨key, k, x, f1, f2, f3⟩ := hG.pairs j b e1
      obtain ⟨qv, g1, g2, g3⟩ := LiI.paired_get kv e2
      rw [f1] at g1
      cases g1
      have rk : RelV (kV pk.1) key := by
        rw [g2]
        exact relV_key (show keyIs k key = true from f2)
      exact ⟨by show 2 ≤ sizeLine; decide, [key, x], .cons rk (.cons g3 .nil), ⟨_, f3, rfl, _, rfl⟩⟩
    · rw [off b hb] at q
      exact (I.hok b u q).stay (fun d v _ y => hk d v y) (fun d y => kp d _ y) fun d xs y => kp d _ y
def tupI (x : Dt) : Option Dt := (viewD x).map fun kvs => .tup (kvs.map pairD)
theorem pd_tupI {p pos apos cpos : Pos} (hm : X.mg "tuple" = none) (hc : X.calm = true) (he : PD X S e fe) (hg : Gl X "tuple" := by rfl)
    (hs : starEach [.Call (.Attribute e "items" apos) [] [] cpos] X.env = (false, eval (.Call (.Attribute e "items" apos) [] [] cpos) X.env) :: starEach [] X.env := by rfl)
    (hbase : attributeBase e "items" X.env (eval e X.env) = eval e X.env := by rfl) (hline : (apos.endLine == cpos.line) = true := by rfl) :
    PD X S (.Call (.Name "tuple" p) [.Call (.Attribute e "items" apos) [] [] cpos] [] pos) (d1 fe fun x => opt (tupI x)) := by
  refine ⟨⟨fun pins s σ H Q I ⟨ρ, st, R, q⟩ => ?_⟩⟩
  refine wpAny_Call_Name_kw (ld_blt I hg hm (by rfl) ?_)
  refine PyProof.Rows.callWith_type1 ?_ hs rfl
  rw [hs]
  refine Calls.spliced_cons ?_
  refine eval_items I R he (Out.sat_bind q) (fun x st1 kvs ρ1 H1 s1 r a es vs hp hv e1 R1 I1 kv pk hz VW => ?_) (fun x st1 hp hn => ?_) hbase hline
  · have hp : (opt (tupI x) st1).sat (PoD S ρ σ Q) (WantX S ρ σ) := hp
    refine Calls.spliced_nil ?_
    unfold tupI at hp
    rw [hv] at hp
    obtain ⟨ep, hat⟩ := VW.dd.dictAt
    have hl : vs.length = kvs.length := by rw [← Paired.length kv, pk.length]
    refine call_tuple_col (T := "dict_items") ⟨_, VW.ty, rfl⟩ (by decide) (PySem.W.kdx_collect (knd := mixKind X.prog X.w) (kvs := vs) (ep := ep) (I1.ok.hd hc) ⟨_, VW.ty, rfl, rfl⟩ hat (by rw [hl]; exact hz) fun h' tk as hk hla hG => ⟨by rw [List.length_map, hla, hl]; exact hz, ?_⟩)
    obtain ⟨nd, new, I2⟩ := tups_laid (tk := tk) I1 kv hk hla hG
    obtain ⟨ρ2, s2, r2⟩ := putT_stp as es kvs H1 ρ1 R1.cov nd new (by rw [hla, ← Paired.length kv]) pk
    have R2 := R1.step s2
    have hH : LiI.putT H1 as es h'.objs.size = none := I2.hok.fresh (Nat.le_refl _)
    have s3 := Stp.fresh (o := .tup (as.map V.ref)) R2.cov hH
    refine ⟨.ref h'.objs.size, _, I2.laid (t' := tk) (fun c o e => Heap.get?_push_of_some _ e) (Nat.le_refl _) (show ObjOk X.prog X.w _ _ _ (.tup (as.map V.ref)) from ⟨?_, as.map Value.ref, LiI.vals_refs as, PyProof.Rows.IsTup.new _ _⟩), rfl, hp _ _ _ ((e1.trans s2.ext).trans s3.ext) (R2.step s3) (.mk ⟨_, _, rfl, upd_same, r2.mp fun _ _ z => z.mono s3.ext⟩)⟩
    rw [List.length_map, hla, hl]; exact hz
  · have hp : (opt (tupI x) st1).sat (PoD S ρ σ Q) (WantX S ρ σ) := hp
    unfold tupI at hp
    rw [hn] at hp
    exact hp.elim
def tupK (x : Dt) : Option Dt := (viewD x).map fun kvs => .tup (kvs.map (·.1))
theorem cap_tupK (hc : X.calm = true) {xs : List Dt} : CaP X S (fun us => call (.type "tuple") us) xs (opt (match xs with | [x] => tupK x | _ => none)) := by
  intro pins s σ H vs us ρ st Q I rv R rxs q
  match xs, q, rxs with
  | [], q, _ => exact q.elim
  | _ :: _ :: _, q, _ => exact q.elim
  | [x], q, rxs =>
    have q : (opt (tupK x) st).sat (PoD S ρ σ Q) (WantX S ρ σ) := q
    obtain ⟨v, rfl, rx⟩ := paired1 rxs
    obtain ⟨u, rfl, ru⟩ := vals1 rv
    unfold tupK at q
    cases hv : viewD x with
    | none => rw [hv] at q; exact q.elim
    | some kvs =>
      rw [hv] at q
      have q2 : PoD S ρ σ Q (.tup (kvs.map (·.1))) st := q
      unfold viewD at hv
      split at hv
      case h_2 => cases hv
      split at hv
      case isFalse => cases hv
      rename_i hall
      cases hv
      obtain ⟨a, o, rfl, hr, dr⟩ := dic_at R.cov rx rfl
      obtain ⟨es, rfl, p⟩ := dicK_all dr hall
      cases ru
      obtain ⟨hz, lo, vs, kv, dd⟩ := dk_rd I.hok hr
      obtain ⟨ep, hat⟩ := dd.dictAt
      have hl : vs.length = es.length := (Paired.length kv).symm
      have ek : (es.map fun kv => kV kv.1) = vs.map fun p => kV p.1 := by
        have e := congrArg (List.map kV) (KV.keys kv)
        rw [List.map_map, List.map_map] at e
        exact e
      refine call_tuple_col (T := "dict") dd.typeIs (by decide) (PySem.W.kdu_collect (PySem.W.kdl_dict (knd := mixKind X.prog X.w) (kvs := vs) (ep := ep) lo) (I.ok.hd hc) hat (by rw [hl]; exact hz) fun h' tk acc hk hacc => ⟨by rw [Array.length_toList, hacc.1, hl]; exact hz, ?_⟩)
      have hvv : Vals (vs.map fun p => kV p.1) acc.toList := keys_at (by rw [Array.length_toList]; exact hacc.1) fun j v e => hacc.2 j v (by rw [← Array.getElem?_toList]; exact e)
      have I2 : Inv X pins σ H { s with heap := h', toks := tk } := I.kept hk
      have hH : H h'.objs.size = none := I2.hok.fresh (Nat.le_refl _)
      have s3 := Stp.fresh (o := .tup (es.map fun kv => kV kv.1)) R.cov hH
      refine ⟨.ref h'.objs.size, _, I2.laid (t' := tk) (fun c o e => Heap.get?_push_of_some _ e) (Nat.le_refl _) (show ObjOk X.prog X.w _ _ _ (.tup (es.map fun kv => kV kv.1)) from ⟨by rw [List.length_map]; exact hz, acc.toList, by rw [ek]; exact hvv, PyProof.Rows.IsTup.new _ _⟩), rfl, q2 _ _ _ s3.ext (R.step s3) (.mk ⟨_, _, rfl, upd_same, (keys_rep p).mp fun _ _ z => z.mono s3.ext⟩)⟩
theorem cad_tupleU (hk : S.G.K = X.K) (hc : X.calm = true) : CaD X S (fun us => call (.type "tuple") us) (fun ds => opt ((tupD ds).or (match ds with | [x] => tupK x | _ => none))) := fun xs => cap_or (cad_tuple hk xs) (cap_tupK hc)
end
end B
end
section
set_option maxRecDepth 100000
set_option maxHeartbeats 4000000
namespace B
open PySem PySem.SeqAt L2 ClX PyProof.V
open PyProof.Rows (envOfC subscriptTail isTrue_plain)
section
variable {prog : Program} {w : World} {A : Around} {E : Value → Shared → Prop} {s : Shared}
theorem merge_new {d a : Addr} {kvs : List (Key × Value)} {Q : Unit → Shared → Prop} (hda : d ≠ a) (lo : (a == sysModules) = false)
    (hd : s.heap.DictOf (mixKind prog w) d []) (ha : s.heap.DictOf (mixKind prog w) a kvs) (hz : kvs.length ≤ sizeLine)
    (hQ : ∀ h', h'.DictOf (mixKind prog w) d kvs → Heap.SameBut d s.heap h' → Q () { s with heap := h' }) :
    wpAny (model prog w) A (mergeMapping d (.ref a) true) Q E s := by
  obtain ⟨oo, eso, epo, hoo, hco, hdo', hko, hpo, hno⟩ := id ha
  obtain ⟨od, esd, epd, hod, hcd, hdd, hkd, hpd, hnd⟩ := id hd
  have hlen : kvs.length = eso.size := by rw [← hpo.length]; simp
  have hes : esd = #[] := by
    have := hpd.length
    have e : esd.toList = [] := List.eq_nil_of_length_eq_zero this
    obtain ⟨l⟩ := esd
    simp at e
    rw [e]
  have it : typeLookup (.type "dict") "__iter__" = pure (some (.builtin "dict.__iter__")) := by rw [typeLookup_type, builtinLookup_eq_fast]; kernel_rfl
  have sub : isSubtype (.type "dict") (.type "dict") = pure true := by first | rfl | kernel_rfl
  unfold mergeMapping
  refine wpAny_bind (wpAny_bind (wpAny_typeOf ha.typeIs (wpAny_of_eq sub ?_)))
  rw [if_pos rfl]
  refine wpAny_bind (wpAny_specialOf ha.typeIs it ?_)
  refine wpAny_bind (wpAny_pure ?_)
  rw [show ((some (Value.builtin "dict.__iter__") == some (Value.builtin "dict.__iter__")) = true) from beq_self_eq_true _]
  dsimp only
  rw [if_neg (by rw [lo]; exact Bool.false_ne_true)]
  refine wpAny_bind (wpAny_dictEntries hod hdd ?_)
  rw [if_pos (by rw [hes]; rfl)]
  refine wpAny_bind (wpAny_dictEntries hoo hdo' ?_)
  refine wpAny_bind ?_
  have noref : ∀ e ∈ eso, ∀ b, e.key ≠ .ref b := fun e he b z => by
    obtain ⟨k, hk, _⟩ := hko e he
    rw [z] at hk
    rcases keyIs_shape (show keyIs k (.ref b) = true from hk) with ⟨i, t, _, e2⟩ | ⟨x, t, _, e2⟩ <;> cases e2
  rw [← Array.forIn_toList]
  refine wpAny_forIn_list _ (fun rest _ s' => s' = s ∧ ∀ e ∈ rest, e ∈ eso) _ ?_ ?_ _ _ ⟨rfl, fun e he => by simpa using he⟩
  · rintro x rest b s' ⟨rfl, hm⟩
    have hx := noref x (hm x List.mem_cons_self)
    split
    · rename_i b2 e2; exact absurd e2 (hx b2)
    · exact wpAny_pure ⟨rfl, fun e he => hm e (List.mem_cons_of_mem _ he)⟩
  rintro b s' ⟨rfl, _⟩
  refine wpAny_bind (wpAny_dictEntries hoo hdo' ?_)
  refine wpAny_bind (wpAny_dictEpoch hoo hdo' ?_)
  refine wpAny_bind ?_
  refine wpAny_forIn_list _
    (fun rest _ s2 => ∃ h' i, s2 = { s' with heap := h' } ∧ rest = List.range' i (eso.size - i) ∧ i ≤ eso.size ∧ h'.DictOf (mixKind prog w) d (kvs.take i) ∧ h'.get? a = some oo ∧ Heap.SameBut d s'.heap h')
    _ ?_ ?_ _ _ ⟨s'.heap, 0, rfl, by rw [List.range_eq_range', Nat.sub_zero], Nat.zero_le _, hd, hoo, Heap.SameBut.refl _ _⟩
  · rintro x rest b2 s2 ⟨h', i, rfl, hr, hi, hd', hoo', hs'⟩
    have hlt : i < eso.size := by
      rcases Nat.lt_or_ge i eso.size with h | h
      · exact h
      · rw [Nat.sub_eq_zero_of_le h] at hr; simp at hr
    obtain ⟨rfl, hrest⟩ : x = i ∧ rest = List.range' (i + 1) (eso.size - (i + 1)) := by
      have e : eso.size - i = (eso.size - (i + 1)) + 1 := by omega
      rw [e, List.range'_succ] at hr
      injection hr with h1 h2
      exact ⟨h1, h2⟩
    refine wpAny_bind (wpAny_dictEntries hoo' hdo' ?_)
    rw [Array.getElem?_eq_getElem hlt]
    obtain ⟨kv, hkv⟩ : ∃ kv, kvs[x]? = some kv := ⟨kvs[x]'(by rw [hlen]; exact hlt), List.getElem?_eq_getElem _⟩
    obtain ⟨k, v⟩ := kv
    obtain ⟨hkey, hval⟩ := hpo.get? (e := eso[x]) (by simp [hlt]) hkv
    obtain ⟨k', hkey', hhash⟩ := hko eso[x] (Array.getElem_mem hlt)
    obtain rfl : k' = k := (mixKind prog w).inj _ _ _ hkey' hkey
    obtain ⟨o2, es2, ep2, ho2, hc2, hd2, hk2, hp2, hn2⟩ := id hd'
    have hfresh : ¬ ((kvs.take x).any fun kv => decide (kv.1 = k')) = true := by
      rw [List.any_eq_true]
      rintro ⟨kv, hm, he⟩
      have he := of_decide_eq_true he
      have nd : (kvs.map (·.1)).Nodup := hno
      obtain ⟨j, hj, ej⟩ := List.getElem_of_mem hm
      have hjx : j < x := by rw [List.length_take] at hj; omega
      have hjk : j < kvs.length := by rw [hlen]; omega
      rw [List.getElem_take] at ej
      have hxk : x < kvs.length := by rw [hlen]; exact hlt
      rw [List.getElem?_eq_getElem hxk] at hkv
      have ekx := Option.some.inj hkv
      rw [List.nodup_iff_pairwise_ne] at nd
      refine List.pairwise_iff_getElem.mp nd j x (by rw [List.length_map]; exact hjk) (by rw [List.length_map]; exact hxk) hjx ?_
      rw [List.getElem_map, List.getElem_map, ej, ekx, he]
    have hfind : (es2.findIdx? fun e => (mixKind prog w).is k' e.key) = none := by
      have hidx : (es2.findIdx? fun e => (mixKind prog w).is k' e.key) = (kvs.take x).findIdx? fun kv => decide (kv.1 = k') := by
        rw [← hp2.findIdx k']; obtain ⟨l⟩ := es2; simp
      rw [hidx, List.findIdx?_eq_none_iff]
      intro kv hm
      cases e : decide (kv.1 = k') with
      | false => rfl
      | true => exact absurd (List.any_eq_true.mpr ⟨kv, hm, e⟩) hfresh
    have hz2 : es2.size ≤ sizeLine := by
      have e1 := hp2.length
      have e2 : es2.toList.length = es2.size := by simp
      rw [List.length_take] at e1
      omega
    dsimp only
    refine wpAny_bind (wpAny_holding ?_)
    rw [if_pos rfl, hhash, hval]
    refine wpAny_bind (wpAny_dictFind_of hkey ho2 hd2 hk2 ?_)
    rw [hfind]
    dsimp only [Option.isSome]
    rw [if_neg Bool.false_ne_true]
    unfold dictPut
    refine wpAny_bind (wpAny_dictFind_of hkey ho2 hd2 hk2 ?_)
    rw [hfind]
    dsimp only
    refine wpAny_updateDictKeys (hz := hz2) ho2 hd2 ?_
    have hda' : a ≠ d := Ne.symm hda
    have hoo'' : (h'.update d (Obj.mapDictKeys fun x_1 => x_1.push ⟨(mixKind prog w).hash k', eso[x].key, v⟩)).get? a = some oo := ((Heap.SameBut.update .. : Heap.SameBut d h' (h'.update d (Obj.mapDictKeys fun x_1 => x_1.push ⟨(mixKind prog w).hash k', eso[x].key, v⟩))).2 a hda').trans hoo'
    refine wpAny_bind (wpAny_dictEpoch hoo'' hdo' ?_)
    rw [if_neg (by simp)]
    have hst : (kvs.take x) ++ [(k', v)] = kvs.take (x + 1) := by rw [List.take_add_one, hkv]; rfl
    refine wpAny_pure ⟨_, x + 1, rfl, hrest, hlt, ?_, hoo'', hs'.trans (Heap.SameBut.update ..)⟩
    refine ⟨_, _, ep2 + 1, Heap.get?_update_self _ ho2 (Obj.isFreed_of_dict (Obj.data_mapDictKeys hd2 _)), hc2.mapDictKeys _, Obj.data_mapDictKeys hd2 _, hk2.push hkey _, ?_, ?_⟩
    · rw [← hst]
      have := hp2.append hkey ((mixKind prog w).hash k') v
      obtain ⟨l⟩ := es2
      simpa using this
    · rw [List.map_take]
      exact List.Nodup.sublist (List.take_sublist _ _) hno
  · rintro b2 s2 ⟨h', i, rfl, hr, hi, hd', hoo', hs'⟩
    have hin : i = eso.size := by
      rcases Nat.lt_or_ge i eso.size with h | h
      · have e : eso.size - i = (eso.size - (i + 1)) + 1 := by omega
        rw [e, List.range'_succ] at hr; exact nomatch hr
      · exact Nat.le_antisymm hi h
    refine wpAny_pure (hQ h' ?_ hs')
    rw [hin, ← hlen, List.take_length] at hd'; exact hd'
def kwOf : List (Key × Value) → Option (List (Str × Value))
  | [] => some []
  | (.inr x, v) :: r => (kwOf r).map ((x, v) :: ·)
  | _ => none
theorem keywords_in {f : Value} {d : Addr} {kvs : List (Key × Value)} {kws : List (Str × Value)} {Q : List (Str × Value) → Shared → Prop} (hd : s.heap.DictOf (mixKind prog w) d kvs) (hk : kwOf kvs = some kws) (hQ : Q kws s) :
    wpAny (model prog w) A (keywordsIn f d) Q E s := by
  obtain ⟨od, esd, epd, hod, hcd, hdd, hkd, hpd, hnd⟩ := id hd
  unfold keywordsIn
  refine wpAny_bind (wpAny_dictEntries hod hdd ?_)
  refine wpAny_bind ?_
  rw [← Array.forIn_toList]
  refine wpAny_forIn_list _ (fun rest acc s' => s' = s ∧ ∃ ks vs, Pairs (mixKind prog w) rest vs ∧ kwOf vs = some ks ∧ acc ++ ks = kws) _ ?_ ?_ _ _ ⟨rfl, kws, kvs, hpd, hk, rfl⟩
  · rintro x rest acc s' ⟨rfl, ks, vs, hp, hks, e⟩
    cases hp with
    | @cons _ kv _ kvs' hkey hval ht =>
      obtain ⟨k, v⟩ := kv
      cases k with
      | inl i => cases hks
      | inr z =>
        have hks : (kwOf kvs').map ((z, v) :: ·) = some ks := hks
        cases e2 : kwOf kvs' with
        | none => rw [e2] at hks; cases hks
        | some ls =>
          rw [e2] at hks
          cases hks
          rcases keyIs_shape (show keyIs (.inr z) x.key = true from hkey) with ⟨i, t, e1, _⟩ | ⟨y, t, e1, e3⟩
          · cases e1
          · cases e1
            dsimp only
            rw [e3]
            exact wpAny_pure ⟨rfl, ls, _, ht, e2, by rw [← e, hval]; simp⟩
  · rintro acc s' ⟨rfl, ks, vs, hp, hks, e⟩
    cases hp
    cases hks
    rw [List.append_nil] at e
    subst e
    exact wpAny_pure hQ
theorem merged_kw {f : Value} {x : Sem Value} {Q : Addr → Shared → Prop}
    (hx : wpAny (model prog w) A x (fun v s1 => ∃ a kvs, v = .ref a ∧ (a == sysModules) = false ∧ s1.heap.DictOf (mixKind prog w) a kvs ∧ kvs.length ≤ sizeLine ∧ s1.heap.DictOf (mixKind prog w) s.heap.objs.size [] ∧ s.heap.objs.size ≠ a ∧
      ∀ h', h'.DictOf (mixKind prog w) s.heap.objs.size kvs → Heap.SameBut s.heap.objs.size s1.heap h' → Q s.heap.objs.size { s1 with heap := h' }) E { s with heap := s.heap.push { cls := .type "dict", data := .dict #[] } }) :
    wpAny (model prog w) A (mergedKeywords f [(none, x)]) Q E s := by
  unfold mergedKeywords
  refine wpAny_bind (wpAny_alloc ?_)
  refine wpAny_bind (wpAny_holding ?_)
  dsimp only
  refine wpAny_bind ?_
  rw [List.forIn_cons]
  refine wpAny_bind ?_
  dsimp only
  refine wpAny_bind ?_
  rw [if_pos (show ([] : List (Str × Sem Value)).isEmpty = true from rfl)]
  refine wpAny_pure ?_
  refine wpAny_bind (wpAny_mono hx (fun v s1 ⟨a, kvs, ev, lo, ha, hz, hd, hne, hq⟩ => ?_) fun _ _ z => z)
  subst ev
  refine wpAny_bind (wpAny_onRaise (wpAny_holding (wpAny_tryCatch (wpAny_onRaise (merge_new hne lo hd ha hz fun h' hd' hs' => ?_)))))
  refine wpAny_pure ?_
  dsimp only
  rw [List.forIn_nil]
  refine wpAny_pure ?_
  rw [if_pos (show ([] : List (Str × Sem Value)).isEmpty = true from rfl)]
  refine wpAny_pure ?_
  exact wpAny_pure (hq h' hd' hs')
theorem evalArgs_star {f : Value} {x : Sem Value} {Q : Args → Shared → Prop}
    (h : wpAny (model prog w) A (mergedKeywords f [(none, x)]) (fun d s1 => wpAny (model prog w) A (keywordsIn f d) (fun kw s2 => Q ⟨[], kw⟩ s2) E s1) E s) : wpAny (model prog w) A (evalArgs f true [] [(none, x)]) Q E s := by
  unfold evalArgs
  refine wpAny_bind (Calls.spliced_nil ?_)
  refine wpAny_bind (wpAny_pure ?_)
  dsimp only
  refine wpAny_holding ?_
  rw [if_neg (by simp)]
  refine wpAny_bind (wpAny_mono h (fun d s1 h1 => ?_) fun _ _ z => z)
  refine wpAny_bind (wpAny_pure ?_)
  refine wpAny_bind (wpAny_holding (wpAny_mono h1 (fun kw s2 h2 => ?_) fun _ _ z => z))
  exact wpAny_pure h2
theorem callWith_star {K : PySem.W.Frag} {pos : Pos} {f : Value} {x : Sem Value} {Q : Value → Shared → Prop} (hk : PySem.W.keepIn K f = true)
    (h : wpAny (model prog w) A (evalArgs f true [] [(none, x)]) (fun a s1 => K.In s1.heap ∧ wpAny (model prog w) A (call f a.pos a.kw) Q E s1) E s) :
    wpAny (model prog w) A (callWith pos f [] [] [(none, x)]) Q E s := by
  unfold callWith
  refine wpAny_bind (wpAny_holding (wpAny_mono h (fun a s₁ h₁ => wpAny_bind (wpAny_standAt ?_)) fun _ _ x => x))
  obtain ⟨k, hk', L⟩ := PySem.W.keeps_K (M := model prog w) hk _ h₁.1
  refine wpAny_bind (L.here ?_)
  have tail : ∀ {t : Sem Value}, wpAny (model prog w) A t Q E s₁ → wpAny (model prog w) A (t >>= fun r => holding [r] point >>= fun _ => pure r) Q E s₁ :=
    fun ht => wpAny_bind (wpAny_mono ht (fun r s₂ hr => wpAny_bind (wpAny_holding (wpAny_point (wpAny_pure hr)))) fun _ _ x => x)
  have marked (mk : Value) : wpAny (model prog w) A (callMarked mk f a.pos a.kw) Q E s₁ := by unfold callMarked; exact Calls.wpAny_keep h₁.2
  have e : (([] : List (Bool × Sem Value)).any (·.1) || [((none : Option Str), x)].any (·.1.isNone)) = true := rfl
  rcases hk' with rfl | rfl | rfl
  · exact tail (marked _)
  · exact tail (wpAny_operateT h₁.2)
  · exact tail (wpAny_operateT h₁.2)
end
end B
end
section
set_option maxRecDepth 100000
set_option maxHeartbeats 4000000
namespace B
open PySem PySem.SeqAt L2 ClX PyProof.V PySem.Spec PyProof.Rows
theorem bind_kw {M : Model} {A : Around} {E : Value → Shared → Prop} {s : Shared} {fd : FuncData} {x : Value} {kws : List (Str × Value)} {self nm : Arg} {Q : List (Str × Value) → Shared → Prop}
    (h1 : fd.params.posonlyargs = []) (h2 : fd.params.args = [self]) (h3 : fd.params.kwonlyargs = []) (h4 : fd.params.vararg = none) (h5 : fd.params.kwarg = some nm) (h6 : fd.defaults = .none)
    (hk : ∀ k ∈ kws, k.1 ≠ self.arg) (hz : kws.length ≤ sizeLine)
    (h : wpAny M A (do let d ← alloc { cls := .type "dict", data := .dict #[] }; (forIn kws PUnit.unit fun x _ => (nsSet d x.1 x.2 >>= fun _ => pure (ForInStep.yield PUnit.unit))); pure [(self.arg, x), (nm.arg, Value.ref d)]) Q E s) :
    wpAny M A (bindArgs fd ⟨[x], kws⟩) Q E s := by
  unfold bindArgs
  simp only [h1, h2, h3, h4, h5, h6]
  refine wpAny_bind (wpAny_forIn_list _ (fun rest b s' => s' = s ∧ ∃ pre, pre ++ rest = kws ∧ b = ([(self.arg, x)], pre)) _ ?_ ?_ _ _ ⟨rfl, [], rfl, rfl⟩)
  · rintro y rest b s' ⟨rfl, pre, e, rfl⟩
    have hy : y.1 ≠ self.arg := hk y (by rw [← e]; exact List.mem_append_right _ List.mem_cons_self)
    have hc : ((List.map (fun x => x.arg) [self]).contains y.1 || (List.map (fun x : Arg => x.arg) []).contains y.1) = false := by
      simp [hy]
    dsimp only
    rw [hc, if_neg Bool.false_ne_true]
    rw [if_pos (show (some nm).isSome = true from rfl)]
    exact wpAny_pure ⟨rfl, pre ++ [y], by rw [← e]; simp, rfl⟩
  · rintro b s' ⟨rfl, pre, e, rfl⟩
    rw [List.append_nil] at e
    subst e
    refine wpAny_bind (show wpAny M A (pure none) _ E s' from wpAny_pure ?_)
    have look : List.lookup self.arg [(self.arg, x)] = some x := by rw [List.lookup_cons, beq_self_eq_true]
    simp only [List.map_nil, List.map_cons, List.nil_append, List.append_nil, List.length_cons, List.length_nil, Option.getD_none, List.drop_nil, List.drop_zero, List.take_nil, look, List.filter_nil, List.filter_cons, List.take_succ_cons, List.take_zero,
      Option.isNone_some, Option.isSome_some, Bool.false_eq_true, if_false, List.isEmpty_nil, Bool.not_true, List.filterMap_cons, List.filterMap_nil, Option.map_some, List.zip_nil_right, List.forIn_nil, Nat.sub_zero, Nat.zero_add, List.drop_succ_cons]
    rw [if_neg (show ¬ (decide (1 > 1) && (none : Option Arg).isNone) = true by decide)]
    refine wpAny_bind (wpAny_pure ?_)
    refine wpAny_bind (wpAny_pure ?_)
    dsimp only
    rw [if_neg (show ¬ (!([] : List Str).isEmpty) = true by decide), if_neg (by omega)]
    rw [look]
    exact h
end B
end
section
set_option maxRecDepth 100000
set_option maxHeartbeats 4000000
namespace B
open PySem PySem.SeqAt L2 ClX PyProof.V PySem.Spec PyProof.Rows
section
variable {prog : Program} {w : World} {A : Around} {E : Value → Shared → Prop} {d : Addr}
open PySem.W in
theorem ns_set {s : Shared} {es : List DictEntry} {n : Nat} {k : Str} {v : Value} {Q : Unit → Shared → Prop} (D : s.heap.get? d = some (dictOf es n))
    (hs : ∀ e ∈ es, e.key.isStr k = false) (hr : ∀ e ∈ es, e.refKey = false)
    (h : ∀ h', h'.get? d = some (dictOf (es ++ [⟨PyData.keyHash w.params k, .str k s.toks, v⟩]) (n + 1)) → Heap.SameBut d s.heap h' → Q () { s with heap := h', toks := s.toks + 1 }) :
    wpAny (model prog w) A (nsSet d k v) Q E s := by
  have e1 : es.any (·.key.isStr k) = false := by
    cases q : es.any (·.key.isStr k) with
    | false => rfl
    | true => obtain ⟨e, he, z⟩ := List.any_eq_true.mp q; rw [hs e he] at z; cases z
  have e2 : es.any (·.refKey) = false := by
    cases q : es.any (·.refKey) with
    | false => rfl
    | true => obtain ⟨e, he, z⟩ := List.any_eq_true.mp q; rw [hr e he] at z; cases z
  have e : Obj.putName k (PyData.keyHash w.params k) (.str k s.toks) v (dictOf es n) = dictOf (es ++ [⟨PyData.keyHash w.params k, .str k s.toks, v⟩]) (n + 1) := by
    rw [putName_dict, putL_new hs]
    show dictOf _ (if es.any (·.key.isStr k) then n else n + 1) = _
    rw [e1, if_neg Bool.false_ne_true]
  have c : aRefKeyMayBeTheName k es.toArray = false := by
    rw [aRefKeyMayBeTheName_at, ← Array.any_toList, ← Array.any_toList]
    show (!es.any (·.key.isStr k) && es.any (·.refKey)) = false
    rw [e2, Bool.and_false]
  unfold nsSet
  refine wpAny_bind (wpAny_bind (wpAny_askSetting (wpAny_pure (wpAny_bind (wpAny_mkText (wpAny_bind (wpAny_loadPart D ?_)))))))
  dsimp only
  rw [c]
  exact wpAny_updatePart D (h _ ((Heap.get?_update_self _ D (by show (Obj.putName k (PyData.keyHash w.params k) (.str k s.toks) v (dictOf es n)).isFreed = false; rw [e]; rfl)).trans (congrArg some e)) (Heap.SameBut.update ..))
open PySem.W in
theorem fill_kw {Q : PUnit → Shared → Prop} : ∀ (ex : List (Str × Value)) (s : Shared) (es : List DictEntry) (n : Nat), s.heap.get? d = some (dictOf es n) →
    (∀ e ∈ es, ∀ x ∈ ex, e.key.isStr x.1 = false) → (∀ e ∈ es, e.refKey = false) → (ex.map (·.1)).Nodup →
    (∀ h', h'.get? d = some (dictOf (es ++ kwEs w.params s.toks ex) (n + ex.length)) → Heap.SameBut d s.heap h' → Q ⟨⟩ { s with heap := h', toks := s.toks + ex.length }) →
    wpAny (model prog w) A (forIn ex PUnit.unit fun x _ => (nsSet d x.1 x.2 >>= fun _ => pure (ForInStep.yield PUnit.unit))) Q E s
  | [], s, es, n, D, _, _, _, h => by
    rw [List.forIn_nil]
    refine wpAny_pure (h s.heap ?_ (Heap.SameBut.refl _ _))
    show s.heap.get? d = some (dictOf (es ++ []) n)
    rw [List.append_nil]
    exact D
  | x :: r, s, es, n, D, hs, hr, hn, h => by
    obtain ⟨hn1, hn2⟩ := List.nodup_cons.mp (show (x.1 :: r.map (·.1)).Nodup from hn)
    rw [List.forIn_cons]
    refine wpAny_bind (wpAny_bind (ns_set D (fun e he => hs e he x (.head _)) hr fun h' D' sb => wpAny_pure ?_))
    show wpAny (model prog w) A (forIn r PUnit.unit fun x _ => (nsSet d x.1 x.2 >>= fun _ => pure (ForInStep.yield PUnit.unit))) Q E { s with heap := h', toks := s.toks + 1 }
    refine fill_kw r { s with heap := h', toks := s.toks + 1 } _ _ D' (fun e he y hy => ?_) (fun e he => ?_) hn2 fun h'' D'' sb2 => ?_
    · rcases List.mem_append.mp he with he | he
      · exact hs e he y (.tail _ hy)
      · obtain rfl := List.mem_singleton.mp he
        show (x.1 == y.1) = false
        exact beq_eq_false_iff_ne.mpr fun q => hn1 (by rw [q]; exact List.mem_map_of_mem hy)
    · rcases List.mem_append.mp he with he | he
      · exact hr e he
      · obtain rfl := List.mem_singleton.mp he
        rfl
    · have t1 : s.toks + 1 + r.length = s.toks + (r.length + 1) := by omega
      have t2 : n + 1 + r.length = n + (r.length + 1) := by omega
      show Q ⟨⟩ { s with heap := h'', toks := s.toks + 1 + r.length }
      rw [t1]
      refine h h'' ?_ (sb.trans sb2)
      rw [t2, List.append_assoc] at D''
      exact D''
def kvOf (kws : List (Str × Value)) : List (Key × Value) := kws.map fun x => (.inr x.1, x.2)
open PySem.W in
theorem kwEs_mix : ∀ (ex : List (Str × Value)) (t : Tok), Pairs (mixKind prog w) (kwEs w.params t ex) (kvOf ex)
  | [], _ => Pairs.nil
  | x :: r, t => Pairs.cons (strKind_is prog w x.1 t) rfl (kwEs_mix r (t + 1))
open PySem.W in
theorem dict_kw {h : Heap} {ex : List (Str × Value)} {t : Tok} {n : Nat} (D : h.get? d = some (dictOf (kwEs w.params t ex) n)) (hn : (ex.map (·.1)).Nodup) : h.DictOf (mixKind prog w) d (kvOf ex) := by
  refine ⟨_, (kwEs w.params t ex).toArray, n, D, ⟨rfl, rfl, rfl⟩, rfl, fun e he => ?_, kwEs_mix ex t, ?_⟩
  · obtain ⟨k, u, hk, hh⟩ := kwEs_key ex t e (List.mem_toArray.mp he)
    exact ⟨.inr k, by rw [hk]; exact strKind_is prog w k u, hh.trans rfl⟩
  · unfold kvOf
    rw [List.map_map]
    have e : ((fun x : Key × Value => x.1) ∘ fun x : Str × Value => ((Sum.inr x.1 : Key), x.2)) = (Sum.inr : Str → Key) ∘ (·.1) := rfl
    rw [e, ← List.map_map]
    have inj : ∀ {l : List Str}, l.Nodup → (l.map (Sum.inr : Str → Key)).Nodup := fun {l} h => by
      rw [List.nodup_iff_pairwise_ne] at *
      exact List.Pairwise.map _ (fun a b hab q => hab (Sum.inr.inj q)) h
    exact inj hn
end
structure FnKw (X : Cx) (G : Cfg) (k : Nat) (f : Addr) (m : FnM) : Prop where
  ex : ∃ (fd : FuncData) (self nm : Arg), fd.params.posonlyargs = [] ∧ fd.params.args = [self] ∧ fd.params.kwonlyargs = [] ∧ fd.params.vararg = none ∧ fd.params.kwarg = some nm ∧ fd.defaults = .none ∧ self.arg = ("self" : Str) ∧
    FnT X.prog X.w X.K X.mg X.base (L2.CX X.prog X.w) k f fd [self.arg, nm.arg] (spD G m)
section
variable {X : Cx} {S : Ss} {k : Nat} {f : Addr} {m : FnM}
theorem run_KW {A : Around} {pins : List (Addr × Obj)} {σ : L2.St} {H : Hp} {s : Shared} {Q : VK} {u : Value} {v : V} {ρ : Fz} {st : DS} {x : Dt} {kws : List (Str × Value)} {es : List (Key × V)} {kvs : List (Dt × Dt)} (hA : A.frames = X.A.frames) (F : FnKw X S.G k f m) (hr : RoomG k A) (tk : Takes X S.W)
    (I : Inv X pins σ H s) (rv : RelV v u) (R : SR S ρ H σ st) (rx : Rep S.G ρ v x) (kv : KV es (kvOf kws)) (pk : KVR S.G ρ es kvs) (hn : (kws.map (·.1)).Nodup) (hself : ∀ y ∈ kws, y.1 ≠ ("self" : Str)) (hz : kws.length ≤ sizeLine)
    (q : ∀ ρ1 H1 D, Stp S.G ρ H ρ1 st.w H1 → Rep S.G ρ1 (.ref D) (.dic kvs) → spD S.G m [v, .ref D] H1 Q (WE S.W σ)) :
    codeAny (model X.prog X.w) A (.call (.ref f) ⟨[u], kws⟩) (fun r s' => match r with | .ok (.ret v) => EP X pins σ Q v s' | .ok _ => False | .error e => X.xe e s') s := by
  obtain ⟨fd, self, nm, h1, h2, h3, h4, h5, h6, h7, body, oc, od, osl, lk, hb, hco, hgen, hcd, T⟩ := F.ex
  refine codeAny_call_function hr.depth (I.kIn _ _ lk) rfl hco hgen hb (PySem.W.codeRec_of I.kIn hcd) (bind_kw h1 h2 h3 h4 h5 h6 (fun y hy => by rw [h7]; exact hself y hy) hz ?_)
  refine wpAny_bind (wpAny_alloc ?_)
  refine wpAny_bind (fill_kw kws _ [] 0 (Heap.get?_push_size _ rfl) (fun _ he => nomatch he) (fun _ he => nomatch he) hn fun h' D sb => wpAny_pure ?_)
  have hD : H s.heap.objs.size = none := I.hok.fresh (Nat.le_refl _)
  have hkeep : ∀ b o, s.heap.get? b = some o → h'.get? b = some o := fun b o e => (sb.2 b (Nat.ne_of_lt (Heap.lt_size e))).trans (Heap.get?_push_of_some _ e)
  have hm : (s.heap.objs.size == sysModules) = false := beq_eq_false_iff_ne.mpr (Nat.ne_of_gt I.big)
  have dd : h'.DictOf (mixKind X.prog X.w) s.heap.objs.size (kvOf kws) := dict_kw D hn
  obtain ⟨ob, D⟩ : ∃ ob, h'.get? s.heap.objs.size = some ob := ⟨_, D⟩
  have hz2 : es.length ≤ sizeLine := by rw [Paired.length kv]; unfold kvOf; rw [List.length_map]; exact hz
  have I2 : Inv X pins σ (upd H s.heap.objs.size (.frz ob (.dK es))) { s with heap := h', toks := s.toks + kws.length } := I.laid hkeep (Nat.le_refl _) ⟨D, hz2, hm, _, kv, dd⟩
  have s2 := Stp.fresh (o := .frz ob (.dK es)) R.cov hD
  have R2 := R.step s2
  have e0 : Env0 X.prog X.w X.K X.mg X.base A X.stack { s with heap := h', toks := s.toks + kws.length } (upd H s.heap.objs.size (.frz ob (.dK es))) := by
    have e := I2.env0
    exact ⟨by rw [hA]; exact e.frames, e.mod, e.bs, e.bsz, e.funs, e.frf, e.hok, e.bare⟩
  have rep2 : Rep S.G ⟨upd ρ.F s.heap.objs.size (.frz ob (.dK es)), ρ.io⟩ (.ref s.heap.objs.size) (.dic kvs) := .mk ⟨_, _, _, rfl, upd_same, .inl ⟨es, rfl, pk.mp fun _ _ z => ⟨z.1, z.2.mono s2.ext⟩⟩⟩
  refine T A X.stack _ _ [u, .ref s.heap.objs.size] [v, .ref s.heap.objs.size] Q (WE S.W σ) _ hr e0 (.cons rv (.cons (show RelV (V.ref _) (Value.ref _) from rfl) .nil)) rfl
    (q _ _ _ s2 rep2) fun r s' hq => ?_
  cases r with
  | error e => exact passAt tk σ pins _ _ e s' I2 hq
  | ok fl =>
    cases fl with
    | ret u => exact I2.after hq
    | next => exact False.elim hq
    | brk => exact False.elim hq
    | cont => exact False.elim hq
def initM (c : Str) (m : FnM) (ds : List Dt) : M Dt := fun st => match m (.loc st.w.length :: ds) (st.w ++ [.ins c []]) with
  | .ok .non w' => match w'[st.w.length]? with
    | some (.ins c' fs) => if w'.length = st.w.length + 1 ∧ clos st.w.length w' = true then .ok (.ins c' fs) ⟨st.sl, w'.take st.w.length⟩ else .stuck
    | _ => .stuck
  | .exc x w' => if w'.length = st.w.length + 1 ∧ clos st.w.length w' = true ∧ cloX st.w.length x = true then .exc x ⟨st.sl, w'.take st.w.length⟩ else .stuck
  | _ => .stuck
theorem made_cov {ρ : Fz} {H : Hp} {σ : L2.St} {st : DS} {x dx C : Addr} {c : Str} {G : Cfg} (hc : G.cl c = some C) (cv : Cov G ρ st.w H) (hx : H x = none) (hdx : H dx = none) (hne : dx ≠ x) : Cov G ⟨ρ.F, ρ.io ++ [x]⟩ (st.w ++ [.ins c []]) (upd (upd H dx (.own x)) x (.ins C dx [])) := by
  have ex : Ext ρ ⟨ρ.F, ρ.io ++ [x]⟩ := ⟨fun _ _ h => h, fun n a h => by
    show (ρ.io ++ [x])[n]? = some a
    rw [List.getElem?_append_left (List.getElem?_eq_some_iff.mp h).1]; exact h⟩
  have xio : x ∉ ρ.io := fun m => by obtain ⟨o, e⟩ := cv.there m; rw [hx] at e; cases e
  have keep : ∀ a o, H a = some o → upd (upd H dx (.own x)) x (.ins C dx []) a = some o := fun a o h => by rw [upd_ne (ne_of_none h hx), upd_ne (ne_of_none h hdx)]; exact h
  have xF : ρ.F x = none := by
    cases e : ρ.F x with
    | none => rfl
    | some u => rw [cv.F _ _ e] at hx; cases hx
  refine ⟨fun a o h => keep a o (cv.F a o h), by rw [List.length_append, List.length_append, cv.len]; rfl, fun n a d' h1 h2 => ?_, io_nodup cv.nd xio, cv.tb.move (fun _ _ h => h) (fun _ _ => rfl) (fun q m z => (List.mem_append.mp z).elim id fun z => absurd (List.mem_singleton.mp z) (cv.tb.ne hx q m)) fun q m => by rw [upd_ne (cv.tb.ne hx q m), upd_ne (cv.tb.ne hdx q m)]⟩
  have h1' : (ρ.io ++ [x])[n]? = some a := h1
  by_cases hn : n < ρ.io.length
  · rw [List.getElem?_append_left hn] at h1'
    rw [List.getElem?_append_left (by rw [← cv.len]; exact hn)] at h2
    obtain ⟨z1, o', z2, z3⟩ := cv.wo n a d' h1' h2
    exact ⟨z1, o', keep a o' z2, z3.mono ex⟩
  · rw [List.getElem?_append_right (Nat.le_of_not_lt hn)] at h1'
    rw [List.getElem?_append_right (by rw [← cv.len]; exact Nat.le_of_not_lt hn)] at h2
    have hz : n - ρ.io.length = 0 := by
      rcases Nat.eq_zero_or_pos (n - ρ.io.length) with z | z
      · exact z
      · rw [List.getElem?_eq_none (by simp; omega)] at h1'; cases h1'
    rw [hz] at h1'
    rw [← cv.len, hz] at h2
    cases h1'; cases h2
    exact ⟨xF, _, upd_same, C, dx, [], hc, rfl, .nil⟩
theorem made_back {ρ ρ' : Fz} {H H' : Hp} {w w' : Wd} {x dx C : Addr} {G : Cfg} (cv : Cov G ρ w H) (hx : H x = none) (hdx : H dx = none) (s : Stp G ⟨ρ.F, ρ.io ++ [x]⟩ (upd (upd H dx (.own x)) x (.ins C dx [])) ρ' w' H') (hl : w'.length = w.length + 1) (hcl : clos w.length w' = true) :
    ∃ ρ3, Stp G ρ H ρ3 (w'.take w.length) H' ∧ (∀ c' fs, w'[w.length]? = some (.ins c' fs) → Rep G ρ3 (.ref x) (.ins c' fs)) ∧ ρ3.io = ρ'.io.take w.length ∧ (∀ a o, ρ'.F a = some o → ρ3.F a = some o) := by
  have c := s.cov
  have len : ρ.io.length = w.length := cv.len
  have hio : ρ'.io[w.length]? = some x := s.ext.io _ x (by show (ρ.io ++ [x])[w.length]? = some x; rw [List.getElem?_append_right (by omega), len, Nat.sub_self]; rfl)
  have hw : w.length < w'.length := by omega
  obtain ⟨nF, o, ho, wr⟩ := c.wo w.length x _ hio (List.getElem?_eq_getElem hw)
  have hd : clo w.length w'[w.length] = true := clos_all hcl _ (List.getElem_mem hw)
  have xt : x ∉ ρ'.io.take w.length := fun m => by
    obtain ⟨j, hj, ej⟩ := List.getElem_of_mem m
    have hj1 : j < ρ'.io.length := by rw [List.length_take] at hj; omega
    have hj2 : j < w.length := by rw [List.length_take] at hj; omega
    have e1 : ρ'.io[j]? = some x := by rw [List.getElem?_eq_getElem hj1]; rw [List.getElem_take] at ej; rw [ej]
    have hn' := (List.getElem?_eq_some_iff.mp hio).1
    have := c.nd
    rw [List.nodup_iff_pairwise_ne] at this
    have e2 := List.pairwise_iff_getElem.mp this j w.length hj1 hn' hj2
    rw [List.getElem?_eq_getElem hj1] at e1
    rw [List.getElem?_eq_getElem hn'] at hio
    exact e2 ((Option.some.inj e1).trans (Option.some.inj hio).symm)
  have e3 : Ext ⟨ρ'.F, ρ'.io.take w.length⟩ ⟨upd ρ'.F x o, ρ'.io.take w.length⟩ := ext_new nF
  have ex : Ext ρ ⟨upd ρ'.F x o, ρ'.io.take w.length⟩ := ⟨fun a u h => e3.F a u (s.ext.F a u h), fun m a h => by
    have hlt := (List.getElem?_eq_some_iff.mp h).1
    show (ρ'.io.take w.length)[m]? = some a
    rw [List.getElem?_take_of_lt (by omega)]
    exact s.ext.io m a (by show (ρ.io ++ [x])[m]? = some a; rw [List.getElem?_append_left hlt]; exact h)⟩
  refine ⟨⟨upd ρ'.F x o, ρ'.io.take w.length⟩, ⟨ex, ⟨fun a u h => ?_, by rw [List.length_take, List.length_take, c.len], fun m a d' h1 h2 => ?_, c.nd.sublist (List.take_sublist _ _), c.tb.move e3.F (fun q m => upd_ne (cv.tb.ne hx q m)) (fun q m z => List.mem_of_mem_take z) fun _ _ => rfl⟩, fun a u h hm tt => ?_, fun a u h => ?_, fun a hm => ?_, cv.stp0⟩, fun c' fs hins => ?_, rfl, fun a u h => e3.F a u h⟩
  · by_cases q : a = x
    · subst q
      have h' : upd ρ'.F a o a = some u := h
      rw [upd_same] at h'; cases h'
      exact ho
    · have h' : upd ρ'.F x o a = some u := h
      rw [upd_ne q] at h'
      exact c.F a u h'
  · have hlt : m < w.length := by
      have := (List.getElem?_eq_some_iff.mp h2).1
      rw [List.length_take] at this; omega
    have h1' : (ρ'.io.take w.length)[m]? = some a := h1
    have hm' : a ∈ ρ'.io.take w.length := List.mem_of_getElem? h1'
    rw [List.getElem?_take_of_lt hlt] at h1' h2
    obtain ⟨z1, o', z2, z3⟩ := c.wo m a d' h1' h2
    have hax : a ≠ x := fun q => xt (q ▸ hm')
    exact ⟨by show upd ρ'.F x o a = none; rw [upd_ne hax]; exact z1, o', z2, (own_cut d' (clos_all hcl d' (List.mem_of_getElem? h2)) z3).mono e3⟩
  · have hax : a ≠ x := ne_of_none h hx
    refine s.keep a u (by rw [upd_ne hax, upd_ne (ne_of_none h hdx)]; exact h) (fun z => ?_) tt
    rcases List.mem_append.mp z with z | z
    · exact hm z
    · exact hax (List.mem_singleton.mp z)
  · have hax : a ≠ x := ne_of_none h hx
    show upd ρ'.F x o a = _ ∨ _
    rw [upd_ne hax]
    exact s.new a u (by rw [upd_ne hax, upd_ne (ne_of_none h hdx)]; exact h)
  · have hax : a ≠ x := fun q => xt (q ▸ hm)
    rcases s.nio a (List.mem_of_mem_take hm) with z | z
    · rcases List.mem_append.mp z with z | z
      · exact .inl z
      · exact absurd (List.mem_singleton.mp z) hax
    · rw [upd_ne hax] at z
      by_cases q : a = dx
      · subst q; exact .inr hdx
      · rw [upd_ne q] at z; exact .inr z
  · rw [List.getElem?_eq_getElem hw] at hins
    have e := Option.some.inj hins
    rw [e] at wr hd
    obtain ⟨C', dx', es, h1, rfl, p⟩ := (own_cut _ hd wr).mono e3
    exact .mk ⟨x, C', dx', es, rfl, h1, upd_same, p⟩
theorem made_stp {ρ : Fz} {H : Hp} {w : Wd} {x dx C : Addr} {c : Str} {G : Cfg} {σ : L2.St} {st : DS} (hw : st.w = w) (hc : G.cl c = some C) (cv : Cov G ρ w H) (hx : H x = none) (hdx : H dx = none) (hne : dx ≠ x) :
    Stp G ρ H ⟨ρ.F, ρ.io ++ [x]⟩ (w ++ [.ins c []]) (upd (upd H dx (.own x)) x (.ins C dx [])) := by
  subst hw
  refine ⟨⟨fun _ _ h => h, fun n a h => ?_⟩, made_cov (σ := σ) hc cv hx hdx hne, fun a o h _ _ => ?_, fun a o h => .inl rfl, fun a m => ?_, fun q m => let ⟨ps, e⟩ := cv.stp0 q m; ⟨ps, e⟩⟩
  · show (ρ.io ++ [x])[n]? = some a
    rw [List.getElem?_append_left (List.getElem?_eq_some_iff.mp h).1]; exact h
  · rw [upd_ne (ne_of_none h hx), upd_ne (ne_of_none h hdx)]; exact h
  · rcases List.mem_append.mp m with m | m
    · exact .inl m
    · rw [List.mem_singleton.mp m]; exact .inr hx
theorem init_sp {c : Str} {C : Addr} {pins : List (Addr × Obj)} {σ : L2.St} {H : Hp} {Q : VK} {ρ : Fz} {st : DS} {x dx : Addr} (hc : S.G.cl c = some C) (R : SR S ρ H σ st) (hx : H x = none) (hdx : H dx = none) (hne : dx ≠ x) {ds : List Dt}
    (q : (initM c m ds st).sat (PoD S ρ σ Q) (WantX S ρ σ)) {vs : List V} {ρ1 : Fz} {H1 : Hp}
    (s1 : Stp S.G ⟨ρ.F, ρ.io ++ [x]⟩ (upd (upd H dx (.own x)) x (.ins C dx [])) ρ1 (st.w ++ [.ins c []]) H1) (rs : Paired (Rep S.G ρ1) vs ds) :
    spD S.G m (.ref x :: vs) H1 (fun v H2 => v = .non ∧ Q (.ref x) H2) (WE S.W σ) := by
  have rx : Rep S.G ρ1 (.ref x) (.loc st.w.length) := .mk ⟨x, rfl, s1.ext.io _ x (by show (ρ.io ++ [x])[st.w.length]? = some x; rw [List.getElem?_append_right (by rw [R.cov.len]; exact Nat.le_refl _), R.cov.len, Nat.sub_self]; rfl)⟩
  refine ⟨ρ1, _, .loc st.w.length :: ds, s1.cov, .cons rx rs, ?_⟩
  unfold initM at q
  split at q
  · rename_i w' em
    rw [em]
    split at q
    case h_2 => exact q.elim
    rename_i c' fs ew
    split at q
    case isFalse => exact q.elim
    rename_i hl
    intro v ρ' H' s' rv
    obtain ⟨ρ3, s3, r3, _, _⟩ := made_back R.cov hx hdx (s1.trans s') hl.1 hl.2
    exact ⟨rv.non, q (.ref x) ρ3 H' s3.ext (R.step s3) (r3 c' fs ew)⟩
  · rename_i x' w' em
    rw [em]
    split at q
    case isFalse => exact q.elim
    rename_i hl
    intro cls dd ρ' H' s' rX
    obtain ⟨ρ3, s3, _, hio, hF⟩ := made_back R.cov hx hdx (s1.trans s') hl.1 hl.2.1
    refine q cls dd ρ3 H' s3.ext (R.step s3) ?_
    obtain ⟨C', g1, g2, g3⟩ := rX
    refine ⟨C', g1, g2, ?_⟩
    rcases g3 with g3 | ⟨d, es, g4, g5, g6⟩
    · exact .inl g3
    · exact .inr ⟨d, es, g4, hF _ _ g5, FldRep.imp (fun _ _ z => Rep.mono (ρ := ⟨ρ'.F, ρ'.io.take st.w.length⟩) ⟨hF, fun n a h => by rw [hio]; exact h⟩ z) (repf_cut _ hl.2.2 g6)⟩
  · exact q.elim
theorem run_makeKW {c : Str} {C : Addr} {pins : List (Addr × Obj)} {σ : L2.St} {H : Hp} {s : Shared} {Q : VK} {ρ : Fz} {st : DS} {kws : List (Str × Value)} {es : List (Key × V)} {kvs : List (Dt × Dt)} (hc : S.G.cl c = some C) (M : Mk X.K C f) (F : FnKw X S.G k f m) (hr : RoomG (k + 1) X.A) (tk : Takes X S.W)
    (I : Inv X pins σ H s) (R : SR S ρ H σ st) (kv : KV es (kvOf kws)) (pk : KVR S.G ρ es kvs) (hn : (kws.map (·.1)).Nodup) (hself : ∀ y ∈ kws, y.1 ≠ ("self" : Str)) (hz : kws.length ≤ sizeLine)
    (q : (initM c m [.dic kvs] st).sat (PoD S ρ σ Q) (WantX S ρ σ)) : wpAny (model X.prog X.w) X.A (call (.ref C) [] kws) (EP X pins σ Q) X.xe s := by
  have I2 := Inv.made (C := C) I
  have hx : H (s.heap.objs.size + 1) = none := I.hok.fresh (Nat.le_succ _)
  have hdx : H s.heap.objs.size = none := I.hok.fresh (Nat.le_refl _)
  have hne : s.heap.objs.size ≠ s.heap.objs.size + 1 := Nat.ne_of_lt (Nat.lt_succ_self _)
  have s2 := made_stp (σ := σ) (st := st) rfl hc R.cov hx hdx hne
  have R2 := R.step s2
  have rx : Rep S.G ⟨ρ.F, ρ.io ++ [s.heap.objs.size + 1]⟩ (.ref (s.heap.objs.size + 1)) (.loc st.w.length) := .mk ⟨_, rfl, by show (ρ.io ++ [s.heap.objs.size + 1])[st.w.length]? = _; rw [List.getElem?_append_right (by rw [R.cov.len]; exact Nat.le_refl _), R.cov.len, Nat.sub_self]; rfl⟩
  refine wpAny_call (make_map (f := f) I.kIn M.makes M.init (beq_iff_eq.mp M.fn) (codeAny_mono (run_KW (A := X.A.under (.builtin "type.__call__" ⟨.ref C :: [], kws⟩)) (x := .loc st.w.length) (Q := fun v H2 => v = .non ∧ Q (.ref (s.heap.objs.size + 1)) H2) ?_ F (hr.make C [] kws) tk I2 (show RelV (V.ref _) (Value.ref _) from rfl) R2 rx kv (pk.mp fun _ _ z => ⟨z.1, z.2.mono s2.ext⟩) hn hself hz fun ρ1 H1 D s1 rD => ?_) fun r s' hq => ?_))
  · have e := (I.env0.make C [] kws).frames
    rw [e]; exact I.env0.frames.symm
  · exact init_sp (pins := pins) hc R hx hdx hne q s1 (.cons rD .nil)
  · cases r with
    | error e => exact hq
    | ok fl =>
      cases fl with
      | ret u =>
        obtain ⟨v, H', I3, rv, ev, q3⟩ := hq
        subst ev
        exact ⟨rv, ⟨V.ref (s.heap.objs.size + 1), H', I3, rfl, q3⟩⟩
      | next => exact False.elim hq
      | brk => exact False.elim hq
      | cont => exact False.elim hq
end
end B
end
section
set_option maxRecDepth 100000
set_option maxHeartbeats 4000000
namespace B
open PySem PySem.SeqAt L2 ClX PyProof.V PySem.Spec PyProof.Rows
theorem kw_of : ∀ {vs : List (Key × Value)} {ks : List Str}, vs.map (·.1) = ks.map Sum.inr → ∃ kws, kwOf vs = some kws ∧ kvOf kws = vs ∧ kws.map (·.1) = ks
  | [], [], _ => ⟨[], rfl, rfl, rfl⟩
  | [], _ :: _, h => by cases h
  | _ :: _, [], h => by cases h
  | (k, v) :: vs, x :: ks, h => by
    rw [List.map_cons, List.map_cons] at h
    injection h with h1 h2
    obtain ⟨kws, a, b, c⟩ := kw_of h2
    have h1 : k = .inr x := h1
    subst h1
    exact ⟨(x, v) :: kws, by show (kwOf vs).map ((x, v) :: ·) = _; rw [a]; rfl, by show (Sum.inr x, v) :: kvOf kws = _; rw [b], by rw [List.map_cons, c]⟩
structure MkF (X : Cx) (G : Cfg) (k : Nat) (mk : Ow) : Prop where
  f : ∀ c m, mk c = some m → ∃ C f, G.cl c = some C ∧ Mk X.K C f ∧ FnKw X G k f m
def mkKW (mk : Ow) (o x : Dt) : M Dt := match o with
  | .cls c => match mk c with
    | some m => match viewD x with
      | some kvs => match asStrs (kvs.map (·.1)) with
        | some ks => if ks.all (fun k => decide (k ≠ ("self" : Str))) = true then initM c m [.dic kvs] else stk
        | none => stk
      | none => stk
    | none => stk
  | _ => stk
theorem mkKW_of {mk : Ow} {o x : Dt} {st : DS} {P : Dt → DS → Prop} {E : XD → DS → Prop} (h : (mkKW mk o x st).sat P E) : ∃ c m kvs ks, o = .cls c ∧ mk c = some m ∧ viewD x = some kvs ∧ asStrs (kvs.map (·.1)) = some ks ∧ (∀ k ∈ ks, k ≠ ("self" : Str)) ∧ (initM c m [.dic kvs] st).sat P E := by
  cases o with
  | cls c =>
    unfold mkKW at h
    dsimp only at h
    cases e1 : mk c with
    | none => rw [e1] at h; exact h.elim
    | some m =>
      rw [e1] at h
      dsimp only at h
      cases e2 : viewD x with
      | none => rw [e2] at h; exact h.elim
      | some kvs =>
        rw [e2] at h
        dsimp only at h
        cases e3 : asStrs (kvs.map (·.1)) with
        | none => rw [e3] at h; exact h.elim
        | some ks =>
          rw [e3] at h
          dsimp only at h
          split at h
          case isFalse => exact h.elim
          rename_i e4
          exact ⟨c, m, kvs, ks, rfl, e1, rfl, e3, fun k hk => of_decide_eq_true (List.all_eq_true.mp e4 k hk), h⟩
  | _ => exact h.elim
theorem noX_ok {α : Type} {f : M α} {st : DS} {P : α → DS → Prop} {E E' : XD → DS → Prop} (h : (noX f st).sat P E) : (f st).sat P E' := by
  unfold noX at h
  cases e : f st with
  | ok a st' => rw [e] at h; exact h
  | exc x st' => rw [e] at h; exact h.elim
  | stuck => rw [e] at h; exact h.elim
section
variable {X : Cx} {S : Ss} {k : Nat}
theorem pd_makeK {x : Str} {p pos kp : Pos} {e : Expr} {fo fe : M Dt} {mk : Ow} (F : MkF X S.G k mk) (hkeep : ∀ c C, S.G.cl c = some C → mk c ≠ none → PySem.W.keepIn X.K (.ref C) = true) (hr : RoomG (k + 1) X.A) (tk : Takes X S.W) (ho : PD X S (.Name x p) fo) (he : ∀ y, PD X (S.inn y) e fe) :
    PD X S (.Call (.Name x p) [] [⟨none, e, kp⟩] pos) (d1 fo fun o => d1 (noX fe) fun z => mkKW mk o z) := by
  refine ⟨⟨fun pins s σ H Q I ⟨ρ, st, R, q⟩ => ?_⟩⟩
  refine wpAny_Call_Name_kw (thn (ho.pe.run pins s σ H _ I ⟨ρ, st, R, Out.go q (fun o st1 q1 v ρ1 H1 e1 R1 ro => (⟨ρ1, st1, o, e1, R1, ro, q1⟩ :
    ∃ ρ1 st1 o, Ext ρ ρ1 ∧ SR S ρ1 H1 σ st1 ∧ Rep S.G ρ1 v o ∧ ((d1 (noX fe) fun z => mkKW mk o z) st1).sat (PoD S ρ σ Q) (WantX S ρ σ))) fun _ _ h => h⟩) fun V' s1 ⟨v, H1, I1, rv, ρ1, st1, o, e1, R1, ro, q1⟩ => ?_)
  have q1' : (fe st1).sat (fun z st2 => (mkKW mk o z st2).sat (PoD S ρ σ Q) (WantX S ρ σ)) (WantX (S.inn (s1.heap.objs.size, .dK [])) ρ1 σ) := noX_ok (Out.sat_bind q1)
  show wpAny (model X.prog X.w) X.A (callWith pos V' [] [] [(none, do let v ← eval e X.env; standAt pos; pure v)]) _ X.xe s1
  have hD : H1 s1.heap.objs.size = none := I1.hok.fresh (Nat.le_refl _)
  have nX : ∀ u, (s1.heap.objs.size, u) ∉ S.X := fun u m => by rw [(R1.ex _ u m).1] at hD; cases hD
  have I1' := I1.laid (a := s1.heap.objs.size) (o := .dK []) (h' := s1.heap.push { cls := .type "dict", data := .dict #[] }) (t' := s1.toks) (fun _ _ q => Heap.get?_push_of_some _ q) (Nat.le_refl _) (dk_empty s1.heap I1.big)
  have R1' := R1.inn (D := s1.heap.objs.size) (o := .dK []) hD (fun _ q => by cases q)
  cases hfe : fe st1 with
  | exc x st2 => unfold d1 noX at q1; rw [hfe] at q1; exact q1.elim
  | stuck => unfold d1 noX at q1; rw [hfe] at q1; exact q1.elim
  | ok z st2 =>
    rw [hfe] at q1'
    have qz : (mkKW mk o z st2).sat (PoD S ρ σ Q) (WantX S ρ σ) := q1'
    obtain ⟨c, m, kvs, ks, rfl, em, ev, ek, hself, qi⟩ := mkKW_of qz
    obtain ⟨C, f, hc, M, Fm⟩ := F.f c m em
    obtain ⟨C', rfl, hc'⟩ := ro.out
    rw [hc] at hc'; cases hc'
    cases rv
    refine callWith_star (K := X.K) (hkeep c C hc (by rw [em]; exact fun z => by cases z)) (evalArgs_star (merged_kw ?_))
    refine wpAny_bind (thn ((he (s1.heap.objs.size, .dK [])).pe.run pins _ σ _ (fun w H2 => ∃ ρ2, Ext ρ1 ρ2 ∧ SR (S.inn (s1.heap.objs.size, .dK [])) ρ2 H2 σ st2 ∧ Rep S.G ρ2 w z) I1' ⟨ρ1, st1, R1', by rw [hfe]; exact fun w ρ2 H2 e2 R2 r2 => ⟨ρ2, e2, R2, r2⟩⟩) fun W s2 ⟨w, H2, I2, rw', ρ2, e2, R2, r2⟩ => ?_)
    refine wpAny_bind (wpAny_standAt (wpAny_pure ?_))
    unfold viewD at ev
    split at ev
    case h_2 => cases ev
    rename_i kvs'
    split at ev
    case isFalse => cases ev
    rename_i hall
    cases ev
    obtain ⟨a, ob, o, rfl, hF, dr⟩ := r2.dic
    obtain ⟨es, rfl, pk⟩ := dicK_all dr hall
    cases rw'
    have hrd : Rd H2 a (.dK es) := .inr ⟨ob, R2.cov.F _ _ hF⟩
    obtain ⟨hz, lo, vs, kv, dd⟩ := dk_rd I2.hok hrd
    obtain ⟨hDat, hDF, _, _, _⟩ := R2.ex _ _ List.mem_cons_self
    obtain ⟨z0, lo0, vs0, kv0, dd0⟩ := dk_of I2.hok hDat
    cases kv0
    have hlen : vs.length = es.length := (Paired.length kv).symm
    have hne : s1.heap.objs.size ≠ a := fun q => by rw [q, hF] at hDF; cases hDF
    refine ⟨a, vs, rfl, lo, dd, by rw [hlen]; exact hz, dd0, hne, fun h' dd' sb => ?_⟩
    have hkeys : vs.map (·.1) = ks.map Sum.inr := by rw [← KV.keys kv]; exact keys_strs pk ek
    obtain ⟨kws, k1, k2, k3⟩ := kw_of hkeys
    refine keywords_in dd' k1 ?_
    have nd : (vs.map (·.1)).Nodup := by obtain ⟨_, _, _, _, _, _, _, _, nd⟩ := dd; exact nd
    have ndk : (kws.map (·.1)).Nodup := by
      rw [k3]
      rw [hkeys] at nd
      rw [List.nodup_iff_pairwise_ne] at *
      exact (List.pairwise_map.mp nd).imp fun h q => h (by rw [q])
    have hex : ∃ q, h'.get? s1.heap.objs.size = some q := let ⟨q, _, _, hq, _⟩ := dd'; ⟨q, hq⟩
    have I3 : Inv X pins σ (upd H2 s1.heap.objs.size (.dK es)) { s2 with heap := h' } := d_write I2 (by rw [hDat]; exact True.intro) sb hex (dk_new hz lo0 kv dd')
    have R3 := R2.chg (o' := .dK es) (fun _ q => by cases q) nX
    have R3' : SR S ρ2 (upd H2 s1.heap.objs.size (.dK es)) σ st2 := ⟨R3.stp, R3.len, R3.sl, R3.dis, fun p u m => R3.ex p u (List.mem_cons_of_mem _ m)⟩
    refine ⟨I3.kIn, ?_⟩
    refine run_makeKW hc M Fm hr tk I3 R3' (by rw [k2]; exact kv) pk ndk (fun y hy => hself y.1 (by rw [← k3]; exact List.mem_map_of_mem hy)) (by rw [← List.length_map (as := kws) (f := (·.1)), k3, ← List.length_map (as := ks) (f := (Sum.inr : Str → Key)), ← hkeys, List.length_map, hlen]; exact hz) ?_
    exact Out.sat_mono qi (fun d st h => PoD.mono (e1.trans e2) h) fun x st h => WantX.mono (e1.trans e2) h
end
end B
end
section
set_option maxRecDepth 100000
set_option maxHeartbeats 4000000
namespace B
open PySem L2 ClX
open PyProof.Rows
section
variable {X : Cx} {S : Ss} {a b c : Expr} {fa fb fc : M Dt} {pos : Pos} {g g' : MO2} {op op' : CmpOp} {rest : List Expr}
abbrev chK (fc : M Dt) (g' : MO2) (y : Dt) : Dt → M Dt := fun z => match z with
  | .bl true => d1 fc fun w => g' y w
  | .bl false => fun st => .ok (.bl false) st
  | _ => stk
theorem chain_go {pins : List (Addr × Obj)} {s : Shared} {σ : L2.St} {H : Hp} {Q : VK} {ρ : Fz} {st : DS} (I : Inv X pins σ H s) (R : SR S ρ H σ st) (ho : OpD X S (compareOp op) g) (ho' : OpD X S (compareOp op') g') (ha : PD X S a fa) (hb : PD X S b fb) (hc : PD X S c fc)
    (q : (mChain fa fb fc g g' st).sat (PoD S ρ σ Q) (WantX S ρ σ)) (hm : lastMarks [op, op'] [b, c] = false) : wpAny (model X.prog X.w) X.A (eval (.Compare a [op, op'] [b, c] pos) X.env) (EP X pins σ Q) X.xe s := by
  refine Compare_chain (thn (ha.pe.run pins s σ H _ I ⟨ρ, st, R, Out.go q (fun x st1 q1 v ρ1 H1 e1 R1 rx => (⟨ρ1, st1, x, e1, R1, rx, q1⟩ :
    ∃ ρ1 st1 x, Ext ρ ρ1 ∧ SR S ρ1 H1 σ st1 ∧ Rep S.G ρ1 v x ∧ ((d1 fb fun y => d1 (g x y) (chK fc g' y)) st1).sat (PoD S ρ σ Q) (WantX S ρ σ))) fun _ _ h => h⟩) fun V' s1 ⟨v, H1, I1, r1, ρ1, st1, x, e1, R1, rx, q1⟩ =>
    chain_link (thn (hb.pe.run pins s1 σ H1 _ I1 ⟨ρ1, st1, R1, Out.go q1 (fun y st2 q2 u ρ2 H2 e2 R2 ry => (⟨ρ2, st2, y, e2, R2, ry, q2⟩ :
      ∃ ρ2 st2 y, Ext ρ1 ρ2 ∧ SR S ρ2 H2 σ st2 ∧ Rep S.G ρ2 u y ∧ ((d1 (g x y) (chK fc g' y)) st2).sat (PoD S ρ σ Q) (WantX S ρ σ))) fun _ _ h => h.mono e1⟩) fun U' s2 ⟨u, H2, I2, r2, ρ2, st2, y, e2, R2, ry, q2⟩ =>
      thn (ho x y pins s2 σ H2 v u V' U' ρ2 st2 (fun z H3 => ∃ ρ3 st3 d, Ext ρ2 ρ3 ∧ SR S ρ3 H3 σ st3 ∧ Rep S.G ρ3 z d ∧ (chK fc g' y d st3).sat (PoD S ρ σ Q) (WantX S ρ σ)) I2 r1 r2 R2 (rx.mono e2) ry (Out.go q2 (fun d st3 q3 z ρ3 H3 e3 R3 rz => ⟨ρ3, st3, d, e3, R3, rz, q3⟩) fun _ _ h => h.mono (e1.trans e2)))
        fun D s3 ⟨z, H3, I3, r3, ρ3, st3, d, e3, R3, rz, q3⟩ => ?_)) hm
  cases d with
  | bl k =>
    have ez := rz.bl
    subst ez
    cases r3
    refine wpAny_truthy_bool ?_
    cases k with
    | false => exact ite_ff ⟨.bl false, H3, I3, rfl, q3 _ ρ3 H3 ((e1.trans e2).trans e3) R3 rep_bl⟩
    | true =>
      refine ite_tt (chain_last (thn (hc.pe.run pins s3 σ H3 (fun w H4 => ∃ ρ4 st4 dw, Ext ρ3 ρ4 ∧ SR S ρ4 H4 σ st4 ∧ Rep S.G ρ4 w dw ∧ (g' y dw st4).sat (PoD S ρ σ Q) (WantX S ρ σ)) I3 ⟨ρ3, st3, R3, Out.go q3 (fun dw st4 q4 w ρ4 H4 e4 R4 rw' => ⟨ρ4, st4, dw, e4, R4, rw', q4⟩) fun _ _ h => h.mono ((e1.trans e2).trans e3)⟩) fun W s4 ⟨w, H4, I4, r4, ρ4, st4, dw, e4, R4, rw', q4⟩ => ?_))
      have ee := ((e1.trans e2).trans e3).trans e4
      exact ho' y dw pins s4 σ H4 u w U' W ρ4 st4 Q I4 r2 r4 R4 ((ry.mono e3).mono e4) rw' (Out.sat_mono q4 (fun d st h => PoD.mono ee h) fun _ _ h => h.mono ee)
  | _ => exact False.elim q3
theorem pd_chain (ho : OpD X S (compareOp op) g) (ho' : OpD X S (compareOp op') g') (ha : PD X S a fa) (hb : PD X S b fb) (hc : PD X S c fc) (hm : lastMarks [op, op'] [b, c] = false := by with_unfolding_all rfl) : PD X S (.Compare a [op, op'] [b, c] pos) (mChain fa fb fc g g') :=
  ⟨⟨fun pins s σ H Q I ⟨ρ, st, R, q⟩ => chain_go I R ho ho' ha hb hc q hm⟩⟩
theorem pdt_chain (ho : OpD X S (compareOp op) g) (ho' : OpD X S (compareOp op') g') (ha : PD X S a fa) (hb : PD X S b fb) (hc : PD X S c fc) (hm : lastMarks [op, op'] [b, c] = false := by with_unfolding_all rfl) : PDT X S (.Compare a [op, op'] [b, c] pos) (d1 (mChain fa fb fc g g') toB) := by
  refine ⟨⟨fun pins s σ H Q I h => ?_⟩⟩
  obtain ⟨ρ, st, R, q⟩ := tst_te h
  refine isTrue_chain (thn (ha.pe.run pins s σ H _ I ⟨ρ, st, R, Out.go q (fun x st1 q1 v ρ1 H1 e1 R1 rx => (⟨ρ1, st1, x, e1, R1, rx, q1⟩ :
    ∃ ρ1 st1 x, Ext ρ ρ1 ∧ SR S ρ1 H1 σ st1 ∧ Rep S.G ρ1 v x ∧ ((d1 fb fun y => d1 (g x y) (chK fc g' y)) st1).sat (PoD S ρ σ fun x H1 => ∃ c, x = .bl c ∧ Q c H1) (WantX S ρ σ))) fun _ _ h => h⟩) fun V' s1 ⟨v, H1, I1, r1, ρ1, st1, x, e1, R1, rx, q1⟩ =>
    test_link (thn (hb.pe.run pins s1 σ H1 _ I1 ⟨ρ1, st1, R1, Out.go q1 (fun y st2 q2 u ρ2 H2 e2 R2 ry => (⟨ρ2, st2, y, e2, R2, ry, q2⟩ :
      ∃ ρ2 st2 y, Ext ρ1 ρ2 ∧ SR S ρ2 H2 σ st2 ∧ Rep S.G ρ2 u y ∧ ((d1 (g x y) (chK fc g' y)) st2).sat (PoD S ρ σ fun x H1 => ∃ c, x = .bl c ∧ Q c H1) (WantX S ρ σ))) fun _ _ h => h.mono e1⟩) fun U' s2 ⟨u, H2, I2, r2, ρ2, st2, y, e2, R2, ry, q2⟩ =>
      thn (ho x y pins s2 σ H2 v u V' U' ρ2 st2 (fun z H3 => ∃ ρ3 st3 d, Ext ρ2 ρ3 ∧ SR S ρ3 H3 σ st3 ∧ Rep S.G ρ3 z d ∧ (chK fc g' y d st3).sat (PoD S ρ σ fun x H1 => ∃ c, x = .bl c ∧ Q c H1) (WantX S ρ σ)) I2 r1 r2 R2 (rx.mono e2) ry (Out.go q2 (fun d st3 q3 z ρ3 H3 e3 R3 rz => ⟨ρ3, st3, d, e3, R3, rz, q3⟩) fun _ _ h => h.mono (e1.trans e2)))
        fun D s3 ⟨z, H3, I3, r3, ρ3, st3, d, e3, R3, rz, q3⟩ => ?_)) hm
  cases d with
  | bl k =>
    have ez := rz.bl
    subst ez
    cases r3
    refine wpAny_truthy_bool ?_
    cases k with
    | false =>
      obtain ⟨c', ec, q4⟩ := q3 _ ρ3 H3 ((e1.trans e2).trans e3) R3 rep_bl
      cases ec
      exact ite_ff ⟨H3, I3, q4⟩
    | true =>
      refine ite_tt (test_last (thn (hc.pe.run pins s3 σ H3 (fun w H4 => ∃ ρ4 st4 dw, Ext ρ3 ρ4 ∧ SR S ρ4 H4 σ st4 ∧ Rep S.G ρ4 w dw ∧ (g' y dw st4).sat (PoD S ρ σ fun x H1 => ∃ c, x = .bl c ∧ Q c H1) (WantX S ρ σ)) I3 ⟨ρ3, st3, R3, Out.go q3 (fun dw st4 q4 w ρ4 H4 e4 R4 rw' => ⟨ρ4, st4, dw, e4, R4, rw', q4⟩) fun _ _ h => h.mono ((e1.trans e2).trans e3)⟩) fun W s4 ⟨w, H4, I4, r4, ρ4, st4, dw, e4, R4, rw', q4⟩ => ?_))
      have ee := ((e1.trans e2).trans e3).trans e4
      refine thn (ho' y dw pins s4 σ H4 u w U' W ρ4 st4 _ I4 r2 r4 R4 ((ry.mono e3).mono e4) rw' (Out.sat_mono q4 (fun d st h => PoD.mono ee h) fun _ _ h => h.mono ee)) fun D' s5 ⟨z2, H5, I5, r5, k2, e2', q5⟩ => ?_
      subst e2'
      cases r5
      exact wpAny_truthy_bool ⟨H5, I5, q5⟩
  | _ => exact False.elim q3
theorem pd_orT {h : Dt → M Bool} (ht : TrD X S h) (ha : PD X S a fa) (hb : PD X S (.BoolOp .Or (b :: rest) pos) fb) : PD X S (.BoolOp .Or (a :: b :: rest) pos) (mOrT fa fb h) := by
  refine ⟨⟨fun pins s σ H Q I ⟨ρ, st, R, q⟩ => ?_⟩⟩
  refine PyProof.Rows.BoolOp_or (thn (ha.pe.run pins s σ H _ I ⟨ρ, st, R, Out.go q (fun x st1 q1 v ρ1 H1 e1 R1 rx => (⟨ρ1, st1, x, e1, R1, rx, q1⟩ :
    ∃ ρ1 st1 x, Ext ρ ρ1 ∧ SR S ρ1 H1 σ st1 ∧ Rep S.G ρ1 v x ∧ ((d1 (h x) fun c => if c then fun st => .ok x st else fb) st1).sat (PoD S ρ σ Q) (WantX S ρ σ))) fun _ _ h => h⟩) fun V' s1 ⟨v, H1, I1, r1, ρ1, st1, x, e1, R1, rx, q1⟩ => ?_)
  refine thn (ht x pins s1 σ H1 v V' ρ1 st1 (fun c H2 => ∃ ρ2 st2, Ext ρ1 ρ2 ∧ SR S ρ2 H2 σ st2 ∧ ((if c then fun st => .ok x st else fb : M Dt) st2).sat (PoD S ρ σ Q) (WantX S ρ σ)) I1 r1 R1 rx (Out.go q1 (fun c st2 q2 ρ2 H2 e2 R2 => ⟨ρ2, st2, e2, R2, q2⟩) fun _ _ h => h.mono e1)) fun c s2 ⟨H2, I2, ρ2, st2, e2, R2, q2⟩ => ?_
  cases c with
  | true => exact ⟨v, H2, I2, r1, q2 v ρ2 H2 (e1.trans e2) R2 (rx.mono e2)⟩
  | false => exact hb.pe.run pins s2 σ H2 Q I2 ⟨ρ2, st2, R2, Out.sat_mono q2 (fun d st h => PoD.mono (e1.trans e2) h) fun _ _ h => h.mono (e1.trans e2)⟩
def sPar (i j : Nat) (fs : M (List Dt)) : MS := fun st => (fs st).toS fun ds st1 => match ds with
  | [x, y] => .nx { st1 with sl := (st1.sl.set i (.shr x)).set j (.shr y) }
  | _ => .stuck
theorem pds_par {s : Stmt} {i j : Nat} {fs : M (List Dt)} (h : PS X s (tPar i j (taD S fs))) : PDS X S s (sPar i j fs) := by
  refine ⟨ps_imp h fun D σ H ⟨ρ, st, R, q⟩ => ⟨ρ, st, R, Out.sat_mono (toS_sat (σ := σ) q) (fun ds st1 q1 vs ρ1 H1 e1 R1 rs => ?_) fun _ _ h => h⟩⟩
  match ds, q1, rs with
  | [x, y], q1, rs =>
    obtain ⟨v, u, rfl, r1, r2⟩ := paired2 rs
    exact ⟨v, u, rfl, q1 _ ρ1 H1 e1 ((R1.set r1).set r2)⟩
  | [], q1, _ => exact False.elim q1
  | [_], q1, _ => exact False.elim q1
  | _ :: _ :: _ :: _, q1, _ => exact False.elim q1
def sPar3 (i j l : Nat) (fs : M (List Dt)) : MS := fun st => (fs st).toS fun ds st1 => match ds with
  | [x, y, z] => .nx { st1 with sl := ((st1.sl.set i (.shr x)).set j (.shr y)).set l (.shr z) }
  | _ => .stuck
theorem pds_par3 {s : Stmt} {i j l : Nat} {fs : M (List Dt)} (h : PS X s (tPar3 i j l (taD S fs))) : PDS X S s (sPar3 i j l fs) := by
  refine ⟨ps_imp h fun D σ H ⟨ρ, st, R, q⟩ => ⟨ρ, st, R, Out.sat_mono (toS_sat (σ := σ) q) (fun ds st1 q1 vs ρ1 H1 e1 R1 rs => ?_) fun _ _ h => h⟩⟩
  match ds, q1, rs with
  | [x, y, z], q1, rs =>
    obtain ⟨v, vs', rfl, r1, t⟩ := pr_cons rs
    obtain ⟨u, w, rfl, r2, r3⟩ := paired2 t
    exact ⟨v, u, w, rfl, q1 _ ρ1 H1 e1 (((R1.set r1).set r2).set r3)⟩
  | [], q1, _ => exact False.elim q1
  | [_], q1, _ => exact False.elim q1
  | [_, _], q1, _ => exact False.elim q1
  | _ :: _ :: _ :: _ :: _, q1, _ => exact False.elim q1
def sNever : MS := fun _ => .stuck
theorem pds_never {s : Stmt} : PDS X S s sNever := ⟨ps_imp ps_never fun D σ H ⟨ρ, st, R, q⟩ => q.elim⟩
end
end B
end
section
set_option maxRecDepth 100000
set_option maxHeartbeats 4000000
namespace B
open PySem L2 ClX
open PyProof.Rows
structure Df (K : PySem.W.Frag) (x qual : Str) (st : Stmt) (ps : List Str) (f : Addr) : Prop where
  ex : ∃ fd, Fun K x qual st f fd ∧ Binds K fd ps []
theorem Df.kp {K : PySem.W.Frag} {x qual : Str} {st : Stmt} {ps : List Str} {f : Addr} (D : Df K x qual st ps f) : PySem.W.keepIn K (.ref f) = true := let ⟨_, F, _⟩ := D.ex; F.kp
section
variable {P : Program} {w : World} {K : PySem.W.Frag} {mg : Str → Option Value} {base : Heap}
theorem Df.ok {x qual : Str} {st : Stmt} {f : Addr} {N ps : List Str} {k : Nat} {G : Cfg} {g : MS} (D : Df K x qual st ps f) (S : FnScope N ps (defScope st))
    (hbody : ∀ (cdv : Value) (A : Around) (outer : List Env) (s : Shared) (H : Hp) (E : XK) (ρ : Fz), RoomG k (A.deeper (envOfC qual (defScope st) s.heap.objs.size f cdv)) →
      PDB (cxOf (L2.CX P w) P w K mg base N qual (defScope st) f cdv A outer s H E) ⟨G, H, ρ, fun c d _ H => E c d H, []⟩ (defBody st) g) :
    FnG P w K mg base (L2.CX P w) (k + 1) f (spD G (runB N.length ps.length g)) := by
  obtain ⟨fd, F, b⟩ := D.ex
  refine ((fn_d F S hbody).raw b (.nil : Vals [] [])).imp fun vs H Q E h => ?_
  rw [List.append_nil]
  exact h
end
section
variable {X : Cx} {S : Ss} {i : Nat}
def sOut (i : Nat) (f : MS) : MS := fun st => match f st with
  | .nx st1 => (match goOut i st.w.length st1 with | some st2 => .nx st2 | none => .stuck)
  | .ret r st1 => .ret r st1
  | .exc x st1 => .exc x st1
  | _ => .stuck
theorem pds_out {s : Stmt} {f : MS} (h : PDS X S s f) : PDS X S s (sOut i f) := by
  refine ⟨ps_imp h.ps fun D σ H ⟨ρ, st, R, q⟩ => ?_⟩
  unfold sOut at q
  refine ⟨ρ, st, R, ?_⟩
  cases ef : f st with
  | nx st1 =>
    rw [ef] at q
    dsimp only at q
    cases eo : goOut i st.w.length st1 with
    | none => rw [eo] at q; exact q.elim
    | some st2 =>
      rw [eo] at q
      intro σ1 ρ1 H1 x1 R1
      have hl : ρ.io.length = st.w.length := R.cov.len
      have hl1 : ρ1.io.length = st.w.length + 1 := by
        have c := R1.cov.len
        unfold goOut at eo
        split at eo
        case h_2 => cases eo
        split at eo
        case isFalse => cases eo
        rename_i hc
        rw [c]; exact hc.1
      obtain ⟨p, hp⟩ : ∃ p, ρ1.io[st.w.length]? = some p := ⟨ρ1.io[st.w.length]'(by omega), List.getElem?_eq_getElem _⟩
      have e1 : Ext ⟨ρ.F, ρ.io ++ [p]⟩ ρ1 := ⟨x1.F, fun n a h => by
        by_cases hn : n < ρ.io.length
        · rw [List.getElem?_append_left hn] at h; exact x1.io n a h
        · rw [List.getElem?_append_right (by omega)] at h
          have : n - ρ.io.length = 0 := by
            by_cases z : n - ρ.io.length = 0
            · exact z
            · rw [List.getElem?_eq_none (by show 1 ≤ _; omega)] at h; cases h
          rw [this] at h
          cases h
          have : n = st.w.length := by omega
          rw [this]; exact hp⟩
      have m1 : p ∈ ρ1.io := List.mem_of_getElem? hp
      have hp0 : S.H0 p = none := by
        rcases R1.stp.nio p m1 with m | m
        · obtain ⟨j, hj⟩ := List.getElem?_of_mem m
          have a := R.stp.ext.io j p hj
          have b := x1.io j p a
          have hj2 : j < ρ.io.length := (List.getElem?_eq_some_iff.mp a).1
          have := (List.getElem?_inj (i := j) (j := st.w.length) (l := ρ1.io) (by omega) R1.cov.nd).mp (b.trans hp.symm)
          omega
        · exact m
      obtain ⟨ex, R2⟩ := SR.goOut (p := p) (ρ := ρ) e1 hl R1 (.inr trivial) R.stp.ext hp0 eo
      exact q σ1 _ H1 ex R2
  | ret r st1 => rw [ef] at q; exact q
  | exc x st1 => rw [ef] at q; exact q
  | bk st1 => rw [ef] at q; exact q.elim
  | ct st1 => rw [ef] at q; exact q.elim
  | stuck => rw [ef] at q; exact q.elim
end
end B
end
section
set_option maxRecDepth 100000
set_option maxHeartbeats 4000000
namespace B
open PySem L2 ClX
open PyProof.Rows
abbrev gSorted : List Dt → M Dt := fun ds => opt ((srt1 ds).or (srtK ds))
abbrev gAllB : List Dt → M Dt := fun ds => opt (allD ds)
abbrev gAnyB : List Dt → M Dt := fun ds => opt (anyD ds)
abbrev gInt : List Dt → M Dt := fun ds => opt (intD ds)
abbrev gTuple : List Dt → M Dt := fun ds => opt ((tupD ds).or (match ds with | [x] => tupK x | _ => none))
abbrev gList : List Dt → M Dt := fun ds => opt ((lstD ds).or (keysD ds))
abbrev gDict : List Dt → M Dt := fun ds => opt (dicD ds)
abbrev gIsi (is : IsT) : List Dt → M Dt := fun ds st => opt (isD is st.w ds) st
abbrev aTup (fs : M (List Dt)) : M Dt := d1 fs fun xs => opt (mkTup xs)
abbrev aLst (fs : M (List Dt)) : M Dt := d1 fs fun xs => opt (mkLst xs)
def tyNames : List String := ["NoneType", "bool", "int", "str", "tuple", "list", "dict"]
def isB2 (a b : String) : Bool := a == b || (a == "bool" && b == "int")
def isB : IsT := fun t c => match t, c with
  | .ty a, .ty b => if tyNames.contains a && tyNames.contains b then some (isB2 a b) else none
  | _, _ => none
theorem isB_one (K : PySem.W.Frag) : ∀ a ∈ tyNames, ∀ b ∈ tyNames, PySem.W.kitOne K (.type a) (.type b) = some (isB2 a b) := by
  unfold tyNames
  simp only [List.forall_mem_cons]
  refine ⟨⟨?_, ?_, ?_, ?_, ?_, ?_, ?_, fun _ h => nomatch h⟩, ⟨?_, ?_, ?_, ?_, ?_, ?_, ?_, fun _ h => nomatch h⟩, ⟨?_, ?_, ?_, ?_, ?_, ?_, ?_, fun _ h => nomatch h⟩, ⟨?_, ?_, ?_, ?_, ?_, ?_, ?_, fun _ h => nomatch h⟩, ⟨?_, ?_, ?_, ?_, ?_, ?_, ?_, fun _ h => nomatch h⟩, ⟨?_, ?_, ?_, ?_, ?_, ?_, ?_, fun _ h => nomatch h⟩, ⟨?_, ?_, ?_, ?_, ?_, ?_, ?_, fun _ h => nomatch h⟩, fun _ h => nomatch h⟩ <;> with_unfolding_all rfl
theorem isf0 {X : Cx} {G : Cfg} : IsF X G isB := by
  refine ⟨fun t c b h => ?_, fun c t b h => ?_⟩
  · unfold isB at h
    split at h
    · rename_i a b'
      split at h
      · rename_i q
        rw [Bool.and_eq_true, List.contains_iff_mem, List.contains_iff_mem] at q
        refine ⟨_, _, rfl, rfl, ?_⟩
        rw [isB_one X.K a q.1 b' q.2, h]
      · cases h
    · cases h
  · cases h
end B
end
section
set_option maxRecDepth 100000
set_option maxHeartbeats 4000000
namespace B
open PySem L2 ClX
open PyProof.Rows
structure Dk (K : PySem.W.Frag) (x qual : Str) (st : Stmt) (nm : Str) (f : Addr) : Prop where
  ex : ∃ (oc : Value) (od : Option Addr) (kV doc pm : Value) (an : Option Addr) (cdv ct : Value) (osl : Array (Option Value)),
    K.lookup f = some ⟨oc, od, .func (PySem.W.fnOf x qual (defArgs st) (defBody st) (defScope st) .none kV doc pm an cdv ct), osl⟩ ∧ PySem.W.codeIn K cdv qual = true
  ar : ∃ self nmA : Arg, (defArgs st).posonlyargs = [] ∧ (defArgs st).args = [self] ∧ (defArgs st).kwonlyargs = [] ∧ (defArgs st).vararg = none ∧ (defArgs st).kwarg = some nmA ∧ self.arg = ("self" : Str) ∧ nmA.arg = nm
theorem Dk.ok {X : Cx} {x qual nm : Str} {st : Stmt} {f : Addr} {N : List Str} {k : Nat} {G : Cfg} {g : MS} (D : Dk X.K x qual st nm f) (S : FnScope N ["self", nm] (defScope st))
    (hbody : ∀ (cdv : Value) (A : Around) (outer : List Env) (s : Shared) (H : Hp) (E : XK) (ρ : Fz), RoomG k (A.deeper (envOfC qual (defScope st) s.heap.objs.size f cdv)) →
      PDB (cxOf (L2.CX X.prog X.w) X.prog X.w X.K X.mg X.base N qual (defScope st) f cdv A outer s H E) ⟨G, H, ρ, fun c d _ H => E c d H, []⟩ (defBody st) g) :
    FnKw X G (k + 1) f (runB N.length 2 g) := by
  obtain ⟨oc, od, kV, doc, pm, an, cdv, ct, osl, lk, hcd⟩ := D.ex
  obtain ⟨self, nmA, h1, h2, h3, h4, h5, h6, h7⟩ := D.ar
  refine ⟨PySem.W.fnOf x qual (defArgs st) (defBody st) (defScope st) .none kV doc pm an cdv ct, self, nmA, h1, h2, h3, h4, h5, rfl, h6, ?_⟩
  rw [h6, h7]
  have hpl : 2 ≤ N.length := by have := congrArg List.length S.pre; rw [List.length_take] at this; show _; simp at this; omega
  refine fn_tail lk hcd S fun A outer s H vs Q E hr h => ?_
  obtain ⟨ρ, wd, ds, c, r, q⟩ := h
  unfold runB at q
  split at q
  case isFalse => exact q.elim
  rename_i e
  refine ⟨_, (hbody cdv A outer s H E ρ hr).ps, ρ, _, start_ok c r e hpl, ?_⟩
  cases o : g ⟨ds.map .shr ++ List.replicate (N.length - 2) .emp, wd⟩ with
  | nx st => rw [o] at q; exact fun σ ρ' H' _ R => q .non ρ' H' R.stp rep_non
  | ret d st => rw [o] at q; exact fun v σ ρ' H' _ R r => q v ρ' H' R.stp r
  | exc x st => rw [o] at q; exact fun cls dd σ ρ' H' _ R r => q cls dd ρ' H' R.stp r
  | bk st => rw [o] at q; exact q.elim
  | ct st => rw [o] at q; exact q.elim
  | stuck => rw [o] at q; exact q.elim
section
variable {X : Cx} {S : Ss}
structure Kon (K : PySem.W.Frag) (mg : Str → Option Value) (x : Str) (d : Dt) : Prop where
  ex : ∃ (u : Value) (v : V), mg x = some u ∧ RelV v u ∧ ∀ (G : Cfg) (ρ : Fz), G.K = K → Rep G ρ v d
theorem pd_kon {x : Str} {d : Dt} {pos : Pos} (k : Kon X.K X.mg x d) (hk : S.G.K = X.K) (hg : Gl X x := by rfl) (hd : (x == ("__debug__" : Str)) = false := by decide) : PD X S (.Name x pos) (dC d) := by
  obtain ⟨u, v, h1, h2, h3⟩ := k.ex
  exact pd_const (pe_glob hg h1 h2 hd) fun ρ => h3 S.G ρ hk
end
theorem kon_int {K : PySem.W.Frag} {mg : Str → Option Value} {x : Str} {i : Int} {t : Tok} (h : mg x = some (.int i t)) : Kon K mg x (.int i) := ⟨_, .int i, h, ⟨t, rfl⟩, fun _ _ _ => rep_int⟩
theorem kon_str {K : PySem.W.Frag} {mg : Str → Option Value} {x i : Str} {t : Tok} (h : mg x = some (.str i t)) : Kon K mg x (.str i) := ⟨_, .str i, h, ⟨t, rfl⟩, fun _ _ _ => rep_str⟩
structure KonT (K : PySem.W.Frag) (mg : Str → Option Value) (x : Str) (xs : List Str) : Prop where
  ex : ∃ a : Addr, mg x = some (.ref a) ∧ ∃ (od : Option Addr) (its : Array Value) (n : Nat) (sl : Array (Option Value)), K.lookup a = some ⟨.type "tuple", od, .seq its n, sl⟩ ∧ Vals (xs.map V.str) its.toList ∧ its.size ≤ sizeLine
theorem kon_strs {K : PySem.W.Frag} {mg : Str → Option Value} {x : Str} {xs : List Str} {its : Array Value} {n : Nat} {a : Addr} {od : Option Addr} {sl : Array (Option Value)} (h : mg x = some (.ref a)) (l : K.lookup a = some ⟨.type "tuple", od, .seq its n, sl⟩)
    (hv : Vals (xs.map V.str) its.toList) (hz : its.size ≤ sizeLine) : KonT K mg x xs := ⟨a, h, od, its, n, sl, l, hv, hz⟩
def inKB (xs : List Str) (x : Dt) : Option Bool := (vD x).map fun v => inV v (xs.map V.str)
def inKU (xs : List Str) (x : Dt) : M Dt := opt ((inKB xs x).map .bl)
section
variable {X : Cx} {S : Ss} {e : Expr} {fe : M Dt} {x : Str} {xs : List Str} {p pos : Pos}
theorem flat_strs (xs : List Str) : (xs.map V.str).all flatV = true := by
  rw [List.all_map]
  exact List.all_eq_true.mpr fun _ _ => rfl
theorem inK_te {a : Addr} {σ : L2.St} {H : Hp} {Q : VK} (hs : ∀ H, SqT X.K H a (xs.map V.str)) (h : teD S (d1 fe (inKU xs)) σ H Q) : tOp (rIn X.K false) (teD S fe) (tC (.ref a)) σ H Q := by
  obtain ⟨ρ, st, R, q⟩ := h
  refine ⟨ρ, st, R, Out.sat_mono (Out.sat_bind q) (fun d st1 q1 v ρ1 H1 e1 R1 r1 => ?_) fun _ _ h => h⟩
  have q1 : (opt ((inKB xs d).map .bl) st1).sat (PoD S ρ σ Q) (WantX S ρ σ) := q1
  unfold inKB at q1
  cases ev : vD d with
  | none => rw [ev] at q1; exact q1.elim
  | some z =>
    rw [ev] at q1
    obtain ⟨rfl, f1⟩ := vD_rep r1 ev
    exact ⟨a, _, rfl, .inr (hs H1), f1, flat_strs xs, q1 _ ρ1 H1 e1 R1 rep_bl⟩
theorem pdt_inK (k : KonT X.K X.mg x xs) (he : PD X S e fe) (hg : Gl X x := by rfl) (hd : (x == ("__debug__" : Str)) = false := by decide) (hm : behindInMarks .In (.Name x p) = false := by rfl) : PDT X S (.Compare e [.In] [.Name x p] pos) (d1 (d1 fe (inKU xs)) toB) := by
  obtain ⟨a, h1, od, its, n, sl, hk, hv, hz⟩ := k.ex
  exact ⟨pt_imp (pt_cmpR op_in_seq he.pe (pe_glob (v := .ref a) hg h1 rfl hd) hm) fun σ H Q h => inK_te (fun _ => .inr ⟨_, its, n, hk, rfl, rfl, hz, hv⟩) (tst_te h)⟩
end
def spLaw (K : PySem.W.Frag) : Sp := fun vs H Q _ => ∃ (a : Addr) (ns : List Int), vs = [.ref a] ∧ SqL K H a (ns.map V.int) ∧ ns.length ≤ 63 ∧ ∀ H', Q (.bl true) H'
theorem law_sp {G : Cfg} {m : FnM} (h0 : G.tb = []) (h : ∀ ns : List Int, ns.length ≤ 63 → ∃ w, m [.set (ns.map Dt.int)] [] = .ok (.bl true) w) : ∀ vs H Q E, spLaw G.K vs H Q E → spD G m vs H Q E := by
  rintro vs H Q E ⟨a, ns, rfl, hS, hl, q⟩
  obtain ⟨w, e⟩ := h ns hl
  have pr : ∀ (ρ : Fz), Paired (Rep G ρ) (ns.map V.int) (ns.map Dt.int) := fun ρ => by
    clear hS hl e
    induction ns with
    | nil => exact .nil
    | cons y ys ih => exact .cons rep_int ih
  by_cases hH : Rd H a (.lst (ns.map V.int))
  · refine ⟨⟨fun b => if b = a then H b else none, []⟩, [], [.set (ns.map Dt.int)], ⟨fun b o z => ?_, rfl, fun n _ _ z => (by simp at z), List.nodup_nil, fun p z => (by rw [h0] at z; cases z)⟩, .cons (.mk ⟨a, _, rfl, .inl ?_, pr _⟩) .nil, ?_⟩
    · by_cases eb : b = a
      · have z' : (if b = a then H b else none) = some o := z
        rw [if_pos eb] at z'
        exact z'
      · have z' : (if b = a then H b else none) = some o := z
        rw [if_neg eb] at z'
        cases z'
    · rcases hH with z | ⟨o, z⟩
      · exact .inl ((if_pos rfl).trans z)
      · exact .inr ⟨o, (if_pos rfl).trans z⟩
    · rw [e]
      exact fun v ρ' H' _ r => by
        have := r.bl
        subst this
        exact q H'
  · refine ⟨⟨fun b => none, []⟩, [], [.set (ns.map Dt.int)], ⟨fun b o z => (nomatch z), rfl, fun n _ _ z => (nomatch z), List.nodup_nil, fun p z => (by rw [h0] at z; cases z)⟩, .cons (.mk ⟨a, _, rfl, .inr (hS.resolve_left hH), pr _⟩) .nil, ?_⟩
    rw [e]
    exact fun v ρ' H' _ r => by
      have := r.bl
      subst this
      exact q H'
end B
end
section
set_option maxRecDepth 100000
set_option maxHeartbeats 4000000
namespace B
open PySem L2 ClX
open PyProof.Rows
def truN (x : Dt) : M Bool := fun st => match insOf st.w x with
  | some _ => .stuck
  | none => opt (truD st.w x) st
theorem trd_n {X : Cx} {S : Ss} (hk : S.G.K = X.K) : TrD X S truN := by
  intro x pins s σ H v V' ρ st Q I rv R rx q
  unfold truN at q
  split at q
  · exact q.elim
  · exact trp_tru hk pins s σ H v V' ρ st Q I rv R rx q
theorem cx_none {P : Program} {w : World} {H : Hp} {s s' : Shared} {u : Value} (z : L2.CX P w [] H s (fun _ _ _ => False) u s') : False := by
  obtain ⟨_, _, _, _, _, _, _, _, _, _, _, _, z⟩ := z
  exact z
end B
end
section
set_option maxRecDepth 100000
set_option maxHeartbeats 4000000
namespace B
open PySem L2 ClX
open PyProof.Rows (envOfC subscriptTail isTrue_plain)
section
variable {X : Cx} {S : Ss} {k : Nat}
theorem ne_slot {prog : Program} {w : World} {A : Around} {E : Value → Shared → Prop} {s : Shared} {K : PySem.W.Frag} {x y C f : Addr} {ox : Obj} {od : Option Obj} {Q : Value → Shared → Prop}
    (hu : A.in1.units < cLine) (kin : K.In s.heap) (J : PySem.W.InstAt s.heap x ox C od) (hs : PySem.W.subIn K (.ref C) (.type "object") = some true) (h1 : PySem.W.findIn K (.ref C) "__eq__" = some (some (.ref f))) (h2 : PySem.W.isFn K (.ref f) = true)
    (h : wpAny (model prog w) A.in1 (call (.ref f) [.ref x, .ref y]) (fun v s' => ∃ b, v = .bool b ∧ Q (.bool (!b)) s') E s) :
    wpAny (model prog w) A (call (.builtin "object.__ne__") [.ref x, .ref y]) Q E s := by
  refine wpAny_call (codeAny_call_builtin PySem.F.slot_object_ne.plain PySem.F.entry_object_ne (PySem.W.check_slot PySem.F.cmpKind_ne PySem.F.cmpSplit_ne (fun A2 Q2 E2 s2 hs2 q2 => ?_) (PySem.F.args_object_ne_2 _ _) ?_))
  · unfold isInstance
    exact wpAny_bind (J.type A2 _ E2 s2 hs2 (PySem.W.looks_subIn kin hs A2 Q2 E2 s2 hs2 q2))
  · unfold Builtin.«object.__ne__»
    refine wpAny_bind (wpAny_of_eq (a := (Value.ref x, [Value.ref y])) rfl ?_)
    dsimp only
    refine wpAny_bind (wpAny_cRoomFor hu ?_)
    refine wpAny_bind (PySem.W.ifBound_K kin J h1 h2 (wpAny_mono h (fun v s' ⟨b, ev, q⟩ => ?_) fun _ _ z => z))
    subst ev
    exact wpAny_bind (wpAny_truthy_bool (wpAny_pure q))
theorem ne_own {prog : Program} {w : World} {A : Around} {E : Value → Shared → Prop} {s : Shared} {K : PySem.W.Frag} {x y C f : Addr} {ox oy : Obj} {od od' : Option Obj} {Q : Value → Shared → Prop}
    (hu : A.in1.units < cLine) (hu0 : A.units < cLine) (kin : K.In s.heap) (J : PySem.W.InstAt s.heap x ox C od) (J' : PySem.W.InstAt s.heap y oy C od') (hs : PySem.W.subIn K (.ref C) (.type "object") = some true)
    (h0 : PySem.W.findIn K (.ref C) "__ne__" = some (some (.builtin "object.__ne__"))) (h1 : PySem.W.findIn K (.ref C) "__eq__" = some (some (.ref f))) (h2 : PySem.W.isFn K (.ref f) = true)
    (h : wpAny (model prog w) A.in1 (call (.ref f) [.ref x, .ref y]) (fun v s' => ∃ b, v = .bool b ∧ Q (.bool (!b)) s') E s) :
    wpAny (model prog w) A (compareOp .NotEq (.ref x) (.ref y)) Q E s := by
  refine PySem.W.cmp_ofNotEq ?_
  unfold richCompare
  refine wpAny_holding (wpAny_bind (wpAny_cRoomFor hu0 ?_))
  show wpAny _ _ (typeOf _ >>= _) _ _ _
  refine wpAny_bind (J.type A _ E s (fun _ _ z => z) ?_)
  refine wpAny_bind (J'.type A _ E s (fun _ _ z => z) ?_)
  rw [if_neg (by simp)]
  refine wpAny_bind (wpAny_pure ?_)
  dsimp only
  rw [if_neg Bool.false_ne_true]
  unfold tryCompare callSpecialIfBound?
  refine wpAny_bind (wpAny_bind (wpAny_holding (wpAny_bind ?_)))
  unfold bindSpecialIfBound? specialOf
  refine wpAny_bind (wpAny_bind (J.type A _ E s (fun _ _ z => z) (PySem.W.looks_findIn kin h0 A _ E s (fun _ _ z => z) ?_)))
  dsimp only
  refine wpAny_bind (wpAny_askSetting ?_)
  have bd : ∀ Q' : Option (Value × List Value) → Shared → Prop, Q' (some (.builtin "object.__ne__", [.ref x])) s → ∀ E', wpAny (model prog w) A (bindSpecial (.builtin "object.__ne__") (.ref x) >>= fun r => pure (some r)) Q' E' s := fun Q' q E' =>
    wpAny_bind (wpAny_of_eq (PySem.F.slot_object_ne.bind _) (wpAny_pure q))
  have fin : wpAny (model prog w) A (call (.builtin "object.__ne__") [.ref x, .ref y]) (fun v s' => (∃ b, v = .bool b) ∧ Q v s') E s := ne_slot hu kin J hs h1 h2 (wpAny_mono h (fun v s' ⟨b, e, q⟩ => ⟨b, e, ⟨_, rfl⟩, q⟩) fun _ _ z => z)
  split
  · refine bd _ ?_ _
    refine wpAny_bind (wpAny_mono fin (fun v s' ⟨⟨b, e⟩, q⟩ => ?_) fun _ _ z => z)
    subst e
    exact wpAny_pure (wpAny_pure (wpAny_pure q))
  · refine wpAny_tryCatch (bd _ ?_ _)
    refine wpAny_bind (wpAny_mono fin (fun v s' ⟨⟨b, e⟩, q⟩ => ?_) fun _ _ z => z)
    subst e
    exact wpAny_pure (wpAny_pure (wpAny_pure q))
end
end B
end
section
set_option maxRecDepth 100000
set_option maxHeartbeats 4000000
namespace B
open PySem L2 ClX
open PyProof.Rows (envOfC subscriptTail isTrue_plain)
section
variable {X : Cx} {S : Ss} {k : Nat}
structure NeF (X : Cx) (G : Cfg) (ow : Ow) : Prop where
  f : ∀ c m, ow c = some m → ∃ C, G.cl c = some C ∧ PySem.W.findIn X.K (.ref C) "__ne__" = some (some (.builtin "object.__ne__")) ∧ PySem.W.subIn X.K (.ref C) (.type "object") = some true
def ownNe (ow : Ow) (x y : Dt) : M Dt := fun st => match insOf st.w x, insOf st.w y with
  | some (c, _), some (c', _) => if c = c' then (match ow c with
    | some m => ((callM m [x, y] st).bind toB).bind fun b st' => .ok (.bl (!b)) st'
    | none => .stuck) else .stuck
  | _, _ => .stuck
theorem opp_ne_own {x y : Dt} (ow : Ow) (F : OwF X S.G k "__eq__" ow) (N : NeF X S.G ow) (hr : RoomG (k + 1) X.A) (tk : Takes X S.W) : OpP X S (compareOp .NotEq) x y (ownNe ow x y) := by
  intro pins s σ H v u V' U' ρ st Q I rv ru R rx ry q
  unfold ownNe at q
  cases e : insOf st.w x with
  | none => rw [e] at q; exact q.elim
  | some cf =>
    cases e' : insOf st.w y with
    | none => rw [e, e'] at q; exact q.elim
    | some cf' =>
      obtain ⟨c, fs⟩ := cf
      obtain ⟨c', fs'⟩ := cf'
      rw [e, e'] at q
      dsimp only at q
      split at q
      case isFalse => exact q.elim
      rename_i ec
      subst ec
      cases em : ow c with
      | none => rw [em] at q; exact q.elim
      | some m =>
        rw [em] at q
        obtain ⟨a, C, dx, es, rfl, hc, ha, _⟩ := ins_at R.cov rx e
        obtain ⟨b, C2, dx2, es2, rfl, hc2, hb, _⟩ := ins_at R.cov ry e'
        obtain ⟨C', g, hc', h1, h2, h3, h4, Fm⟩ := F.f c m em
        rw [hc] at hc'; cases hc'
        rw [hc] at hc2; cases hc2
        obtain ⟨C3, hc3, n1, n2⟩ := N.f c m em
        rw [hc] at hc3; cases hc3
        cases rv
        cases ru
        obtain ⟨mA, J, _⟩ := ins_get I.hok ha
        obtain ⟨mB, J', _⟩ := ins_get I.hok hb
        obtain ⟨od, J, _⟩ := J.look
        obtain ⟨od', J', _⟩ := J'.look
        refine ne_own hr.in1.units0 hr.units0 I.kIn J J' n2 n1 h1 h2 ?_
        have run : wpAny (model X.prog X.w) X.A.in1 (call (.ref g) [.ref a, .ref b]) (EP X pins σ fun z H1 => ∃ b, z = .bl b ∧ Q (.bl (!b)) H1) X.xe s := by
          refine run_DA (A := X.A.in1) rfl Fm hr.in1 tk I (.cons (show RelV (V.ref a) (Value.ref a) from rfl) (.cons (show RelV (V.ref b) (Value.ref b) from rfl) .nil)) R (.cons rx (.cons ry .nil)) ?_
          refine Out.sat_mono (Out.sat_bind (Out.sat_bind q)) (fun d st1 q1 z ρ1 H1 e1 R1 r1 => ?_) fun _ _ h => h
          cases d with
          | bl b => exact ⟨b, r1.out, q1 _ ρ1 H1 e1 R1 rep_bl⟩
          | _ => exact False.elim q1
        refine thn run fun r s' ⟨z, H1, I1, r1, b, ez, q1⟩ => ?_
        subst ez
        cases r1
        exact ⟨b, rfl, .bl _, H1, I1, rfl, q1⟩
def neV (ow : Ow) : MO2 := fun x y => byIns x (ownNe ow x y) (opt (neD x y))
theorem opd_neV {ow : Ow} (hk : S.G.K = X.K) (F : OwF X S.G k "__eq__" ow) (N : NeF X S.G ow) (hr : RoomG (k + 1) X.A) (tk : Takes X S.W) : OpD X S (compareOp .NotEq) (neV ow) := fun x y =>
  opp_ins (opp_ne_own ow F N hr tk) (opp_of (op_neD hr.units) (hk ▸ dop_ne))
end
end B
end
section
set_option maxRecDepth 100000
set_option maxHeartbeats 4000000
namespace B
open PySem PySem.SeqAt L2 ClX PyProof.V
open PyProof.Rows (envOfC subscriptTail isTrue_plain)
section
variable {prog : Program} {w : World} {A : Around} {E : Value → Shared → Prop} {s : Shared}
open Builtin in
theorem code_bool_any {Q₁ : Value → Shared → Prop} {v : Value}
    (h : wpAny (model prog w) A.in1 (truthy v) (fun b s' => Q₁ (.bool b) s') (fun e s' => wants Q₁ E (.error e) s') s) :
    codeAny (model prog w) A (.call (.builtin "bool.__new__") ⟨[.type "bool", v], []⟩) (wants Q₁ E) s := by
  have hp : plainId "bool.__new__" = true := by decide +kernel
  refine codeAny_of_tree ?_
  show wpAny _ A.in1 (do checkBuiltinCall "bool.__new__" ⟨[.type "bool", v], []⟩; again (.builtin "bool.__new__" ⟨[.type "bool", v], []⟩)) _ _ s
  refine wpAny_bind (wpAny_of_eq (F.newCall_bool_1 _) (wpAny_pure ⟨plainId_quiet hp _, codeAny_builtin F.entry_bool_new ?_⟩))
  rw [Around.under_plainId hp _]
  have hsub : isSubtype (.type "bool") (.type "bool") = pure true := by first | rfl | kernel_rfl
  unfold Builtin.«bool.__new__»
  dsimp only
  refine wpAny_bind (wpAny_of_eq (a := true) (by rfl) ?_)
  rw [if_neg (by simp)]
  refine wpAny_bind (wpAny_of_eq hsub ?_)
  rw [if_neg (by simp)]
  refine wpAny_bind (wpAny_of_eq (a := [v]) (by rfl) ?_)
  dsimp only
  exact wpAny_bind (wpAny_mono h (fun b s' q => wpAny_pure q) fun _ _ z => z)
theorem call_bool_any {Q : Value → Shared → Prop} {v : Value}
    (h : wpAny (model prog w) A.in1.in1 (truthy v) (fun b s' => Q (.bool b) s') E s) :
    wpAny (model prog w) A (call (.type "bool") [v]) Q E s := by
  refine callType_codes (Q₁ := fun obj s₁ => (∃ b, obj = .bool b) ∧ Q obj s₁) F.called_bool (F.typeCall_bool_1 _) F.entry_object_init
    (code_bool_any (A := A.in1) (wpAny_mono h (fun b s' hq => ⟨⟨b, rfl⟩, hq⟩) fun _ _ z => z)) fun obj s₁ ⟨⟨b, eb⟩, h₁⟩ => ?_
  subst eb
  exact ⟨rfl, F.args_object_init_2 _ _, object_init_meets F.called_bool.init.lookup F.called_bool.made (by decide) prog w A.in1 _ s₁ ⟨rfl, rfl, h₁⟩⟩
end
section
variable {X : Cx} {S : Ss} {k : Nat}
def boolV (ow : Ow) (ds : List Dt) : M Dt := fun st => match ds with
  | [x] => match insOf st.w x with
    | some (c, _) => match ow c with
      | some m => ((callM m [x] st).bind toB).bind fun b st' => .ok (.bl b) st'
      | none => .stuck
    | none => match resD st.w x with
      | some (.dic kvs) => if kvs.all (fun kv => isKey kv.1) then .ok (.bl (!kvs.isEmpty)) st else .stuck
      | _ => .stuck
  | _ => .stuck
theorem cad_bool {ow : Ow} (F : OwF X S.G k "__bool__" ow) (hr : RoomG (k + 2) X.A) (tk : Takes X S.W) : CaD X S (fun us => call (.type "bool") us) (boolV ow) := by
  intro xs pins s σ H vs us ρ st Q I rv R rxs q
  unfold boolV at q
  split at q
  case h_2 => exact q.elim
  rename_i x
  obtain ⟨v, rfl, rx⟩ := paired1 rxs
  obtain ⟨u, rfl, ru⟩ := vals1 rv
  cases e : insOf st.w x with
  | some cf =>
    obtain ⟨c, fs⟩ := cf
    rw [e] at q
    dsimp only at q
    cases em : ow c with
    | none => rw [em] at q; exact q.elim
    | some m =>
      rw [em] at q
      obtain ⟨a, C, dx, es, rfl, hc, ha, _⟩ := ins_at R.cov rx e
      obtain ⟨C', g, hc', h1, h2, h3, h4, Fm⟩ := F.f c m em
      rw [hc] at hc'; cases hc'
      cases ru
      obtain ⟨mA, J, _⟩ := ins_get I.hok ha
      obtain ⟨od, J, _⟩ := J.look
      obtain ⟨mm, hF⟩ := I.fr
      refine call_bool_any (PySem.W.truthy_K hF I.ok.mod.kin J h1 h2 (thn (run_DA (A := X.A.in1.in1) (Q := fun z H1 => ∃ b, z = .bl b ∧ Q (.bl b) H1) rfl Fm hr.in1.in1 tk I (.cons (show RelV (V.ref a) (Value.ref a) from rfl) .nil) R (.cons rx .nil) ?_) fun r s' ⟨z, H1, I1, r1, b, ez, q1⟩ => ?_))
      · refine Out.sat_mono (Out.sat_bind (Out.sat_bind q)) (fun d st1 q1 z ρ1 H1 e1 R1 r1 => ?_) fun _ _ h => h
        cases d with
        | bl b => exact ⟨b, r1.out, q1 _ ρ1 H1 e1 R1 rep_bl⟩
        | _ => exact False.elim q1
      · subst ez
        cases r1
        exact ⟨.bl b, H1, I1, rfl, q1⟩
  | none =>
    rw [e] at q
    dsimp only at q
    split at q
    case h_2 => exact q.elim
    rename_i kvs er
    split at q
    case isFalse => exact q.elim
    rename_i hall
    obtain ⟨a, o, rfl, hr', dr⟩ := dic_at R.cov rx er
    obtain ⟨es, rfl, p⟩ := dicK_all dr hall
    cases ru
    obtain ⟨hz, hS, vs, r, m⟩ := dk_rd I.hok hr'
    have hlen : es.length = vs.length := Paired.length r
    have hl := line63
    refine call_bool_any (wpAny_truthy_dict hS m (by omega) ⟨.bl (!kvs.isEmpty), H, I.tok _, ?_, ?_⟩)
    · rw [isEmpty_kv r]
      have : (!es.isEmpty) = !kvs.isEmpty := by cases p <;> rfl
      rw [this]; rfl
    · exact q _ ρ H (Ext.refl ρ) R rep_bl
structure SMet (K : PySem.W.Frag) (C : Addr) (mc : Value) (m : Str) (g : Addr) : Prop where
  at_ : ∃ p rest, PySem.W.findCls K (.ref C) mc m = some (.get (.builtin "staticmethod.__get__") (.ref p) .none (.ref C)) ∧ PySem.W.recIn K p "staticmethod" = some (.ref g :: rest)
  kp : PySem.W.keepIn K (.ref g) = true
theorem cread_ty {K : PySem.W.Frag} {C : Addr} {mc : Value} (r : CRead K C mc) : PySem.W.typeIn K (.ref C) = some mc := by
  have h := r.rd
  unfold PySem.W.readsIn at h
  simp only [Bool.and_eq_true, beq_iff_eq] at h
  exact h.1.1.1.2
theorem pd_smeth {o e : Expr} {es : List Expr} {fs : M (List Dt)} {nm : Str} {apos pos : Pos} {m : FnM} {C g : Addr} {mc : Value} {pl : Sem Bool} (r : CRead X.K C mc) (sm : SMet X.K C mc nm g) (F : FnC X S.G k g m) (hr : RoomG k X.A) (tk : Takes X S.W) (ho : PE X o (tC (.ref C))) (ha : PDA X S (e :: es) fs)
    (hst : starEach (e :: es) X.env = (false, eval e X.env) :: starEach es X.env := by rfl) (hpl : (backTo pos (starEach es X.env)).any (·.1) = false := by rfl)
    (ht : eval (.Call (.Attribute o nm apos) (e :: es) [] pos) X.env = (do
      let ov ← eval o X.env
      standAt apos.atName
      let (f, first) ← holding [ov] (getMethod ov nm pl)
      callWith pos f first (backTo pos (starEach (e :: es) X.env)) (backToKw pos (keywordEach [] X.env))) := by rfl) :
    PD X S (.Call (.Attribute o nm apos) (e :: es) [] pos) (d1 fs (callM m)) := by
  refine ⟨⟨fun pins s σ H Q I ⟨ρ, st, R, q⟩ => ?_⟩⟩
  refine PySem.W.methodCall_KW (pl := pl) (thn (ho.run pins s σ H (fun v H1 => v = .ref C ∧ H1 = H) I ⟨rfl, rfl⟩) fun u s1 ⟨x, H1, I1, rx, ex, eH⟩ => ?_) ht
  subst ex eH
  obtain rfl : u = Value.ref C := rx
  obtain ⟨mm, hF⟩ := I1.fr
  obtain ⟨p, rest, h1, h2⟩ := sm.at_
  refine PySem.W.method_of_cls hF I1.ok.mod.kin r.ga (PySem.W.cls_sm hF I1.ok.mod.kin (cread_ty r) r.rd h1 h2 rfl ?_)
  have I2 : Inv X pins σ H1 { s1 with toks := s1.toks + 1 } := I1.tok _
  refine PySem.W.callWith_K (first := []) (h₀ := X.base) I.ok.mod.kin sm.kp (thn (ha.pa.run pos pins _ σ H1 _ I2 ⟨ρ, st, R, Out.go q (fun ds st1 q1 vs ρ1 H1 e1 R1 rs => (⟨ρ1, st1, ds, e1, R1, rs, q1⟩ :
    ∃ ρ1 st1 ds, Ext ρ ρ1 ∧ SR S ρ1 H1 σ st1 ∧ Paired (Rep S.G ρ1) vs ds ∧ (callM m ds st1).sat (fun d st' => ∀ v ρ' H', Ext ρ ρ' → SR S ρ' H' σ st' → Rep S.G ρ' v d → Q v H') (WantX S ρ σ))) fun _ _ h => h⟩) fun us s1 ⟨vs, H1, I1, r, ρ1, st1, ds, e1, R1, rs, q1⟩ => ⟨I1.kIn, ?_⟩) hst hpl
  exact run_D F hr tk I1 r e1 R1 rs q1
end
structure Dd (K : PySem.W.Frag) (x qual : Str) (st : Stmt) (ps : List Str) (dvs : List V) (f : Addr) : Prop where
  ex : ∃ fd, FunD K x qual (defArgs st) (defBody st) (defScope st) dvs [] f fd ∧ ∃ ds, Vals [] ds ∧ Binds K fd ps ds
theorem Dd.ok {P : Program} {w : World} {K : PySem.W.Frag} {mg : Str → Option Value} {base : Heap} {x qual : Str} {st : Stmt} {f : Addr} {N ps : List Str} {dvs : List V} {k : Nat} {G : Cfg} {g : MS} (D : Dd K x qual st ps dvs f) (S : FnScope N ps (defScope st))
    (hbody : ∀ (cdv : Value) (A : Around) (outer : List Env) (s : Shared) (H : Hp) (E : XK) (ρ : Fz), RoomG k (A.deeper (envOfC qual (defScope st) s.heap.objs.size f cdv)) →
      PDB (cxOf (L2.CX P w) P w K mg base N qual (defScope st) f cdv A outer s H E) ⟨G, H, ρ, fun c d _ H => E c d H, []⟩ (defBody st) g) :
    FnG P w K mg base (L2.CX P w) (k + 1) f (spD G (runB N.length ps.length g)) := by
  obtain ⟨fd, F, ds, dn, b⟩ := D.ex
  cases dn
  have hpl : ps.length ≤ N.length := by have := congrArg List.length S.pre; rw [List.length_take] at this; omega
  obtain ⟨oc, od, dV, kV, doc, pm, an, cdv, ct, osl, rfl, lk, hcd, _, _⟩ := F.ex
  refine (FnOkG.raw (sp := spD G (runB N.length ps.length g)) (call_T (fn_tail lk hcd S fun A outer s H vs Q E hr h => ?_) fun vs H Q E h => ?_) b .nil).imp fun vs H Q E h => ?_
  · obtain ⟨ρ, wd, ds, c, r, q⟩ := h
    unfold runB at q
    split at q
    case isFalse => exact q.elim
    rename_i e
    refine ⟨_, (hbody cdv A outer s H E ρ hr).ps, ρ, _, start_ok c r e hpl, ?_⟩
    cases o : g ⟨ds.map .shr ++ List.replicate (N.length - ps.length) .emp, wd⟩ with
    | nx st => rw [o] at q; exact fun σ ρ' H' _ R => q .non ρ' H' R.stp rep_non
    | ret d st => rw [o] at q; exact fun v σ ρ' H' _ R r => q v ρ' H' R.stp r
    | exc x st => rw [o] at q; exact fun cls dd σ ρ' H' _ R r => q cls dd ρ' H' R.stp r
    | bk st => rw [o] at q; exact q.elim
    | ct st => rw [o] at q; exact q.elim
    | stuck => rw [o] at q; exact q.elim
  · obtain ⟨ρ, wd, ds, c, r, q⟩ := h
    unfold runB at q
    split at q
    · rename_i e; rw [r.length]; exact e
    · exact q.elim
  · show spD _ _ (vs ++ []) H Q E
    rw [List.append_nil]
    exact h
end B
end
section
set_option maxRecDepth 100000
set_option maxHeartbeats 4000000
namespace B
open PySem PySem.SeqAt L2 ClX StX PyProof.V
open PyProof.Rows (envOfC subscriptTail isTrue_plain)
theorem paired_app1 {α β : Type} {P : α → β → Prop} {a : α} {b : β} (z : P a b) : ∀ {vs : List α} {ds : List β}, Paired P vs ds → Paired P (vs ++ [a]) (ds ++ [b])
  | _, _, .nil => .cons z .nil
  | _, _, .cons h t => .cons h (paired_app1 z t)
end B
end
section
set_option maxRecDepth 100000
set_option maxHeartbeats 4000000
namespace B
open PySem PySem.SeqAt L2 ClX StX PyProof.V PySem.Spec PyProof.Rows
section
variable {X : Cx} {S : Ss} {k : Nat}
def mkK0 (mk : Ow) (o : Dt) : M Dt := match o with
  | .cls c => match mk c with
    | some m => initM c m [.dic []]
    | none => stk
  | _ => stk
theorem pd_make0 {x : Str} {p pos : Pos} {fo : M Dt} {mk : Ow} (F : MkF X S.G k mk) (hkeep : ∀ c C, S.G.cl c = some C → mk c ≠ none → PySem.W.keepIn X.K (.ref C) = true) (hr : RoomG (k + 1) X.A) (tk : Takes X S.W) (ho : PD X S (.Name x p) fo) :
    PD X S (.Call (.Name x p) [] [] pos) (d1 fo (mkK0 mk)) := by
  refine ⟨⟨fun pins s σ H Q I ⟨ρ, st, R, q⟩ => ?_⟩⟩
  refine wpAny_Call_Name_kw (thn (ho.pe.run pins s σ H _ I ⟨ρ, st, R, Out.go q (fun o st1 q1 v ρ1 H1 e1 R1 ro => (⟨ρ1, st1, o, e1, R1, ro, q1⟩ :
    ∃ ρ1 st1 o, Ext ρ ρ1 ∧ SR S ρ1 H1 σ st1 ∧ Rep S.G ρ1 v o ∧ ((mkK0 mk o) st1).sat (PoD S ρ σ Q) (WantX S ρ σ))) fun _ _ h => h⟩) fun V' s1 ⟨v, H1, I1, rv, ρ1, st1, o, e1, R1, ro, q1⟩ => ?_)
  cases o with
  | cls c =>
    unfold mkK0 at q1
    dsimp only at q1
    cases em : mk c with
    | none => rw [em] at q1; exact q1.elim
    | some m =>
      rw [em] at q1
      obtain ⟨C, f, hc, M, Fm⟩ := F.f c m em
      obtain ⟨C', rfl, hc'⟩ := ro.out
      rw [hc] at hc'; cases hc'
      cases rv
      refine PySem.W.callWith_K0 (first := []) I1.kIn (hkeep c C hc (by rw [em]; exact fun z => by cases z)) ?_
      refine run_makeKW (kws := []) (es := []) (kvs := []) hc M Fm hr tk I1 R1 .nil .nil .nil (fun y hy => nomatch hy) (Nat.zero_le _) ?_
      exact Out.sat_mono q1 (fun d st h => PoD.mono e1 h) fun x st h => WantX.mono e1 h
  | _ => exact q1.elim
end
end B
end
section
set_option maxRecDepth 100000
set_option maxHeartbeats 4000000
namespace B
open PySem PySem.SeqAt L2 ClX StX PyProof.V PySem.Spec PyProof.Rows
section
variable {X : Cx} {S : Ss} {k : Nat}
def isNonP : PyData → Bool
  | .none => true
  | _ => false
def ltDD (x y : Dt) : Option Dt := match pyD x, pyD y with
  | some p, some q => if PySem.W.alike p q && !isNonP p && decide (p.depth ≤ 60) then some (.bl (PySem.W.dataLt p q)) else none
  | _, _ => none
def ltV (ow : Ow) : MO2 := fun x y => byIns x (ownBin ow x y) (opt ((ltI x y).or ((ltS x y).or (ltDD x y))))
end
def isC (cs : List Str) : IsT := fun t c => match t, c with
  | .cl a, .cl b => if a = b ∧ a ∈ cs then some true else none
  | t, c => isB t c
end B
end
section
set_option maxRecDepth 100000
set_option maxHeartbeats 4000000
namespace B
open PySem L2 ClX
theorem Dd.mk_all {K : PySem.W.Frag} {x qual : Str} {st : Stmt} {ps : List Str} {dvs : List V} {f : Addr} {fd : FuncData} (F : FunD K x qual (defArgs st) (defBody st) (defScope st) dvs [] f fd) (hne : dvs.isEmpty = false) (j : Nat) (hj : dvs.length = j) (hn : 0 < ps.length)
    (h : ∀ (T : Addr) (kV doc pm : Value) (an : Option Addr) (cdv ct : Value) (us its : List Value), us.length = ps.length → its.length = dvs.length →
      ∃ k, bindArgs (PySem.W.fnOf x qual (defArgs st) (defBody st) (defScope st) (.ref T) kV doc pm an cdv ct) ⟨us, []⟩ = (seqItems? (.ref T) >>= k) ∧ k (some its.toArray) = pure (ps.zip (us ++ its.drop j))) : Dd K x qual st ps dvs f := by
  subst hj
  have hd : dvs ≠ [] := fun z => by rw [z] at hne; cases hne
  obtain ⟨ds, h1, h2⟩ := F.binds1 ps.length dvs.length hd (by omega) h
  rw [List.drop_length] at h1
  exact ⟨fd, F, ds, h1, h2⟩
end B
end
section
set_option maxRecDepth 100000
set_option maxHeartbeats 4000000
namespace B
open PySem L2
section
variable {X : Cx} {S : Ss} {k : Nat}
def mtM (nm : Str) (ow : Ow) (fo : M Dt) (fs : M (List Dt)) : M Dt := d1 fo fun x => d1 (okMt nm x) fun _ => fun st => match insOf st.w x with
  | some (c, _) => match ow c with
    | some m => (fs st).bind fun ds => callM m (x :: ds)
    | none => .stuck
  | none => .stuck
end
end B
namespace B
theorem kit_self (K : PySem.W.Frag) (C : PySem.Addr) : PySem.W.kitOne K (.ref C) (.ref C) = some true := by
  unfold PySem.W.kitOne
  exact if_pos (beq_self_eq_true _)
end B
end
section
set_option maxRecDepth 100000
set_option maxHeartbeats 4000000
namespace B
open PySem PySem.Spec PyProof.Rows L2
def LawPost (s₁ : Shared) (r : Result) (s' : Shared) : Prop := r = .ok (.ret (.bool true)) ∧ OldK s₁.heap s'.heap ∧ s'.os = s₁.os ∧ AllBare s'.gens
section
variable {P : Program} {w : World} {K : PySem.W.Frag} {mg mb : Str → Option Value} {CX : CXT} {k : Nat} {fa a : Addr} {fd : FuncData} {x : Str} {sp : Sp} {s₁ : Shared} {vs : List Value} {ns : List Int}
theorem law_at {H : Hp} (KX : K.In s₁.heap) (hns : s₁.heap.Ns mainGlobals mg) (hb : s₁.heap.Ns builtinsNs mb) (hbb : ∀ x : Str, x ≠ "__name__" → mb x = bootBuiltins x) (hlim : s₁.heap.NoLimit) (hg : s₁.gens = #[])
    (ha : s₁.heap.get? a = some { cls := .type "list", data := .seq vs.toArray }) (hr : RoomG k callerA)
    (F : ∀ base : Heap, K.In base → base.Ns mainGlobals mg → FnOkG P w K mg base CX k fa fd [x] sp) (hbind : ∀ (s : Shared) (u : Value), BindsTo s fd ⟨[u], []⟩ [(x, u)])
    (hsp : sp [.ref a] H (fun v _ => v = .bl true) fun _ _ _ => False) (hCX : ∀ e s', CX [] H s₁ (fun _ _ _ => False) e s' → False)
    (hO : Only H) (hok : HOk P w H s₁.heap) (alone : ∀ b u, H b = some u → b = a ∧ K.lookup a = none) :
    codeAny (model P w) callerA (.call (.ref fa) ⟨[.ref a], []⟩) (LawPost s₁) s₁ := by
  have free : ∀ b o, s₁.heap.get? b = some o → (b = a → ∃ q, K.lookup a = some q) ∨ (∀ xs, o.data ≠ .seq xs) → H b = none := by
    intro b o e hh
    cases q : H b with
    | none => rfl
    | some u =>
      obtain ⟨rfl, n⟩ := alone b u q
      rcases hh with hh | hh
      · obtain ⟨q', e'⟩ := hh rfl
        rw [n] at e'; cases e'
      · rw [ha] at e; cases e
        exact absurd rfl (hh _)
  have keepNs : ∀ {b : Addr} {m : Str → Option Value}, s₁.heap.Ns b m → (hidT s₁.heap H).Ns b m := by
    rintro b m ⟨o, es, ep, e, d, r⟩
    exact ⟨o, es, ep, hidT_get e (free b o e (.inr fun xs q => by rw [q] at d; cases d)), d, r⟩
  have KB : K.In (hidT s₁.heap H) := fun b o e => hidT_get (KX b o e) (free b o (KX b o e) (.inl fun q => ⟨o, q ▸ e⟩))
  obtain ⟨mc, l1, l2⟩ := hlim
  have e0 : Env0 P w K mg (hidT s₁.heap H) callerA [] s₁ H :=
    ⟨rfl, ⟨KB, keepNs hns, ⟨mb, keepNs hb, hbb⟩, ⟨mc, keepNs l1, l2⟩⟩, fun b o e => of_hidT e, Nat.le_of_eq (hidT_size _ _), trivial, fun b h => absurd h (List.not_mem_nil), hok, .of_eq hg⟩
  refine codeAny_mono ((F _ KB (keepNs hns)).run callerA [] s₁ H ⟨[.ref a], []⟩ [.ref a] [.ref a] _ _ hr e0 (hbind s₁ _) (.cons rfl .nil) hsp) ?_
  intro r s' h
  match r, h with
  | .error e, h => exact (hCX e s' h).elim
  | .ok .next, h => exact h.elim
  | .ok .brk, h => exact h.elim
  | .ok .cont, h => exact h.elim
  | .ok (.ret u), ⟨v, H', os, bare, un, hok', r', q⟩ =>
    obtain rfl : v = .bl true := q
    obtain rfl : u = Value.bool true := r'
    refine ⟨rfl, OldK.of_keep fun b o e => ?_, os, bare⟩
    rcases hO b with n | ⟨ob, xs, y⟩
    · exact un.keep b o e n (by intro z; exact absurd z List.not_mem_nil) (by simp)
    · obtain ⟨e1, _⟩ := hok b _ y
      obtain ⟨e2, _⟩ := hok' b _ (un.frzs b ob _ y)
      exact (Option.some.inj (e1.symm.trans e)) ▸ e2
theorem law_callG (KX : K.In s₁.heap) (hns : s₁.heap.Ns mainGlobals mg) (hb : s₁.heap.Ns builtinsNs mb) (hbb : ∀ x : Str, x ≠ "__name__" → mb x = bootBuiltins x) (hlim : s₁.heap.NoLimit) (hg : s₁.gens = #[])
    (ha : s₁.heap.get? a = some { cls := .type "list", data := .seq vs.toArray }) (hi : IntsAre vs ns) (hl : ns.length ≤ sizeLine) (hr : RoomG k callerA)
    (F : ∀ base : Heap, K.In base → base.Ns mainGlobals mg → FnOkG P w K mg base CX k fa fd [x] sp) (hbind : ∀ (s : Shared) (u : Value), BindsTo s fd ⟨[u], []⟩ [(x, u)])
    (hsp : ∀ H : Hp, Only H → SqL K H a (ns.map V.int) → sp [.ref a] H (fun v _ => v = .bl true) fun _ _ _ => False) (hCX : ∀ H e s', CX [] H s₁ (fun _ _ _ => False) e s' → False) :
    codeAny (model P w) callerA (.call (.ref fa) ⟨[.ref a], []⟩) (LawPost s₁) s₁ := by
  have rv := vals_ints hi
  by_cases hk : K.lookup a = none
  · let H : Hp := fun b => if b = a then some (.frz { cls := .type "list", data := .seq vs.toArray } (.lst (ns.map V.int))) else none
    have at_a : ∀ b u, H b = some u → b = a ∧ u = .frz { cls := .type "list", data := .seq vs.toArray } (.lst (ns.map V.int)) := fun b u e => by
      by_cases h : b = a
      · exact ⟨h, (Option.some.inj ((if_pos h).symm.trans e)).symm⟩
      · cases (if_neg h).symm.trans e
    have hO : Only H := fun b => by
      cases e : H b with
      | none => exact .inl rfl
      | some u => obtain ⟨_, rfl⟩ := at_a b u e; exact .inr ⟨_, _, rfl⟩
    refine law_at KX hns hb hbb hlim hg ha hr F hbind (hsp H hO (.inl (.inr ⟨_, if_pos rfl⟩))) (hCX H) hO (fun b u e => ?_) fun b u e => ⟨(at_a b u e).1, hk⟩
    obtain ⟨rfl, rfl⟩ := at_a b u e
    exact ⟨ha, by rw [List.length_map]; exact hl, vs, _, rv, ha⟩
  · obtain ⟨o, ho⟩ : ∃ o, K.lookup a = some o := by
      cases q : K.lookup a with
      | none => exact absurd q hk
      | some o => exact ⟨o, rfl⟩
    have e := KX a o ho
    rw [ha] at e
    cases e
    have hO : Only fun _ => none := fun _ => .inl rfl
    exact law_at KX hns hb hbb hlim hg ha hr F hbind (hsp _ hO (.inr ⟨_, vs.toArray, _, ho, rfl, rfl, rfl, by rw [List.size_toArray, hi.length]; exact hl, by simpa using rv⟩)) (hCX _) hO (fun b u z => by cases z) fun b u z => by cases z
end
theorem walk_ofG {l : PySem.W.OpenLaw} {n k : Nat} {q : Program} {loose : List Str} {XP : (Str → Option Value) → Heap → Prop} {YP : World → Heap → Prop} {d : DefRec} {K : Params → PySem.W.Frag} {CX : World → CXT} {sp : World → Sp} {x : Str}
    (hn : l.most = some n) (hn2 : n ≤ sizeLine) (hdf : d.params.defaults = []) (hr : RoomG k callerA)
    (hY : ∀ (w : World) (h : Heap), YP w h → (K w.params).In h)
    (F : ∀ (w : World) (mg : Str → Option Value) (fa : Addr) (h : Heap), (K w.params).In h → h.Ns mainGlobals mg → mg d.name = some (.ref fa) →
      ∃ fd : FuncData, (∀ (s : Shared) (u : Value), BindsTo s fd ⟨[u], []⟩ [(x, u)]) ∧
        ∀ base : Heap, (K w.params).In base → base.Ns mainGlobals mg → FnOkG l.prog w (K w.params) mg base (CX w) k fa fd [x] (sp w))
    (hsp : ∀ (w : World) (H : Hp) (a : Addr) (ns : List Int), ns.length ≤ n → Only H → SqL (K w.params) H a (ns.map V.int) → sp w [.ref a] H (fun v _ => v = .bl true) fun _ _ _ => False)
    (hCX : ∀ (w : World) (H : Hp) (s : Shared) (e : Value) (s' : Shared), CX w [] H s (fun _ _ _ => False) e s' → False) :
    PySem.W.WalkO q loose XP YP l.row.toRowW d [] (fun f vs => PySem.call f vs) := by
  refine Att.attach_call hn hdf fun w s₀ s₁ mg mb fa o pm cd doc a vs ns G Y ho hd hcd hmg hobj hints hlen hg => ?_
  obtain ⟨fd, hb, hF⟩ := F w mg fa _ (hY w _ Y) G.T.g hmg
  exact law_callG (hY w _ Y) G.T.g G.T.b G.T.builtins G.T.nolimit hg hobj hints (Nat.le_trans hlen hn2) hr hF hb (fun H hO hS => hsp w H a ns hlen hO hS) fun H e s' => hCX w H s₁ e s'
end B
end
section
set_option maxRecDepth 100000
set_option maxHeartbeats 4000000
namespace B
open PySem L2
section
def mapO {α β : Type} (f : α → Option β) : List α → Option (List β)
  | [] => some []
  | x :: xs => match f x, mapO f xs with
    | some y, some ys => some (y :: ys)
    | _, _ => none
def pyAt : Dt → Option PyData
  | .non => some .none
  | .bl b => some (.bool b)
  | .int i => if i.natAbs < 2 ^ 1000 then some (.int i) else none
  | .str x => some (.str x)
  | _ => none
def pyKey : Dt → Option PyData
  | .int i => if i.natAbs < 2 ^ 1000 then some (.int i) else none
  | .str x => some (.str x)
  | _ => none
def wrD (l : Bool) : Nat → Dt → Option PyData
  | 0 => pyAt
  | n + 1 => fun d => match d with
    | .lst xs => if l then (mapO (wrD l n) xs).map .list else none
    | .tup xs => (mapO (wrD l n) xs).map .tuple
    | .dic kvs => if l then none else match mapO pyKey (kvs.map (·.1)), mapO (wrD l n) (kvs.map (·.2)) with
      | some ks, some vs => some (.dict (ks.zip vs))
      | _, _ => none
    | d => pyAt d
def contD : Dt → Bool
  | .lst _ | .tup _ | .dic _ => true
  | _ => false
def reprW (l : Bool) (d : Dt) : Option Dt := match wrD l 8 d with
  | some p => if p.shown.length ≤ LIM then some (.str p.shown) else none
  | none => none
def reprT (d : Dt) : Option Dt := if contD d then (match reprW true d with
  | some x => some x
  | none => reprW false d) else none
def reprD (ds : List Dt) : Option Dt := match repD ds, ds with
  | some x, _ => some x
  | none, [d] => reprT d
  | none, _ => none
theorem mapO_cons {α β : Type} {f : α → Option β} {x : α} {xs : List α} {r : List β} (h : mapO f (x :: xs) = some r) : ∃ y ys, r = y :: ys ∧ f x = some y ∧ mapO f xs = some ys := by
  unfold mapO at h
  cases e : f x with
  | none => rw [e] at h; cases h
  | some y =>
    cases e2 : mapO f xs with
    | none => rw [e, e2] at h; cases h
    | some ys => rw [e, e2] at h; exact ⟨y, ys, (Option.some.inj h).symm, rfl, rfl⟩
theorem nat_log {n : Nat} (h : n < 2 ^ 1000) : n.log2 < 1920 := by
  by_cases h0 : n = 0
  · rw [h0]; decide
  · exact Nat.lt_of_lt_of_le ((Nat.log2_lt h0).mpr h) (by decide)
variable {G : Cfg} {ρ : Fz} {P : Program} {w : World} {H : Hp} {h : Heap}
theorem zip_parts {n : Nat} : ∀ {ks vs : List PyData}, PyData.showableAll ks = true → PyData.showableAll vs = true → PyData.depthAll ks ≤ n → PyData.depthAll vs ≤ n → PyData.showableKv (ks.zip vs) = true ∧ PyData.depthKv (ks.zip vs) ≤ n
  | [], _, _, _, _, _ => ⟨by simp [PyData.showableKv], by simp [PyData.depthKv]⟩
  | _ :: _, [], _, _, _, _ => ⟨by simp [PyData.showableKv], by simp [PyData.depthKv]⟩
  | k :: ks, v :: vs, a, b, c, d => by
    simp only [PyData.showableAll, Bool.and_eq_true] at a b
    simp only [PyData.depthAll] at c d
    obtain ⟨i1, i2⟩ := zip_parts (n := n) a.2 b.2 (by omega) (by omega)
    constructor
    · simp [PyData.showableKv, a.1, b.1, i1]
    · simp only [List.zip_cons_cons, PyData.depthKv]; omega
end
section
variable {X : Cx} {S : Ss} {k : Nat}
def gReprL : List Dt → M Dt := fun ds => opt (reprD ds)
end
end B
end
section
set_option maxRecDepth 100000
set_option maxHeartbeats 4000000
namespace B
open PySem L2
open PyProof.Rows (envOfC subscriptTail isTrue_plain)
section
variable {X : Cx} {S : Ss} {k i : Nat}
def numsD : List Dt → Option (List Int)
  | [] => some []
  | .int i :: ds => (numsD ds).map (i :: ·)
  | _ :: _ => none
def maxOf : List Int → Option Int
  | [] => none
  | i :: is => some (is.foldl max i)
def maxLD : List Dt → Option Dt
  | [.lst xs] => ((numsD xs).bind maxOf).map .int
  | _ => none
theorem it_zip {G : Cfg} {K : PySem.W.Frag} {ρ : Fz} {a b : Addr} {vs us : List V} {xs ys : List Dt} (hk : G.K = K) (f : ρ.F a = some (.lst vs)) (g : ρ.F b = some (.lst us)) (p : Paired (Rep G ρ) vs xs) (r : Paired (Rep G ρ) us ys) :
    ItD G (Itz K a b) ρ ((xs.zip ys).map fun p => .tup [p.1, p.2]) := by
  subst hk
  have sq : ∀ {ρ' : Fz} {w : Wd} {H : Hp}, Ext ρ ρ' → Cov G ρ' w H → SqL G.K H a vs ∧ SqL G.K H b us := fun e c => ⟨c.sl (e.F _ _ f), c.sl (e.F _ _ g)⟩
  have l1 := p.length
  have l2 := r.length
  refine ⟨fun ρ' w H i e c hi => ?_, fun ρ' w H i e c hi => ?_, fun ρ' w H i x H' d e c hd y => ?_⟩
  · rw [List.length_map, List.length_zip] at hi
    have h1 : i < vs.length := by omega
    have h2 : i < us.length := by omega
    exact ⟨vs, us, _, _, (sq e c).1, (sq e c).2, List.getElem?_eq_getElem h1, List.getElem?_eq_getElem h2⟩
  · rw [List.length_map, List.length_zip] at hi
    exact ⟨vs, us, (sq e c).1, (sq e c).2, by omega⟩
  · obtain ⟨T, u, v, rfl, hT, rfl, e1, e2⟩ := y
    rw [List.getElem?_map] at hd
    cases eq : (xs.zip ys)[i]? with
    | none => rw [eq] at hd; cases hd
    | some kv =>
      rw [eq] at hd; cases hd
      obtain ⟨h1, h2⟩ := List.getElem?_zip_eq_some.mp eq
      obtain ⟨z1, ez1, r1⟩ := paired_get p i _ h1
      obtain ⟨z2, ez2, r2⟩ := paired_get r i _ h2
      have w1 := e1 vs (sq e c).1
      have w2 := e2 us (sq e c).2
      rw [ez1] at w1; cases w1
      rw [ez2] at w2; cases w2
      have s := Stp.fresh (o := .tup [u, v]) c hT
      exact ⟨_, s, .mk ⟨T, _, rfl, upd_same, .cons ((r1.mono e).mono s.ext) (.cons ((r2.mono e).mono s.ext) .nil)⟩⟩
def neW (w : Wd) (x y : Dt) : Option Dt := match resD w x with
  | some (.lst xs) => match y with
    | .lst ys => if xs.length = ys.length then neD (.lst xs) (.lst ys) else some (.bl true)
    | _ => neD (.lst xs) y
  | _ => none
theorem opp_neW {x y : Dt} (hk : S.G.K = X.K) (hr : RoomG k X.A) : OpP X S (compareOp .NotEq) x y (fun st => opt (neW st.w x y) st) := by
  intro pins s σ H v u V' U' ρ st Q I rv ru R rx ry q
  dsimp only at q
  cases e : neW st.w x y with
  | none => rw [e] at q; exact q.elim
  | some d =>
    rw [e] at q
    unfold neW at e
    split at e
    case h_2 => cases e
    rename_i xs er
    obtain ⟨a, vs, rfl, sl, p⟩ := lst_at R.cov rx er
    have core : ∀ z, Rep S.G ρ u z → neD (.lst xs) z = some d → wpAny (model X.prog X.w) X.A (compareOp .NotEq V' U') (EP X pins σ Q) X.xe s := by
     intro y ry e
     unfold neD at e
     cases eb : eqB (.lst xs) y with
     | none => rw [eb] at e; cases e
     | some b =>
       rw [eb] at e; cases e
       unfold eqB at eb
       cases ex : pyD (.lst xs) with
       | none => rw [ex] at eb; cases eb
       | some p1 =>
         cases ey : pyD y with
         | none => rw [ex, ey] at eb; cases eb
         | some p2 =>
           rw [ex, ey] at eb
           dsimp only at eb
           split at eb
           case isFalse => cases eb
           rename_i hs
           cases eb
           rw [Bool.and_eq_true] at hs
           have d1 : Dp S.G.K H (.ref a) p1 := by
             rw [pyD] at ex
             cases ez : pyDs xs with
             | none => rw [ez] at ex; cases ex
             | some ps => rw [ez] at ex; cases ex; exact .lst sl (dps_of R.cov xs p ez)
           have d2 := dp_of R.cov y ry ey
           exact op_neD hr.units pins s σ H (.ref a) u V' U' Q I rv ru ⟨p1, p2, hk ▸ d1, hk ▸ d2, hs.1, hs.2, q _ ρ H (Ext.refl ρ) R rep_bl⟩
    split at e
    · rename_i ys
      split at e
      · exact core _ ry e
      · rename_i hne
        cases e
        cases rv
        obtain ⟨b, us, rfl, g, p2⟩ := ry.lst
        cases ru
        obtain ⟨its, rv1, hl1, _⟩ := I.list (hk ▸ sl : SqL X.K H a vs)
        obtain ⟨its2, rv2, hl2, _⟩ := I.list (hk ▸ R.cov.sl g : SqL X.K H b us)
        have hu : X.A.units < cLine := by have := hr.units; omega
        refine SeqAt.RcNeAt.lists_lengths hl1.isList hl2.isList ?_ hu X.prog X.w _ _ ⟨.bl true, H, I, rfl, q _ ρ H (Ext.refl ρ) R rep_bl⟩
        simp only [List.size_toArray, bne_iff_ne, ne_eq]
        rw [← rv1.length, ← rv2.length, p.length, p2.length]
        exact hne
    · exact core _ ry e
def neWU : MO2 := fun x y st => opt (neW st.w x y) st
theorem opd_neW (hk : S.G.K = X.K) (hr : RoomG k X.A) : OpD X S (compareOp .NotEq) neWU := fun _ _ => opp_neW hk hr
end
end B
end
section
set_option maxRecDepth 100000
set_option maxHeartbeats 4000000
namespace B
open PySem L2 PySem.SeqAt
section
variable {X : Cx} {S : Ss} {k i m : Nat}
def sOutK (m i : Nat) (f : MS) : MS := fun st => match f st with
  | .nx st1 => (match goOut i (st.w.length + m) st1 with | some st2 => .nx st2 | none => .stuck)
  | .ret r st1 => .ret r st1
  | .exc x st1 => .exc x st1
  | _ => .stuck
theorem pds_outK {s : Stmt} {f : MS} (h : PDS X S s f) : PDS X S s (sOutK m i f) := by
  refine ⟨ps_imp h.ps fun D σ H ⟨ρ, st, R, q⟩ => ?_⟩
  unfold sOutK at q
  refine ⟨ρ, st, R, ?_⟩
  cases ef : f st with
  | nx st1 =>
    rw [ef] at q
    dsimp only at q
    cases eo : goOut i (st.w.length + m) st1 with
    | none => rw [eo] at q; exact q.elim
    | some st2 =>
      rw [eo] at q
      intro σ1 ρ1 H1 x1 R1
      have hl : ρ.io.length = st.w.length := R.cov.len
      have hl1 : ρ1.io.length = st.w.length + m + 1 := by
        have c := R1.cov.len
        unfold goOut at eo
        split at eo
        case h_2 => cases eo
        split at eo
        case isFalse => cases eo
        rename_i hc
        rw [c]; exact hc.1
      obtain ⟨p, hp⟩ : ∃ p, ρ1.io[st.w.length + m]? = some p := ⟨ρ1.io[st.w.length + m]'(by omega), List.getElem?_eq_getElem _⟩
      let ρm : Fz := ⟨ρ1.F, ρ1.io.take (st.w.length + m)⟩
      have em : Ext ρ ρm := ⟨x1.F, fun n a h => by
        show (ρ1.io.take (st.w.length + m))[n]? = some a
        have hn : n < ρ.io.length := (List.getElem?_eq_some_iff.mp h).1
        rw [List.getElem?_take_of_lt (by omega)]
        exact x1.io n a h⟩
      have lm : ρm.io.length = st.w.length + m := by show (ρ1.io.take _).length = _; rw [List.length_take]; omega
      have e1 : Ext ⟨ρm.F, ρm.io ++ [p]⟩ ρ1 := ⟨fun _ _ h => h, fun n a h => by
        by_cases hn : n < ρm.io.length
        · rw [List.getElem?_append_left hn] at h
          have h' : (ρ1.io.take (st.w.length + m))[n]? = some a := h
          rw [List.getElem?_take_of_lt (by omega)] at h'
          exact h'
        · rw [List.getElem?_append_right (by omega)] at h
          have : n - ρm.io.length = 0 := by
            by_cases z : n - ρm.io.length = 0
            · exact z
            · rw [List.getElem?_eq_none (by show 1 ≤ _; omega)] at h; cases h
          rw [this] at h
          cases h
          have : n = st.w.length + m := by omega
          rw [this]; exact hp⟩
      have m1 : p ∈ ρ1.io := List.mem_of_getElem? hp
      have hp0 : S.H0 p = none := by
        rcases R1.stp.nio p m1 with m' | m'
        · obtain ⟨j, hj⟩ := List.getElem?_of_mem m'
          have a := R.stp.ext.io j p hj
          have b := x1.io j p a
          have hj2 : j < ρ.io.length := (List.getElem?_eq_some_iff.mp a).1
          have := (List.getElem?_inj (i := j) (j := st.w.length + m) (l := ρ1.io) (by omega) R1.cov.nd).mp (b.trans hp.symm)
          omega
        · exact m'
      obtain ⟨ex, R2⟩ := SR.goOut (p := p) (ρ := ρm) e1 lm R1 (.inr trivial) (R.stp.ext.trans em) hp0 eo
      exact q σ1 _ H1 (em.trans ex) R2
  | ret r st1 => rw [ef] at q; exact q
  | exc x st1 => rw [ef] at q; exact q
  | bk st1 => rw [ef] at q; exact q.elim
  | ct st1 => rw [ef] at q; exact q.elim
  | stuck => rw [ef] at q; exact q.elim
end
end B
end
section
set_option maxRecDepth 100000
set_option maxHeartbeats 4000000
namespace B
open PySem L2
open PySem.W (EachIs dataLe alike AllAlike Sortable)
def srtI (x : Dt) : Option Dt := (viewD x).bind fun kvs => (srtD (kvs.map pairD)).map .lst
end B
end
section
set_option maxRecDepth 100000
set_option maxHeartbeats 4000000
namespace B
open PySem L2
open PyProof.Rows (envOfC subscriptTail isTrue_plain)
section
variable {X : Cx} {S : Ss} {k : Nat} {e a : Expr} {fe fa : M Dt} {pos : Pos}
def negD : Dt → Option Dt
  | .int i => some (.int (-i))
  | _ => none
theorem pd_neg (ha : PD X S a fa) : PD X S (.UnaryOp .USub a pos) (d1 fa fun x => opt (negD x)) := by
  refine ⟨pe_imp (pe_un un_neg ha.pe) fun σ H Q ⟨ρ, st, R, q⟩ => ⟨ρ, st, R, Out.go q (fun x st1 q1 v ρ1 H1 e1 R1 rx => ?_) fun _ _ h => h⟩⟩
  cases x with
  | int i => exact ⟨i, rx.int, q1 _ ρ1 H1 e1 R1 rep_int⟩
  | _ => exact q1.elim
theorem po_listC {x : Str} {p : Pos} {es : List Expr} {fs : M (List Dt)} (hk : S.G.K = X.K) (hc : X.calm = true) (hm : X.mg "list" = none) (ha : PDA X S (e :: es) fs) (hg : Gl X "list" := by rfl)
    (he : starEach (e :: es) X.env = (false, eval e X.env) :: starEach es X.env := by rfl) (hpl : (backTo pos (starEach es X.env)).any (·.1) = false := by rfl) :
    PO X S (.Call (.Name "list" p) (e :: es) [] pos) (d1 fs fun ds => opt (lstD ds)) := po_callTy call_list_of (dnew_list hk) hm (by rfl) ha hg (by decide) (by decide) he hpl
def gListO : List Dt → M Dt := fun ds => opt (lstD ds)
def lenW (ow : Ow) (xs : List Dt) : M Dt := fun st => match xs with
  | [.loc n] => (match st.w[n]? with
    | some (.lst ys) => .ok (.int ys.length) st
    | _ => lenU ow xs st)
  | _ => lenU ow xs st
theorem cad_lenW {ow : Ow} (hk : S.G.K = X.K) (F : OwF X S.G k "__len__" ow) (hr : RoomG (k + 1) X.A) (tk : Takes X S.W) : CaD X S (fun us => call (.builtin "len") us) (lenW ow) := by
  intro xs pins s σ H vs us ρ st Q I rv R rxs q
  unfold lenW at q
  split at q
  · rename_i n
    split at q
    · rename_i ys e
      obtain ⟨v, rfl, rx⟩ := paired1 rxs
      obtain ⟨a, zs, rfl, sl, p⟩ := lst_at R.cov rx (show resD st.w (.loc n) = some (.lst ys) from e)
      exact call_len pins s σ H [.ref a] us Q I rv ⟨.ref a, ys.length, rfl, .inl ⟨zs, hk ▸ sl, p.length.symm⟩, q _ ρ H (Ext.refl ρ) R rep_int⟩
    · exact cad_len hk F hr tk _ pins s σ H vs us ρ st Q I rv R rxs q
  · exact cad_len hk F hr tk _ pins s σ H vs us ρ st Q I rv R rxs q
end
end B
end
section
set_option maxRecDepth 100000
set_option maxHeartbeats 4000000
namespace B
open PySem L2 ClX LamX
open PyProof.Rows (envOfC)
def mErr (c f : Str) (m : FnM) (fe : M Dt) : M XD := fun st => (fe st).bind fun d st1 => match m [d] st1.w with
  | .ok d' w' => .ok ⟨c, [(f, d')]⟩ ⟨st1.sl, w'⟩
  | _ => .stuck
def sRaise (g : M XD) : MS := fun st => match g st with
  | .ok x st1 => .exc x st1
  | .exc x st1 => .exc x st1
  | .stuck => .stuck
end B
end
section
set_option maxRecDepth 100000
set_option maxHeartbeats 4000000
namespace B
open PySem L2 ClX LamX PyProof.V
open PyProof.Rows (envOfC IsTup)
section
variable {X : Cx} {S : Ss} {k : Nat}
def isAny2 (is : IsT) (t : Tp) : List Dt → Option Bool
  | [] => some false
  | c :: cs => match tpC c with
    | none => none
    | some k => match is t k, isAny2 is t cs with
      | some b, some b2 => some (b || b2)
      | _, _ => none
def isDT2 (is : IsT) (w : Wd) : List Dt → Option Dt
  | [x, .tup (c :: cs)] => match tpOf w x with
    | some t => (isAny2 is t (c :: cs)).map .bl
    | none => none
  | _ => none
def gIsiT (is : IsT) (xs : List Dt) : M Dt := fun st => opt (isDT2 is st.w xs) st
end
section
variable {X : Cx} {S : Ss} {k : Nat}
def ownMulT (Ts : List String) (ow : Ow) (x y : Dt) : M Dt := fun st => match tpOf st.w y with
  | some (.ty T) => if T ∈ Ts then (match insOf st.w x with
    | some (c, _) => match ow c with
      | some m => callM m [x, y] st
      | none => .stuck
    | none => .stuck) else .stuck
  | _ => .stuck
def mulVT (Ts : List String) (ow : Ow) : MO2 := fun x y => byIns x (ownMulT Ts ow x y) (mulU x y)
end
end B
end
section
set_option maxRecDepth 100000
set_option maxHeartbeats 4000000
namespace B
open PySem L2 ClX LamX
open PyProof.Rows (envOfC)
abbrev Subs := List (Str × (Addr → Addr → MS) × (Addr → Addr → MS))
end B
end
section
set_option maxRecDepth 100000
set_option maxHeartbeats 4000000
namespace B
open PySem PySem.Spec PyProof.Rows L2
section
variable {P : Program} {w : World} {κ : Type} [DecidableEq κ] {hk : HeapKind P w κ} {A : Around} {E : Value → Shared → Prop} {s : Shared}
section
variable {a : Addr} {L : List (Addr × κ)} {es : Array (Int × Value)} {t : SetTable}
abbrev stp (t : SetTable) (h : Int) (n : Nat) : SetTable.Probe := nth t.mask (runAt t.mask (SetTable.bits h % (t.mask + 1)) (SetTable.bits h)) n
end
end
end B
end
section
set_option maxRecDepth 100000
set_option maxHeartbeats 4000000
namespace B
open PySem PySem.Spec PyProof.Rows L2
abbrev nuSet (w : World) : Obj := { cls := .type "set", dict := none, data := .set #[] 0 (.fresh 0 0 (!w.params.followText "set-order")) }
structure Fam (P : Program) (w : World) (κ : Type) [DecidableEq κ] where
  x0 : Heap → Addr → List (Value × κ) → Prop
  mem : Heap → κ → Value → Prop
  ob : ∀ {h a L}, x0 h a L → ∃ o, h.get? a = some o ∧ o.ExactSet
  few : ∀ {h a L}, x0 h a L → (L.map (·.2)).Nodup ∧ L.length < 64
  at0 : ∀ {h h' a L}, x0 h a L → (∀ o, h.get? a = some o → h'.get? a = some o) → x0 h' a L
  new : ∀ {h a}, h.get? a = some (nuSet w) → x0 h a []
  keep : ∀ {h h' k v}, mem h k v → (∀ c o, h.get? c = some o → h'.get? c = some o) → mem h' k v
  same : ∀ {h h' a L k v}, x0 h a L → mem h k v → Heap.SameBut a h h' → mem h' k v
  add : ∀ {A E} {s : Shared} {a L k v} {Q : Bool → Shared → Prop}, x0 s.heap a L → (∀ p ∈ L, mem s.heap p.2 p.1) → mem s.heap k v → A.units + 8 < cLine → L.length + 1 < 64 →
    (∀ b h' M n, s.toks ≤ n → Heap.SameBut a s.heap h' → x0 h' a M → (k ∈ L.map (·.2) ∧ M = L ∨ k ∉ L.map (·.2) ∧ M.Perm ((v, k) :: L)) → Q b { s with heap := h', toks := n }) → wpAny (model P w) A (setAdd a v) Q E s
  view : ∀ {h a L}, x0 h a L → ∃ es ep t, SetAt h a es ep t ∧ t.fits es.size = true ∧ es.size < scanBound ∧ Ris t.place.toList ∧ (w.params.followText "set-order" = true ∨ t.led = true) ∧ es.toList.map (·.2) = L.map (·.1)
end B
end
section
set_option maxRecDepth 100000
set_option maxHeartbeats 4000000
namespace B
open PySem L2
mutual
inductive RD (h : Heap) : Value → PyData → Prop
  | none : RD h .none .none
  | bool (b) : RD h (.bool b) (.bool b)
  | int (i t) : RD h (.int i t) (.int i)
  | str (x t) : RD h (.str x t) (.str x)
  | list {a o vs n xs} : h.get? a = some o → o.cls = .type "list" → o.data = .seq vs n → RDs h vs.toList xs → RD h (.ref a) (.list xs)
  | tuple {a o vs n xs} : h.get? a = some o → o.cls = .type "tuple" → o.data = .seq vs n → RDs h vs.toList xs → RD h (.ref a) (.tuple xs)
  | dict {a o es n kvs} : (a == sysModules) = false → h.get? a = some o → o.cls = .type "dict" → o.data = .dict es n → RDs h (es.toList.map (·.key)) (kvs.map (·.1)) → RDs h (es.toList.map (·.val)) (kvs.map (·.2)) → RD h (.ref a) (.dict kvs)
inductive RDs (h : Heap) : List Value → List PyData → Prop
  | nil : RDs h [] []
  | cons {v vs d ds} : RD h v d → RDs h vs ds → RDs h (v :: vs) (d :: ds)
end
mutual
theorem RD.reads {h : Heap} : ∀ {v : Value} {d : PyData}, RD h v d → ∃ as, Reads h v d as
  | _, _, .none => ⟨_, .none⟩
  | _, _, .bool b => ⟨_, .bool b⟩
  | _, _, .int i t => ⟨_, .int i t⟩
  | _, _, .str x t => ⟨_, .str x t⟩
  | _, _, .list h1 h2 h3 r => let ⟨_, q⟩ := RDs.reads r; ⟨_, .list h1 h2 h3 q⟩
  | _, _, .tuple h1 h2 h3 r => let ⟨_, q⟩ := RDs.reads r; ⟨_, .tuple h1 h2 h3 q⟩
  | _, _, .dict _ h1 h2 h3 r r' => let ⟨_, q⟩ := RDs.reads r; let ⟨_, q'⟩ := RDs.reads r'; ⟨_, .dict h1 h2 h3 q q'⟩
theorem RDs.reads {h : Heap} : ∀ {vs : List Value} {ds : List PyData}, RDs h vs ds → ∃ as, ReadsAll h vs ds as
  | _, _, .nil => ⟨_, .nil⟩
  | _, _, .cons r rs => let ⟨_, q⟩ := RD.reads r; let ⟨_, qs⟩ := RDs.reads rs; ⟨_, .cons q qs⟩
end
section
variable {prog : Program} {w : World} {h₀ : Heap}
mutual
theorem rk_of : ∀ {v : Value} {d : PyData}, RD h₀ v d → d.showable = true → d.shown.length ≤ sizeLine → ∃ bs, ReadAtMost h₀ d.depth bs ∧ ReprK prog w bs h₀ d.depth v d.shown
  | _, _, .none, _, _ => ⟨[], (fun _ h => nomatch h), by simp only [PyData.shown]; exact .of_is ReprIs.none _ _ _⟩
  | _, _, .bool b, _, _ => ⟨[], (fun _ h => nomatch h), by simp only [PyData.shown]; exact .of_is (ReprIs.bool b) _ _ _⟩
  | _, _, .int i t, hs, _ => ⟨[], (fun _ h => nomatch h), by simp only [PyData.shown]; exact .of_is (ReprIs.int t (by simpa [PyData.showable] using hs)) _ _ _⟩
  | _, _, .str x t, _, hz => ⟨[], (fun _ h => nomatch h), by simp only [PyData.shown]; exact .of_is (ReprIs.str x t (by simpa only [PyData.shown] using hz)) _ _ _⟩
  | _, _, .list (a := a) (vs := vs) (xs := xs) h1 h2 h3 h4, hs, hz => by
    have zz : (listText (PyData.shownAll xs)).length ≤ sizeLine := by simpa only [PyData.shown] using hz
    obtain ⟨bs, hb, hk⟩ := rks_of h4 (by simpa [PyData.showable] using hs) fun t ht => Nat.le_trans (listText_mem_le ht) zz
    obtain ⟨as, r4⟩ := RDs.reads h4
    have r : Reads h₀ (.ref a) (.list xs) _ := .list h1 h2 h3 r4
    have na : a ∉ bs := not_mem_of_deeper r (by simp only [PyData.depth]; omega) hb
    refine ⟨a :: bs, ReadAtMost.cons r (by simp only [PyData.depth]; omega) hb, ?_⟩
    simp only [PyData.depth, PyData.shown]
    obtain ⟨l⟩ := vs
    cases l with
    | nil =>
      have e4 : RDs h₀ [] xs := h4
      cases e4
      simp only [PyData.shownAll, listText_nil]
      exact ReprK.listEmpty h1 h2 h3
    | cons x l => exact ReprK.list h1 h2 h3 na (by simpa using hk.length_eq) fun i y e => hk.item i y (by simpa using e)
  | _, _, .tuple (a := a) (xs := xs) h1 h2 h3 h4, hs, hz => by
    have zz : (tupleText (PyData.shownAll xs)).length ≤ sizeLine := by simpa only [PyData.shown] using hz
    obtain ⟨bs, hb, hk⟩ := rks_of h4 (by simpa [PyData.showable] using hs) fun t ht => Nat.le_trans (tupleText_mem_le ht) zz
    obtain ⟨as, r4⟩ := RDs.reads h4
    have r : Reads h₀ (.ref a) (.tuple xs) _ := .tuple h1 h2 h3 r4
    have na : a ∉ bs := not_mem_of_deeper r (by simp only [PyData.depth]; omega) hb
    refine ⟨a :: bs, ReadAtMost.cons r (by simp only [PyData.depth]; omega) hb, ?_⟩
    simp only [PyData.depth, PyData.shown]
    exact ReprK.tuple h1 h2 h3 na hk
  | _, _, .dict (a := a) (es := es) (kvs := kvs) h0 h1 h2 h3 h4 h5, hs, hz => by
    have zz : (dictText (PyData.shownKv kvs)).length ≤ sizeLine := by simpa only [PyData.shown] using hz
    obtain ⟨s1, s2⟩ := PyData.showableKv_split kvs (by simpa [PyData.showable] using hs)
    obtain ⟨b1, hb1, k1⟩ := rks_of h4 s1 fun t ht => let ⟨p, hp, hl⟩ := PyData.shownKv_key_le kvs t ht; Nat.le_trans hl (Nat.le_trans (dictText_mem_le hp) zz)
    obtain ⟨b2, hb2, k2⟩ := rks_of h5 s2 fun t ht => let ⟨p, hp, hl⟩ := PyData.shownKv_val_le kvs t ht; Nat.le_trans hl (Nat.le_trans (dictText_mem_le hp) zz)
    obtain ⟨as, r4⟩ := RDs.reads h4
    obtain ⟨bs, r5⟩ := RDs.reads h5
    have r : Reads h₀ (.ref a) (.dict kvs) _ := .dict h1 h2 h3 r4 r5
    have hb : ReadAtMost h₀ (PyData.depthKv kvs) (b1 ++ b2) := (hb1.mono (PyData.depthAll_keys_le kvs)).append (hb2.mono (PyData.depthAll_vals_le kvs))
    have na : a ∉ b1 ++ b2 := not_mem_of_deeper r (by simp only [PyData.depth]; omega) hb
    refine ⟨a :: (b1 ++ b2), ReadAtMost.cons r (by simp only [PyData.depth]; omega) hb, ?_⟩
    simp only [PyData.depth, PyData.shown, PyData.shownKv_eq]
    exact ReprK.dict h1 h2 h3 h0 na (ReprEntriesK.of_two es.toList _ _ (k1.more_le (fun b m => List.mem_append_left _ m) (PyData.depthAll_keys_le kvs)) (k2.more_le (fun b m => List.mem_append_right _ m) (PyData.depthAll_vals_le kvs)))
theorem rks_of : ∀ {vs : List Value} {ds : List PyData}, RDs h₀ vs ds → PyData.showableAll ds = true → (∀ t ∈ PyData.shownAll ds, t.length ≤ sizeLine) → ∃ bs, ReadAtMost h₀ (PyData.depthAll ds) bs ∧ ReprAllK prog w bs h₀ (PyData.depthAll ds) vs (PyData.shownAll ds)
  | _, _, .nil, _, _ => ⟨[], (fun _ h => nomatch h), by simp only [PyData.shownAll]; exact .nil⟩
  | _, _, .cons (d := d) (ds := ds) r rs, hs, hz => by
    have hs2 : d.showable = true ∧ PyData.showableAll ds = true := by simpa [PyData.showableAll] using hs
    obtain ⟨b1, hb1, k1⟩ := rk_of r hs2.1 (hz _ (by simp only [PyData.shownAll]; exact List.mem_cons_self ..))
    obtain ⟨b2, hb2, k2⟩ := rks_of rs hs2.2 fun t ht => hz t (by simp only [PyData.shownAll]; exact List.mem_cons_of_mem _ ht)
    refine ⟨b1 ++ b2, ?_, ?_⟩
    · simp only [PyData.depthAll]
      exact (hb1.mono (Nat.le_max_left _ _)).append (hb2.mono (Nat.le_max_right _ _))
    · simp only [PyData.depthAll, PyData.shownAll]
      exact .cons ((k1.more fun b m => List.mem_append_left _ m).level_le (Nat.le_max_left _ _)) (k2.more_le (fun b m => List.mem_append_right _ m) (Nat.le_max_right _ _))
end
theorem shows_RD {a : Addr} {d : PyData} (r : RD h₀ (.ref a) d) (hs : d.showable = true) (hsz : d.shown.length ≤ sizeLine) : ∃ T idr, ShowsBy prog w h₀ a d T idr := by
  cases r with
  | list h1 h2 h3 h4 =>
    rename_i o vs n xs
    have zz : (listText (PyData.shownAll xs)).length ≤ sizeLine := by simpa only [PyData.shown] using hsz
    obtain ⟨bs, hb, hk⟩ := rks_of (prog := prog) (w := w) h4 (by simpa [PyData.showable] using hs) fun t ht => Nat.le_trans (listText_mem_le ht) zz
    obtain ⟨as, r4⟩ := RDs.reads h4
    have na : a ∉ bs := not_mem_of_deeper (.list h1 h2 h3 r4) (by simp only [PyData.depth]; omega) hb
    refine ⟨"list", "list.__repr__", F.slot_list_repr.toG, F.slot_list_str, F.slot_list_format, fun s k0 => ⟨o, k0 _ _ h1, h2⟩, fun A E s Q hg hu k0 hQ => ?_⟩
    simp only [PyData.depth] at hu; simp only [PyData.shown] at hQ
    obtain ⟨l⟩ := vs
    cases l with
    | nil =>
      have e4 : RDs h₀ [] xs := h4
      cases e4
      simp only [PyData.shownAll, listText_nil] at hQ
      exact call_list_repr_empty ⟨o, k0 _ _ h1, h2⟩ (k0 _ _ h1) h3 (hQ s.heap _ _ fun _ _ e => e)
    | cons x l => exact call_list_reprK h1 h2 h3 na (by simpa using hk.length_eq) (fun i y e => hk.item i y (by simpa using e)) hg (fun b _ => Clear.nil b) hu k0 hQ zz
  | tuple h1 h2 h3 h4 =>
    rename_i o vs n xs
    have zz : (tupleText (PyData.shownAll xs)).length ≤ sizeLine := by simpa only [PyData.shown] using hsz
    obtain ⟨bs, hb, hk⟩ := rks_of (prog := prog) (w := w) h4 (by simpa [PyData.showable] using hs) fun t ht => Nat.le_trans (tupleText_mem_le ht) zz
    obtain ⟨as, r4⟩ := RDs.reads h4
    have na : a ∉ bs := not_mem_of_deeper (.tuple h1 h2 h3 r4) (by simp only [PyData.depth]; omega) hb
    refine ⟨"tuple", "tuple.__repr__", F.slot_tuple_repr, F.slot_tuple_str, F.slot_tuple_format, fun s k0 => ⟨o, k0 _ _ h1, h2⟩, fun A E s Q hg hu k0 hQ => ?_⟩
    simp only [PyData.depth] at hu; simp only [PyData.shown] at hQ
    exact call_tuple_reprK h1 h2 h3 na hk hg (fun b _ => Clear.nil b) hu k0 hQ zz
  | dict h0 h1 h2 h3 h4 h5 =>
    rename_i o es n kvs
    have zz : (dictText (PyData.shownKv kvs)).length ≤ sizeLine := by simpa only [PyData.shown] using hsz
    obtain ⟨s1, s2⟩ := PyData.showableKv_split kvs (by simpa [PyData.showable] using hs)
    obtain ⟨b1, hb1, k1⟩ := rks_of (prog := prog) (w := w) h4 s1 fun t ht => let ⟨p, hp, hl⟩ := PyData.shownKv_key_le kvs t ht; Nat.le_trans hl (Nat.le_trans (dictText_mem_le hp) zz)
    obtain ⟨b2, hb2, k2⟩ := rks_of (prog := prog) (w := w) h5 s2 fun t ht => let ⟨p, hp, hl⟩ := PyData.shownKv_val_le kvs t ht; Nat.le_trans hl (Nat.le_trans (dictText_mem_le hp) zz)
    obtain ⟨as, r4⟩ := RDs.reads h4
    obtain ⟨bs, r5⟩ := RDs.reads h5
    have hb : ReadAtMost h₀ (PyData.depthKv kvs) (b1 ++ b2) := (hb1.mono (PyData.depthAll_keys_le kvs)).append (hb2.mono (PyData.depthAll_vals_le kvs))
    have na : a ∉ b1 ++ b2 := not_mem_of_deeper (.dict h1 h2 h3 r4 r5) (by simp only [PyData.depth]; omega) hb
    refine ⟨"dict", "dict.__repr__", F.slot_dict_repr, F.slot_dict_str, F.slot_dict_format, fun s k0 => ⟨o, k0 _ _ h1, h2⟩, fun A E s Q hg hu k0 hQ => ?_⟩
    simp only [PyData.depth] at hu; simp only [PyData.shown, PyData.shownKv_eq] at hQ
    exact call_dict_reprK h1 h2 h3 h0 na (ReprEntriesK.of_two es.toList _ _ (k1.more_le (fun b m => List.mem_append_left _ m) (PyData.depthAll_keys_le kvs)) (k2.more_le (fun b m => List.mem_append_right _ m) (PyData.depthAll_vals_le kvs))) hg (fun b _ => Clear.nil b) hu k0 hQ (by rw [← PyData.shownKv_eq]; exact zz)
theorem repr_RD {A : Around} {E : Value → Shared → Prop} {s : Shared} {Q : Value → Shared → Prop} {a : Addr} {d : PyData} (r : RD h₀ (.ref a) d) (hs : d.showable = true) (hg : A.guards = some []) (hu : A.units + (d.depth + 1) < cLine) (k0 : ∀ b o, h₀.get? b = some o → s.heap.get? b = some o)
    (hQ : ∀ h' u tk, (∀ b o, s.heap.get? b = some o → h'.get? b = some o) → Q (.str d.shown u) { s with heap := h', toks := tk }) (hsz : d.shown.length ≤ sizeLine) : wpAny (model prog w) A (call (.builtin "repr") [.ref a]) Q E s := by
  obtain ⟨T, idr, S⟩ := shows_RD (prog := prog) (w := w) r hs hsz
  exact call_repr_slot (by omega) (S.typeIs s k0) S.slotRepr (S.call A.in1 E s _ hg (by show A.units + 1 + d.depth < cLine; omega) k0 fun h' u tk hk => ⟨_, _, rfl, hQ h' u tk hk⟩)
end
end B
end
section
set_option maxRecDepth 100000
set_option maxHeartbeats 4000000
namespace B
open PySem L2
open PyProof.Rows (envOfC)
def wrV : Nat → Dt → Option PyData
  | 0 => pyAt
  | n + 1 => fun d => match d with
    | .lst xs => (mapO (wrV n) xs).map .list
    | .tup xs => (mapO (wrV n) xs).map .tuple
    | .frt xs => (mapO (wrV n) xs).map .tuple
    | .dic kvs => match mapO pyKey (kvs.map (·.1)), mapO (wrV n) (kvs.map (·.2)) with
      | some ks, some vs => some (.dict (ks.zip vs))
      | _, _ => none
    | d => pyAt d
def reprW2 (d : Dt) : Option Dt := match wrV 8 d with
  | some p => if p.shown.length ≤ 10000000 then some (.str p.shown) else none
  | none => none
def reprV (ds : List Dt) : Option Dt := match repD ds, ds with
  | some x, _ => some x
  | none, [d] => if contD d then reprW2 d else none
  | none, _ => none
def GoodV (n : Nat) (h : Heap) (u : Value) (p : PyData) : Prop := RD h u p ∧ p.showable = true ∧ p.depth ≤ n
def GoodVs (n : Nat) (h : Heap) (us : List Value) (ps : List PyData) : Prop := RDs h us ps ∧ PyData.showableAll ps = true ∧ PyData.depthAll ps ≤ n
theorem goodVs_nil {n : Nat} {h : Heap} : GoodVs n h [] [] := ⟨.nil, by simp [PyData.showableAll], by simp [PyData.depthAll]⟩
theorem goodVs_cons {n : Nat} {h : Heap} {u : Value} {us : List Value} {p : PyData} {ps : List PyData} (a : GoodV n h u p) (b : GoodVs n h us ps) : GoodVs n h (u :: us) (p :: ps) := by
  obtain ⟨r, sh, dp⟩ := a
  obtain ⟨r2, sh2, dp2⟩ := b
  refine ⟨.cons r r2, by simp [PyData.showableAll, sh, sh2], ?_⟩
  simp only [PyData.depthAll]; omega
section
variable {G : Cfg} {ρ : Fz} {P : Program} {w : World} {H : Hp} {h : Heap}
theorem goodV_at {n : Nat} {v : V} {d : Dt} {u : Value} {p : PyData} (e : pyAt d = some p) (r : Rep G ρ v d) (rv : RelV v u) : GoodV n h u p := by
  cases d with
  | non =>
    cases e
    obtain rfl := r.non
    cases rv
    exact ⟨.none, by simp [PyData.showable], by simp [PyData.depth]⟩
  | bl b =>
    cases e
    obtain rfl := r.bl
    cases rv
    exact ⟨.bool b, by simp [PyData.showable], by simp [PyData.depth]⟩
  | int i =>
    simp only [pyAt] at e
    split at e
    case isFalse => cases e
    rename_i hi
    cases e
    obtain rfl := r.int
    obtain ⟨t, rfl⟩ := rv
    exact ⟨.int i t, by simp [PyData.showable, nat_log hi], by simp [PyData.depth]⟩
  | str x =>
    cases e
    obtain rfl := r.str
    obtain ⟨t, rfl⟩ := rv
    exact ⟨.str x t, by simp [PyData.showable], by simp [PyData.depth]⟩
  | _ => cases e
theorem goodV_key {n : Nat} {k : Key} {u : Value} {p : PyData} (e : pyKey (kD k) = some p) (r : keyIs k u = true) : GoodV n h u p := by
  cases k with
  | inl i =>
    simp only [kD, pyKey] at e
    split at e
    case isFalse => cases e
    rename_i hi
    cases e
    rcases keyIs_shape r with ⟨j, t, w, q⟩ | ⟨x, t, w, q⟩
    · cases w; subst q
      exact ⟨.int i t, by simp [PyData.showable, nat_log hi], by simp [PyData.depth]⟩
    · cases w
  | inr x =>
    cases e
    rcases keyIs_shape r with ⟨j, t, w, q⟩ | ⟨x, t, w, q⟩
    · cases w
    · cases w; subst q
      exact ⟨.str x t, by simp [PyData.showable], by simp [PyData.depth]⟩
theorem goodV_all {n : Nat} (ih : ∀ v d u p, wrV n d = some p → Rep G ρ v d → RelV v u → GoodV n h u p) : ∀ {vs : List V} {ds : List Dt} {us : List Value} {ps : List PyData}, mapO (wrV n) ds = some ps → Paired (Rep G ρ) vs ds → Vals vs us → GoodVs n h us ps
  | _, _, _, _, e, .nil, .nil => by cases e; exact goodVs_nil
  | _, _, _, _, e, .cons r t, .cons rv tv => by
    obtain ⟨y, ys, rfl, e1, e2⟩ := mapO_cons e
    exact goodVs_cons (ih _ _ _ _ e1 r rv) (goodV_all ih e2 t tv)
theorem rds_len : ∀ {us : List Value} {ps : List PyData}, RDs h us ps → us.length = ps.length
  | _, _, .nil => rfl
  | _, _, .cons _ t => congrArg (· + 1) (rds_len t)
theorem goodV_dic {n : Nat} {a : Addr} {o : Obj} {es : Array DictEntry} {m : Nat} {ks vs : List PyData} (e : h.get? a = some o) (hc : o.cls = .type "dict") (hd : o.data = .dict es m) (hs : (a == sysModules) = false) (gk : GoodVs n h (es.toList.map (·.key)) ks) (gv : GoodVs n h (es.toList.map (·.val)) vs) :
    GoodV (n + 1) h (.ref a) (.dict (ks.zip vs)) := by
  obtain ⟨r, sh, dp⟩ := gk
  obtain ⟨r2, sh2, dp2⟩ := gv
  have l1 := rds_len r
  have l2 := rds_len r2
  rw [List.length_map] at l1 l2
  have hl : ks.length = vs.length := l1.symm.trans l2
  obtain ⟨z1, z2⟩ := zip_parts sh sh2 dp dp2
  refine ⟨.dict hs e hc hd ?_ ?_, by simp [PyData.showable, z1], by simp only [PyData.depth]; omega⟩
  · rw [List.map_fst_zip (Nat.le_of_eq hl)]; exact r
  · rw [List.map_snd_zip (Nat.le_of_eq hl.symm)]; exact r2
theorem goodV_keys {n : Nat} {knd : PySem.KeyKind P w Key} (hk : ∀ k u, knd.is k u = keyIs k u) : ∀ {es : List DictEntry} {kvs : List (Key × Value)} {xs : List (Key × V)} {ds : List (Dt × Dt)} {ps : List PyData}, Pairs knd es kvs → KV xs kvs →
    Paired (fun (e : Key × V) (kv : Dt × Dt) => kD e.1 = kv.1 ∧ Rep G ρ e.2 kv.2) xs ds → mapO pyKey (ds.map (·.1)) = some ps → GoodVs n h (es.map (·.key)) ps
  | _, _, _, _, _, .nil, .nil, .nil, e => by cases e; exact goodVs_nil
  | _, _, _, _, _, .cons i _ t, .cons rv tv, .cons r tr, e => by
    obtain ⟨y, ys, rfl, e1, e2⟩ := mapO_cons e
    replace e1 : pyKey (kD _) = some y := (congrArg pyKey r.1).trans e1
    refine goodVs_cons (goodV_key e1 ?_) (goodV_keys hk t tv tr e2)
    rw [← hk, rv.1]; exact i
theorem goodV_vals {n : Nat} {knd : PySem.KeyKind P w Key} (ih : ∀ v d u p, wrV n d = some p → Rep G ρ v d → RelV v u → GoodV n h u p) : ∀ {es : List DictEntry} {kvs : List (Key × Value)} {xs : List (Key × V)} {ds : List (Dt × Dt)} {ps : List PyData}, Pairs knd es kvs → KV xs kvs →
    Paired (fun (e : Key × V) (kv : Dt × Dt) => kD e.1 = kv.1 ∧ Rep G ρ e.2 kv.2) xs ds → mapO (wrV n) (ds.map (·.2)) = some ps → GoodVs n h (es.map (·.val)) ps
  | _, _, _, _, _, .nil, .nil, .nil, e => by cases e; exact goodVs_nil
  | _, _, _, _, _, .cons _ i t, .cons rv tv, .cons r tr, e => by
    obtain ⟨y, ys, rfl, e1, e2⟩ := mapO_cons e
    refine goodVs_cons (ih _ _ _ _ e1 r.2 ?_) (goodV_vals ih t tv tr e2)
    show RelV _ (DictEntry.val _)
    rw [i]; exact rv.2
theorem goodV_rep {wd : Wd} (c : Cov G ρ wd H) (KX : G.K.In h) (ok : HOk P w H h) : ∀ (n : Nat) (v : V) (d : Dt) (u : Value) (p : PyData), wrV n d = some p → Rep G ρ v d → RelV v u → GoodV n h u p := by
  intro n
  induction n with
  | zero => exact fun v d u p e r rv => goodV_at e r rv
  | succ n ih =>
    intro v d u p e r rv
    unfold wrV at e
    split at e
    · rename_i xs
      cases em : mapO (wrV n) xs with
      | none => rw [em] at e; cases e
      | some ps =>
        rw [em] at e; cases e
        obtain ⟨a, vs, rfl, f, pr⟩ := r.lst
        cases rv
        obtain ⟨_, its, m, rvs, hg⟩ := ok a _ (c.F _ _ f)
        obtain ⟨q, sh, dp⟩ := goodV_all ih em pr rvs
        exact ⟨.list hg rfl rfl (by simpa using q), by simp [PyData.showable, sh], by simp only [PyData.depth]; omega⟩
    · rename_i xs
      cases em : mapO (wrV n) xs with
      | none => rw [em] at e; cases e
      | some ps =>
        rw [em] at e; cases e
        obtain ⟨a, vs, rfl, f, pr⟩ := r.tup
        cases rv
        rcases c.st f with f | ⟨o, its, m, lk, hc, hd, _, rvs⟩
        · obtain ⟨_, its, rvs, o, hg, hc, m, hd⟩ := f.ok ok
          obtain ⟨q, sh, dp⟩ := goodV_all ih em pr rvs
          exact ⟨.tuple hg hc hd (by simpa using q), by simp [PyData.showable, sh], by simp only [PyData.depth]; omega⟩
        · obtain ⟨q, sh, dp⟩ := goodV_all ih em pr rvs
          exact ⟨.tuple (KX _ _ lk) hc hd q, by simp [PyData.showable, sh], by simp only [PyData.depth]; omega⟩
    · rename_i xs
      cases em : mapO (wrV n) xs with
      | none => rw [em] at e; cases e
      | some ps =>
        rw [em] at e; cases e
        obtain ⟨a, vs, rfl, f, pr⟩ := r.frt
        cases rv
        rcases c.st f with f | ⟨o, its, m, lk, hc, hd, _, rvs⟩
        · obtain ⟨_, its, rvs, o, hg, hc, m, hd⟩ := f.ok ok
          obtain ⟨q, sh, dp⟩ := goodV_all ih em pr rvs
          exact ⟨.tuple hg hc hd (by simpa using q), by simp [PyData.showable, sh], by simp only [PyData.depth]; omega⟩
        · obtain ⟨q, sh, dp⟩ := goodV_all ih em pr rvs
          exact ⟨.tuple (KX _ _ lk) hc hd q, by simp [PyData.showable, sh], by simp only [PyData.depth]; omega⟩
    · rename_i kvs
      cases ek : mapO pyKey (kvs.map (·.1)) with
      | none => rw [ek] at e; cases e
      | some ks =>
        cases ev : mapO (wrV n) (kvs.map (·.2)) with
        | none => rw [ek, ev] at e; cases e
        | some ps =>
          rw [ek, ev] at e; cases e
          obtain ⟨a, ob, o, rfl, f, dr⟩ := r.dic
          cases rv
          obtain ⟨_, ok2⟩ := ok a _ (c.F _ _ f)
          rcases dr with ⟨es, rfl, pr⟩ | ⟨es, ⟨rfl, ne⟩, pr⟩
          · obtain ⟨_, hs, vs, kv, o, es', ep, hg, hx, hd, _, prs, _⟩ := ok2
            exact goodV_dic hg hx.1 hd hs (goodV_keys (knd := mixKind P w) (fun _ _ => rfl) prs kv pr ek) (goodV_vals ih prs kv pr ev)
          · cases pr with
            | nil => exact absurd rfl ne
            | cons q _ =>
              rename_i x y _ _
              obtain ⟨z, zs, _, e1, _⟩ := mapO_cons ek
              replace e1 : pyKey (.tup _) = some z := (congrArg pyKey q.1).trans e1
              cases e1
    · exact goodV_at e r rv
end
section
variable {X : Cx} {S : Ss} {k : Nat}
theorem cad_reprV (hK : S.G.K = X.K) (hu : X.A.units + 64 < cLine) (hgd : X.A.guards = some []) : CaD X S (fun us => call (.builtin "repr") us) (fun ds => opt (reprV ds)) := by
  intro xs pins s σ H vs us ρ st Q I rv R rxs q
  dsimp only at q
  cases e0 : repD xs with
  | some x => exact cad_repr xs pins s σ H vs us ρ st Q I rv R rxs (by dsimp only; rw [e0]; unfold reprV at q; rw [e0] at q; exact q)
  | none =>
    unfold reprV at q
    rw [e0] at q
    match xs, q, rxs with
    | [d], q, rxs =>
      obtain ⟨v, rfl, rd⟩ := paired1 rxs
      obtain ⟨u, rfl, ru⟩ := vals1 rv
      dsimp only at q
      split at q
      case isFalse => exact q.elim
      rename_i hc
      unfold reprW2 at q
      cases ew : wrV 8 d with
      | none => rw [ew] at q; exact q.elim
      | some p =>
        rw [ew] at q
        dsimp only at q
        split at q
        case isFalse => exact q.elim
        rename_i hl
        obtain ⟨r, sh, dp⟩ := goodV_rep R.cov (hK ▸ I.kIn) I.hok 8 v d u p ew rd ru
        obtain ⟨a, ea⟩ : ∃ a, u = .ref a := by
          cases d with
          | lst xs => obtain ⟨a, vs, rfl, _, _⟩ := rd.lst; cases ru; exact ⟨a, rfl⟩
          | tup xs => obtain ⟨a, vs, rfl, _, _⟩ := rd.tup; cases ru; exact ⟨a, rfl⟩
          | dic kvs => obtain ⟨a, _, _, rfl, _, _⟩ := rd.dic; cases ru; exact ⟨a, rfl⟩
          | _ => cases hc
        subst ea
        exact repr_RD r sh hgd (by omega) (fun _ _ z => z) (fun h' u tk hk => ⟨.str _, H, I.kept hk, ⟨_, rfl⟩, q _ ρ H (Ext.refl ρ) R rep_str⟩) (Nat.le_trans hl (by rw [sizeLine_eq]; decide))
    | [], q, _ => exact q.elim
    | _ :: _ :: _, q, _ => exact q.elim
def gReprV : List Dt → M Dt := fun ds => opt (reprV ds)
end
end B
end
section
set_option maxRecDepth 100000
set_option maxHeartbeats 4000000
namespace B
open PySem L2
theorem kit_tyC {K : PySem.W.Frag} {C : Addr} {T : String} (hd : PySem.W.hasDictIn K C = true) (ht : PySem.W.typeIn K (.ref C) = some (.type "type")) (hT : T ∈ tyNames) : PySem.W.kitOne K (.type T) (.ref C) = some false := by
  obtain ⟨cd, hc, _⟩ := PySem.W.any_some hd
  have e2 : ((PySem.W.clsIn K C).isSome && PySem.W.typeIn K (.ref C) == some (.type "type")) = true := by rw [hc, ht] <;> rfl
  unfold PySem.W.kitOne
  rw [if_neg (fun q => by cases beq_iff_eq.mp q)]
  show (if ((PySem.W.clsIn K C).isSome && PySem.W.typeIn K (.ref C) == some (.type "type")) = true then PySem.W.subIn K (.type T) (.ref C) else none) = some false
  rw [if_pos e2]
  unfold tyNames at hT
  simp only [List.mem_cons, List.not_mem_nil, or_false] at hT
  rcases hT with rfl | rfl | rfl | rfl | rfl | rfl | rfl <;> with_unfolding_all rfl
def isC2 (cs : List Str) : IsT := fun t c => match t, c with
  | .cl a, .cl b => if a = b ∧ a ∈ cs then some true else none
  | .ty a, .cl b => if a ∈ tyNames ∧ b ∈ cs then some false else none
  | t, c => isB t c
theorem isf_c2 {X : Cx} {G : Cfg} {cs : List Str} (h : ∀ c ∈ cs, ∃ C, G.cl c = some C ∧ InF X.K C ∧ PySem.W.kitOne X.K (.ref C) (.ref C) = some true ∧ PySem.W.hasDictIn X.K C = true ∧ PySem.W.typeIn X.K (.ref C) = some (.type "type")) : IsF X G (isC2 cs) := by
  refine ⟨fun t c b e => ?_, fun c t b e => ?_⟩
  · unfold isC2 at e
    split at e
    · rename_i a b'
      split at e
      · rename_i q
        cases e
        obtain ⟨rfl, hm⟩ := q
        obtain ⟨C, hc, _, h1, _⟩ := h a hm
        exact ⟨.ref C, .ref C, by show (G.cl a).map Value.ref = _; rw [hc]; rfl, by show (G.cl a).map Value.ref = _; rw [hc]; rfl, h1⟩
      · cases e
    · rename_i a b'
      split at e
      · rename_i q
        cases e
        obtain ⟨ha, hm⟩ := q
        obtain ⟨C, hc, _, _, hd, ht⟩ := h b' hm
        exact ⟨.type a, .ref C, rfl, by show (G.cl b').map Value.ref = _; rw [hc]; rfl, kit_tyC hd ht ha⟩
      · cases e
    · exact isf0.f t c b e
  · unfold isC2 at e
    split at e
    · rename_i a b' ea
      split at e
      · rename_i q
        cases ea
        obtain ⟨C, hc, hI, _⟩ := h _ q.2
        exact ⟨C, hc, hI⟩
      · cases e
    · rename_i a b' ea
      cases ea
    · exact isf0.i (X := X) (G := G) c _ b e
end B
end
section
set_option maxRecDepth 100000
set_option maxHeartbeats 4000000
namespace B
open PySem PySem.SeqAt L2 ClX PyProof.V PySem.Spec PyProof.Rows
section
variable {X : Cx} {S : Ss} {k : Nat} {f : Addr} {m : FnM}
structure PDK (X : Cx) (S : Ss) (kws : List Keyword) (fs : M (List Dt)) : Prop where
  pk : PK X kws (taD S fs)
theorem pdk_nil : PDK X S [] aNil := ⟨⟨fun pos pins s σ H Q I ⟨ρ, st, R, q⟩ => pk_nil.run pos pins s σ H Q I (q [] ρ H (Ext.refl ρ) R .nil)⟩⟩
theorem pdk_cons {nm : Option Str} {e : Expr} {kpos : Pos} {kws : List Keyword} {fa : M Dt} {fs : M (List Dt)} (ha : PD X S e fa) (hr : PDK X S kws fs) : PDK X S (⟨nm, e, kpos⟩ :: kws) (aCons fa fs) := by
  refine ⟨⟨fun pos pins s σ H Q I ⟨ρ, st, R, q⟩ => ?_⟩⟩
  refine (pk_cons ha.pe hr.pk).run pos pins s σ H Q I ⟨ρ, st, R, Out.go q (fun x st1 q1 v ρ1 H1 e1 R1 rx => ?_) fun _ _ h => h⟩
  exact ⟨ρ1, st1, R1, Out.go q1 (fun xs st2 q2 vs ρ2 H2 e2 R2 rs => q2 _ ρ2 H2 (e1.trans e2) R2 (.cons (rx.mono e2) rs)) fun x st h => h.mono e1⟩
def kwD (ks : List Str) (ds : List Dt) : List (Dt × Dt) := (ks.zip ds).map fun p => (.str p.1, p.2)
def initKs (c : Str) (m : FnM) (ks : List Str) (ds : List Dt) : M Dt := if ds.length = ks.length then initM c m [.dic (kwD ks ds)] else stk
theorem kv_zip {G : Cfg} {ρ : Fz} : ∀ {ks : List Str} {vs : List V} {us : List Value} {ds : List Dt}, Vals vs us → Paired (Rep G ρ) vs ds → ds.length = ks.length →
    KV ((ks.zip vs).map fun p => ((Sum.inr p.1 : Key), p.2)) (kvOf (ks.zip us)) ∧ KVR G ρ ((ks.zip vs).map fun p => ((Sum.inr p.1 : Key), p.2)) (kwD ks ds)
  | [], _, _, _, _, _, _ => ⟨.nil, .nil⟩
  | k :: ks, _, _, _, .nil, .nil, h => by cases h
  | k :: ks, _, _, _, .cons r rs, .cons p ps, h => by
    obtain ⟨h1, h2⟩ := kv_zip rs ps (Nat.succ.inj h)
    exact ⟨.cons ⟨rfl, r⟩ h1, .cons ⟨rfl, p⟩ h2⟩
theorem zip_fst {α β : Type} : ∀ {ks : List α} {us : List β}, us.length = ks.length → (ks.zip us).map (·.1) = ks
  | [], [], _ => rfl
  | k :: ks, u :: us, h => by rw [List.zip_cons_cons, List.map_cons, zip_fst (Nat.succ.inj h)]
theorem pd_makeKs {x : Str} {C : Addr} {c : Str} {p pos : Pos} {kws : List Keyword} {fs : M (List Dt)} {ks : List Str} (hc : S.G.cl c = some C) (hm : X.mg x = some (.ref C)) (M : Mk X.K C f) (hk : PySem.W.keepIn X.K (.ref C) = true) (F : FnKw X S.G k f m) (hr : RoomG (k + 1) X.A) (tk : Takes X S.W) (ha : PDK X S kws fs) (hn : ks.Nodup ∧ (∀ y ∈ ks, y ≠ ("self" : Str)) ∧ ks.length ≤ 100) (hg : Gl X x := by rfl)
    (hall : (backToKw pos (keywordEach kws X.env)).all (·.1.isSome) = true := by rfl) (hks : (backToKw pos (keywordEach kws X.env)).filterMap (·.1) = ks := by rfl) (hdb : (x == ("__debug__" : Str)) = false := by decide)
    (hpl : ((backTo pos (starEach [] X.env)).any (·.1) || (backToKw pos (keywordEach kws X.env)).any (·.1.isNone)) = false := by rfl) :
    PD X S (.Call (.Name x p) [] kws pos) (d1 fs (initKs c m ks)) := by
  refine ⟨⟨fun pins s σ H Q I ⟨ρ, st, R, q⟩ => ?_⟩⟩
  refine wpAny_Call_Name_kw (ld_glob I hg hm ?_ hdb)
  refine PySem.W.callWith_KW0 (h₀ := X.base) I.ok.mod.kin hk hall ?_ hpl
  refine thn (ha.pk.run pos pins s σ H _ I ⟨ρ, st, R, Out.go q (fun ds st1 q1 vs ρ1 H1 e1 R1 rs => (⟨ρ1, st1, ds, R1, rs, Out.sat_mono q1 (fun d st h => PoD.mono e1 h) fun x st h => h.mono e1⟩ :
    ∃ ρ1 st1 ds, SR S ρ1 H1 σ st1 ∧ Paired (Rep S.G ρ1) vs ds ∧ (initKs c m ks ds st1).sat (PoD S ρ1 σ Q) (WantX S ρ1 σ))) fun _ _ h => h⟩) fun us s1 ⟨vs, H1, I1, r, ρ1, st1, ds, R1, rs, q1⟩ => ⟨I1.kIn, ?_⟩
  rw [hks]
  unfold initKs at q1
  split at q1
  case isFalse => exact q1.elim
  rename_i hl
  have lus : us.length = ks.length := by rw [← hl, ← rs.length, ← r.length]
  obtain ⟨kv, pk⟩ := kv_zip r rs hl
  have hf := zip_fst lus
  refine run_makeKW hc M F hr tk I1 R1 kv pk (by rw [hf]; exact hn.1) (fun y my => ?_) ?_ q1
  · have : y.1 ∈ (ks.zip us).map (·.1) := List.mem_map.mpr ⟨y, my, rfl⟩
    rw [hf] at this
    exact hn.2.1 _ this
  · rw [List.length_zip, lus, Nat.min_self]
    exact Nat.le_trans hn.2.2 (by decide)
end
end B
end
section
set_option maxRecDepth 100000
set_option maxHeartbeats 4000000
namespace B
open PySem L2 ClX PySem.Spec PyProof.Rows
structure EqFT (X : Cx) (G : Cfg) (Ts : List String) (ow : Ow) : Prop where
  f : ∀ c m, ow c = some m → ∃ C, G.cl c = some C ∧ ∀ T ∈ Ts, PySem.W.subIn X.K (.type T) (.ref C) = some false
section
variable {X : Cx} {S : Ss} {k : Nat}
theorem opp_eq_T {x y : Dt} (Ts : List String) (ow : Ow) (hk : S.G.K = X.K) (F : OwF X S.G k "__eq__" ow) (N : EqFT X S.G Ts ow) (hr : RoomG k X.A) (tk : Takes X S.W) : OpP X S (compareOp .Eq) x y (ownMulT Ts ow x y) := by
  intro pins s σ H v u V' U' ρ st Q I rv ru R rx ry q
  unfold ownMulT at q
  split at q
  case h_2 => exact q.elim
  rename_i T eT
  split at q
  case isFalse => exact q.elim
  rename_i hT
  cases e : insOf st.w x with
  | none => rw [e] at q; exact q.elim
  | some cf =>
    obtain ⟨c, fs⟩ := cf
    rw [e] at q
    dsimp only at q
    cases em : ow c with
    | none => rw [em] at q; exact q.elim
    | some m =>
      rw [em] at q
      obtain ⟨a, C, dx, es, rfl, hc, ha, _⟩ := ins_at R.cov rx e
      obtain ⟨C', g, hc', h1, h2, h3, h4, Fm⟩ := F.f c m em
      rw [hc] at hc'; cases hc'
      obtain ⟨C3, hc3, nT⟩ := N.f c m em
      rw [hc] at hc3; cases hc3
      have n5 := nT T hT
      cases rv
      obtain ⟨vt, t1, ty⟩ := ty_at hk R.cov ry eT (fun c z => by cases z)
      cases t1
      obtain ⟨P, Z, pz, _⟩ := kit_of I ru ty
      obtain ⟨mA, J, _⟩ := ins_get I.hok ha
      obtain ⟨od, J, _⟩ := J.look
      obtain ⟨mm, hF⟩ := I.fr
      refine PySem.W.cmp_K (op := .Eq) (tb := .type T) hr.units0 hF I.ok.mod.kin J (Z.ty _ _ I.kIn pz) (by simp [PySem.W.notFirst, n5]) h1 h2 (rep_back ?_)
      exact run_DA rfl Fm hr tk I (.cons (show RelV (V.ref a) (Value.ref a) from rfl) (.cons ru .nil)) R (.cons rx (.cons ry .nil)) (Out.sat_mono q (fun d st1 q1 z ρ1 H1 e1 R1 r1 => ⟨not_ni r1, q1 z ρ1 H1 e1 R1 r1⟩) fun _ _ h => h)
def eqVT (Ts : List String) (ow : Ow) : MO2 := fun x y => byIns x (byIns y (ownBin ow x y) (ownMulT Ts ow x y)) (opt (eqD x y))
theorem opd_eqVT {Ts : List String} {ow : Ow} (hk : S.G.K = X.K) (F : OwF X S.G k "__eq__" ow) (N : EqFT X S.G Ts ow) (hr : RoomG k X.A) (tk : Takes X S.W) : OpD X S (compareOp .Eq) (eqVT Ts ow) := fun x y =>
  opp_ins (opp_ins (opp_cmp_own (fun _ _ => rfl) rfl ow F hr tk) (opp_eq_T Ts ow hk F N hr tk)) (opp_of (op_eqD hr.units) (hk ▸ dop_eq))
end
end B
end
section
set_option maxRecDepth 100000
set_option maxHeartbeats 4000000
namespace B
open PySem L2 ClX PySem.Spec PyProof.Rows
structure CcF (X : Cx) (G : Cfg) (f : Str) (kf : Str → Option Int) : Prop where
  f : ∀ c i, kf c = some i → ∃ C mc u, G.cl c = some C ∧ CRead X.K C mc ∧ CVal X.K C mc f (.int i) u
def getCc (kf : Str → Option Int) (x : Dt) : M Dt := fun st => match x with
  | .cls c => match kf c with
    | some i => .ok (.int i) st
    | none => .stuck
  | _ => .stuck
section
variable {X : Cx} {S : Ss}
theorem pd_clsK {e : Expr} {fe : M Dt} {f : Str} {pos : Pos} {kf : Str → Option Int} (F : CcF X S.G f kf) (he : PD X S e fe) (hb : attributeBase e f X.env (eval e X.env) = eval e X.env := by rfl) :
    PD X S (.Attribute e f pos) (d1 fe (getCc kf)) := by
  refine ⟨pe_imp (pe_cval he.pe hb) fun σ H Q ⟨ρ, st, R, q⟩ => ⟨ρ, st, R, Out.go q (fun x st1 q1 v ρ1 H1 e1 R1 rx => ?_) fun _ _ h => h⟩⟩
  unfold getCc at q1
  split at q1
  case h_2 => exact q1.elim
  rename_i c
  split at q1
  case h_2 => exact q1.elim
  rename_i i ei
  obtain ⟨C, mc, u, hc, r, k⟩ := F.f c i ei
  obtain ⟨C', rfl, hc'⟩ := rx.out
  rw [hc] at hc'
  cases hc'
  exact ⟨C, mc, .int i, u, rfl, r, k, q1 (.int i) ρ1 H1 e1 R1 rep_int⟩
end
end B
end
section
set_option maxRecDepth 100000
set_option maxHeartbeats 4000000
namespace B
open PySem PySem.SeqAt L2 ClX PyProof.V PySem.Spec PyProof.Rows
section
variable {X : Cx} {S : Ss} {k : Nat} {e : Expr} {fe : M Dt}
theorem frt_pairs {pins : List (Addr × Obj)} {σ : L2.St} {H : Hp} {s : Shared} (I : Inv X pins σ H s) : ∀ {ps : List Addr} {kvs : List (Key × V)}, Paired (fun p kv => SqT X.K H p [kV kv.1, kv.2]) ps kvs →
    ∃ (prs : List (Key × Value)) (uvs : List (Value × Value)), KV kvs prs ∧ prs.length = ps.length ∧ uvs.length = ps.length ∧ ∀ (j : Nat) (u v : Value), uvs[j]? = some (u, v) → ∃ b l, ps[j]? = some b ∧ IsTup s.heap b #[u, v] ∧ prs[j]? = some (l, v) ∧ keyIs l u = true
  | _, _, .nil => ⟨[], [], .nil, rfl, rfl, fun j u v e => by simp at e⟩
  | _, _, .cons (a := p) (b := kv) h t => by
    obtain ⟨prs, uvs, r, l1, l2, hp⟩ := frt_pairs I t
    obtain ⟨its, rv, ht, _⟩ := I.tuple h
    obtain ⟨u, y, rfl, ru, ry⟩ := vals2 rv
    refine ⟨(kv.1, y) :: prs, (u, y) :: uvs, .cons ⟨rfl, ry⟩ r, by rw [List.length_cons, List.length_cons, l1], by rw [List.length_cons, List.length_cons, l2], fun j u' v' e => ?_⟩
    cases j with
    | zero =>
      cases e
      exact ⟨p, kv.1, rfl, ht, rfl, kV_is (P := X.prog) (w := X.w) ru⟩
    | succ j =>
      obtain ⟨b, l, e1, e2, e3, e4⟩ := hp j u' v' (by simpa using e)
      exact ⟨b, l, by simpa using e1, e2, by simpa using e3, e4⟩
theorem call_dictF (hcalm : X.calm = true) : CallR X (.type "dict") (fun xs H Q => ∃ (a : Addr) (ob : Obj) (ps : List Addr) (kvs : List (Key × V)), xs = [.ref a] ∧ H a = some (.frz ob (.tup (ps.map V.ref))) ∧ ob.dict = none ∧ Paired (fun p kv => SqT X.K H p [kV kv.1, kv.2]) ps kvs ∧
    ∀ p, H p = none → Q (.ref p) (upd H p (.dK (mergeK [] kvs)))) := by
  intro pins s σ H xs us Q I r q
  obtain ⟨a, ob, ps, kvs, ex, hq, hno, hp, q⟩ := q
  subst ex
  obtain ⟨u, eu, rx⟩ := vals1 r
  subst eu
  cases rx
  obtain ⟨hob, hz, its, rv, pl⟩ := I.hok a _ hq
  have ei := refs_at rv
  subst ei
  rw [List.length_map] at hz
  obtain ⟨prs, uvs, rel, l1, l2, hpr⟩ := frt_pairs I hp
  obtain ⟨o, ho, hc, n, hdat⟩ := pl
  rw [hob] at ho
  cases ho
  have hP : PairItems s.heap (ps.map Value.ref).toArray (fun j => ps.getD j 0) uvs := ⟨by rw [List.size_toArray, List.length_map, l2], fun j u v e => by
    obtain ⟨b, l, e1, e2, _, _⟩ := hpr j u v e
    have eb : ps.getD j 0 = b := by rw [List.getD_eq_getElem?_getD, e1]; rfl
    refine ⟨?_, ?_⟩
    · show (ps.map Value.ref).toArray[j]? = some (.ref (ps.getD j 0))
      rw [eb]; simp [e1]
    · show PairAt s.heap (ps.getD j 0) u v
      rw [eb]; exact .inl e2⟩
  refine PySem.call_dict_pairs (knd := mixKind X.prog X.w) (kvs := prs) (PairArg.tuple (prog := X.prog) (w := X.w) a (ps.map Value.ref).toArray (fun j => ps.getD j 0) uvs) (I.ok.hd hcalm) ⟨⟨ob, n, hob, hc, hno, hdat⟩, hP⟩ ⟨by rw [l1, l2], fun i u v e => ?_⟩ (by rw [l2]; exact hz) fun h' tk hd' kp => ?_
  · obtain ⟨b, l, _, _, e3, e4⟩ := hpr i u v e
    exact ⟨l, e3, e4⟩
  · have hm : (s.heap.objs.size == sysModules) = false := beq_eq_false_iff_ne.mpr (Nat.ne_of_gt I.big)
    have hlen : (mergeK [] kvs).length ≤ sizeLine := by
      refine Nat.le_trans (length_mergeK kvs []) ?_
      rw [List.length_nil, Nat.zero_add, rel.length, l1]
      exact hz
    exact ⟨.ref s.heap.objs.size, upd H s.heap.objs.size (.dK (mergeK [] kvs)), I.laid (t' := tk) (fun b o e => kp b o (by simp) e) (Nat.le_refl _) (show ObjOk X.prog X.w _ _ _ (.dK (mergeK [] kvs)) from ⟨hlen, hm, merged [] prs, KV.merge rel .nil, hd'⟩), rfl, q _ (I.hok.fresh (Nat.le_refl _))⟩
def dicFD : List Dt → Option Dt
  | [.frt ds] => (prsD ds).map fun ps => .dic (mergeD [] ps)
  | _ => none
theorem cad_dictF (hk : S.G.K = X.K) (hc : X.calm = true) : CaD X S (fun us => call (.type "dict") us) (fun ds => opt (dicFD ds)) := fun xs => cap_new (call_dictF hc) (by
  intro ρ w H vs xs d c rs e Q q
  unfold dicFD at e
  split at e
  case h_2 => cases e
  rename_i ds
  cases ep : prsD ds with
  | none => rw [ep] at e; cases e
  | some ps =>
    rw [ep] at e; cases e
    obtain ⟨v, rfl, r⟩ := paired1 rs
    obtain ⟨a, ws, ob, rfl, f, hno, p⟩ := r.out
    obtain ⟨as, kvs, rfl, p1, p2⟩ := prs_rep p ep
    exact ⟨a, ob, as, kvs, rfl, c.F _ _ f, hno, p1.mp fun _ _ z => hk ▸ c.st z, fun l hl => q l _ hl (.inl ⟨_, rfl, merge_rep p2 .nil⟩)⟩)
end
end B
end
section
set_option maxRecDepth 100000
set_option maxHeartbeats 4000000
namespace B
open PySem L2 PyProof.Rows RZ
def pairsZ (xs ys : List Dt) : List Dt := (xs.zip ys).map fun p => .tup [p.1, p.2]
def zipDT : List Dt → M (List Dt)
  | [.tup xs, .tup ys] => fun st => .ok (pairsZ xs ys) st
  | _ => stk
def zipDA : List Dt → M (List Dt)
  | [.tup xs, .tup ys] => fun st => .ok (pairsZ xs ys) st
  | [.lst xs, .lst ys] => fun st => .ok (pairsZ xs ys) st
  | _ => stk
theorem it_zipT {G : Cfg} {K : PySem.W.Frag} {ρ : Fz} {a b : Addr} {vs us : List V} {xs ys : List Dt} (hk : G.K = K) (f : SqT G.K ρ.F a vs) (g : SqT G.K ρ.F b us) (p : Paired (Rep G ρ) vs xs) (r : Paired (Rep G ρ) us ys) :
    ItD G (ItzT K a b) ρ (pairsZ xs ys) := by
  subst hk
  have sq : ∀ {ρ' : Fz} {w : Wd} {H : Hp}, Ext ρ ρ' → Cov G ρ' w H → SqT G.K H a vs ∧ SqT G.K H b us := fun e c => ⟨c.st (e.st f), c.st (e.st g)⟩
  have l1 := p.length
  have l2 := r.length
  refine ⟨fun ρ' w H i e c hi => ?_, fun ρ' w H i e c hi => ?_, fun ρ' w H i x H' d e c hd y => ?_⟩
  · unfold pairsZ at hi
    rw [List.length_map, List.length_zip] at hi
    have h1 : i < vs.length := by omega
    have h2 : i < us.length := by omega
    exact ⟨vs, us, _, _, (sq e c).1, (sq e c).2, List.getElem?_eq_getElem h1, List.getElem?_eq_getElem h2⟩
  · unfold pairsZ at hi
    rw [List.length_map, List.length_zip] at hi
    exact ⟨vs, us, (sq e c).1, (sq e c).2, by omega⟩
  · obtain ⟨T, u, v, rfl, hT, rfl, e1, e2⟩ := y
    unfold pairsZ at hd
    rw [List.getElem?_map] at hd
    cases eq : (xs.zip ys)[i]? with
    | none => rw [eq] at hd; cases hd
    | some kv =>
      rw [eq] at hd; cases hd
      obtain ⟨h1, h2⟩ := List.getElem?_zip_eq_some.mp eq
      obtain ⟨z1, ez1, r1⟩ := paired_get p i _ h1
      obtain ⟨z2, ez2, r2⟩ := paired_get r i _ h2
      have w1 := e1 vs (sq e c).1
      have w2 := e2 us (sq e c).2
      rw [ez1] at w1; cases w1
      rw [ez2] at w2; cases w2
      have s := Stp.fresh (o := .tup [u, v]) c hT
      exact ⟨_, s, .mk ⟨T, _, rfl, upd_same, .cons ((r1.mono e).mono s.ext) (.cons ((r2.mono e).mono s.ext) .nil)⟩⟩
section
variable {X : Cx} {S : Ss} {a b : Expr} {fs : M (List Dt)} {p pos tpos : Pos}
theorem pdi_zipA {elts : List Expr} {kk : Nat} (hk : S.G.K = X.K) (hm : X.mg "zip" = none) (ha : PDA X S [a, b] fs) (hg : Gl X "zip" := by rfl)
    (hs : starEach [a, b] X.env = (false, eval a X.env) :: starEach [b] X.env := by rfl) (hpl : (backTo pos (starEach [b] X.env)).any (·.1) = false := by rfl) :
    PDI X S (.Tuple elts kk tpos) (.Call (.Name "zip" p) [a, b] [] pos) (d1 fs zipDA) := by
  refine ⟨pi_imp (pi_zipA hg hm ha.pa hs hpl) fun σ H Q ⟨ρ, st, R, q⟩ => ⟨ρ, st, R, Out.go q (fun ds st1 q1 vs ρ1 H1 e1 R1 rs => ?_) fun _ _ h => h⟩⟩
  unfold zipDA at q1
  split at q1
  · obtain ⟨v, u, rfl, r1, r2⟩ := paired2 rs
    obtain ⟨x, vs, rfl, f, p⟩ := r1.tup
    obtain ⟨y, us, rfl, g, r⟩ := r2.tup
    exact ⟨x, y, vs, us, rfl, .inr ⟨hk ▸ R1.cov.st f, hk ▸ R1.cov.st g, q1 _ ρ1 H1 e1 R1 (it_zipT hk f g p r)⟩⟩
  · obtain ⟨v, u, rfl, r1, r2⟩ := paired2 rs
    obtain ⟨x, vs, rfl, f, p⟩ := r1.lst
    obtain ⟨y, us, rfl, g, r⟩ := r2.lst
    exact ⟨x, y, vs, us, rfl, .inl ⟨hk ▸ R1.cov.sl f, hk ▸ R1.cov.sl g, q1 _ ρ1 H1 e1 R1 (it_zip hk f g p r)⟩⟩
  · exact q1.elim
end
end B
end
section
set_option maxRecDepth 100000
set_option maxHeartbeats 4000000
namespace B
open PySem PySem.Spec L2
def tLstT (n : Nat) (f : List Dt → DS → Option DS) : TgM
  | .lst ds, st => if ds.length = n then f ds st else none
  | _, _ => none
section
variable {X : Cx} {S : Ss} {es : List Expr} {idx : List Nat} {g : List Dt → DS → Option DS}
theorem pdg_lst {k : Nat} {pos : Pos} {n : Nat} (hk : S.G.K = X.K) (hc : X.calm = true) (h : PDGs X S es idx g) (hn : (assignEach es X.env).length = n := by rfl) (hst : (assignEach es X.env).findIdx? (·.1) = none := by rfl) : PDG X S (.Tuple es k pos) idx (tLstT n g) := by
  refine ⟨pg_imp (pg_lst hc h.pg hn hst) fun v σ H Q ⟨ρ, st, d, st', R, r, e, q⟩ => ?_⟩
  cases d with
  | lst ds =>
    obtain ⟨a, vs, ev, s, p⟩ := r.lst
    have e2 : (if ds.length = n then g ds st else none) = some st' := e
    split at e2
    · rename_i hl
      exact ⟨a, vs, ev, hk ▸ R.cov.sl s, by rw [p.length]; exact hl, ρ, st, ds, st', R, p, e2, q⟩
    · cases e2
  | _ => cases e
end
end B
end
section
set_option maxRecDepth 100000
set_option maxHeartbeats 4000000
namespace B
open PySem PySem.SeqAt L2 ClX PyProof.V PySem.Spec PyProof.Rows
section
variable {X : Cx} {S : Ss} {k : Nat}
theorem vals_refs : ∀ {la : List Addr} {us : List Value}, Vals (la.map V.ref) us → us = la.map Value.ref
  | [], _, .nil => rfl
  | a :: la, _, .cons h t => by
    cases h
    rw [vals_refs t]
    rfl
end
end B
end
section
set_option maxRecDepth 100000
set_option maxHeartbeats 4000000
end
section
set_option maxRecDepth 100000
set_option maxHeartbeats 4000000
end
section
set_option maxRecDepth 100000
set_option maxHeartbeats 4000000
namespace B
open PySem L2 ClX
open PyProof.Rows (envOfC)
def dflt (m : FnM) (xs : List Dt) : FnM := fun ds w => m (ds ++ xs) w
theorem paired_app {G : Cfg} {ρ : Fz} : ∀ {vs : List V} {ds : List Dt} {v : V} {d : Dt}, Paired (Rep G ρ) vs ds → Rep G ρ v d → Paired (Rep G ρ) (vs ++ [v]) (ds ++ [d])
  | _, _, _, _, .nil, r => .cons r .nil
  | _, _, _, _, .cons p q, r => .cons p (paired_app q r)
theorem Dd.okD {P : Program} {w : World} {K : PySem.W.Frag} {mg : Str → Option Value} {base : Heap} {x qual : Str} {st : Stmt} {f : Addr} {N ps : List Str} {i : Int} {k : Nat} {G : Cfg} {g : MS} (D : Dd K x qual st ps [.int i] f) (S : FnScope N ps (defScope st)) (n : Nat) (hn : n + 1 = ps.length)
    (hbody : ∀ (cdv : Value) (A : Around) (outer : List Env) (s : Shared) (H : Hp) (E : XK) (ρ : Fz), RoomG k (A.deeper (envOfC qual (defScope st) s.heap.objs.size f cdv)) →
      PDB (cxOf (L2.CX P w) P w K mg base N qual (defScope st) f cdv A outer s H E) ⟨G, H, ρ, fun c d _ H => E c d H, []⟩ (defBody st) g)
    (h : ∀ (T : Addr) (kV doc pm : Value) (an : Option Addr) (cdv ct : Value) (us its : List Value), us.length = n → its.length = 1 →
      ∃ k, bindArgs (PySem.W.fnOf x qual (defArgs st) (defBody st) (defScope st) (.ref T) kV doc pm an cdv ct) ⟨us, []⟩ = seqItems? (.ref T) >>= k ∧ k (some its.toArray) = pure (ps.zip (us ++ its.drop 0))) :
    FnG P w K mg base (L2.CX P w) (k + 1) f (spD G (dflt (runB N.length ps.length g) [.int i])) := by
  obtain ⟨fd, F, _, _, _⟩ := D.ex
  obtain ⟨ds, dn, b⟩ := F.binds1 (ps := ps) n 0 (by simp) (by simpa using hn) (by simpa using h)
  have hpl : ps.length ≤ N.length := by have := congrArg List.length S.pre; rw [List.length_take] at this; omega
  obtain ⟨oc, od, dV, kV, doc, pm, an, cdv, ct, osl, rfl, lk, hcd, _, _⟩ := F.ex
  refine (FnOkG.raw (sp := spD G (runB N.length ps.length g)) (call_T (fn_tail lk hcd S fun A outer s H vs Q E hr h => ?_) fun vs H Q E h => ?_) b dn).imp fun vs H Q E h => ?_
  · obtain ⟨ρ, wd, ds, c, r, q⟩ := h
    unfold runB at q
    split at q
    case isFalse => exact q.elim
    rename_i e
    refine ⟨_, (hbody cdv A outer s H E ρ hr).ps, ρ, _, start_ok c r e hpl, ?_⟩
    cases o : g ⟨ds.map .shr ++ List.replicate (N.length - ps.length) .emp, wd⟩ with
    | nx st => rw [o] at q; exact fun σ ρ' H' _ R => q .non ρ' H' R.stp rep_non
    | ret d st => rw [o] at q; exact fun v σ ρ' H' _ R r => q v ρ' H' R.stp r
    | exc x st => rw [o] at q; exact fun cls dd σ ρ' H' _ R r => q cls dd ρ' H' R.stp r
    | bk st => rw [o] at q; exact q.elim
    | ct st => rw [o] at q; exact q.elim
    | stuck => rw [o] at q; exact q.elim
  · obtain ⟨ρ, wd, ds, c, r, q⟩ := h
    unfold runB at q
    split at q
    · rename_i e; rw [r.length]; exact e
    · exact q.elim
  · obtain ⟨ρ, wd, ds, c, r, q⟩ := h
    exact ⟨ρ, wd, ds ++ [Dt.int i], c, (paired_app (d := .int i) r rep_int : Paired (Rep G ρ) (vs ++ [V.int i]) _), q⟩
end B
end
section
set_option maxRecDepth 100000
set_option maxHeartbeats 4000000
namespace B
open PySem L2
section
variable {X : Cx} {S : Ss}
def gClrD : MOm := fun x ds st => match x, ds with
  | .loc n, [] => (match st.w[n]? with
    | some (.dic kvs) => if kvs.all (fun kv => isKey kv.1) then .ok .non ⟨st.sl, st.w.set n (.dic [])⟩ else .stuck
    | _ => .stuck)
  | _, _ => .stuck
theorem me_clrD : MeD X S "dict.clear" gClrD := by
  intro x ds pins s σ H v V' vs us ρ st Q I rv rs R rx rds q
  unfold gClrD at q
  split at q
  case h_2 => exact q.elim
  rename_i n
  split at q
  case h_2 => exact q.elim
  rename_i kvs e
  split at q
  case isFalse => exact q.elim
  rename_i hk
  obtain ⟨a, rfl, h1⟩ := rx.out
  obtain ⟨_, o, ho, own⟩ := R.cov.wo n a _ h1 e
  obtain ⟨es, rfl, p⟩ := dicK_all own hk
  cases rds
  exact mtd_clear pins s σ H (.ref a) [] V' us Q I rv rs ⟨a, es, rfl, rfl, ho, q .non ρ _ (Ext.refl ρ) (R.setW h1 (.inl ⟨[], rfl, .nil⟩)) rep_non⟩
end
end B
end
section
set_option maxRecDepth 100000
set_option maxHeartbeats 4000000
namespace B
open PySem L2 ClX
mutual
def dpW (f : Nat → Option Dt) : Dt → Option Dt
  | .loc n => f n
  | .lst xs => (dpWs f xs).map .lst
  | .tup xs => (dpWs f xs).map .tup
  | .dic kvs => (dpWk f kvs).map .dic
  | .set xs => (dpWs f xs).map .set
  | .frt xs => (dpWs f xs).map .frt
  | .ins c fs => (dpWf f fs).map (.ins c)
  | .exc _ _ => none
  | .kys _ => none
  | .non => some .non
  | .bl b => some (.bl b)
  | .int i => some (.int i)
  | .str x => some (.str x)
  | .ty n => some (.ty n)
  | .cls c => some (.cls c)
def dpWs (f : Nat → Option Dt) : List Dt → Option (List Dt)
  | [] => some []
  | d :: ds => match dpW f d, dpWs f ds with
    | some x, some xs => some (x :: xs)
    | _, _ => none
def dpWk (f : Nat → Option Dt) : List (Dt × Dt) → Option (List (Dt × Dt))
  | [] => some []
  | (k, d) :: ds => match dpW f d, dpWk f ds with
    | some x, some xs => some ((k, x) :: xs)
    | _, _ => none
def dpWf (f : Nat → Option Dt) : List (Str × Dt) → Option (List (Str × Dt))
  | [] => some []
  | (k, d) :: ds => match dpW f d, dpWf f ds with
    | some x, some xs => some ((k, x) :: xs)
    | _, _ => none
end
def rdW (w : Wd) : Nat → Nat → Option Dt
  | 0, _ => none
  | k + 1, n => match w[n]? with
    | some (.lst xs) => (dpWs (rdW w k) xs).map .lst
    | some (.dic kvs) => (dpWk (rdW w k) kvs).map .dic
    | some (.ins c fs) => (dpWf (rdW w k) fs).map (.ins c)
    | _ => none
def optW : Option Dt → Slot
  | some x => .shr x
  | none => .emp
theorem optW_own {o : Option Dt} {d : Dt} : optW o ≠ .own d := by cases o <;> intro h <;> cases h
def slR (w : Wd) (k : Nat) : Slot → Slot
  | .emp => .emp
  | .shr d => optW (dpW (rdW w k) d)
  | .own d => optW (dpW (rdW w k) d)
mutual
def flatW : Dt → Bool
  | .tup xs => flatWs xs
  | .frt xs => flatWs xs
  | .non => true
  | .bl _ => true
  | .int _ => true
  | .str _ => true
  | .ty _ => true
  | .cls _ => true
  | .loc _ => false
  | .lst _ => false
  | .dic _ => false
  | .set _ => false
  | .ins _ _ => false
  | .exc _ _ => false
  | .kys _ => false
def flatWs : List Dt → Bool
  | [] => true
  | d :: ds => flatW d && flatWs ds
end
section
variable {G : Cfg} {ρ ρ' : Fz} {f : Nat → Option Dt}
theorem dpWs_cons {d : Dt} {ds r : List Dt} (h : dpWs f (d :: ds) = some r) : ∃ x xs, dpW f d = some x ∧ dpWs f ds = some xs ∧ r = x :: xs := by
  rw [dpWs] at h
  split at h
  · rename_i x xs e1 e2; cases h; exact ⟨x, xs, e1, e2, rfl⟩
  · cases h
theorem dpWk_cons {k d : Dt} {ds r : List (Dt × Dt)} (h : dpWk f ((k, d) :: ds) = some r) : ∃ x xs, dpW f d = some x ∧ dpWk f ds = some xs ∧ r = (k, x) :: xs := by
  rw [dpWk] at h
  split at h
  · rename_i x xs e1 e2; cases h; exact ⟨x, xs, e1, e2, rfl⟩
  · cases h
theorem dpWf_cons {k : Str} {d : Dt} {ds r : List (Str × Dt)} (h : dpWf f ((k, d) :: ds) = some r) : ∃ x xs, dpW f d = some x ∧ dpWf f ds = some xs ∧ r = (k, x) :: xs := by
  rw [dpWf] at h
  split at h
  · rename_i x xs e1 e2; cases h; exact ⟨x, xs, e1, e2, rfl⟩
  · cases h
variable (hx : ∀ a o, ρ.F a = some o → ρ'.F a = some o) (hf : ∀ n d a, f n = some d → ρ.io[n]? = some a → Rep G ρ' (.ref a) d) (hs : ∀ (K : PySem.W.Frag) a xs, SqL K ρ.F a xs → SqL K ρ'.F a xs)
include hx hf hs
mutual
theorem dpW_rep : ∀ (d : Dt) {v : V} {x : Dt}, dpW f d = some x → Rep G ρ v d → Rep G ρ' v x
  | .loc m, v, x, h, r => by
    rw [dpW] at h
    obtain ⟨a, rfl, e⟩ := r.out
    exact hf m x a h e
  | .lst ds, v, x, h, r => by
    rw [dpW] at h
    obtain ⟨xs, e, rfl⟩ := Option.map_eq_some_iff.mp h
    obtain ⟨a, vs, ev, s, q⟩ := r.out
    exact .mk ⟨a, vs, ev, hx _ _ s, dpWs_rep ds e q⟩
  | .tup ds, v, x, h, r => by
    rw [dpW] at h
    obtain ⟨xs, e, rfl⟩ := Option.map_eq_some_iff.mp h
    obtain ⟨a, vs, ev, s, q⟩ := r.out
    exact .mk ⟨a, vs, ev, hx _ _ s, dpWs_rep ds e q⟩
  | .dic kvs, v, x, h, r => by
    rw [dpW] at h
    obtain ⟨xs, e, rfl⟩ := Option.map_eq_some_iff.mp h
    obtain ⟨a, ob, o, ev, s, q⟩ := r.out
    refine .mk ⟨a, ob, o, ev, hx _ _ s, ?_⟩
    rcases q with ⟨es, e', q⟩ | ⟨es, e', q⟩
    · exact .inl ⟨es, e', dpWk_rep (g := fun e : Key × V => e.2) (q := fun e d => kD e.1 = d) kvs e q⟩
    · exact .inr ⟨es, e', dpWk_rep (g := fun e : List Key × V => e.2) (q := fun e d => Dt.tup (e.1.map kD) = d) kvs e q⟩
  | .set ds, v, x, h, r => by
    rw [dpW] at h
    obtain ⟨xs, e, rfl⟩ := Option.map_eq_some_iff.mp h
    obtain ⟨a, vs, ev, s, q⟩ := r.out
    exact .mk ⟨a, vs, ev, hs _ _ _ s, dpWs_rep ds e q⟩
  | .frt ds, v, x, h, r => by
    rw [dpW] at h
    obtain ⟨xs, e, rfl⟩ := Option.map_eq_some_iff.mp h
    obtain ⟨a, vs, ob, ev, s, nd, q⟩ := r.out
    exact .mk ⟨a, vs, ob, ev, hx _ _ s, nd, dpWs_rep ds e q⟩
  | .ins c fs, v, x, h, r => by
    rw [dpW] at h
    obtain ⟨xs, e, rfl⟩ := Option.map_eq_some_iff.mp h
    obtain ⟨a, C, dx, es, ev, hc, s, q⟩ := r.out
    exact .mk ⟨a, C, dx, es, ev, hc, hx _ _ s, dpWf_rep fs e q⟩
  | .exc c fs, v, x, h, r => by rw [dpW] at h; cases h
  | .kys ds, v, x, h, r => by rw [dpW] at h; cases h
  | .non, v, x, h, r => by rw [dpW] at h; cases h; exact .mk r.out
  | .bl _, v, x, h, r => by rw [dpW] at h; cases h; exact .mk r.out
  | .int _, v, x, h, r => by rw [dpW] at h; cases h; exact .mk r.out
  | .str _, v, x, h, r => by rw [dpW] at h; cases h; exact .mk r.out
  | .ty _, v, x, h, r => by rw [dpW] at h; cases h; exact .mk r.out
  | .cls _, v, x, h, r => by rw [dpW] at h; cases h; exact .mk r.out
theorem dpWs_rep : ∀ (ds : List Dt) {vs : List V} {xs : List Dt}, dpWs f ds = some xs → Paired (Rep G ρ) vs ds → Paired (Rep G ρ') vs xs
  | [], vs, xs, h, r => by rw [dpWs] at h; cases h; rw [pr_nil r]; exact .nil
  | d :: ds, vs, xs, h, r => by
    obtain ⟨y, ys, e1, e2, rfl⟩ := dpWs_cons h
    obtain ⟨v, vs', rfl, r, rs⟩ := pr_cons r
    exact .cons (dpW_rep d e1 r) (dpWs_rep ds e2 rs)
theorem dpWk_rep {α : Type} {g : α → V} {q : α → Dt → Prop} : ∀ (kvs : List (Dt × Dt)) {es : List α} {xs : List (Dt × Dt)}, dpWk f kvs = some xs → Paired (fun e (kv : Dt × Dt) => q e kv.1 ∧ Rep G ρ (g e) kv.2) es kvs → Paired (fun e (kv : Dt × Dt) => q e kv.1 ∧ Rep G ρ' (g e) kv.2) es xs
  | [], vs, xs, h, r => by rw [dpWk] at h; cases h; rw [pr_nil r]; exact .nil
  | (k, d) :: ds, vs, xs, h, r => by
    obtain ⟨y, ys, e1, e2, rfl⟩ := dpWk_cons h
    obtain ⟨v, vs', rfl, r, rs⟩ := pr_cons r
    exact .cons ⟨r.1, dpW_rep d e1 r.2⟩ (dpWk_rep ds e2 rs)
theorem dpWf_rep : ∀ (fs : List (Str × Dt)) {es : List (Str × V)} {xs : List (Str × Dt)}, dpWf f fs = some xs → FldRep (Rep G ρ) es fs → FldRep (Rep G ρ') es xs
  | [], vs, xs, h, r => by rw [dpWf] at h; cases h; rw [pr_nil r]; exact .nil
  | (k, d) :: ds, vs, xs, h, r => by
    obtain ⟨y, ys, e1, e2, rfl⟩ := dpWf_cons h
    obtain ⟨v, vs', rfl, r, rs⟩ := pr_cons r
    exact .cons ⟨r.1, dpW_rep d e1 r.2⟩ (dpWf_rep ds e2 rs)
end
end
def lkT (te : TE) : Nat → TE
  | 0 => te
  | n + 1 => fun σ H Q => ∃ a u, H a = some u ∧ Mut (some u) ∧ ∀ ob, lkT te n σ (upd H a (.frz ob u)) fun v H1 => H1 a = some (.frz ob u) ∧ Q v (upd H1 a u)
theorem pe_lkT {X : Cx} {e : Expr} {te : TE} (h : PE X e te) : ∀ n, PE X e (lkT te n)
  | 0 => h
  | n + 1 => ⟨fun pins s σ H Q I ⟨a, u, ha, mu, q⟩ => by
    obtain ⟨ob, I2⟩ := I.lock ha mu
    have nf := I.nofrz ha mu
    refine thn ((pe_lkT h n).run pins s σ _ _ I2 (q ob)) fun v s1 ⟨x, H1, I1, r, e1, q1⟩ => ?_
    exact ⟨x, _, I1.unlock e1 nf, r, q1⟩⟩
def isDH : HO → Bool
  | .dK _ => true
  | .dT _ => true
  | _ => false
theorem mut_dh {u : HO} (h : isDH u = true) : Mut (some u) := by cases u <;> first | trivial | cases h
noncomputable def lkF (L : List Addr) (f : Addr → Obj) (H : Hp) : Hp := fun b => open Classical in if b ∈ L then (H b).map (.frz (f b)) else H b
noncomputable def unl (L : List Addr) (H H1 : Hp) : Hp := fun b => open Classical in if b ∈ L then H b else H1 b
theorem lkF_in {L : List Addr} {f : Addr → Obj} {H : Hp} {b : Addr} (h : b ∈ L) : lkF L f H b = (H b).map (.frz (f b)) := by unfold lkF; rw [if_pos h]
theorem lkF_out {L : List Addr} {f : Addr → Obj} {H : Hp} {b : Addr} (h : b ∉ L) : lkF L f H b = H b := by unfold lkF; rw [if_neg h]
theorem unl_in {L : List Addr} {H H1 : Hp} {b : Addr} (h : b ∈ L) : unl L H H1 b = H b := by unfold unl; rw [if_pos h]
theorem unl_out {L : List Addr} {H H1 : Hp} {b : Addr} (h : b ∉ L) : unl L H H1 b = H1 b := by unfold unl; rw [if_neg h]
theorem lkT_of {te : TE} (hm : ∀ σ H Q Q', te σ H Q → (∀ v H1, Q v H1 → Q' v H1) → te σ H Q') : ∀ (L : List Addr) {σ : L2.St} {H : Hp} {Q : VK}, L.Nodup → (∀ a ∈ L, ∃ u, H a = some u ∧ isDH u = true) →
    (∀ f, te σ (lkF L f H) fun v H1 => (∀ a ∈ L, H1 a = lkF L f H a) ∧ Q v (unl L H H1)) → lkT te L.length σ H Q
  | [], σ, H, Q, _, _, h => by
    have e1 : ∀ f, lkF [] f H = H := fun f => funext fun b => lkF_out (fun m => nomatch m)
    have h0 := h default
    rw [e1] at h0
    refine hm _ _ _ _ h0 fun v H1 q => ?_
    have e2 : unl [] H H1 = H1 := funext fun b => unl_out (fun m => nomatch m)
    rw [e2] at q
    exact q.2
  | a :: l, σ, H, Q, nd, hd, h => by
    obtain ⟨u, ha, hu⟩ := hd a List.mem_cons_self
    have na : a ∉ l := (List.nodup_cons.mp nd).1
    have ne : ∀ b ∈ l, b ≠ a := fun b m z => na (z ▸ m)
    refine ⟨a, u, ha, mut_dh hu, fun ob => lkT_of hm l (List.nodup_cons.mp nd).2 (fun b m => ?_) fun f => ?_⟩
    · obtain ⟨w, hb, hw⟩ := hd b (List.mem_cons_of_mem _ m)
      exact ⟨w, by rw [upd_ne (ne b m)]; exact hb, hw⟩
    · have e1 : lkF l f (upd H a (.frz ob u)) = lkF (a :: l) (fun b => open Classical in if b = a then ob else f b) H := by
        funext b
        by_cases hb : b = a
        · subst hb
          rw [lkF_out na, upd_same, lkF_in List.mem_cons_self, ha]
          show _ = some (HO.frz (if b = b then ob else f b) u)
          rw [if_pos rfl]
        · by_cases m : b ∈ l
          · rw [lkF_in m, upd_ne hb, lkF_in (List.mem_cons_of_mem _ m)]
            show _ = (H b).map (HO.frz (if b = a then ob else f b))
            rw [if_neg hb]
          · rw [lkF_out m, upd_ne hb, lkF_out (fun z => (List.mem_cons.mp z).elim hb m)]
      rw [e1]
      refine hm _ _ _ _ (h _) fun v H1 ⟨q1, q2⟩ => ⟨fun b m => q1 b (List.mem_cons_of_mem _ m), ?_, ?_⟩
      · rw [unl_out na, q1 a List.mem_cons_self, lkF_in List.mem_cons_self, ha]
        show some (HO.frz (if a = a then ob else f a) u) = _
        rw [if_pos rfl]
      · have e2 : upd (unl l (upd H a (.frz ob u)) H1) a u = unl (a :: l) H H1 := by
          funext b
          by_cases hb : b = a
          · subst hb
            rw [upd_same, unl_in List.mem_cons_self, ha]
          · rw [upd_ne hb]
            by_cases m : b ∈ l
            · rw [unl_in m, upd_ne hb, unl_in (List.mem_cons_of_mem _ m)]
            · rw [unl_out m, unl_out (fun z => (List.mem_cons.mp z).elim hb m)]
        rw [e2]
        exact q2
def mLendW (k : Nat) (fe : M Dt) : M Dt := fun st => match fe ⟨st.sl.map (slR st.w k), []⟩ with
  | .ok d _ => if flatW d = true then .ok d st else .stuck
  | _ => .stuck
theorem ex_subW (P : Addr → Prop) : ∀ A : List Addr, ∃ L : List Addr, L.Nodup ∧ ∀ a, a ∈ L ↔ a ∈ A ∧ P a
  | [] => ⟨[], List.nodup_nil, fun a => ⟨fun m => (nomatch m), fun m => (nomatch m.1)⟩⟩
  | x :: A => by
    obtain ⟨L, nd, h⟩ := ex_subW P A
    by_cases hx : P x ∧ x ∉ L
    · refine ⟨x :: L, List.nodup_cons.mpr ⟨hx.2, nd⟩, fun a => ?_⟩
      rw [List.mem_cons, List.mem_cons, h]
      constructor
      · rintro (rfl | m)
        · exact ⟨.inl rfl, hx.1⟩
        · exact ⟨.inr m.1, m.2⟩
      · rintro ⟨rfl | m, p⟩
        · exact .inl rfl
        · exact .inr ⟨m, p⟩
    · refine ⟨L, nd, fun a => ?_⟩
      rw [List.mem_cons, h]
      constructor
      · rintro ⟨m, p⟩; exact ⟨.inr m, p⟩
      · rintro ⟨rfl | m, p⟩
        · have : a ∈ L := Classical.byContradiction fun n => hx ⟨p, n⟩
          exact (h a).mp this
        · exact ⟨m, p⟩
def LentO : HO → Prop
  | .lst _ => True
  | .ins _ _ _ => True
  | .frz _ (.dK _) => True
  | .frz _ (.dT _) => True
  | _ => False
noncomputable def lentF (ρ : Fz) (A : List Addr) (H : Hp) : Fz := ⟨fun a => open Classical in if a ∈ A then H a else ρ.F a, []⟩
theorem lentF_in {ρ : Fz} {A : List Addr} {H : Hp} {a : Addr} (h : a ∈ A) : (lentF ρ A H).F a = H a := by show (if a ∈ A then _ else _) = _; rw [if_pos h]
theorem lentF_out {ρ : Fz} {A : List Addr} {H : Hp} {a : Addr} (h : a ∉ A) : (lentF ρ A H).F a = ρ.F a := by show (if a ∈ A then _ else _) = _; rw [if_neg h]
noncomputable def takeF (ρ1 : Fz) (A : List Addr) (io : List Addr) : Fz := ⟨fun a => open Classical in if a ∈ A then none else ρ1.F a, io⟩
theorem takeF_in {ρ : Fz} {A io : List Addr} {a : Addr} (h : a ∈ A) : (takeF ρ A io).F a = none := by show (if a ∈ A then _ else _) = _; rw [if_pos h]
theorem takeF_out {ρ : Fz} {A io : List Addr} {a : Addr} (h : a ∉ A) : (takeF ρ A io).F a = ρ.F a := by show (if a ∈ A then _ else _) = _; rw [if_neg h]
section
variable {G : Cfg} {ρ1 : Fz} {A io : List Addr} (hL : ∀ a ∈ A, ∃ o, ρ1.F a = some o ∧ LentO o)
include hL
mutual
theorem flatW_rep : ∀ (d : Dt) {v : V}, flatW d = true → Rep G ρ1 v d → Rep G (takeF ρ1 A io) v d
  | .tup ds, v, h, r => by
    rw [flatW] at h
    obtain ⟨a, vs, ev, s, q⟩ := r.out
    have na : a ∉ A := fun m => by
      obtain ⟨o, e, l⟩ := hL a m
      rw [s] at e; cases e; exact l
    exact .mk ⟨a, vs, ev, (takeF_out na).trans s, flatWs_rep ds h q⟩
  | .frt ds, v, h, r => by
    rw [flatW] at h
    obtain ⟨a, vs, ob, ev, s, nd, q⟩ := r.out
    have na : a ∉ A := fun m => by
      obtain ⟨o, e, l⟩ := hL a m
      rw [s] at e; cases e; exact l
    exact .mk ⟨a, vs, ob, ev, (takeF_out na).trans s, nd, flatWs_rep ds h q⟩
  | .non, v, h, r => .mk r.out
  | .bl _, v, h, r => .mk r.out
  | .int _, v, h, r => .mk r.out
  | .str _, v, h, r => .mk r.out
  | .ty _, v, h, r => .mk r.out
  | .cls _, v, h, r => .mk r.out
  | .loc _, v, h, r => by rw [flatW] at h; cases h
  | .lst _, v, h, r => by rw [flatW] at h; cases h
  | .dic _, v, h, r => by rw [flatW] at h; cases h
  | .set _, v, h, r => by rw [flatW] at h; cases h
  | .ins _ _, v, h, r => by rw [flatW] at h; cases h
  | .exc _ _, v, h, r => by rw [flatW] at h; cases h
  | .kys _, v, h, r => by rw [flatW] at h; cases h
theorem flatWs_rep : ∀ (ds : List Dt) {vs : List V}, flatWs ds = true → Paired (Rep G ρ1) vs ds → Paired (Rep G (takeF ρ1 A io)) vs ds
  | [], vs, h, r => by rw [pr_nil r]; exact .nil
  | d :: ds, vs, h, r => by
    rw [flatWs, Bool.and_eq_true] at h
    obtain ⟨v, vs', rfl, r, rs⟩ := pr_cons r
    exact .cons (flatW_rep d h.1 r) (flatWs_rep ds h.2 rs)
end
end
def ownAd (σ : L2.St) (sl : List Slot) : List Addr := (List.range sl.length).filterMap fun i => match sl[i]?, σ.getD i none with
  | some (Slot.own _), some (V.ref p) => some p
  | _, _ => none
theorem owA_mem {σ : L2.St} {sl : List Slot} {p : Addr} : p ∈ ownAd σ sl ↔ ∃ (i : Nat) (d : Dt), sl[i]? = some (Slot.own d) ∧ σ.getD i none = some (V.ref p) := by
  unfold ownAd
  rw [List.mem_filterMap]
  constructor
  · rintro ⟨i, _, e⟩
    split at e
    · rename_i d p' e1 e2; cases e; exact ⟨i, d, e1, e2⟩
    · cases e
  · rintro ⟨i, d, e1, e2⟩
    refine ⟨i, List.mem_range.mpr (List.getElem?_eq_some_iff.mp e1).1, ?_⟩
    rw [e1, e2]
theorem lend_core {S : Ss} {ρ : Fz} {H : Hp} {σ : L2.St} {st : DS} (k : Nat) (R : SR S ρ H σ st) : ∃ L : List Addr, L.Nodup ∧ (∀ a ∈ L, ∃ u, H a = some u ∧ isDH u = true) ∧ ∀ f : Addr → Obj, ∃ ρh,
    SR ⟨S.G, lkF L f H, ρh, S.W, []⟩ ρh (lkF L f H) σ ⟨st.sl.map (slR st.w k), []⟩ ∧ ∀ ρ1 H1 st1, Ext ρh ρ1 → SR ⟨S.G, lkF L f H, ρh, S.W, []⟩ ρ1 H1 σ st1 → (∀ a ∈ L, H1 a = lkF L f H a) ∧
      ∃ ρ2, Ext ρ ρ2 ∧ SR S ρ2 (unl L H H1) σ st ∧ ∀ v d, flatW d = true → Rep S.G ρ1 v d → Rep S.G ρ2 v d := by
  have c := R.cov
  let A := ρ.io ++ ownAd σ st.sl
  have hA : ∀ a ∈ A, ρ.F a = none ∧ ∃ o d, H a = some o ∧ OwnS S.G ρ o d := fun a m => by
    rcases List.mem_append.mp m with m | m
    · obtain ⟨n, hn, en⟩ := List.getElem_of_mem m
      have g1 : ρ.io[n]? = some a := by rw [List.getElem?_eq_getElem hn, en]
      have g2 : n < st.w.length := by rw [← c.len]; exact hn
      obtain ⟨z1, o, z2, z3⟩ := c.wo n a _ g1 (List.getElem?_eq_getElem g2)
      exact ⟨z1, o, _, z2, z3⟩
    · obtain ⟨i, d, e1, e2⟩ := owA_mem.mp m
      obtain ⟨p, o, e3, _, z1, _, z2, z3⟩ := R.sl i _ e1
      rw [e2] at e3; cases e3
      exact ⟨z1, o, d, z2, z3⟩
  obtain ⟨L, ndL, hLm⟩ := ex_subW (fun a => ∃ u, H a = some u ∧ isDH u = true) A
  refine ⟨L, ndL, fun a m => ((hLm a).mp m).2, fun f => ?_⟩
  let Hh := lkF L f H
  let ρh := lentF ρ A Hh
  have outA : ∀ a, a ∉ A → Hh a = H a := fun a na => lkF_out fun m => na ((hLm a).mp m).1
  have hx : ∀ a o, ρ.F a = some o → ρh.F a = some o := fun a o e => by
    have na : a ∉ A := fun m => by rw [(hA a m).1] at e; cases e
    exact (lentF_out na).trans e
  have sq : ∀ (K : PySem.W.Frag) a xs, SqL K ρ.F a xs → SqL K ρh.F a xs := fun K a xs z => by
    rcases z with z | z
    · rcases z with z | ⟨o, z⟩
      · exact .inl (.inl (hx _ _ z))
      · exact .inl (.inr ⟨o, hx _ _ z⟩)
    · exact .inr z
  have someA : ∀ a ∈ A, ∃ o, Hh a = some o ∧ LentO o := fun a m => by
    obtain ⟨_, o, d, ho, w⟩ := hA a m
    by_cases hl : a ∈ L
    · refine ⟨.frz (f a) o, (lkF_in hl).trans (by rw [ho]; rfl), ?_⟩
      obtain ⟨_, u, hu, du⟩ := (hLm a).mp hl
      rw [ho] at hu; cases hu
      cases o <;> first | trivial | cases du
    · refine ⟨o, (lkF_out hl).trans ho, ?_⟩
      have nd : isDH o ≠ true := fun z => hl ((hLm a).mpr ⟨m, o, ho, z⟩)
      cases d with
      | lst ds => obtain ⟨vs, rfl, _⟩ := w; trivial
      | dic kvs => rcases w with ⟨es, rfl, _⟩ | ⟨es, ⟨rfl, _⟩, _⟩ <;> exact absurd rfl nd
      | ins c fs => obtain ⟨C, dx, es, _, rfl, _⟩ := w; trivial
      | _ => exact w.elim
  have obj : ∀ (g : Nat → Option Dt), (∀ n d a, g n = some d → ρ.io[n]? = some a → Rep S.G ρh (.ref a) d) → ∀ a ∈ A, ∀ o dd x, H a = some o → OwnS S.G ρ o dd → dpW g dd = some x → Rep S.G ρh (.ref a) x := by
    intro g hg a m o dd x ho w hd
    cases dd with
    | lst ds =>
      obtain ⟨vs, rfl, q⟩ := w
      rw [dpW] at hd
      obtain ⟨xs, e, rfl⟩ := Option.map_eq_some_iff.mp hd
      have hl : a ∉ L := fun z => by obtain ⟨_, u, hu, du⟩ := (hLm a).mp z; rw [ho] at hu; cases hu; cases du
      exact .mk ⟨a, vs, rfl, (lentF_in m).trans ((lkF_out hl).trans ho), dpWs_rep hx hg sq ds e q⟩
    | dic kvs =>
      rw [dpW] at hd
      obtain ⟨xs, e, rfl⟩ := Option.map_eq_some_iff.mp hd
      have du : isDH o = true := by rcases w with ⟨es, rfl, _⟩ | ⟨es, ⟨rfl, _⟩, _⟩ <;> rfl
      have hl : a ∈ L := (hLm a).mpr ⟨m, o, ho, du⟩
      refine .mk ⟨a, f a, o, rfl, (lentF_in m).trans ((lkF_in hl).trans (by rw [ho]; rfl)), ?_⟩
      rcases w with ⟨es, e', q⟩ | ⟨es, e', q⟩
      · exact .inl ⟨es, e', dpWk_rep hx hg sq (g := fun e : Key × V => e.2) (q := fun e d => kD e.1 = d) kvs e q⟩
      · exact .inr ⟨es, e', dpWk_rep hx hg sq (g := fun e : List Key × V => e.2) (q := fun e d => Dt.tup (e.1.map kD) = d) kvs e q⟩
    | ins c fs =>
      obtain ⟨C, dx, es, c1, rfl, q⟩ := w
      rw [dpW] at hd
      obtain ⟨xs, e, rfl⟩ := Option.map_eq_some_iff.mp hd
      have hl : a ∉ L := fun z => by obtain ⟨_, u, hu, du⟩ := (hLm a).mp z; rw [ho] at hu; cases hu; cases du
      exact .mk ⟨a, C, dx, es, rfl, c1, (lentF_in m).trans ((lkF_out hl).trans ho), dpWf_rep hx hg sq fs e q⟩
    | _ => exact w.elim
  have rd : ∀ k n d a, rdW st.w k n = some d → ρ.io[n]? = some a → Rep S.G ρh (.ref a) d := by
    intro k
    induction k with
    | zero => intro n d a e; cases e
    | succ k ih =>
      intro n d a e g1
      have m : a ∈ A := List.mem_append_left _ (List.mem_of_getElem? g1)
      rw [rdW] at e
      split at e
      · rename_i xs ew
        obtain ⟨_, o, z2, z3⟩ := c.wo n a _ g1 ew
        exact obj _ ih a m o (.lst xs) d z2 z3 (by rw [dpW]; exact e)
      · rename_i xs ew
        obtain ⟨_, o, z2, z3⟩ := c.wo n a _ g1 ew
        exact obj _ ih a m o (.dic xs) d z2 z3 (by rw [dpW]; exact e)
      · rename_i cc fs ew
        obtain ⟨_, o, z2, z3⟩ := c.wo n a _ g1 ew
        exact obj _ ih a m o (.ins cc fs) d z2 z3 (by rw [dpW]; exact e)
      · cases e
  have covh : Cov S.G ρh [] Hh := by
    refine ⟨fun a o e => ?_, rfl, fun n a d g1 => ?_, List.nodup_nil, fun p mp => ?_⟩
    · by_cases m : a ∈ A
      · rw [lentF_in m] at e; exact e
      · rw [lentF_out m] at e; exact (outA a m).trans (c.F a o e)
    · have z : ([] : List Addr)[n]? = some a := g1
      cases z
    · obtain ⟨t1, t2, ps, t3, t4, t5⟩ := c.tb p mp
      have na : p.1 ∉ A := fun m => by
        obtain ⟨_, o, d, ho, w⟩ := hA _ m
        rw [t3] at ho; cases ho
        cases d with
        | lst ds => obtain ⟨vs, z, _⟩ := w; cases z
        | dic kvs => rcases w with ⟨es, z, _⟩ | ⟨es, ⟨z, _⟩, _⟩ <;> cases z
        | ins c fs => obtain ⟨C, dx, es, _, z, _⟩ := w; cases z
        | _ => exact w.elim
      refine ⟨fun m => (nomatch m), (lentF_out na).trans t2, ps, (outA _ na).trans t3, t4, fun pos cv ec => ?_⟩
      obtain ⟨c', ec1, ec2⟩ := t5 pos cv ec
      exact ⟨c', ec1, hx _ _ ec2⟩
  have Rh : SR ⟨S.G, Hh, ρh, S.W, []⟩ ρh Hh σ ⟨st.sl.map (slR st.w k), []⟩ := by
    have noown : ∀ (i : Nat) d, (st.sl.map (slR st.w k))[i]? ≠ some (.own d) := fun i d ei => by
      rw [List.getElem?_map] at ei
      cases es : st.sl[i]? with
      | none => rw [es] at ei; cases ei
      | some s =>
        rw [es] at ei
        have ei' : slR st.w k s = .own d := Option.some.inj ei
        cases s with
        | emp => cases ei'
        | shr x => exact optW_own ei'
        | own x => exact optW_own ei'
    refine ⟨Stp.refl covh, by rw [List.length_map]; exact R.len, fun i s ei => ?_, fun i j d e p h1 => absurd h1 (noown i d), fun p o m => (nomatch m)⟩
    have ei : (st.sl.map (slR st.w k))[i]? = some s := ei
    rw [List.getElem?_map] at ei
    cases es : st.sl[i]? with
    | none => rw [es] at ei; cases ei
    | some s0 =>
      rw [es] at ei
      have ei' : slR st.w k s0 = s := Option.some.inj ei
      subst ei'
      have z := R.sl i s0 es
      cases s0 with
      | emp => trivial
      | shr x =>
        obtain ⟨u, eu, ru⟩ := z
        show SlotOk _ _ _ _ (optW (dpW (rdW st.w k) x))
        cases e' : dpW (rdW st.w k) x with
        | none => trivial
        | some x' => exact ⟨u, eu, dpW_rep hx (rd k) sq x e' ru⟩
      | own x =>
        obtain ⟨p, o, e1, h0, hF, hio, hp, w⟩ := z
        have m : p ∈ A := List.mem_append_right _ (owA_mem.mpr ⟨i, x, es, e1⟩)
        show SlotOk _ _ _ _ (optW (dpW (rdW st.w k) x))
        cases e' : dpW (rdW st.w k) x with
        | none => trivial
        | some x' => exact ⟨.ref p, e1, obj _ (rd k) p m o x x' hp w e'⟩
  refine ⟨ρh, Rh, fun ρ1 H1 st1 x1 R1 => ?_⟩
  have hL1 : ∀ a ∈ A, ∃ o, ρ1.F a = some o ∧ LentO o := fun a m => by
    obtain ⟨o, e, l⟩ := someA a m
    exact ⟨o, x1.F a o ((lentF_in m).trans e), l⟩
  have same : ∀ a o, Hh a = some o → (∀ p ∈ S.G.tb, p.1 ≠ a) → H1 a = some o := fun a o e t => R1.stp.keep a o e (fun m => nomatch m) t
  have ntA : ∀ a ∈ A, ∀ p ∈ S.G.tb, p.1 ≠ a := fun a m p mp z => by
    obtain ⟨_, _, ps, t3, _⟩ := c.tb p mp
    obtain ⟨_, o, d, ho, w⟩ := hA a m
    rw [← z, t3] at ho; cases ho
    cases d with
    | lst ds => obtain ⟨vs, z, _⟩ := w; cases z
    | dic kvs => rcases w with ⟨es, z, _⟩ | ⟨es, ⟨z, _⟩, _⟩ <;> cases z
    | ins c fs => obtain ⟨C, dx, es, _, z, _⟩ := w; cases z
    | _ => exact w.elim
  have LA : ∀ a ∈ L, a ∈ A := fun a m => ((hLm a).mp m).1
  refine ⟨fun a m => ?_, ?_⟩
  · obtain ⟨o, e, _⟩ := someA a (LA a m)
    exact (same a o e (ntA a (LA a m))).trans e.symm
  have x2 : Ext ρ (takeF ρ1 A ρ.io) := ⟨fun a o e => by
    have na : a ∉ A := fun m => by rw [(hA a m).1] at e; cases e
    exact (takeF_out na).trans (x1.F a o (hx a o e)), fun _ _ g => g⟩
  have old : ∀ a o, H a = some o → (∀ p ∈ S.G.tb, p.1 ≠ a) → unl L H H1 a = some o := fun a o e t => by
    by_cases m : a ∈ L
    · rw [unl_in m]; exact e
    · rw [unl_out m]; exact same a o ((lkF_out m).trans e) t
  have tbL : ∀ p ∈ S.G.tb, p.1 ∉ L := fun p mp m => ntA _ (LA _ m) p mp rfl
  have S2 : Stp S.G ρ H (takeF ρ1 A ρ.io) st.w (unl L H H1) := by
    refine ⟨x2, ⟨fun a o e => ?_, c.len, fun n a d g1 g2 => ?_, c.nd, fun p mp => ?_⟩, fun a o e _ t => old a o e t, fun a o e => ?_, fun a m => .inl m, c.stp0⟩
    · have na : a ∉ A := fun m => by rw [takeF_in m] at e; cases e
      rw [takeF_out na] at e
      rw [unl_out fun m => na (LA a m)]
      exact R1.cov.F a o e
    · obtain ⟨z1, o, z2, z3⟩ := c.wo n a d g1 g2
      have m : a ∈ A := List.mem_append_left _ (List.mem_of_getElem? g1)
      exact ⟨takeF_in m, o, old a o z2 (ntA a m), z3.mono x2⟩
    · obtain ⟨t1, t2, ps, t3, t4, t5⟩ := R1.cov.tb p mp
      obtain ⟨o1, _⟩ := c.tb p mp
      have na : p.1 ∉ A := fun m => ntA _ m p mp rfl
      refine ⟨o1, (takeF_out na).trans t2, ps, (unl_out (tbL p mp)).trans t3, t4, fun pos cv ec => ?_⟩
      obtain ⟨c', ec1, ec2⟩ := t5 pos cv ec
      have nc : c' ∉ A := fun m => by
        obtain ⟨o, e, l⟩ := hL1 c' m
        rw [ec2] at e; cases e; exact l
      exact ⟨c', ec1, (takeF_out nc).trans ec2⟩
    · by_cases m : a ∈ A
      · exact .inl ((takeF_in m).trans (hA a m).1.symm)
      · rcases R1.stp.new a o ((outA a m).trans e) with z | z
        · exact .inl ((takeF_out m).trans (z.trans (lentF_out m)))
        · exact .inr z
  exact ⟨_, x2, R.step S2, fun v d hflat r1 => flatW_rep hL1 d hflat r1⟩
def lkB (te : TT) : Nat → TT
  | 0 => te
  | n + 1 => fun σ H Q => ∃ a u, H a = some u ∧ Mut (some u) ∧ ∀ ob, lkB te n σ (upd H a (.frz ob u)) fun v H1 => H1 a = some (.frz ob u) ∧ Q v (upd H1 a u)
theorem pt_lkB {X : Cx} {e : Expr} {te : TT} (h : PT X e te) : ∀ n, PT X e (lkB te n)
  | 0 => h
  | n + 1 => ⟨fun pins s σ H Q I ⟨a, u, ha, mu, q⟩ => by
    obtain ⟨ob, I2⟩ := I.lock ha mu
    have nf := I.nofrz ha mu
    refine thn ((pt_lkB h n).run pins s σ _ _ I2 (q ob)) fun v s1 ⟨H1, I1, e1, q1⟩ => ?_
    exact ⟨_, I1.unlock e1 nf, q1⟩⟩
theorem lkB_of {te : TT} (hm : ∀ σ H Q Q', te σ H Q → (∀ v H1, Q v H1 → Q' v H1) → te σ H Q') : ∀ (L : List Addr) {σ : L2.St} {H : Hp} {Q : Bool → Hp → Prop}, L.Nodup → (∀ a ∈ L, ∃ u, H a = some u ∧ isDH u = true) →
    (∀ f, te σ (lkF L f H) fun v H1 => (∀ a ∈ L, H1 a = lkF L f H a) ∧ Q v (unl L H H1)) → lkB te L.length σ H Q
  | [], σ, H, Q, _, _, h => by
    have e1 : ∀ f, lkF [] f H = H := fun f => funext fun b => lkF_out (fun m => nomatch m)
    have h0 := h default
    rw [e1] at h0
    refine hm _ _ _ _ h0 fun v H1 q => ?_
    have e2 : unl [] H H1 = H1 := funext fun b => unl_out (fun m => nomatch m)
    rw [e2] at q
    exact q.2
  | a :: l, σ, H, Q, nd, hd, h => by
    obtain ⟨u, ha, hu⟩ := hd a List.mem_cons_self
    have na : a ∉ l := (List.nodup_cons.mp nd).1
    have ne : ∀ b ∈ l, b ≠ a := fun b m z => na (z ▸ m)
    refine ⟨a, u, ha, mut_dh hu, fun ob => lkB_of hm l (List.nodup_cons.mp nd).2 (fun b m => ?_) fun f => ?_⟩
    · obtain ⟨w, hb, hw⟩ := hd b (List.mem_cons_of_mem _ m)
      exact ⟨w, by rw [upd_ne (ne b m)]; exact hb, hw⟩
    · have e1 : lkF l f (upd H a (.frz ob u)) = lkF (a :: l) (fun b => open Classical in if b = a then ob else f b) H := by
        funext b
        by_cases hb : b = a
        · subst hb
          rw [lkF_out na, upd_same, lkF_in List.mem_cons_self, ha]
          show _ = some (HO.frz (if b = b then ob else f b) u)
          rw [if_pos rfl]
        · by_cases m : b ∈ l
          · rw [lkF_in m, upd_ne hb, lkF_in (List.mem_cons_of_mem _ m)]
            show _ = (H b).map (HO.frz (if b = a then ob else f b))
            rw [if_neg hb]
          · rw [lkF_out m, upd_ne hb, lkF_out (fun z => (List.mem_cons.mp z).elim hb m)]
      rw [e1]
      refine hm _ _ _ _ (h _) fun v H1 ⟨q1, q2⟩ => ⟨fun b m => q1 b (List.mem_cons_of_mem _ m), ?_, ?_⟩
      · rw [unl_out na, q1 a List.mem_cons_self, lkF_in List.mem_cons_self, ha]
        show some (HO.frz (if a = a then ob else f a) u) = _
        rw [if_pos rfl]
      · have e2 : upd (unl l (upd H a (.frz ob u)) H1) a u = unl (a :: l) H H1 := by
          funext b
          by_cases hb : b = a
          · subst hb
            rw [upd_same, unl_in List.mem_cons_self, ha]
          · rw [upd_ne hb]
            by_cases m : b ∈ l
            · rw [unl_in m, upd_ne hb, unl_in (List.mem_cons_of_mem _ m)]
            · rw [unl_out m, unl_out (fun z => (List.mem_cons.mp z).elim hb m)]
        rw [e2]
        exact q2
theorem ttD_mono {S : Ss} {f : M Bool} (σ : L2.St) (H : Hp) (Q Q' : Bool → Hp → Prop) (h : ttD S f σ H Q) (i : ∀ v H1, Q v H1 → Q' v H1) : ttD S f σ H Q' := by
  obtain ⟨ρ, st, R, q⟩ := h
  exact ⟨ρ, st, R, Out.sat_mono q (fun d st' h ρ' H' e R' => i _ _ (h ρ' H' e R')) fun _ _ h => h⟩
theorem pt_ex {X : Cx} {e : Expr} {ι : Type} {t : ι → TT} (h : ∀ i, PT X e (t i)) : PT X e (fun σ H Q => ∃ i, t i σ H Q) := ⟨fun pins s σ H Q I ⟨i, w⟩ => (h i).run pins s σ H Q I w⟩
def bLendW (k : Nat) (fe : M Bool) : M Bool := fun st => match fe ⟨st.sl.map (slR st.w k), []⟩ with
  | .ok d _ => .ok d st
  | _ => .stuck
theorem pdt_lendW {X : Cx} {S : Ss} {e : Expr} {fe : M Bool} (k : Nat) (h : ∀ H0 ρ0, PDT X ⟨S.G, H0, ρ0, S.W, []⟩ e fe) : PDT X S e (bLendW k fe) := by
  have h1 : PT X e (fun σ H Q => ∃ i : Hp × Fz, ttD ⟨S.G, i.1, i.2, S.W, []⟩ fe σ H Q) := pt_ex fun i => (h i.1 i.2).pt
  refine ⟨pt_imp (pt_ex (pt_lkB h1)) fun σ H Q ⟨ρ, st, R, q⟩ => ?_⟩
  unfold bLendW at q
  cases ef : fe ⟨st.sl.map (slR st.w k), []⟩ with
  | exc x st1 => rw [ef] at q; exact q.elim
  | stuck => rw [ef] at q; exact q.elim
  | ok d st1 =>
    rw [ef] at q
    dsimp only at q
    obtain ⟨L, nd, hd, core⟩ := lend_core k R
    refine ⟨L.length, lkB_of (fun σ H Q Q' ⟨i, t⟩ m => ⟨i, ttD_mono σ H Q Q' t m⟩) L nd hd fun f => ?_⟩
    obtain ⟨ρh, Rh, back⟩ := core f
    refine ⟨(_, ρh), ρh, _, Rh, ?_⟩
    rw [ef]
    intro ρ1 H1 x1 R1
    obtain ⟨z1, ρ2, x2, R2, fl⟩ := back ρ1 H1 st1 x1 R1
    exact ⟨z1, q _ _ x2 R2⟩
end B
end
section
set_option maxRecDepth 100000
set_option maxHeartbeats 4000000
namespace B
open PySem L2 ClX
def forgetW (is : List Nat) (sl : List Slot) : List Slot := is.foldl (fun s i => s.set i .emp) sl
def cutW (n : Nat) (is : List Nat) (st : DS) : Option DS :=
  if n ≤ st.w.length ∧ clos n (st.w.take n) = true ∧ (forgetW is st.sl).all (sloC n) = true then some ⟨forgetW is st.sl, st.w.take n⟩ else none
def cutR (n : Nat) (d : Dt) (st : DS) : Option DS :=
  if n ≤ st.w.length ∧ clos n (st.w.take n) = true ∧ clo n d = true then some ⟨st.sl.map fun _ => .emp, st.w.take n⟩ else none
def sCut (is : List Nat) (f : MS) : MS := fun st => match f st with
  | .nx st1 => (match cutW st.w.length is st1 with | some st2 => .nx st2 | none => .stuck)
  | .ct st1 => (match cutW st.w.length is st1 with | some st2 => .ct st2 | none => .stuck)
  | .bk st1 => (match cutW st.w.length is st1 with | some st2 => .bk st2 | none => .stuck)
  | .ret d st1 => (match cutR st.w.length d st1 with | some st2 => .ret d st2 | none => .stuck)
  | .exc _ _ => .stuck
  | .stuck => .stuck
section
variable {S : Ss} {ρ ρ' : Fz} {H : Hp} {σ : L2.St} {st st' : DS} {n : Nat}
theorem SR.forgets (R : SR S ρ H σ st) : ∀ is : List Nat, SR S ρ H σ ⟨B.forgetW is st.sl, st.w⟩ := by
  intro is
  induction is generalizing st with
  | nil => exact R
  | cons i is ih => exact ih (st := ⟨st.sl.set i .emp, st.w⟩) R.emp
theorem SR.cut (R : SR S ρ' H σ st) (hS : Ext S.ρ0 ⟨ρ'.F, ρ'.io.take n⟩) (hl : n ≤ st.w.length) (hc : clos n (st.w.take n) = true) (hs : st.sl.all (sloC n) = true) : SR S ⟨ρ'.F, ρ'.io.take n⟩ H σ ⟨st.sl, st.w.take n⟩ := by
  have c := R.cov
  refine ⟨⟨hS, ⟨c.F, by rw [List.length_take, List.length_take, c.len], fun m a d' h1 h2 => ?_, c.nd.sublist (List.take_sublist _ _), c.tb.move (fun _ _ h => h) (fun _ _ => rfl) (fun q m z => List.mem_of_mem_take z) fun _ _ => rfl⟩, fun a u h m t => R.stp.keep a u h m t, R.stp.new, fun a m => R.stp.nio a (List.mem_of_mem_take m), R.stp.tb⟩, R.len, fun j s ej => ?_, R.dis, fun q u m => ?_⟩
  · have hlt : m < n := by
      have := (List.getElem?_eq_some_iff.mp h2).1
      rw [List.length_take] at this; omega
    have h1' : (ρ'.io.take n)[m]? = some a := h1
    have h2' : (st.w.take n)[m]? = some d' := h2
    have hcl := clos_all hc d' (List.mem_of_getElem? h2')
    rw [List.getElem?_take_of_lt hlt] at h1' h2'
    obtain ⟨z1, o', z2, z3⟩ := c.wo m a d' h1' h2'
    exact ⟨z1, o', z2, own_cut d' hcl z3⟩
  · have k := R.sl j s ej
    have hs : sloC n s = true := List.all_eq_true.mp hs s (List.mem_of_getElem? ej)
    cases s with
    | emp => trivial
    | shr d => obtain ⟨u, e2, r2⟩ := k; exact ⟨u, e2, rep_cut d hs r2⟩
    | own d' =>
      obtain ⟨p2, o2, e2, g0, gF, gio, gp, r2⟩ := k
      exact ⟨p2, o2, e2, g0, gF, fun m => gio (List.mem_of_mem_take m), gp, own_cut d' hs r2⟩
  · obtain ⟨g1, g2, g3, g⟩ := R.ex q u m
    exact ⟨g1, g2, fun z => g3 (List.mem_of_mem_take z), g⟩
theorem SR.noSlots (R : SR S ρ H σ st) : SR S ρ H σ ⟨st.sl.map fun _ => .emp, st.w⟩ := by
  have noown : ∀ (i : Nat) s, (st.sl.map fun _ => Slot.emp)[i]? = some s → s = .emp := fun i s e => by
    rw [List.getElem?_map] at e
    cases h : st.sl[i]? with
    | none => rw [h] at e; cases e
    | some x => rw [h] at e; exact (Option.some.inj e).symm
  refine ⟨R.stp, by rw [List.length_map]; exact R.len, fun i s e => ?_, fun i j d e p h1 => absurd (noown i _ h1) (fun z => by cases z), fun p o m => ?_⟩
  · rw [noown i s e]; trivial
  · obtain ⟨g1, g2, g3, g4, g5⟩ := R.ex p o m
    exact ⟨g1, g2, g3, g4, fun i d e => absurd (noown i _ e) (fun z => by cases z)⟩
end
section
variable {X : Cx} {S : Ss}
theorem ts_cut (is : List Nat) (f : MS) : ∀ D σ H, tsD S (sCut is f) D σ H → tsD S f D σ H := by
  intro D σ H ⟨ρ, st, R, q⟩
  refine ⟨ρ, st, R, ?_⟩
  have hl : ρ.io.length = st.w.length := R.cov.len
  have ext : ∀ {ρ1 : Fz}, Ext ρ ρ1 → Ext ρ ⟨ρ1.F, ρ1.io.take st.w.length⟩ := fun {ρ1} x => ⟨x.F, fun m a h => by
    have hlt := (List.getElem?_eq_some_iff.mp h).1
    show (ρ1.io.take st.w.length)[m]? = some a
    rw [List.getElem?_take_of_lt (by omega)]
    exact x.io m a h⟩
  have go : ∀ {st1 st2 : DS} {σ1 : L2.St} {ρ1 : Fz} {H1 : Hp}, cutW st.w.length is st1 = some st2 → Ext ρ ρ1 → SR S ρ1 H1 σ1 st1 → Ext ρ ⟨ρ1.F, ρ1.io.take st.w.length⟩ ∧ SR S ⟨ρ1.F, ρ1.io.take st.w.length⟩ H1 σ1 st2 := by
    intro st1 st2 σ1 ρ1 H1 e x R1
    unfold cutW at e
    split at e
    case isFalse => cases e
    rename_i hc
    cases e
    have x2 := ext x
    exact ⟨x2, (R1.forgets is).cut (R.stp.ext.trans x2) hc.1 hc.2.1 hc.2.2⟩
  unfold sCut at q
  cases ef : f st with
  | nx st1 =>
    rw [ef] at q
    dsimp only at q
    cases ec : cutW st.w.length is st1 with
    | none => rw [ec] at q; exact q.elim
    | some st2 => rw [ec] at q; exact fun σ1 ρ1 H1 x1 R1 => let ⟨x2, R2⟩ := go ec x1 R1; q σ1 _ H1 x2 R2
  | ct st1 =>
    rw [ef] at q
    dsimp only at q
    cases ec : cutW st.w.length is st1 with
    | none => rw [ec] at q; exact q.elim
    | some st2 => rw [ec] at q; exact fun σ1 ρ1 H1 x1 R1 => let ⟨x2, R2⟩ := go ec x1 R1; q σ1 _ H1 x2 R2
  | bk st1 =>
    rw [ef] at q
    dsimp only at q
    cases ec : cutW st.w.length is st1 with
    | none => rw [ec] at q; exact q.elim
    | some st2 => rw [ec] at q; exact fun σ1 ρ1 H1 x1 R1 => let ⟨x2, R2⟩ := go ec x1 R1; q σ1 _ H1 x2 R2
  | ret d st1 =>
    rw [ef] at q
    dsimp only at q
    cases ec : cutR st.w.length d st1 with
    | none => rw [ec] at q; exact q.elim
    | some st2 =>
      rw [ec] at q
      unfold cutR at ec
      split at ec
      case isFalse => cases ec
      rename_i hc
      cases ec
      intro v σ1 ρ1 H1 x1 R1 r1
      have x2 := ext x1
      refine q v σ1 _ H1 x2 (R1.noSlots.cut (R.stp.ext.trans x2) hc.1 hc.2.1 ?_) (rep_cut d hc.2.2 r1)
      rw [List.all_eq_true]
      intro s m
      obtain ⟨_, _, rfl⟩ := List.mem_map.mp m
      rfl
  | exc x st1 => rw [ef] at q; exact q.elim
  | stuck => rw [ef] at q; exact q.elim
theorem pdb_cut {b : List Stmt} {f : MS} (is : List Nat) (h : PDB X S b f) : PDB X S b (sCut is f) := ⟨pss_imp h.ps (ts_cut is f)⟩
end
end B
end
section
set_option maxRecDepth 100000
set_option maxHeartbeats 4000000
end
section
set_option maxRecDepth 100000
set_option maxHeartbeats 4000000
end
section
set_option maxRecDepth 100000
set_option maxHeartbeats 4000000
namespace B
open PySem L2
open PyProof.Rows (envOfC)
structure RoomX (k : Nat) (A : Around) : Prop where
  dp : A.depth + 3 * k + 5 < recursionLimit
  un : A.units + 16 * k + 200 < cLine
  gd : A.guards = some []
end B
end
section
set_option maxRecDepth 100000
set_option maxHeartbeats 4000000
namespace B
open PySem L2
open PyProof.Rows (envOfC)
abbrev ClM := List Dt → DS → Out (List Dt)
end B
end
section
set_option maxRecDepth 100000
set_option maxHeartbeats 4000000
namespace B
open PySem L2 ClX PyProof.V PySem.Spec
open PyProof.Rows
def mkKWL (mk : Ow) (o z : Dt) : M Dt := fun st => match z with
  | .loc n => (match st.w[n]? with
    | some (.dic kvs) => mkKW mk o (.dic kvs) st
    | _ => .stuck)
  | z => mkKW mk o z st
theorem mkKWL_of {mk : Ow} {o z : Dt} {st : DS} {P : Dt → DS → Prop} {E : XD → DS → Prop} (h : (mkKWL mk o z st).sat P E) : ∃ z', (mkKW mk o z' st).sat P E ∧ (z' = z ∨ ∃ n, z = .loc n ∧ st.w[n]? = some z') := by
  unfold mkKWL at h
  split at h
  · rename_i n
    cases e : st.w[n]? with
    | none => rw [e] at h; exact h.elim
    | some d =>
      rw [e] at h
      cases d with
      | dic kvs => exact ⟨_, h, .inr ⟨n, rfl, e⟩⟩
      | _ => exact h.elim
  · exact ⟨_, h, .inl rfl⟩
section
variable {X : Cx} {S : Ss} {k : Nat}
theorem pd_makeKL {x : Str} {p pos kp : Pos} {e : Expr} {fo fe : M Dt} {mk : Ow} (F : MkF X S.G k mk) (hkeep : ∀ c C, S.G.cl c = some C → mk c ≠ none → PySem.W.keepIn X.K (.ref C) = true) (hr : RoomG (k + 1) X.A) (tk : Takes X S.W) (ho : PD X S (.Name x p) fo) (he : ∀ y, PD X (S.inn y) e fe) :
    PD X S (.Call (.Name x p) [] [⟨none, e, kp⟩] pos) (d1 fo fun o => d1 (noX fe) fun z => mkKWL mk o z) := by
  refine ⟨⟨fun pins s σ H Q I ⟨ρ, st, R, q⟩ => ?_⟩⟩
  refine wpAny_Call_Name_kw (thn (ho.pe.run pins s σ H _ I ⟨ρ, st, R, Out.go q (fun o st1 q1 v ρ1 H1 e1 R1 ro => (⟨ρ1, st1, o, e1, R1, ro, q1⟩ :
    ∃ ρ1 st1 o, Ext ρ ρ1 ∧ SR S ρ1 H1 σ st1 ∧ Rep S.G ρ1 v o ∧ ((d1 (noX fe) fun z => mkKWL mk o z) st1).sat (PoD S ρ σ Q) (WantX S ρ σ))) fun _ _ h => h⟩) fun V' s1 ⟨v, H1, I1, rv, ρ1, st1, o, e1, R1, ro, q1⟩ => ?_)
  have q1' : (fe st1).sat (fun z st2 => (mkKWL mk o z st2).sat (PoD S ρ σ Q) (WantX S ρ σ)) (WantX (S.inn (s1.heap.objs.size, .dK [])) ρ1 σ) := noX_ok (Out.sat_bind q1)
  show wpAny (model X.prog X.w) X.A (callWith pos V' [] [] [(none, do let v ← eval e X.env; standAt pos; pure v)]) _ X.xe s1
  have hD : H1 s1.heap.objs.size = none := I1.hok.fresh (Nat.le_refl _)
  have nX : ∀ u, (s1.heap.objs.size, u) ∉ S.X := fun u m => by rw [(R1.ex _ u m).1] at hD; cases hD
  have I1' := I1.laid (a := s1.heap.objs.size) (o := .dK []) (h' := s1.heap.push { cls := .type "dict", data := .dict #[] }) (t' := s1.toks) (fun _ _ q => Heap.get?_push_of_some _ q) (Nat.le_refl _) (dk_empty s1.heap I1.big)
  have R1' := R1.inn (D := s1.heap.objs.size) (o := .dK []) hD (fun _ q => by cases q)
  cases hfe : fe st1 with
  | exc x st2 => unfold d1 noX at q1; rw [hfe] at q1; exact q1.elim
  | stuck => unfold d1 noX at q1; rw [hfe] at q1; exact q1.elim
  | ok z st2 =>
    rw [hfe] at q1'
    have qz : (mkKWL mk o z st2).sat (PoD S ρ σ Q) (WantX S ρ σ) := q1'
    obtain ⟨z', qz', hz'⟩ := mkKWL_of qz
    obtain ⟨c, m, kvs, ks, rfl, em, ev, ek, hself, qi⟩ := mkKW_of qz'
    obtain ⟨C, f, hc, M, Fm⟩ := F.f c m em
    obtain ⟨C', rfl, hc'⟩ := ro.out
    rw [hc] at hc'; cases hc'
    cases rv
    refine callWith_star (K := X.K) (hkeep c C hc (by rw [em]; exact fun z => by cases z)) (evalArgs_star (merged_kw ?_))
    refine wpAny_bind (thn ((he (s1.heap.objs.size, .dK [])).pe.run pins _ σ _ (fun w H2 => ∃ ρ2, Ext ρ1 ρ2 ∧ SR (S.inn (s1.heap.objs.size, .dK [])) ρ2 H2 σ st2 ∧ Rep S.G ρ2 w z) I1' ⟨ρ1, st1, R1', by rw [hfe]; exact fun w ρ2 H2 e2 R2 r2 => ⟨ρ2, e2, R2, r2⟩⟩) fun W s2 ⟨w, H2, I2, rw', ρ2, e2, R2, r2⟩ => ?_)
    refine wpAny_bind (wpAny_standAt (wpAny_pure ?_))
    unfold viewD at ev
    split at ev
    case h_2 => cases ev
    rename_i kvs'
    split at ev
    case isFalse => cases ev
    rename_i hall
    cases ev
    obtain ⟨hDat, hDF, hDI, _, _⟩ := R2.ex _ _ List.mem_cons_self
    obtain ⟨a, es, rfl, hrd, pk, hne⟩ : ∃ a es, w = .ref a ∧ Rd H2 a (.dK es) ∧ KVR S.G ρ2 es kvs ∧ s1.heap.objs.size ≠ a := by
      rcases hz' with rfl | ⟨n, rfl, hw⟩
      · obtain ⟨a, ob, o, rfl, hF, dr⟩ := r2.dic
        obtain ⟨es, rfl, pk⟩ := dicK_all dr hall
        exact ⟨a, es, rfl, .inr ⟨ob, R2.cov.F _ _ hF⟩, pk, fun q => by rw [q, hF] at hDF; cases hDF⟩
      · obtain ⟨a, ev, hio⟩ := r2.out
        obtain ⟨_, o, hHa, own⟩ := R2.cov.wo n a _ hio hw
        obtain ⟨es, rfl, pk⟩ := dicK_all own hall
        exact ⟨a, es, ev, .inl hHa, pk, fun q => hDI (q ▸ List.mem_of_getElem? hio)⟩
    cases rw'
    obtain ⟨hz, lo, vs, kv, dd⟩ := dk_rd I2.hok hrd
    obtain ⟨z0, lo0, vs0, kv0, dd0⟩ := dk_of I2.hok hDat
    cases kv0
    have hlen : vs.length = es.length := (Paired.length kv).symm
    refine ⟨a, vs, rfl, lo, dd, by rw [hlen]; exact hz, dd0, hne, fun h' dd' sb => ?_⟩
    have hkeys : vs.map (·.1) = ks.map Sum.inr := by rw [← KV.keys kv]; exact keys_strs pk ek
    obtain ⟨kws, k1, k2, k3⟩ := kw_of hkeys
    refine keywords_in dd' k1 ?_
    have nd : (vs.map (·.1)).Nodup := by obtain ⟨_, _, _, _, _, _, _, _, nd⟩ := dd; exact nd
    have ndk : (kws.map (·.1)).Nodup := by
      rw [k3]
      rw [hkeys] at nd
      rw [List.nodup_iff_pairwise_ne] at *
      exact (List.pairwise_map.mp nd).imp fun h q => h (by rw [q])
    have hex : ∃ q, h'.get? s1.heap.objs.size = some q := let ⟨q, _, _, hq, _⟩ := dd'; ⟨q, hq⟩
    have I3 : Inv X pins σ (upd H2 s1.heap.objs.size (.dK es)) { s2 with heap := h' } := d_write I2 (by rw [hDat]; exact True.intro) sb hex (dk_new hz lo0 kv dd')
    have R3 := R2.chg (o' := .dK es) (fun _ q => by cases q) nX
    have R3' : SR S ρ2 (upd H2 s1.heap.objs.size (.dK es)) σ st2 := ⟨R3.stp, R3.len, R3.sl, R3.dis, fun p u m => R3.ex p u (List.mem_cons_of_mem _ m)⟩
    refine ⟨I3.kIn, ?_⟩
    refine run_makeKW hc M Fm hr tk I3 R3' (by rw [k2]; exact kv) pk ndk (fun y hy => hself y.1 (by rw [← k3]; exact List.mem_map_of_mem hy)) (by rw [← List.length_map (as := kws) (f := (·.1)), k3, ← List.length_map (as := ks) (f := (Sum.inr : Str → Key)), ← hkeys, List.length_map, hlen]; exact hz) ?_
    exact Out.sat_mono qi (fun d st h => PoD.mono (e1.trans e2) h) fun x st h => WantX.mono (e1.trans e2) h
end
end B
end
section
set_option maxRecDepth 100000
set_option maxHeartbeats 4000000
namespace B
open PySem PySem.SeqAt L2 ClX PyProof.V PySem.Spec PyProof.Rows
section
variable {X : Cx} {S : Ss} {k : Nat}
theorem call_tupFL : CallR X (.type "tuple") (fun xs H Q => ∃ p ys, xs = [.ref p] ∧ SqL X.K H p ys ∧ ∀ l ob, H l = none → ob.dict = none → Q (.ref l) (upd H l (.frz ob (.tup ys)))) := by
  intro pins s σ H xs us Q I r h
  obtain ⟨p, ys, rfl, hq, q⟩ := h
  obtain ⟨u, rfl, rx⟩ := vals1 r
  cases rx
  obtain ⟨its, r', pl, hz⟩ := I.list hq
  have hlen := r'.length
  refine call_tuple_list pl.isList (fun h' kp => ?_) (by simp only [List.size_toArray] <;> omega)
  have I1 : Inv X pins σ H { s with heap := h' } := I.kept (t' := s.toks) kp
  have I2 : Inv X pins σ (upd H h'.objs.size (.frz { cls := .type "tuple", data := .seq its.toArray } (.tup ys))) { s with heap := h'.push { cls := .type "tuple", data := .seq its.toArray } } :=
    I1.laid (t' := s.toks) (fun b o e => Heap.get?_push_of_some _ e) (Nat.le_refl _) (show ObjOk X.prog X.w _ _ _ (.frz { cls := .type "tuple", data := .seq its.toArray } (.tup ys)) from ⟨Heap.get?_push_size _ rfl, hz, its, r', IsTup.new _ _⟩)
  exact ⟨.ref h'.objs.size, _, I2, rfl, q _ _ (I1.hok.fresh (Nat.le_refl _)) rfl⟩
def tupFL : List Dt → Option Dt
  | [.lst ds] => some (.frt ds)
  | _ => none
theorem cad_tupFL (hk : S.G.K = X.K) : CaD X S (fun us => call (.type "tuple") us) (fun ds => opt (tupFL ds)) := fun xs => cap_of call_tupFL (by
  intro ρ w H vs xs d c rs e Q q
  unfold tupFL at e
  split at e
  case h_2 => cases e
  cases e
  obtain ⟨v, rfl, r⟩ := paired1 rs
  obtain ⟨a, ws, rfl, f, p⟩ := r.lst
  refine ⟨a, ws, rfl, hk ▸ c.sl f, fun l ob hl hno => ?_⟩
  have s := Stp.fresh (o := .frz ob (.tup ws)) c hl
  exact q _ _ _ s (.mk ⟨l, _, ob, rfl, upd_same, hno, p.mp fun _ _ z => z.mono s.ext⟩))
end
end B
end
section
set_option maxRecDepth 100000
set_option maxHeartbeats 4000000
namespace B
open PySem PySem.SeqAt L2 ClX PyProof.V PySem.Spec PyProof.Rows
def tpOfF (w : Wd) : Dt → Option Tp
  | .frt _ => some (.ty "tuple")
  | d => tpOf w d
def isDF (is : IsT) (w : Wd) : List Dt → Option Dt
  | [x, c] => match tpOfF w x, tpC c with
    | some t, some k => (is t k).map .bl
    | _, _ => none
  | _ => none
abbrev gIsiF (is : IsT) : List Dt → M Dt := fun ds st => opt (isDF is st.w ds) st
theorem ty_atF {G : Cfg} {K : PySem.W.Frag} {ρ : Fz} {w : Wd} {H : Hp} {v : V} {x : Dt} {t : Tp} (hk : G.K = K) (cv : Cov G ρ w H) (r : Rep G ρ v x) (h : tpOfF w x = some t) (hi : ∀ c, t = .cl c → ∃ C, G.cl c = some C ∧ InF K C) : ∃ vt, tpV G t = some vt ∧ TyX K H v vt := by
  cases x with
  | frt ds =>
    cases h
    obtain ⟨a, vs, ob, rfl, f, _, _⟩ := r.out
    exact ⟨_, rfl, .fTuple (cv.F _ _ f)⟩
  | _ => exact ty_at hk cv r h hi
section
variable {X : Cx} {S : Ss} {k : Nat}
theorem cap_isiF {is : IsT} (hk : S.G.K = X.K) (F : IsF X S.G is) {xs : List Dt} : CaP X S (fun us => call (.builtin "isinstance") us) xs (fun st => opt (isDF is st.w xs) st) := by
  intro pins s σ H vs us ρ st Q I rv R rxs q
  dsimp only at q
  cases e : isDF is st.w xs with
  | none => rw [e] at q; exact q.elim
  | some d =>
    rw [e] at q
    unfold isDF at e
    split at e
    case h_2 => cases e
    rename_i x c
    split at e
    case h_2 => cases e
    rename_i t k et ek
    cases ei : is t k with
    | none => rw [ei] at e; cases e
    | some b =>
      rw [ei] at e; cases e
      obtain ⟨v, u, rfl, r1, r2⟩ := paired2 rxs
      obtain ⟨vt, vc, h1, h2, h3⟩ := F.f t k b ei
      obtain ⟨vt', h1', ty⟩ := ty_atF hk R.cov r1 et (fun c e => by subst e; exact F.i c k b ei)
      rw [h1] at h1'; cases h1'
      have kc : ClsV u vc := by
        cases c with
        | ty n => cases ek; cases h2; rw [r2.ty]; exact .ty n
        | cls c =>
          cases ek
          obtain ⟨C, rfl, hc⟩ := r2.out
          have h2 : (S.G.cl c).map Value.ref = some vc := h2
          rw [hc] at h2; cases h2
          exact .own C
        | _ => cases ek
      exact call_isi pins s σ H [v, u] us Q I rv ⟨v, u, vt, vc, b, rfl, kc, ty, h3, q _ ρ H (Ext.refl ρ) R rep_bl⟩
end
end B
end
section
set_option maxRecDepth 100000
set_option maxHeartbeats 4000000
namespace B
open PySem PySem.SeqAt L2 ClX PyProof.V PySem.Spec PyProof.Rows
theorem frt_sq {G : Cfg} {ρ : Fz} {v : V} {ds : List Dt} (r : Rep G ρ v (.frt ds)) : ∃ a vs, v = .ref a ∧ SqT G.K ρ.F a vs ∧ Paired (Rep G ρ) vs ds := by
  obtain ⟨a, vs, ob, rfl, f, _, p⟩ := r.out
  exact ⟨a, vs, rfl, .inl (.inr ⟨ob, f⟩), p⟩
def iterF : Dt → M (List Dt)
  | .frt xs => fun st => .ok xs st
  | d => iterD d
def lenUF (ow : Ow) (xs : List Dt) : M Dt := fun st => match xs with
  | [.frt ds] => .ok (.int ds.length) st
  | xs => lenU ow xs st
section
variable {X : Cx} {S : Ss} {k : Nat} {tg e : Expr} {fe : M Dt}
theorem pdi_valF (hk : S.G.K = X.K) (he : PD X S e fe) : PDI X S tg e (d1 fe iterF) := by
  refine ⟨pi_imp (pi_or (pi_tup he.pe) (pdi_val hk he).pi) fun σ H Q ⟨ρ, st, R, q⟩ => ?_⟩
  cases e1 : fe st with
  | exc x st1 => exact .inr ⟨ρ, st, R, by unfold d1 at q ⊢; rw [e1] at q ⊢; exact q⟩
  | stuck => unfold d1 at q; rw [e1] at q; exact q.elim
  | ok x st1 =>
    have q' : (iterF x st1).sat (fun ds st' => ∀ J ρ' H', Ext ρ ρ' → SR S ρ' H' σ st' → ItD S.G J ρ' ds → Q J H') (WantX S ρ σ) := by unfold d1 at q; rw [e1] at q; exact q
    have old : iterF x = iterD x → ∃ ρ st, SR S ρ H σ st ∧ ((d1 fe iterD) st).sat (fun ds st' => ∀ J ρ' H', Ext ρ ρ' → SR S ρ' H' σ st' → ItD S.G J ρ' ds → Q J H') (WantX S ρ σ) := fun e => ⟨ρ, st, R, by unfold d1; rw [e1]; show (iterD x st1).sat _ _; rw [← e]; exact q'⟩
    cases x with
    | frt xs =>
      refine .inl ⟨ρ, st, R, by
        rw [e1]
        exact fun v ρ1 H1 x1 R1 r1 => by
          obtain ⟨a, vs, rfl, f, p⟩ := frt_sq r1
          exact ⟨a, rfl, ⟨vs, hk ▸ R1.cov.st f⟩, q' _ ρ1 H1 x1 R1 (it_tup hk f p)⟩⟩
    | _ => exact .inr (old rfl)
theorem cad_lenF {ow : Ow} (hk : S.G.K = X.K) (F : OwF X S.G k "__len__" ow) (hr : RoomG (k + 1) X.A) (tk : Takes X S.W) : CaD X S (fun us => call (.builtin "len") us) (lenUF ow) := by
  intro xs pins s σ H vs us ρ st Q I rv R rxs q
  unfold lenUF at q
  split at q
  · rename_i ds
    obtain ⟨v, rfl, r⟩ := paired1 rxs
    obtain ⟨a, ws, rfl, f, p⟩ := frt_sq r
    exact call_len pins s σ H [.ref a] us Q I rv ⟨.ref a, ds.length, rfl, .inr ⟨ws, hk ▸ R.cov.st f, p.length.symm⟩, q _ ρ H (Ext.refl ρ) R rep_int⟩
  · exact cad_len hk F hr tk _ pins s σ H vs us ρ st Q I rv R rxs q
end
end B
end
section
set_option maxRecDepth 100000
set_option maxHeartbeats 4000000
namespace K07
open PySem L2 ClX B
open PyProof.Rows
def top (i : Nat) : Stmt := PySem.Challenge.pw_leastbrews_k07_stocks_made.main.body.getD i (.Pass ⟨0, 0, 0, 0⟩)
abbrev s__law_begin : Stmt := top 20
abbrev s__law_draw : Stmt := top 21
abbrev s__law_pick : Stmt := top 22
abbrev s__law_names : Stmt := top 24
abbrev s__law_number : Stmt := top 26
abbrev s__law_shuffled : Stmt := top 23
abbrev s_Stock___contains__ : Stmt := inClass (top 18) 8
abbrev s_Stock___getitem__ : Stmt := inClass (top 18) 9
abbrev s_is_integer : Stmt := top 6
abbrev s_is_between : Stmt := top 7
abbrev s_is_amount : Stmt := top 16
abbrev s_is_name : Stmt := top 8
abbrev s_Stock___init__ : Stmt := inClass (top 18) 1
abbrev s_Stock_of : Stmt := inClass (top 18) 2
abbrev s_Stock___eq__ : Stmt := inClass (top 18) 4
abbrev s_Stock_kinds : Stmt := inClass (top 18) 14
abbrev s_Stock_entries : Stmt := inClass (top 18) 15
abbrev s_Stock_total : Stmt := inClass (top 18) 16
abbrev s_Stock___len__ : Stmt := inClass (top 18) 6
abbrev s_Stock___bool__ : Stmt := inClass (top 18) 7
abbrev s__law_odd : Stmt := top 25
abbrev s__law_is_told : Stmt := top 28
abbrev s__law_by_names : Stmt := top 27
abbrev s_Stock_single : Stmt := inClass (top 18) 3
abbrev s_law : Stmt := top 29
structure Tx (K : PySem.W.Frag) (mg : Str → Option Value) where
  (a_Stock a__law_begin a__law_draw a__law_pick a__law_names a__law_number a__law_shuffled a_Stock___contains__ a_Stock___getitem__ a_is_integer a_is_between a_is_amount a_is_name a_Stock___init__ a_Stock_of a_Stock___eq__ a_Stock_kinds a_Stock_entries a_Stock_total a_Stock___len__ a_Stock___bool__ a__law_odd a__law_is_told a__law_by_names a_Stock_single a_law pc_Stock_of : Addr)
  mc_Stock : Value
  cr_Stock : CRead K a_Stock mc_Stock
  g_Stock : mg "Stock" = some (.ref a_Stock)
  cls_Stock : Cls K a_Stock
  kp_Stock : PySem.W.keepIn K (.ref a_Stock) = true
  d__law_begin : Df K "_law_begin" "_law_begin" s__law_begin ["_law_script"] a__law_begin
  g__law_begin : mg "_law_begin" = some (.ref a__law_begin)
  d__law_draw : Df K "_law_draw" "_law_draw" s__law_draw ["_law_tape", "_law_many"] a__law_draw
  g__law_draw : mg "_law_draw" = some (.ref a__law_draw)
  d__law_pick : Df K "_law_pick" "_law_pick" s__law_pick ["_law_tape", "_law_items"] a__law_pick
  g__law_pick : mg "_law_pick" = some (.ref a__law_pick)
  d__law_names : Df K "_law_names" "_law_names" s__law_names ["_law_tape", "_law_many"] a__law_names
  g__law_names : mg "_law_names" = some (.ref a__law_names)
  d__law_number : Df K "_law_number" "_law_number" s__law_number ["_law_tape", "_law_most"] a__law_number
  g__law_number : mg "_law_number" = some (.ref a__law_number)
  d__law_shuffled : Df K "_law_shuffled" "_law_shuffled" s__law_shuffled ["_law_tape", "_law_items"] a__law_shuffled
  g__law_shuffled : mg "_law_shuffled" = some (.ref a__law_shuffled)
  d_Stock___contains__ : Df K "__contains__" "Stock.__contains__" s_Stock___contains__ ["self", "value"] a_Stock___contains__
  at_Stock___contains__ : PySem.W.findIn K (.ref a_Stock) "__contains__" = some (some (.ref a_Stock___contains__)) ∧ PySem.W.isFn K (.ref a_Stock___contains__) = true ∧ PySem.W.fnIn K a_Stock___contains__ = true
  d_Stock___getitem__ : Df K "__getitem__" "Stock.__getitem__" s_Stock___getitem__ ["self", "value"] a_Stock___getitem__
  at_Stock___getitem__ : PySem.W.findIn K (.ref a_Stock) "__getitem__" = some (some (.ref a_Stock___getitem__)) ∧ PySem.W.isFn K (.ref a_Stock___getitem__) = true ∧ PySem.W.fnIn K a_Stock___getitem__ = true
  d_is_integer : Df K "is_integer" "is_integer" s_is_integer ["value"] a_is_integer
  g_is_integer : mg "is_integer" = some (.ref a_is_integer)
  d_is_between : Df K "is_between" "is_between" s_is_between ["value", "least", "most"] a_is_between
  g_is_between : mg "is_between" = some (.ref a_is_between)
  d_is_amount : Df K "is_amount" "is_amount" s_is_amount ["value"] a_is_amount
  g_is_amount : mg "is_amount" = some (.ref a_is_amount)
  d_is_name : Df K "is_name" "is_name" s_is_name ["value"] a_is_name
  g_is_name : mg "is_name" = some (.ref a_is_name)
  d_Stock___init__ : Dk K "__init__" "Stock.__init__" s_Stock___init__ "counts" a_Stock___init__
  mk_Stock : Mk K a_Stock a_Stock___init__
  d_Stock_of : Df K "of" "Stock.of" s_Stock_of ["cls", "counts"] a_Stock_of
  cm_Stock_of : CMet K a_Stock mc_Stock "of" pc_Stock_of a_Stock_of
  d_Stock___eq__ : Df K "__eq__" "Stock.__eq__" s_Stock___eq__ ["self", "other"] a_Stock___eq__
  at_Stock___eq__ : PySem.W.findIn K (.ref a_Stock) "__eq__" = some (some (.ref a_Stock___eq__)) ∧ PySem.W.isFn K (.ref a_Stock___eq__) = true ∧ PySem.W.fnIn K a_Stock___eq__ = true
  d_Stock_kinds : Df K "kinds" "Stock.kinds" s_Stock_kinds ["self"] a_Stock_kinds
  p_Stock_kinds : ∃ p, PropOf K a_Stock "kinds" p a_Stock_kinds
  d_Stock_entries : Df K "entries" "Stock.entries" s_Stock_entries ["self"] a_Stock_entries
  p_Stock_entries : ∃ p, PropOf K a_Stock "entries" p a_Stock_entries
  d_Stock_total : Df K "total" "Stock.total" s_Stock_total ["self"] a_Stock_total
  p_Stock_total : ∃ p, PropOf K a_Stock "total" p a_Stock_total
  d_Stock___len__ : Df K "__len__" "Stock.__len__" s_Stock___len__ ["self"] a_Stock___len__
  at_Stock___len__ : PySem.W.findIn K (.ref a_Stock) "__len__" = some (some (.ref a_Stock___len__)) ∧ PySem.W.isFn K (.ref a_Stock___len__) = true ∧ PySem.W.fnIn K a_Stock___len__ = true
  d_Stock___bool__ : Df K "__bool__" "Stock.__bool__" s_Stock___bool__ ["self"] a_Stock___bool__
  at_Stock___bool__ : PySem.W.findIn K (.ref a_Stock) "__bool__" = some (some (.ref a_Stock___bool__)) ∧ PySem.W.isFn K (.ref a_Stock___bool__) = true ∧ PySem.W.fnIn K a_Stock___bool__ = true
  d__law_odd : Df K "_law_odd" "_law_odd" s__law_odd ["_law_tape"] a__law_odd
  g__law_odd : mg "_law_odd" = some (.ref a__law_odd)
  d__law_is_told : Df K "_law_is_told" "_law_is_told" s__law_is_told ["_law_tape", "_law_stock", "_law_counts"] a__law_is_told
  g__law_is_told : mg "_law_is_told" = some (.ref a__law_is_told)
  d__law_by_names : Df K "_law_by_names" "_law_by_names" s__law_by_names ["_law_x", "_law_y", "_law_z"] a__law_by_names
  g__law_by_names : mg "_law_by_names" = some (.ref a__law_by_names)
  d_Stock_single : Dd K "single" "Stock.single" s_Stock_single ["kind", "count"] [.int 1] a_Stock_single
  sm_Stock_single : SMet K a_Stock mc_Stock "single" a_Stock_single
  d_law : Df K "law" "law" s_law ["_law_script"] a_law
  g_law : mg "law" = some (.ref a_law)
  sf_Stock : PySem.W.selfFirst K a_Stock = true
  ne1_Stock : PySem.W.findIn K (.ref a_Stock) "__ne__" = some (some (.builtin "object.__ne__"))
  ne2_Stock : PySem.W.subIn K (.ref a_Stock) (.type "object") = some true
  eo_Stock_NoneType : PySem.W.subIn K (.type "NoneType") (.ref a_Stock) = some false
  eo_Stock_bool : PySem.W.subIn K (.type "bool") (.ref a_Stock) = some false
  eo_Stock_int : PySem.W.subIn K (.type "int") (.ref a_Stock) = some false
  eo_Stock_str : PySem.W.subIn K (.type "str") (.ref a_Stock) = some false
  eo_Stock_dict : PySem.W.subIn K (.type "dict") (.ref a_Stock) = some false
  eo_Stock_list : PySem.W.subIn K (.type "list") (.ref a_Stock) = some false
  eo_Stock_tuple : PySem.W.subIn K (.type "tuple") (.ref a_Stock) = some false
  is1_Stock : InF K a_Stock
  is2_Stock : PySem.W.kitOne K (.ref a_Stock) (.ref a_Stock) = some true
  is3_Stock : PySem.W.hasDictIn K a_Stock = true
  is4_Stock : PySem.W.typeIn K (.ref a_Stock) = some (.type "type")
  na_Stock_held : NoAttr K a_Stock "held"
  na_Stock_order : NoAttr K a_Stock "order"
  cv_Stock_MOST : ∃ u, CVal K a_Stock mc_Stock "MOST" (.int 1000000000000000000) u
  z_all : mg "all" = none
  z_bool : mg "bool" = none
  z_dict : mg "dict" = none
  z_int : mg "int" = none
  z_isinstance : mg "isinstance" = none
  z_len : mg "len" = none
  z_list : mg "list" = none
  z_range : mg "range" = none
  z_repr : mg "repr" = none
  z_sorted : mg "sorted" = none
  z_str : mg "str" = none
  z_sum : mg "sum" = none
  z_tuple : mg "tuple" = none
  z_zip : mg "zip" = none
  kon_LETTERS : Kon K mg "LETTERS" (.str "abcdefghijklmnopqrstuvwxyz")
  kon_MOST_BARRELS : Kon K mg "MOST_BARRELS" (.int 1000000000000000000)
  kon_MOST_LETTERS : Kon K mg "MOST_LETTERS" (.int 8)
  kon_RESERVED : KonT K mg "RESERVED" ["self", "table", "guards"]
section
variable {P : Program} {w : World} {K : PySem.W.Frag} {mg : Str → Option Value} {base : Heap}
def cl (T : Tx K mg) (c : Str) : Option Addr := if c = "Stock" then some T.a_Stock else none
theorem inj (T : Tx K mg) : ∀ c d C, cl T c = some C → cl T d = some C → c = d := by
  intro c d C h1 h2
  unfold cl at h1 h2
  repeat' split at h1
  all_goals (repeat' split at h2)
  all_goals first | (cases h1; done) | (cases h2; done) | (subst_vars; rfl) | skip
def Tx.G (T : Tx K mg) : Cfg := ⟨K, cl T, inj T, []⟩
theorem Tx.G_Stock (T : Tx K mg) : T.G.cl "Stock" = some T.a_Stock := by
  show cl T "Stock" = _
  unfold cl
  repeat first | rw [if_pos rfl] | rw [if_neg (by decide +kernel)]
def isT : IsT := isC2 ["Stock"]
theorem isf (T : Tx K mg) {X : Cx} (h1 : X.K = K) (h2 : X.mg = mg) : IsF X T.G isT := by
  subst h1 h2
  refine isf_c2 fun c hc => ?_
  simp only [List.mem_cons, List.not_mem_nil, or_false] at hc
  rcases hc with rfl
  · exact ⟨_, T.G_Stock, T.is1_Stock, T.is2_Stock, T.is3_Stock, T.is4_Stock⟩
def p__law_begin_1 : MS :=
  (sRet (toLoc (mDic (prCons (dC (.str "cells")) (mOrT (mSl (dVar 0) pNo (d1 (dC (.int 63)) pInt)) (aLst (aCons (dC (.int 0)) aNil)) truN) (prCons (dC (.str "place")) (dC (.int 0)) (prCons (dC (.str "left")) (dC (.int 0)) prNil))))))
def b__law_begin : MS :=
  p__law_begin_1
def r__law_begin : FnM := runB 1 1 b__law_begin
theorem sc__law_begin : FnScope ["_law_script"] ["_law_script"] (defScope s__law_begin) := ⟨rfl, rfl, rfl, by decide +kernel, rfl, by decide +kernel, by decide +kernel⟩
theorem ok__law_begin (T : Tx K mg) : FnG P w K mg base (L2.CX P w) 1 T.a__law_begin (spD T.G r__law_begin) := by
  refine T.d__law_begin.ok sc__law_begin fun cdv A outer s H E ρ hr => ?_
  exact (pdb_one (pds_ret (pd_loc (po_dict (pdps_cons (fun _ => pd_str) (fun _ => (pd_orT (trd_n rfl) (pd_slice rfl (pd_name 0 (pv 0)) pdp_none (pdp_some pd_int)) (pd_one (PO.pd (po_lst (pda_cons pd_int pda_nil)))))) (pdps_cons (fun _ => pd_str) (fun _ => pd_int) (pdps_cons (fun _ => pd_str) (fun _ => pd_int) pdps_nil)))))))
def p__law_draw_1 : MS :=
  (sIf (d1 (mB2 (mB2 (dVar 0) (dC (.str "left")) (getU ow0)) (dVar 1) (ltU ow0)) toB) (sSeq (sPar 2 3 (aCons (mB2 (dVar 0) (dC (.str "place")) (getU ow0)) (aCons (d1 (aCons (mB2 (dVar 0) (dC (.str "cells")) (getU ow0)) aNil) (lenU ow0)) aNil))) (sSeq (sAsg (aTup (aCons (mB2 (mB2 (dVar 0) (dC (.str "cells")) (getU ow0)) (mB2 (d1 (aCons (dVar 2) aNil) gInt) (dVar 3) modU) (getU ow0)) (aCons (mB2 (dVar 2) (dC (.int 1)) (addU ow0)) aNil))) (tTupT 2 (tCons (tName 4) (tCons (tSub (dVar 0) (dC (.str "place"))) tNil)))) (sSeq (sAsg (mB2 (d1 (aCons (mB2 (mB2 (mB2 (mB2 (d1 (aCons (dVar 4) aNil) gInt) (dC (.int 2147483647)) modU) (mB2 (dC (.int 69621)) (dVar 2) mulU) (addU ow0)) (dC (.int 48271)) (addU ow0)) (dC (.int 17)) powU) aNil) gInt) (mB2 (mB2 (dC (.int 10)) (dC (.int 50)) powU) (dC (.int 151)) (addU ow0)) modU) (tSub (dVar 0) (dC (.str "left")))) (sIf (mAnd (d1 (mB2 (dVar 4) (mB2 (dC (.int 10)) (dC (.int 18)) powU) geU) toB) (d1 (mB2 (dVar 2) (dVar 3) (ltU ow0)) toB)) (sAsg (mB2 (dVar 4) (mB2 (dC (.int 10)) (dC (.int 18)) powU) (subU ow0)) (tSub (dVar 0) (dC (.str "left")))) sNext)))) sNext)
def p__law_draw_2 : MS :=
  (sAsg (aTup (aCons (mB2 (d1 (aCons (mB2 (dVar 0) (dC (.str "left")) (getU ow0)) aNil) gInt) (dVar 1) modU) (aCons (mB2 (mB2 (dVar 0) (dC (.str "left")) (getU ow0)) (dVar 1) fdivU) aNil))) (tTupT 2 (tCons (tName 5) (tCons (tSub (dVar 0) (dC (.str "left"))) tNil))))
def b__law_draw : MS :=
  (sSeq p__law_draw_1 (sSeq p__law_draw_2 (sRet (dVar 5))))
def r__law_draw : FnM := runB 6 2 b__law_draw
theorem sc__law_draw : FnScope ["_law_tape", "_law_many", "_law_place", "_law_size", "_law_cell", "_law_found"] ["_law_tape", "_law_many"] (defScope s__law_draw) := ⟨rfl, rfl, rfl, by decide +kernel, rfl, by decide +kernel, by decide +kernel⟩
theorem ok__law_draw (T : Tx K mg) : FnG P w K mg base (L2.CX P w) 2 T.a__law_draw (spD T.G r__law_draw) := by
  refine T.d__law_draw.ok sc__law_draw fun cdv A outer s H E ρ hr => ?_
  have tk : Takes (cxOf (L2.CX P w) P w K mg base ["_law_tape", "_law_many", "_law_place", "_law_size", "_law_cell", "_law_found"] "_law_draw" (defScope s__law_draw) T.a__law_draw cdv A outer s H E) (fun c d _ H => E c d H) := takes_of rfl rfl rfl rfl
  exact (pdb_cons (pds_if (pdt_cmpU (opd_lt (owf0 (k := 0)) (hr.mono (by decide)) tk) (pd_sub (opd_get rfl (owf0 (k := 0)) (hr.mono (by decide)) tk) (pd_name 0 (pv 0)) pd_str) (pd_name 1 (pv 1)) (by rfl)) (pdb_cons (pds_par (ps_par (i := 2) (j := 3) rfl sc__law_draw.nd rfl rfl (by decide) rfl rfl (PDA.pa (pda_cons (pd_sub (opd_get rfl (owf0 (k := 0)) (hr.mono (by decide)) tk) (pd_name 0 (pv 0)) pd_str) (pda_cons (pd_callBU (cad_len rfl (owf0 (k := 0)) (hr.mono (by decide)) tk) T.z_len rfl (pda_cons (pd_sub (opd_get rfl (owf0 (k := 0)) (hr.mono (by decide)) tk) (pd_name 0 (pv 0)) pd_str) pda_nil)) pda_nil))) (by rfl))) (pdb_cons (pds_asg (pd_tup (pda_cons (pd_sub (opd_get rfl (owf0 (k := 0)) (hr.mono (by decide)) tk) (pd_sub (opd_get rfl (owf0 (k := 0)) (hr.mono (by decide)) tk) (pd_name 0 (pv 0)) pd_str) (pd_bin opd_mod (pd_callTU (cad_int) T.z_int rfl (pda_cons (pd_name 2 (pv 2)) pda_nil)) (pd_name 3 (pv 3)))) (pda_cons (pd_bin (opd_add rfl (owf0 (k := 0)) (hr.mono (by decide)) tk) (pd_name 2 (pv 2)) pd_int) pda_nil))) (pdg_tup rfl rfl (pdgs_cons (pdg_name (pg_name (i := 4) sc__law_draw.nd rfl (by first | exact Or.inl rfl | exact Or.inr rfl))) (pdgs_cons (pdg_sub hr (pd_name 0 (pv 0)) pd_str) pdgs_nil)))) (pdb_cons (pds_asg (pd_bin opd_mod (pd_callTU (cad_int) T.z_int rfl (pda_cons (pd_bin opd_pow (pd_bin (opd_add rfl (owf0 (k := 0)) (hr.mono (by decide)) tk) (pd_bin (opd_add rfl (owf0 (k := 0)) (hr.mono (by decide)) tk) (pd_bin opd_mod (pd_callTU (cad_int) T.z_int rfl (pda_cons (pd_name 4 (pv 4)) pda_nil)) pd_int) (pd_bin opd_mul pd_int (pd_name 2 (pv 2)))) pd_int) pd_int) pda_nil)) (pd_bin (opd_add rfl (owf0 (k := 0)) (hr.mono (by decide)) tk) (pd_bin opd_pow pd_int pd_int) pd_int)) (pdg_sub hr (pd_name 0 (pv 0)) pd_str)) (pdb_one (pds_if (PDW.t (pdw_and (pdt_cmpU opd_ge (pd_name 4 (pv 4)) (pd_bin opd_pow pd_int pd_int) (by rfl)) (pdw_and1 (pdt_cmpU (opd_lt (owf0 (k := 0)) (hr.mono (by decide)) tk) (pd_name 2 (pv 2)) (pd_name 3 (pv 3)) (by rfl))))) (pdb_one (pds_asg (pd_bin (opd_sub (owf0 (k := 0)) (hr.mono (by decide)) tk) (pd_name 4 (pv 4)) (pd_bin opd_pow pd_int pd_int)) (pdg_sub hr (pd_name 0 (pv 0)) pd_str))) pdb_nil))))) pdb_nil) (pdb_cons (pds_asg (pd_tup (pda_cons (pd_bin opd_mod (pd_callTU (cad_int) T.z_int rfl (pda_cons (pd_sub (opd_get rfl (owf0 (k := 0)) (hr.mono (by decide)) tk) (pd_name 0 (pv 0)) pd_str) pda_nil)) (pd_name 1 (pv 1))) (pda_cons (pd_bin opd_fdiv (pd_sub (opd_get rfl (owf0 (k := 0)) (hr.mono (by decide)) tk) (pd_name 0 (pv 0)) pd_str) (pd_name 1 (pv 1))) pda_nil))) (pdg_tup rfl rfl (pdgs_cons (pdg_name (pg_name (i := 5) sc__law_draw.nd rfl (by first | exact Or.inl rfl | exact Or.inr rfl))) (pdgs_cons (pdg_sub hr (pd_name 0 (pv 0)) pd_str) pdgs_nil)))) (pdb_one (pds_ret (pd_name 5 (pv 5))))))
def p__law_pick_1 : MS :=
  (sRet (mB2 (dVar 1) (d1 (aCons (dVar 0) (aCons (d1 (aCons (dVar 1) aNil) (lenU ow0)) aNil)) (callM r__law_draw)) (getU ow0)))
def b__law_pick : MS :=
  p__law_pick_1
def r__law_pick : FnM := runB 2 2 b__law_pick
theorem sc__law_pick : FnScope ["_law_tape", "_law_items"] ["_law_tape", "_law_items"] (defScope s__law_pick) := ⟨rfl, rfl, rfl, by decide +kernel, rfl, by decide +kernel, by decide +kernel⟩
theorem ok__law_pick (T : Tx K mg) : FnG P w K mg base (L2.CX P w) 3 T.a__law_pick (spD T.G r__law_pick) := by
  refine T.d__law_pick.ok sc__law_pick fun cdv A outer s H E ρ hr => ?_
  have tk : Takes (cxOf (L2.CX P w) P w K mg base ["_law_tape", "_law_items"] "_law_pick" (defScope s__law_pick) T.a__law_pick cdv A outer s H E) (fun c d _ H => E c d H) := takes_of rfl rfl rfl rfl
  exact (pdb_one (pds_ret (pd_sub (opd_get rfl (owf0 (k := 0)) (hr.mono (by decide)) tk) (pd_name 1 (pv 1)) (pd_call (ok__law_draw T) (hr.mono (by decide)) tk T.g__law_draw T.d__law_draw.kp (pda_cons (pd_name 0 (pv 0)) (pda_cons (pd_callBU (cad_len rfl (owf0 (k := 0)) (hr.mono (by decide)) tk) T.z_len rfl (pda_cons (pd_name 1 (pv 1)) pda_nil)) pda_nil))))))
def p__law_names_2 : MS :=
  (sSet 3 (mMe "str" (dC (.str "")) (aCons (mLc [8] (d1 (aCons (d1 (aCons (dVar 0) (aCons (dC (.int 8)) aNil)) (callM r__law_draw)) aNil) rng1) (tName 8) mYes (d1 (aCons (dVar 0) (aCons (dVar 2) aNil)) (callM r__law_pick))) aNil) gJoin))
def p__law_names_3 : MS :=
  (sPar3 4 5 6 (aCons (d1 (aCons (dVar 0) (aCons (dC (.int 26)) aNil)) (callM r__law_draw)) (aCons (d1 (aCons (dVar 0) (aCons (aLst (aCons (dC (.int 1)) (aCons (dC (.int 3)) (aCons (dC (.int 5)) (aCons (dC (.int 7)) (aCons (dC (.int 9)) (aCons (dC (.int 11)) aNil))))))) aNil)) (callM r__law_pick)) (aCons (d1 (aCons (dVar 0) (aCons (dC (.int 3)) aNil)) (callM r__law_draw)) aNil))))
def p__law_names_5_1 : MS :=
  (sSet 9 (mB2 (dVar 2) (mB2 (d1 (aCons (mB2 (dVar 4) (mB2 (dVar 5) (dVar 8) mulU) (addU ow0)) aNil) gInt) (dC (.int 26)) modU) (getU ow0)))
def p__law_names_5_2 : MS :=
  (sSet 10 (mB2 (aLst (aCons (mB2 (dVar 9) (dVar 3) (addU ow0)) (aCons (mB2 (dVar 3) (dVar 9) (addU ow0)) (aCons (mSl (mB2 (dVar 9) (dVar 3) (addU ow0)) pNo (d1 (mB2 (dC (.int 1)) (mB2 (d1 (aCons (dVar 8) aNil) gInt) (dC (.int 8)) modU) (addU ow0)) pInt)) aNil)))) (dVar 6) (getU ow0)))
def p__law_names_5_3 : MS :=
  (sPeek 7 (sExpr (mMe "list" (dVar 7) (aCons (mIf (d1 (mB2 (dVar 10) (aTup (aCons (dC (.str "self")) (aCons (dC (.str "table")) (aCons (dC (.str "guards")) aNil)))) (inU ow0)) toB) (mB2 (mB2 (dC (.str "b")) (dVar 9) (addU ow0)) (dC (.str "b")) (addU ow0)) (dVar 10)) aNil) gAppend)))
def p__law_names_5_b : MS :=
  (sSeq p__law_names_5_1 (sSeq p__law_names_5_2 p__law_names_5_3))
def p__law_names_5 : MS :=
  (sFor [] (d1 (aCons (dVar 1) aNil) rng1) (tName 8) p__law_names_5_b)
def b__law_names : MS :=
  (sSeq (sSet 2 (dC (.str "abcdefghijklmnopqrstuvwxyz"))) (sSeq p__law_names_2 (sSeq p__law_names_3 (sSeq (sOwn 7 (aLst aNil)) (sSeq p__law_names_5 (sRet (dVar 7)))))))
def r__law_names : FnM := runB 11 2 b__law_names
theorem sc__law_names : FnScope ["_law_tape", "_law_many", "_law_letters", "_law_stem", "_law_first", "_law_step", "_law_way", "_law_found", "_law_k", "_law_letter", "_law_name"] ["_law_tape", "_law_many"] (defScope s__law_names) := ⟨rfl, rfl, rfl, by decide +kernel, rfl, by decide +kernel, by decide +kernel⟩
theorem ok__law_names (T : Tx K mg) : FnG P w K mg base (L2.CX P w) 4 T.a__law_names (spD T.G r__law_names) := by
  refine T.d__law_names.ok sc__law_names fun cdv A outer s H E ρ hr => ?_
  have tk : Takes (cxOf (L2.CX P w) P w K mg base ["_law_tape", "_law_many", "_law_letters", "_law_stem", "_law_first", "_law_step", "_law_way", "_law_found", "_law_k", "_law_letter", "_law_name"] "_law_names" (defScope s__law_names) T.a__law_names cdv A outer s H E) (fun c d _ H => E c d H) := takes_of rfl rfl rfl rfl
  exact (pdb_cons (pds_set (ps_set (i := 2) sc__law_names.nd rfl (by first | exact Or.inl rfl | exact Or.inr rfl) (PD.pe pd_str))) (pdb_cons (pds_set (ps_set (i := 3) sc__law_names.nd rfl (by first | exact Or.inl rfl | exact Or.inr rfl) (PD.pe (pd_me1 rfl (by decide) PySem.F.plainAttrs_str PySem.F.slot_str_join PySem.F.type_str_join (me_join rfl) pd_str (pda_cons (PO.pd (po_lc (own := [("_law_k", 8)]) rfl sc__law_names.nd (pdi_range1 T.z_range (pda_cons (pd_call (ok__law_draw T) (hr.mono (by decide)) tk T.g__law_draw T.d__law_draw.kp (pda_cons (pd_name 0 (pv 0)) (pda_cons pd_int pda_nil))) pda_nil)) (blkOk_by (N := ["_law_tape", "_law_many", "_law_letters", "_law_stem", "_law_first", "_law_step", "_law_way", "_law_found", "_law_k", "_law_letter", "_law_name"]) (sc := defScope s__law_names) (by decide +kernel)) (fun _ _ _ _ _ _ => (pdg_name (pg_name (i := 8) sc__law_names.nd rfl (by first | exact Or.inl rfl | exact Or.inr rfl)))) (fun _ _ _ _ _ _ => pdts_nil) (fun _ _ _ _ _ _ => (pd_call (ok__law_pick T) (hr.mono (by decide)) takes0 T.g__law_pick T.d__law_pick.kp (pda_cons (pd_name 0 (pv 0)) (pda_cons (pd_name 2 (pv 2)) pda_nil)))))) pda_nil))))) (pdb_cons (pds_par3 (ps_par3 (i := 4) (j := 5) (l := 6) rfl sc__law_names.nd rfl rfl rfl (by decide) (by decide) (by decide) rfl rfl rfl (PDA.pa (pda_cons (pd_call (ok__law_draw T) (hr.mono (by decide)) tk T.g__law_draw T.d__law_draw.kp (pda_cons (pd_name 0 (pv 0)) (pda_cons pd_int pda_nil))) (pda_cons (pd_call (ok__law_pick T) (hr.mono (by decide)) tk T.g__law_pick T.d__law_pick.kp (pda_cons (pd_name 0 (pv 0)) (pda_cons (PO.pd (po_lst (pda_cons pd_int (pda_cons pd_int (pda_cons pd_int (pda_cons pd_int (pda_cons pd_int (pda_cons pd_int pda_nil)))))))) pda_nil))) (pda_cons (pd_call (ok__law_draw T) (hr.mono (by decide)) tk T.g__law_draw T.d__law_draw.kp (pda_cons (pd_name 0 (pv 0)) (pda_cons pd_int pda_nil))) pda_nil)))) (by rfl))) (pdb_cons (pds_own (ps_set (i := 7) sc__law_names.nd rfl (by first | exact Or.inl rfl | exact Or.inr rfl) (PO.pe (po_lst pda_nil)))) (pdb_cons (pds_for [] (passes_of rfl) rfl (pdi_range1 T.z_range (pda_cons (pd_name 1 (pv 1)) pda_nil)) (pdg_name (pg_name (i := 8) sc__law_names.nd rfl (by first | exact Or.inl rfl | exact Or.inr rfl))) (pdb_cons (pds_set (ps_set (i := 9) sc__law_names.nd rfl (by first | exact Or.inl rfl | exact Or.inr rfl) (PD.pe (pd_sub (opd_get rfl (owf0 (k := 0)) (hr.mono (by decide)) tk) (pd_name 2 (pv 2)) (pd_bin opd_mod (pd_callTU (cad_int) T.z_int rfl (pda_cons (pd_bin (opd_add rfl (owf0 (k := 0)) (hr.mono (by decide)) tk) (pd_name 4 (pv 4)) (pd_bin opd_mul (pd_name 5 (pv 5)) (pd_name 8 (pv 8)))) pda_nil)) pd_int))))) (pdb_cons (pds_set (ps_set (i := 10) sc__law_names.nd rfl (by first | exact Or.inl rfl | exact Or.inr rfl) (PD.pe (pd_sub (opd_get rfl (owf0 (k := 0)) (hr.mono (by decide)) tk) (PO.pd (po_lst (pda_cons (pd_bin (opd_add rfl (owf0 (k := 0)) (hr.mono (by decide)) tk) (pd_name 9 (pv 9)) (pd_name 3 (pv 3))) (pda_cons (pd_bin (opd_add rfl (owf0 (k := 0)) (hr.mono (by decide)) tk) (pd_name 3 (pv 3)) (pd_name 9 (pv 9))) (pda_cons (pd_slice rfl (pd_bin (opd_add rfl (owf0 (k := 0)) (hr.mono (by decide)) tk) (pd_name 9 (pv 9)) (pd_name 3 (pv 3))) pdp_none (pdp_some (pd_bin (opd_add rfl (owf0 (k := 0)) (hr.mono (by decide)) tk) pd_int (pd_bin opd_mod (pd_callTU (cad_int) T.z_int rfl (pda_cons (pd_name 8 (pv 8)) pda_nil)) pd_int)))) pda_nil))))) (pd_name 6 (pv 6)))))) (pdb_one (pds_peek (i := 7) (pds_expr (pd_me1 rfl (by decide) PySem.F.plainAttrs_list PySem.F.slot_list_append PySem.F.type_list_append me_append (pd_name 7 (pv 7)) (pda_cons (pd_if (pdt_cmpU (opd_in rfl (owf0 (k := 0)) (hr.mono (by decide)) tk) (pd_name 10 (pv 10)) (pd_tup (pda_cons pd_str (pda_cons pd_str (pda_cons pd_str pda_nil)))) (by rfl)) (pd_bin (opd_add rfl (owf0 (k := 0)) (hr.mono (by decide)) tk) (pd_bin (opd_add rfl (owf0 (k := 0)) (hr.mono (by decide)) tk) pd_str (pd_name 9 (pv 9))) pd_str) (pd_name 10 (pv 10))) pda_nil)))))))) (pdb_one (pds_ret (pd_name 7 (pv 7)))))))))
def p__law_number_2_1 : MS :=
  (sSet 2 (mB2 (mB2 (dVar 2) (mB2 (dC (.int 10)) (dC (.int 6)) powU) mulU) (d1 (aCons (dVar 0) (aCons (mB2 (dC (.int 10)) (dC (.int 6)) powU) aNil)) (callM r__law_draw)) (addU ow0)))
def p__law_number_2 : MS :=
  (sFor [] (d1 (aCons (dC (.int 7)) aNil) rng1) (tName 3) p__law_number_2_1)
def p__law_number_3 : MS :=
  (sRet (mB2 (d1 (aCons (d1 (aCons (dVar 0) (aCons (aLst (aCons (d1 (aCons (dVar 0) (aCons (dC (.int 4)) aNil)) (callM r__law_draw)) (aCons (mB2 (dVar 1) (d1 (aCons (dVar 0) (aCons (dC (.int 3)) aNil)) (callM r__law_draw)) (subU ow0)) (aCons (dVar 2) aNil)))) aNil)) (callM r__law_pick)) aNil) gInt) (mB2 (dVar 1) (dC (.int 1)) (addU ow0)) modU))
def b__law_number : MS :=
  (sSeq (sSet 2 (dC (.int 0))) (sSeq p__law_number_2 p__law_number_3))
def r__law_number : FnM := runB 4 2 b__law_number
theorem sc__law_number : FnScope ["_law_tape", "_law_most", "_law_wide", "_law_k"] ["_law_tape", "_law_most"] (defScope s__law_number) := ⟨rfl, rfl, rfl, by decide +kernel, rfl, by decide +kernel, by decide +kernel⟩
theorem ok__law_number (T : Tx K mg) : FnG P w K mg base (L2.CX P w) 4 T.a__law_number (spD T.G r__law_number) := by
  refine T.d__law_number.ok sc__law_number fun cdv A outer s H E ρ hr => ?_
  have tk : Takes (cxOf (L2.CX P w) P w K mg base ["_law_tape", "_law_most", "_law_wide", "_law_k"] "_law_number" (defScope s__law_number) T.a__law_number cdv A outer s H E) (fun c d _ H => E c d H) := takes_of rfl rfl rfl rfl
  exact (pdb_cons (pds_set (ps_set (i := 2) sc__law_number.nd rfl (by first | exact Or.inl rfl | exact Or.inr rfl) (PD.pe pd_int))) (pdb_cons (pds_for [] (passes_of rfl) rfl (pdi_range1 T.z_range (pda_cons pd_int pda_nil)) (pdg_name (pg_name (i := 3) sc__law_number.nd rfl (by first | exact Or.inl rfl | exact Or.inr rfl))) (pdb_one (pds_set (ps_set (i := 2) sc__law_number.nd rfl (by first | exact Or.inl rfl | exact Or.inr rfl) (PD.pe (pd_bin (opd_add rfl (owf0 (k := 0)) (hr.mono (by decide)) tk) (pd_bin opd_mul (pd_name 2 (pv 2)) (pd_bin opd_pow pd_int pd_int)) (pd_call (ok__law_draw T) (hr.mono (by decide)) tk T.g__law_draw T.d__law_draw.kp (pda_cons (pd_name 0 (pv 0)) (pda_cons (pd_bin opd_pow pd_int pd_int) pda_nil))))))))) (pdb_one (pds_ret (pd_bin opd_mod (pd_callTU (cad_int) T.z_int rfl (pda_cons (pd_call (ok__law_pick T) (hr.mono (by decide)) tk T.g__law_pick T.d__law_pick.kp (pda_cons (pd_name 0 (pv 0)) (pda_cons (PO.pd (po_lst (pda_cons (pd_call (ok__law_draw T) (hr.mono (by decide)) tk T.g__law_draw T.d__law_draw.kp (pda_cons (pd_name 0 (pv 0)) (pda_cons pd_int pda_nil))) (pda_cons (pd_bin (opd_sub (owf0 (k := 0)) (hr.mono (by decide)) tk) (pd_name 1 (pv 1)) (pd_call (ok__law_draw T) (hr.mono (by decide)) tk T.g__law_draw T.d__law_draw.kp (pda_cons (pd_name 0 (pv 0)) (pda_cons pd_int pda_nil)))) (pda_cons (pd_name 2 (pv 2)) pda_nil))))) pda_nil))) pda_nil)) (pd_bin (opd_add rfl (owf0 (k := 0)) (hr.mono (by decide)) tk) (pd_name 1 (pv 1)) pd_int))))))
def p__law_shuffled_1 : MS :=
  (sOut 2 (sOutK 1 3 (sPar 2 3 (aCons (toLoc (d1 (aCons (dVar 1) aNil) gListO)) (aCons (toLoc (aLst aNil)) aNil)))))
def p__law_shuffled_2_1 : MS :=
  (sExpr (mMe "list" (dVar 3) (aCons (mMe "list" (dVar 2) (aCons (d1 (aCons (dVar 0) (aCons (d1 (aCons (dVar 2) aNil) (lenW ow0)) aNil)) (callM r__law_draw)) aNil) gPop) aNil) gAppend))
def p__law_shuffled_2 : MS :=
  (sPeek 3 (sPeek 2 (whileGo [] (d1 (mB2 (dVar 2) (aLst aNil) neWU) toB) p__law_shuffled_2_1 20)))
def b__law_shuffled : MS :=
  (sSeq p__law_shuffled_1 (sSeq p__law_shuffled_2 (sRet (dVar 3))))
def r__law_shuffled : FnM := runB 4 2 b__law_shuffled
theorem sc__law_shuffled : FnScope ["_law_tape", "_law_items", "_law_left", "_law_found"] ["_law_tape", "_law_items"] (defScope s__law_shuffled) := ⟨rfl, rfl, rfl, by decide +kernel, rfl, by decide +kernel, by decide +kernel⟩
theorem ok__law_shuffled (T : Tx K mg) : FnG P w K mg base (L2.CX P w) 3 T.a__law_shuffled (spD T.G r__law_shuffled) := by
  refine T.d__law_shuffled.ok sc__law_shuffled fun cdv A outer s H E ρ hr => ?_
  have tk : Takes (cxOf (L2.CX P w) P w K mg base ["_law_tape", "_law_items", "_law_left", "_law_found"] "_law_shuffled" (defScope s__law_shuffled) T.a__law_shuffled cdv A outer s H E) (fun c d _ H => E c d H) := takes_of rfl rfl rfl rfl
  exact (pdb_cons (pds_out (i := 2) (pds_outK (m := 1) (i := 3) (pds_par (ps_par (i := 2) (j := 3) rfl sc__law_shuffled.nd rfl rfl (by decide) rfl rfl (PDA.pa (pda_cons (pd_loc (po_listC (x := "list") rfl rfl T.z_list (pda_cons (pd_name 1 (pv 1)) pda_nil))) (pda_cons (pd_loc (po_lst pda_nil)) pda_nil))) (by rfl))))) (pdb_cons (pds_peek (i := 3) (pds_peek (i := 2) (pds_while [] 20 (passes_of rfl) (pdt_cmpU (opd_neW rfl hr) (pd_name 2 (pv 2)) (PO.pd (po_lst pda_nil)) (by rfl)) (pdb_one (pds_expr (pd_me1 rfl (by decide) PySem.F.plainAttrs_list PySem.F.slot_list_append PySem.F.type_list_append me_append (pd_name 3 (pv 3)) (pda_cons (pd_me1 rfl (by decide) PySem.F.plainAttrs_list PySem.F.slot_list_pop PySem.F.type_list_pop me_pop (pd_name 2 (pv 2)) (pda_cons (pd_call (ok__law_draw T) (hr.mono (by decide)) tk T.g__law_draw T.d__law_draw.kp (pda_cons (pd_name 0 (pv 0)) (pda_cons (pd_callBU (cad_lenW rfl (owf0 (k := 0)) (hr.mono (by decide)) tk) T.z_len rfl (pda_cons (pd_name 2 (pv 2)) pda_nil)) pda_nil))) pda_nil)) pda_nil))))))) (pdb_one (pds_ret (pd_name 3 (pv 3))))))
def at_held : At := fun c => if c = "Stock" then some none else none
theorem atf_held (T : Tx K mg) {X : Cx} (h1 : X.K = K) (h2 : X.mg = mg) : AtF X T.G 0 "held" at_held := by
  subst h1 h2
  refine ⟨fun c r h => ?_⟩
  unfold at_held at h
  split at h
  · rename_i e; cases h; subst e; exact ⟨_, T.G_Stock, T.cls_Stock, T.na_Stock_held⟩
  cases h
def p_Stock___contains___1 : MS :=
  (sRet (vAnd (d1 (aCons (dVar 1) (aCons (dC (.ty "str")) aNil)) (gIsiF isB)) (mB2 (dVar 1) (d1 (dVar 0) (getA "held" at_held)) (inU ow0))))
def b_Stock___contains__ : MS :=
  p_Stock___contains___1
def r_Stock___contains__ : FnM := runB 2 2 b_Stock___contains__
theorem sc_Stock___contains__ : FnScope ["self", "value"] ["self", "value"] (defScope s_Stock___contains__) := ⟨rfl, rfl, rfl, by decide +kernel, rfl, by decide +kernel, by decide +kernel⟩
theorem ok_Stock___contains__ (T : Tx K mg) : FnG P w K mg base (L2.CX P w) 2 T.a_Stock___contains__ (spD T.G r_Stock___contains__) := by
  refine T.d_Stock___contains__.ok sc_Stock___contains__ fun cdv A outer s H E ρ hr => ?_
  have tk : Takes (cxOf (L2.CX P w) P w K mg base ["self", "value"] "Stock.__contains__" (defScope s_Stock___contains__) T.a_Stock___contains__ cdv A outer s H E) (fun c d _ H => E c d H) := takes_of rfl rfl rfl rfl
  exact (pdb_one (pds_ret (pd_and (pd_callBU (fun _ => cap_isiF rfl isf0) T.z_isinstance rfl (pda_cons (pd_name 1 (pv 1)) (pda_cons (pd_const (pe_bltn (v := .ty "str") (u := .type "str") rfl T.z_str rfl rfl) fun _ => rep_ty) pda_nil))) (pd_one (pd_cmpU (opd_in rfl (owf0 (k := 0)) (hr.mono (by decide)) tk) (pd_name 1 (pv 1)) (pd_attr (atf_held T rfl rfl) (hr.mono (by decide)) tk (pd_name 0 (pv 0))) (by rfl))))))
def ow_contains : Ow := fun c => if c = "Stock" then some r_Stock___contains__ else none
theorem owf_contains (T : Tx K mg) {X : Cx} (h1 : X.K = K) (h2 : X.mg = mg) : OwF X T.G 2 "__contains__" ow_contains := by
  subst h1 h2
  refine ⟨fun c m h => ?_⟩
  unfold ow_contains at h
  split at h
  · rename_i e; cases h; subst e; exact ⟨_, _, T.G_Stock, T.at_Stock___contains__.1, T.at_Stock___contains__.2.1, T.at_Stock___contains__.2.2, T.sf_Stock, (ok_Stock___contains__ T).mono (by decide)⟩
  cases h
def p_Stock___getitem___1 : MS :=
  (sRet (mIf (d1 (mB2 (dVar 1) (dVar 0) (inU ow_contains)) toB) (mB2 (d1 (dVar 0) (getA "held" at_held)) (dVar 1) (getU ow0)) (dC (.int 0))))
def b_Stock___getitem__ : MS :=
  p_Stock___getitem___1
def r_Stock___getitem__ : FnM := runB 2 2 b_Stock___getitem__
theorem sc_Stock___getitem__ : FnScope ["self", "value"] ["self", "value"] (defScope s_Stock___getitem__) := ⟨rfl, rfl, rfl, by decide +kernel, rfl, by decide +kernel, by decide +kernel⟩
theorem ok_Stock___getitem__ (T : Tx K mg) : FnG P w K mg base (L2.CX P w) 4 T.a_Stock___getitem__ (spD T.G r_Stock___getitem__) := by
  refine T.d_Stock___getitem__.ok sc_Stock___getitem__ fun cdv A outer s H E ρ hr => ?_
  have tk : Takes (cxOf (L2.CX P w) P w K mg base ["self", "value"] "Stock.__getitem__" (defScope s_Stock___getitem__) T.a_Stock___getitem__ cdv A outer s H E) (fun c d _ H => E c d H) := takes_of rfl rfl rfl rfl
  exact (pdb_one (pds_ret (pd_if (pdt_cmpU (opd_in rfl (owf_contains T rfl rfl) (hr.mono (by decide)) tk) (pd_name 1 (pv 1)) (pd_name 0 (pv 0)) (by rfl)) (pd_sub (opd_get rfl (owf0 (k := 0)) (hr.mono (by decide)) tk) (pd_attr (atf_held T rfl rfl) (hr.mono (by decide)) tk (pd_name 0 (pv 0))) (pd_name 1 (pv 1))) pd_int)))
def ow_getitem : Ow := fun c => if c = "Stock" then some r_Stock___getitem__ else none
theorem owf_getitem (T : Tx K mg) {X : Cx} (h1 : X.K = K) (h2 : X.mg = mg) : OwF X T.G 4 "__getitem__" ow_getitem := by
  subst h1 h2
  refine ⟨fun c m h => ?_⟩
  unfold ow_getitem at h
  split at h
  · rename_i e; cases h; subst e; exact ⟨_, _, T.G_Stock, T.at_Stock___getitem__.1, T.at_Stock___getitem__.2.1, T.at_Stock___getitem__.2.2, T.sf_Stock, (ok_Stock___getitem__ T).mono (by decide)⟩
  cases h
def p_is_integer_1 : MS :=
  (sRet (vAnd (d1 (aCons (dVar 0) (aCons (dC (.ty "int")) aNil)) (gIsi isB)) (vNot (d1 (aCons (dVar 0) (aCons (dC (.ty "bool")) aNil)) (gIsi isB)))))
def b_is_integer : MS :=
  p_is_integer_1
def r_is_integer : FnM := runB 1 1 b_is_integer
theorem sc_is_integer : FnScope ["value"] ["value"] (defScope s_is_integer) := ⟨rfl, rfl, rfl, by decide +kernel, rfl, by decide +kernel, by decide +kernel⟩
theorem ok_is_integer (T : Tx K mg) : FnG P w K mg base (L2.CX P w) 1 T.a_is_integer (spD T.G r_is_integer) := by
  refine T.d_is_integer.ok sc_is_integer fun cdv A outer s H E ρ hr => ?_
  exact (pdb_one (pds_ret (pd_and (pd_callBU (fun _ => cap_isi rfl isf0) T.z_isinstance rfl (pda_cons (pd_name 0 (pv 0)) (pda_cons (pd_const (pe_bltn (v := .ty "int") (u := .type "int") rfl T.z_int rfl rfl) fun _ => rep_ty) pda_nil))) (pd_one (pd_not (pd_callBU (fun _ => cap_isi rfl isf0) T.z_isinstance rfl (pda_cons (pd_name 0 (pv 0)) (pda_cons (pd_const (pe_bltn (v := .ty "bool") (u := .type "bool") rfl T.z_bool rfl rfl) fun _ => rep_ty) pda_nil))))))))
def p_is_between_1 : MS :=
  (sRet (vAnd (d1 (aCons (dVar 0) aNil) (callM r_is_integer)) (mChain (dVar 1) (dVar 0) (dVar 2) leU leU)))
def b_is_between : MS :=
  p_is_between_1
def r_is_between : FnM := runB 3 3 b_is_between
theorem sc_is_between : FnScope ["value", "least", "most"] ["value", "least", "most"] (defScope s_is_between) := ⟨rfl, rfl, rfl, by decide +kernel, rfl, by decide +kernel, by decide +kernel⟩
theorem ok_is_between (T : Tx K mg) : FnG P w K mg base (L2.CX P w) 2 T.a_is_between (spD T.G r_is_between) := by
  refine T.d_is_between.ok sc_is_between fun cdv A outer s H E ρ hr => ?_
  have tk : Takes (cxOf (L2.CX P w) P w K mg base ["value", "least", "most"] "is_between" (defScope s_is_between) T.a_is_between cdv A outer s H E) (fun c d _ H => E c d H) := takes_of rfl rfl rfl rfl
  exact (pdb_one (pds_ret (pd_and (pd_call (ok_is_integer T) (hr.mono (by decide)) tk T.g_is_integer T.d_is_integer.kp (pda_cons (pd_name 0 (pv 0)) pda_nil)) (pd_one (pd_chain opd_le opd_le (pd_name 1 (pv 1)) (pd_name 0 (pv 0)) (pd_name 2 (pv 2)))))))
def p_is_amount_1 : MS :=
  (sRet (d1 (aCons (dVar 0) (aCons (dC (.int 0)) (aCons (dC (.int 1000000000000000000)) aNil))) (callM r_is_between)))
def b_is_amount : MS :=
  p_is_amount_1
def r_is_amount : FnM := runB 1 1 b_is_amount
theorem sc_is_amount : FnScope ["value"] ["value"] (defScope s_is_amount) := ⟨rfl, rfl, rfl, by decide +kernel, rfl, by decide +kernel, by decide +kernel⟩
theorem ok_is_amount (T : Tx K mg) : FnG P w K mg base (L2.CX P w) 3 T.a_is_amount (spD T.G r_is_amount) := by
  refine T.d_is_amount.ok sc_is_amount fun cdv A outer s H E ρ hr => ?_
  have tk : Takes (cxOf (L2.CX P w) P w K mg base ["value"] "is_amount" (defScope s_is_amount) T.a_is_amount cdv A outer s H E) (fun c d _ H => E c d H) := takes_of rfl rfl rfl rfl
  exact (pdb_one (pds_ret (pd_call (ok_is_between T) (hr.mono (by decide)) tk T.g_is_between T.d_is_between.kp (pda_cons (pd_name 0 (pv 0)) (pda_cons pd_int (pda_cons (pd_kon T.kon_MOST_BARRELS rfl) pda_nil))))))
def p_is_name_1 : MS :=
  (sIf (mOr (mNot (d1 (d1 (aCons (dVar 0) (aCons (dC (.ty "str")) aNil)) (gIsi isB)) toB)) (mOr (mNot (d1 (mChain (dC (.int 1)) (d1 (aCons (dVar 0) aNil) (lenU ow0)) (dC (.int 8)) leU leU) toB)) (d1 (d1 (dVar 0) (inKU ["self", "table", "guards"])) toB))) (sRet (dC (.bl false))) sNext)
def p_is_name_2 : MS :=
  (sRet (d1 (aCons (mLc [1] (d1 (dVar 0) iterD) (tName 1) mYes (mB2 (dVar 1) (dC (.str "abcdefghijklmnopqrstuvwxyz")) (inU ow0))) aNil) gAllB))
def b_is_name : MS :=
  (sSeq p_is_name_1 p_is_name_2)
def r_is_name : FnM := runB 2 1 b_is_name
theorem sc_is_name : FnScope ["value", "letter"] ["value"] (defScope s_is_name) := ⟨rfl, rfl, rfl, by decide +kernel, rfl, by decide +kernel, by decide +kernel⟩
theorem ok_is_name (T : Tx K mg) : FnG P w K mg base (L2.CX P w) 2 T.a_is_name (spD T.G r_is_name) := by
  refine T.d_is_name.ok sc_is_name fun cdv A outer s H E ρ hr => ?_
  have tk : Takes (cxOf (L2.CX P w) P w K mg base ["value", "letter"] "is_name" (defScope s_is_name) T.a_is_name cdv A outer s H E) (fun c d _ H => E c d H) := takes_of rfl rfl rfl rfl
  exact (pdb_cons (pds_if (PDW.t (pdw_or (pdt_not (pdt_val (pd_callBU (fun _ => cap_isi rfl isf0) T.z_isinstance rfl (pda_cons (pd_name 0 (pv 0)) (pda_cons (pd_const (pe_bltn (v := .ty "str") (u := .type "str") rfl T.z_str rfl rfl) fun _ => rep_ty) pda_nil))))) (pdw_or (pdt_not (pdt_chain opd_le opd_le pd_int (pd_callBU (cad_len rfl (owf0 (k := 0)) (hr.mono (by decide)) tk) T.z_len rfl (pda_cons (pd_name 0 (pv 0)) pda_nil)) (pd_kon T.kon_MOST_LETTERS rfl))) (pdw_or1 (pdt_inK T.kon_RESERVED (pd_name 0 (pv 0))))))) (pdb_one (pds_ret pd_bl)) pdb_nil) (pdb_one (pds_ret (pd_callBU (cad_all rfl rfl) T.z_all rfl (pda_cons (PO.pd (po_lc (own := [("letter", 1)]) rfl sc_is_name.nd (pdi_val rfl (pd_name 0 (pv 0))) (blkOk_by (N := ["value", "letter"]) (sc := defScope s_is_name) (by decide +kernel)) (fun _ _ _ _ _ _ => (pdg_name (pg_name (i := 1) sc_is_name.nd rfl (by first | exact Or.inl rfl | exact Or.inr rfl)))) (fun _ _ _ _ _ _ => pdts_nil) (fun _ _ _ _ _ _ => (pd_cmpU (opd_in rfl (owf0 (k := 0)) (hr.mono (by decide)) takes0) (pd_name 1 (pv 1)) (pd_kon T.kon_LETTERS rfl) (by rfl))))) pda_nil)))))
def at_order : At := fun c => if c = "Stock" then some none else none
theorem atf_order (T : Tx K mg) {X : Cx} (h1 : X.K = K) (h2 : X.mg = mg) : AtF X T.G 0 "order" at_order := by
  subst h1 h2
  refine ⟨fun c r h => ?_⟩
  unfold at_order at h
  split at h
  · rename_i e; cases h; subst e; exact ⟨_, T.G_Stock, T.cls_Stock, T.na_Stock_order⟩
  cases h
def p_Stock___init___1_1 : MS :=
  (sIf (mOr (mNot (d1 (d1 (aCons (dVar 2) aNil) (callM r_is_name)) toB)) (mNot (d1 (d1 (aCons (dVar 3) aNil) (callM r_is_amount)) toB))) sNever sNext)
def p_Stock___init___1 : MS :=
  (sFor [] (d1 (dVar 1) (valsD pairD)) (tTupT 2 (tCons (tName 2) (tCons (tName 3) tNil))) p_Stock___init___1_1)
def p_Stock___init___2 : MS :=
  (sFldD "held" at_held (dVar 0) (mDc [2] (d1 (d1 (aCons (dVar 1) aNil) gSorted) iterD) (tName 2) (d1 (mB2 (mB2 (dVar 1) (dVar 2) (getU ow0)) (dC (.int 0)) gtU) toB) (dVar 2) (mB2 (dVar 1) (dVar 2) (getU ow0))))
def p_Stock___init___3 : MS :=
  (sFldD "order" at_order (dVar 0) (aTup (aCons (d1 (d1 (dVar 0) (getA "held" at_held)) fun x => opt (sumV x)) (aCons (d1 (d1 (dVar 0) (getA "held" at_held)) fun x => opt (tupI x)) aNil))))
def b_Stock___init__ : MS :=
  (sSeq p_Stock___init___1 (sSeq p_Stock___init___2 p_Stock___init___3))
def r_Stock___init__ : FnM := runB 4 2 b_Stock___init__
theorem sc_Stock___init__ : FnScope ["self", "counts", "kind", "count"] ["self", "counts"] (defScope s_Stock___init__) := ⟨rfl, rfl, rfl, by decide +kernel, rfl, by decide +kernel, by decide +kernel⟩
theorem ok_Stock___init__ (T : Tx K mg) {X : Cx} (h1 : X.K = K) (h2 : X.mg = mg) : FnKw X T.G 4 T.a_Stock___init__ r_Stock___init__ := by
  subst h1 h2
  refine T.d_Stock___init__.ok sc_Stock___init__ fun cdv A outer s H E ρ hr => ?_
  have tk : Takes (cxOf (L2.CX X.prog X.w) X.prog X.w X.K X.mg X.base ["self", "counts", "kind", "count"] "Stock.__init__" (defScope s_Stock___init__) T.a_Stock___init__ cdv A outer s H E) (fun c d _ H => E c d H) := takes_of rfl rfl rfl rfl
  exact (pdb_cons (pds_for [] (passes_of rfl) rfl (pdi_items (pd_name 1 (pv 1))) (pdg_tup rfl rfl (pdgs_cons (pdg_name (pg_name (i := 2) sc_Stock___init__.nd rfl (by first | exact Or.inl rfl | exact Or.inr rfl))) (pdgs_cons (pdg_name (pg_name (i := 3) sc_Stock___init__.nd rfl (by first | exact Or.inl rfl | exact Or.inr rfl))) pdgs_nil))) (pdb_one (pds_if (PDW.t (pdw_or (pdt_not (pdt_val (pd_call (ok_is_name T) (hr.mono (by decide)) tk T.g_is_name T.d_is_name.kp (pda_cons (pd_name 2 (pv 2)) pda_nil)))) (pdw_or1 (pdt_not (pdt_val (pd_call (ok_is_amount T) (hr.mono (by decide)) tk T.g_is_amount T.d_is_amount.kp (pda_cons (pd_name 3 (pv 3)) pda_nil))))))) (pdb_one pds_never) pdb_nil))) (pdb_cons (pds_fld (atf_held T rfl rfl) (pd_name 0 (pv 0)) (PO.pd (po_dc (own := [("kind", 2)]) rfl sc_Stock___init__.nd (pdi_val rfl (pd_callBU (cad_sorted rfl rfl hr) T.z_sorted rfl (pda_cons (pd_name 1 (pv 1)) pda_nil))) (blkOk_by (N := ["self", "counts", "kind", "count"]) (sc := defScope s_Stock___init__) (by decide +kernel)) (fun _ _ _ _ _ _ => (pdg_name (pg_name (i := 2) sc_Stock___init__.nd rfl (by first | exact Or.inl rfl | exact Or.inr rfl)))) (fun _ _ _ _ _ _ => (pdts_one (pdt_cmpU opd_gt (pd_sub (opd_get rfl (owf0 (k := 0)) (hr.mono (by decide)) takes0) (pd_name 1 (pv 1)) (pd_name 2 (pv 2))) pd_int (by rfl)))) (fun _ _ _ _ _ _ => (pd_name 2 (pv 2))) (fun _ _ _ _ _ _ => (pd_sub (opd_get rfl (owf0 (k := 0)) (hr.mono (by decide)) takes0) (pd_name 1 (pv 1)) (pd_name 2 (pv 2))))))) (pdb_one (pds_fld (atf_order T rfl rfl) (pd_name 0 (pv 0)) (pd_tup (pda_cons (pd_sumV T.z_sum rfl (pd_attr (atf_held T rfl rfl) (hr.mono (by decide)) tk (pd_name 0 (pv 0)))) (pda_cons (pd_tupI T.z_tuple rfl (pd_attr (atf_held T rfl rfl) (hr.mono (by decide)) tk (pd_name 0 (pv 0)))) pda_nil)))))))
def mkT : Ow := fun c => if c = "Stock" then some r_Stock___init__ else none
theorem mkf (T : Tx K mg) {X : Cx} (h1 : X.K = K) (h2 : X.mg = mg) : MkF X T.G 4 mkT := by
  subst h1 h2
  refine ⟨fun c m h => ?_⟩
  unfold mkT at h
  split at h
  · rename_i e; cases h; subst e; exact ⟨_, _, T.G_Stock, T.mk_Stock, ok_Stock___init__ T rfl rfl⟩
  cases h
theorem mkeep (T : Tx K mg) : ∀ c C, T.G.cl c = some C → mkT c ≠ none → PySem.W.keepIn K (.ref C) = true := by
  intro c C h n
  unfold mkT at n
  split at n
  · rename_i e; subst e; rw [T.G_Stock] at h; cases h; exact T.kp_Stock
  exact absurd rfl n
def p_Stock_of_1 : MS :=
  (sIf (mNot (d1 (d1 (aCons (dVar 1) (aCons (dC (.ty "dict")) aNil)) (gIsi isB)) toB)) sNever sNext)
def p_Stock_of_2 : MS :=
  (sIf (bLendW 4 (mNot (d1 (d1 (aCons (mLc [2, 3] (d1 (dVar 1) (valsD pairD)) (tTupT 2 (tCons (tName 2) (tCons (tName 3) tNil))) mYes (vAnd (d1 (aCons (dVar 2) aNil) (callM r_is_name)) (d1 (aCons (dVar 3) aNil) (callM r_is_amount)))) aNil) gAllB) toB))) sNever sNext)
def p_Stock_of_3 : MS :=
  (sRet (d1 (dVar 0) fun o => d1 (noX (dVar 1)) fun z => mkKWL mkT o z))
def b_Stock_of : MS :=
  (sSeq p_Stock_of_1 (sSeq p_Stock_of_2 p_Stock_of_3))
def r_Stock_of : FnM := runB 4 2 b_Stock_of
theorem sc_Stock_of : FnScope ["cls", "counts", "kind", "count"] ["cls", "counts"] (defScope s_Stock_of) := ⟨rfl, rfl, rfl, by decide +kernel, rfl, by decide +kernel, by decide +kernel⟩
theorem ok_Stock_of (T : Tx K mg) : FnG P w K mg base (L2.CX P w) 6 T.a_Stock_of (spD T.G r_Stock_of) := by
  refine T.d_Stock_of.ok sc_Stock_of fun cdv A outer s H E ρ hr => ?_
  have tk : Takes (cxOf (L2.CX P w) P w K mg base ["cls", "counts", "kind", "count"] "Stock.of" (defScope s_Stock_of) T.a_Stock_of cdv A outer s H E) (fun c d _ H => E c d H) := takes_of rfl rfl rfl rfl
  exact (pdb_cons (pds_if (pdt_not (pdt_val (pd_callBU (fun _ => cap_isi rfl isf0) T.z_isinstance rfl (pda_cons (pd_name 1 (pv 1)) (pda_cons (pd_const (pe_bltn (v := .ty "dict") (u := .type "dict") rfl T.z_dict rfl rfl) fun _ => rep_ty) pda_nil))))) (pdb_one pds_never) pdb_nil) (pdb_cons (pds_if (pdt_lendW 4 fun _ _ => (pdt_not (pdt_val (pd_callBU (cad_all rfl rfl) T.z_all rfl (pda_cons (PO.pd (po_lc (own := [("kind", 2), ("count", 3)]) rfl sc_Stock_of.nd (pdi_items (pd_name 1 (pv 1))) (blkOk_by (N := ["cls", "counts", "kind", "count"]) (sc := defScope s_Stock_of) (by decide +kernel)) (fun _ _ _ _ _ _ => (pdg_tup rfl rfl (pdgs_cons (pdg_name (pg_name (i := 2) sc_Stock_of.nd rfl (by first | exact Or.inl rfl | exact Or.inr rfl))) (pdgs_cons (pdg_name (pg_name (i := 3) sc_Stock_of.nd rfl (by first | exact Or.inl rfl | exact Or.inr rfl))) pdgs_nil)))) (fun _ _ _ _ _ _ => pdts_nil) (fun _ _ _ _ _ _ => (pd_and (pd_call (ok_is_name T) (hr.mono (by decide)) takes0 T.g_is_name T.d_is_name.kp (pda_cons (pd_name 2 (pv 2)) pda_nil)) (pd_one (pd_call (ok_is_amount T) (hr.mono (by decide)) takes0 T.g_is_amount T.d_is_amount.kp (pda_cons (pd_name 3 (pv 3)) pda_nil))))))) pda_nil))))) (pdb_one pds_never) pdb_nil) (pdb_one (pds_ret (pd_makeKL (mkf T rfl rfl) (mkeep T) (hr.mono (by decide)) tk (pd_name 0 (pv 0)) (fun _ => (pd_name 1 (pv 1))))))))
def ck_MOST : Str → Option Int := fun c => if c = "Stock" then some 1000000000000000000 else none
theorem ccf_MOST (T : Tx K mg) {X : Cx} (h1 : X.K = K) (h2 : X.mg = mg) : CcF X T.G "MOST" ck_MOST := by
  subst h1 h2
  refine ⟨fun c i h => ?_⟩
  unfold ck_MOST at h
  split at h
  · rename_i e; cases h; subst e; exact let ⟨u, hu⟩ := T.cv_Stock_MOST; ⟨_, _, u, T.G_Stock, T.cr_Stock, hu⟩
  cases h
def p_Stock___eq___1 : MS :=
  (sRet (vAnd (d1 (aCons (dVar 1) (aCons (dC (.cls "Stock")) aNil)) (gIsi isT)) (mB2 (d1 (dVar 0) (getA "order" at_order)) (d1 (dVar 1) (getA "order" at_order)) (eqU ow0))))
def b_Stock___eq__ : MS :=
  p_Stock___eq___1
def r_Stock___eq__ : FnM := runB 2 2 b_Stock___eq__
theorem sc_Stock___eq__ : FnScope ["self", "other"] ["self", "other"] (defScope s_Stock___eq__) := ⟨rfl, rfl, rfl, by decide +kernel, rfl, by decide +kernel, by decide +kernel⟩
theorem ok_Stock___eq__ (T : Tx K mg) : FnG P w K mg base (L2.CX P w) 2 T.a_Stock___eq__ (spD T.G r_Stock___eq__) := by
  refine T.d_Stock___eq__.ok sc_Stock___eq__ fun cdv A outer s H E ρ hr => ?_
  have tk : Takes (cxOf (L2.CX P w) P w K mg base ["self", "other"] "Stock.__eq__" (defScope s_Stock___eq__) T.a_Stock___eq__ cdv A outer s H E) (fun c d _ H => E c d H) := takes_of rfl rfl rfl rfl
  exact (pdb_one (pds_ret (pd_and (pd_callBU (fun _ => cap_isi rfl (isf T rfl rfl)) T.z_isinstance rfl (pda_cons (pd_name 1 (pv 1)) (pda_cons (pd_const (v := .ref T.a_Stock) (pe_glob (v := .ref T.a_Stock) rfl T.g_Stock rfl) fun _ => .mk ⟨_, rfl, T.G_Stock⟩) pda_nil))) (pd_one (pd_cmpU (opd_eq rfl (owf0 (k := 0)) (hr.mono (by decide)) tk) (pd_attr (atf_order T rfl rfl) (hr.mono (by decide)) tk (pd_name 0 (pv 0))) (pd_attr (atf_order T rfl rfl) (hr.mono (by decide)) tk (pd_name 1 (pv 1))) (by rfl))))))
def ow_eq : Ow := fun c => if c = "Stock" then some r_Stock___eq__ else none
theorem owf_eq (T : Tx K mg) {X : Cx} (h1 : X.K = K) (h2 : X.mg = mg) : OwF X T.G 2 "__eq__" ow_eq := by
  subst h1 h2
  refine ⟨fun c m h => ?_⟩
  unfold ow_eq at h
  split at h
  · rename_i e; cases h; subst e; exact ⟨_, _, T.G_Stock, T.at_Stock___eq__.1, T.at_Stock___eq__.2.1, T.at_Stock___eq__.2.2, T.sf_Stock, (ok_Stock___eq__ T).mono (by decide)⟩
  cases h
theorem nef (T : Tx K mg) {X : Cx} (h1 : X.K = K) (h2 : X.mg = mg) : NeF X T.G ow_eq := by
  subst h1 h2
  refine ⟨fun c m h => ?_⟩
  unfold ow_eq at h
  split at h
  · rename_i e; cases h; subst e; exact ⟨_, T.G_Stock, T.ne1_Stock, T.ne2_Stock⟩
  cases h
def p_Stock_kinds_1 : MS :=
  (sRet (d1 (aCons (d1 (dVar 0) (getA "held" at_held)) aNil) gTuple))
def b_Stock_kinds : MS :=
  p_Stock_kinds_1
def r_Stock_kinds : FnM := runB 1 1 b_Stock_kinds
theorem sc_Stock_kinds : FnScope ["self"] ["self"] (defScope s_Stock_kinds) := ⟨rfl, rfl, rfl, by decide +kernel, rfl, by decide +kernel, by decide +kernel⟩
theorem ok_Stock_kinds (T : Tx K mg) : FnG P w K mg base (L2.CX P w) 2 T.a_Stock_kinds (spD T.G r_Stock_kinds) := by
  refine T.d_Stock_kinds.ok sc_Stock_kinds fun cdv A outer s H E ρ hr => ?_
  have tk : Takes (cxOf (L2.CX P w) P w K mg base ["self"] "Stock.kinds" (defScope s_Stock_kinds) T.a_Stock_kinds cdv A outer s H E) (fun c d _ H => E c d H) := takes_of rfl rfl rfl rfl
  exact (pdb_one (pds_ret (pd_callTU (cad_tupleU rfl rfl) T.z_tuple rfl (pda_cons (pd_attr (atf_held T rfl rfl) (hr.mono (by decide)) tk (pd_name 0 (pv 0))) pda_nil))))
def at_kinds : At := fun c => if c = "Stock" then some (some r_Stock_kinds) else none
theorem atf_kinds (T : Tx K mg) {X : Cx} (h1 : X.K = K) (h2 : X.mg = mg) : AtF X T.G 2 "kinds" at_kinds := by
  subst h1 h2
  refine ⟨fun c r h => ?_⟩
  unfold at_kinds at h
  split at h
  · rename_i e; cases h; subst e; exact ⟨_, T.G_Stock, T.cls_Stock, let ⟨p, hp⟩ := T.p_Stock_kinds; ⟨p, _, hp, (ok_Stock_kinds T).mono (by decide)⟩⟩
  cases h
def p_Stock_entries_1 : MS :=
  (sRet (mB2 (d1 (dVar 0) (getA "order" at_order)) (dC (.int 1)) (getU ow0)))
def b_Stock_entries : MS :=
  p_Stock_entries_1
def r_Stock_entries : FnM := runB 1 1 b_Stock_entries
theorem sc_Stock_entries : FnScope ["self"] ["self"] (defScope s_Stock_entries) := ⟨rfl, rfl, rfl, by decide +kernel, rfl, by decide +kernel, by decide +kernel⟩
theorem ok_Stock_entries (T : Tx K mg) : FnG P w K mg base (L2.CX P w) 2 T.a_Stock_entries (spD T.G r_Stock_entries) := by
  refine T.d_Stock_entries.ok sc_Stock_entries fun cdv A outer s H E ρ hr => ?_
  have tk : Takes (cxOf (L2.CX P w) P w K mg base ["self"] "Stock.entries" (defScope s_Stock_entries) T.a_Stock_entries cdv A outer s H E) (fun c d _ H => E c d H) := takes_of rfl rfl rfl rfl
  exact (pdb_one (pds_ret (pd_sub (opd_get rfl (owf0 (k := 0)) (hr.mono (by decide)) tk) (pd_attr (atf_order T rfl rfl) (hr.mono (by decide)) tk (pd_name 0 (pv 0))) pd_int)))
def at_entries : At := fun c => if c = "Stock" then some (some r_Stock_entries) else none
theorem atf_entries (T : Tx K mg) {X : Cx} (h1 : X.K = K) (h2 : X.mg = mg) : AtF X T.G 2 "entries" at_entries := by
  subst h1 h2
  refine ⟨fun c r h => ?_⟩
  unfold at_entries at h
  split at h
  · rename_i e; cases h; subst e; exact ⟨_, T.G_Stock, T.cls_Stock, let ⟨p, hp⟩ := T.p_Stock_entries; ⟨p, _, hp, (ok_Stock_entries T).mono (by decide)⟩⟩
  cases h
def p_Stock_total_1 : MS :=
  (sRet (mB2 (d1 (dVar 0) (getA "order" at_order)) (dC (.int 0)) (getU ow0)))
def b_Stock_total : MS :=
  p_Stock_total_1
def r_Stock_total : FnM := runB 1 1 b_Stock_total
theorem sc_Stock_total : FnScope ["self"] ["self"] (defScope s_Stock_total) := ⟨rfl, rfl, rfl, by decide +kernel, rfl, by decide +kernel, by decide +kernel⟩
theorem ok_Stock_total (T : Tx K mg) : FnG P w K mg base (L2.CX P w) 2 T.a_Stock_total (spD T.G r_Stock_total) := by
  refine T.d_Stock_total.ok sc_Stock_total fun cdv A outer s H E ρ hr => ?_
  have tk : Takes (cxOf (L2.CX P w) P w K mg base ["self"] "Stock.total" (defScope s_Stock_total) T.a_Stock_total cdv A outer s H E) (fun c d _ H => E c d H) := takes_of rfl rfl rfl rfl
  exact (pdb_one (pds_ret (pd_sub (opd_get rfl (owf0 (k := 0)) (hr.mono (by decide)) tk) (pd_attr (atf_order T rfl rfl) (hr.mono (by decide)) tk (pd_name 0 (pv 0))) pd_int)))
def at_total : At := fun c => if c = "Stock" then some (some r_Stock_total) else none
theorem atf_total (T : Tx K mg) {X : Cx} (h1 : X.K = K) (h2 : X.mg = mg) : AtF X T.G 2 "total" at_total := by
  subst h1 h2
  refine ⟨fun c r h => ?_⟩
  unfold at_total at h
  split at h
  · rename_i e; cases h; subst e; exact ⟨_, T.G_Stock, T.cls_Stock, let ⟨p, hp⟩ := T.p_Stock_total; ⟨p, _, hp, (ok_Stock_total T).mono (by decide)⟩⟩
  cases h
def p_Stock___len___1 : MS :=
  (sRet (d1 (aCons (d1 (dVar 0) (getA "held" at_held)) aNil) (lenU ow0)))
def b_Stock___len__ : MS :=
  p_Stock___len___1
def r_Stock___len__ : FnM := runB 1 1 b_Stock___len__
theorem sc_Stock___len__ : FnScope ["self"] ["self"] (defScope s_Stock___len__) := ⟨rfl, rfl, rfl, by decide +kernel, rfl, by decide +kernel, by decide +kernel⟩
theorem ok_Stock___len__ (T : Tx K mg) : FnG P w K mg base (L2.CX P w) 2 T.a_Stock___len__ (spD T.G r_Stock___len__) := by
  refine T.d_Stock___len__.ok sc_Stock___len__ fun cdv A outer s H E ρ hr => ?_
  have tk : Takes (cxOf (L2.CX P w) P w K mg base ["self"] "Stock.__len__" (defScope s_Stock___len__) T.a_Stock___len__ cdv A outer s H E) (fun c d _ H => E c d H) := takes_of rfl rfl rfl rfl
  exact (pdb_one (pds_ret (pd_callBU (cad_len rfl (owf0 (k := 0)) (hr.mono (by decide)) tk) T.z_len rfl (pda_cons (pd_attr (atf_held T rfl rfl) (hr.mono (by decide)) tk (pd_name 0 (pv 0))) pda_nil))))
def ow_len : Ow := fun c => if c = "Stock" then some r_Stock___len__ else none
theorem owf_len (T : Tx K mg) {X : Cx} (h1 : X.K = K) (h2 : X.mg = mg) : OwF X T.G 2 "__len__" ow_len := by
  subst h1 h2
  refine ⟨fun c m h => ?_⟩
  unfold ow_len at h
  split at h
  · rename_i e; cases h; subst e; exact ⟨_, _, T.G_Stock, T.at_Stock___len__.1, T.at_Stock___len__.2.1, T.at_Stock___len__.2.2, T.sf_Stock, (ok_Stock___len__ T).mono (by decide)⟩
  cases h
def p_Stock___bool___1 : MS :=
  (sRet (d1 (aCons (d1 (dVar 0) (getA "held" at_held)) aNil) (boolV ow0)))
def b_Stock___bool__ : MS :=
  p_Stock___bool___1
def r_Stock___bool__ : FnM := runB 1 1 b_Stock___bool__
theorem sc_Stock___bool__ : FnScope ["self"] ["self"] (defScope s_Stock___bool__) := ⟨rfl, rfl, rfl, by decide +kernel, rfl, by decide +kernel, by decide +kernel⟩
theorem ok_Stock___bool__ (T : Tx K mg) : FnG P w K mg base (L2.CX P w) 3 T.a_Stock___bool__ (spD T.G r_Stock___bool__) := by
  refine T.d_Stock___bool__.ok sc_Stock___bool__ fun cdv A outer s H E ρ hr => ?_
  have tk : Takes (cxOf (L2.CX P w) P w K mg base ["self"] "Stock.__bool__" (defScope s_Stock___bool__) T.a_Stock___bool__ cdv A outer s H E) (fun c d _ H => E c d H) := takes_of rfl rfl rfl rfl
  exact (pdb_one (pds_ret (pd_callTU (cad_bool (owf0 (k := 0)) (hr.mono (by decide)) tk) T.z_bool rfl (pda_cons (pd_attr (atf_held T rfl rfl) (hr.mono (by decide)) tk (pd_name 0 (pv 0))) pda_nil))))
def ow_bool : Ow := fun c => if c = "Stock" then some r_Stock___bool__ else none
theorem owf_bool (T : Tx K mg) {X : Cx} (h1 : X.K = K) (h2 : X.mg = mg) : OwF X T.G 3 "__bool__" ow_bool := by
  subst h1 h2
  refine ⟨fun c m h => ?_⟩
  unfold ow_bool at h
  split at h
  · rename_i e; cases h; subst e; exact ⟨_, _, T.G_Stock, T.at_Stock___bool__.1, T.at_Stock___bool__.2.1, T.at_Stock___bool__.2.2, T.sf_Stock, (ok_Stock___bool__ T).mono (by decide)⟩
  cases h
def p__law_odd_1 : MS :=
  (sSet 1 (aLst (aCons (dC .non) (aCons (dC (.bl true)) (aCons (dC (.bl false)) (aCons (dC (.int 0)) (aCons (dC (.int 1)) (aCons (d1 (dC (.int 1)) fun x => opt (negD x)) (aCons (dC (.int 2)) (aCons (mB2 (dC (.int 10)) (dC (.int 18)) powU) (aCons (mB2 (mB2 (dC (.int 10)) (dC (.int 18)) powU) (dC (.int 1)) (addU ow0)) (aCons (dC (.str "")) (aCons (dC (.str "a")) (aCons (dC (.str "A")) (aCons (dC (.str "self")) (aCons (dC (.str "table")) (aCons (dC (.str "guards")) (aCons (dC (.str "ab cd")) aNil))))))))))))))))))
def p__law_odd_2 : MS :=
  (sSet 1 (mB2 (dVar 1) (aLst (aCons (fun st => .ok (.dic []) st) (aCons (aTup (aCons (dC (.str "a")) aNil)) (aCons (aLst (aCons (dC (.str "a")) aNil)) (aCons (mDic (prCons (dC (.str "a")) (dC (.int 1)) prNil)) (aCons (aTup (aCons (dC (.str "a")) (aCons (dC (.str "b")) (aCons (dC (.str "a")) aNil)))) (aCons (aTup (aCons (dC (.str "a")) (aCons (dC (.str "a")) (aCons (dC (.str "a")) aNil)))) (aCons (aTup (aCons (dC .non) (aCons (dC (.str "a")) aNil))) (aCons (aLst (aCons (aTup aNil) aNil)) (aCons (aTup (aCons (dC (.str "a")) (aCons (dC (.int 1)) aNil))) (aCons (mDic (prCons (dC (.int 1)) (dC (.str "a")) prNil)) aNil))))))))))) (addU ow0)))
def p__law_odd_3 : MS :=
  (sSet 1 (mB2 (dVar 1) (aLst (aCons (dC (.str "abcdefghi")) (aCons (aTup aNil) (aCons (aLst aNil) aNil)))) (addU ow0)))
def p__law_odd_4 : MS :=
  (sRet (d1 (aCons (dVar 0) (aCons (dVar 1) aNil)) (callM r__law_pick)))
def b__law_odd : MS :=
  (sSeq p__law_odd_1 (sSeq p__law_odd_2 (sSeq p__law_odd_3 p__law_odd_4)))
def r__law_odd : FnM := runB 2 1 b__law_odd
theorem sc__law_odd : FnScope ["_law_tape", "_law_some"] ["_law_tape"] (defScope s__law_odd) := ⟨rfl, rfl, rfl, by decide +kernel, rfl, by decide +kernel, by decide +kernel⟩
theorem ok__law_odd (T : Tx K mg) : FnG P w K mg base (L2.CX P w) 4 T.a__law_odd (spD T.G r__law_odd) := by
  refine T.d__law_odd.ok sc__law_odd fun cdv A outer s H E ρ hr => ?_
  have tk : Takes (cxOf (L2.CX P w) P w K mg base ["_law_tape", "_law_some"] "_law_odd" (defScope s__law_odd) T.a__law_odd cdv A outer s H E) (fun c d _ H => E c d H) := takes_of rfl rfl rfl rfl
  exact (pdb_cons (pds_set (ps_set (i := 1) sc__law_odd.nd rfl (by first | exact Or.inl rfl | exact Or.inr rfl) (PD.pe (PO.pd (po_lst (pda_cons pd_non (pda_cons pd_bl (pda_cons pd_bl (pda_cons pd_int (pda_cons pd_int (pda_cons (pd_neg pd_int) (pda_cons pd_int (pda_cons (pd_bin opd_pow pd_int pd_int) (pda_cons (pd_bin (opd_add rfl (owf0 (k := 0)) (hr.mono (by decide)) tk) (pd_bin opd_pow pd_int pd_int) pd_int) (pda_cons pd_str (pda_cons pd_str (pda_cons pd_str (pda_cons pd_str (pda_cons pd_str (pda_cons pd_str (pda_cons pd_str pda_nil))))))))))))))))))))) (pdb_cons (pds_set (ps_set (i := 1) sc__law_odd.nd rfl (by first | exact Or.inl rfl | exact Or.inr rfl) (PD.pe (pd_bin (opd_add rfl (owf0 (k := 0)) (hr.mono (by decide)) tk) (pd_name 1 (pv 1)) (PO.pd (po_lst (pda_cons (PO.pd po_dict0) (pda_cons (pd_tup (pda_cons pd_str pda_nil)) (pda_cons (PO.pd (po_lst (pda_cons pd_str pda_nil))) (pda_cons (PO.pd (po_dict (pdps_cons (fun _ => pd_str) (fun _ => pd_int) pdps_nil))) (pda_cons (pd_tup (pda_cons pd_str (pda_cons pd_str (pda_cons pd_str pda_nil)))) (pda_cons (pd_tup (pda_cons pd_str (pda_cons pd_str (pda_cons pd_str pda_nil)))) (pda_cons (pd_tup (pda_cons pd_non (pda_cons pd_str pda_nil))) (pda_cons (PO.pd (po_lst (pda_cons (pd_tup pda_nil) pda_nil))) (pda_cons (pd_tup (pda_cons pd_str (pda_cons pd_int pda_nil))) (pda_cons (PO.pd (po_dict (pdps_cons (fun _ => pd_int) (fun _ => pd_str) pdps_nil))) pda_nil)))))))))))))))) (pdb_cons (pds_set (ps_set (i := 1) sc__law_odd.nd rfl (by first | exact Or.inl rfl | exact Or.inr rfl) (PD.pe (pd_bin (opd_add rfl (owf0 (k := 0)) (hr.mono (by decide)) tk) (pd_name 1 (pv 1)) (PO.pd (po_lst (pda_cons pd_str (pda_cons (pd_tup pda_nil) (pda_cons (PO.pd (po_lst pda_nil)) pda_nil))))))))) (pdb_one (pds_ret (pd_call (ok__law_pick T) (hr.mono (by decide)) tk T.g__law_pick T.d__law_pick.kp (pda_cons (pd_name 0 (pv 0)) (pda_cons (pd_name 1 (pv 1)) pda_nil))))))))
def p__law_is_told_1 : MS :=
  (sSet 3 (d1 (aCons (d1 (aCons (mLc [7] (d1 (dVar 2) iterF) (tName 7) (d1 (mB2 (mB2 (dVar 2) (dVar 7) (getU ow_getitem)) (dC (.int 0)) gtU) toB) (aTup (aCons (dVar 7) (aCons (mB2 (dVar 2) (dVar 7) (getU ow_getitem)) aNil)))) aNil) gSorted) aNil) (fun ds => opt (tupFL ds))))
def p__law_is_told_2 : MS :=
  (sSet 4 (aLst (aCons (d1 (dVar 1) (getA "kinds" at_kinds)) (aCons (d1 (dVar 1) (getA "entries" at_entries)) (aCons (d1 (dVar 1) (getA "total" at_total)) (aCons (d1 (aCons (dVar 1) aNil) (lenUF ow_len)) (aCons (d1 (aCons (dVar 1) aNil) (boolV ow_bool)) aNil)))))))
def p__law_is_told_3 : MS :=
  (sIf (d1 (mB2 (d1 (aCons (dVar 4) aNil) gReprV) (d1 (aCons (aLst (aCons (d1 (aCons (mLc [8] (d1 (dVar 3) iterF) (tName 8) mYes (mB2 (dVar 8) (dC (.int 0)) (getU ow_getitem))) aNil) (fun ds => opt (tupFL ds))) (aCons (dVar 3) (aCons (d1 (dVar 2) fun x => opt (sumV x)) (aCons (d1 (aCons (dVar 3) aNil) (lenUF ow_len)) (aCons (mB2 (dVar 3) (aTup aNil) neU) aNil)))))) aNil) gReprV) neU) toB) (sRet (dC (.bl false))) sNext)
def p__law_is_told_4_1 : MS :=
  (sSet 6 (mIf (d1 (d1 (aCons (dVar 5) (aCons (dC (.ty "str")) aNil)) (gIsiF isB)) toB) (mMe "dict" (d1 (aCons (dVar 3) aNil) fun ds => opt (dicFD ds)) (aCons (dVar 5) (aCons (dC (.int 0)) aNil)) gGet) (dC (.int 0))))
def p__law_is_told_4_2 : MS :=
  (sIf (mOr (d1 (mB2 (d1 (aCons (mB2 (dVar 1) (dVar 5) (getU ow_getitem)) aNil) gReprV) (d1 (aCons (dVar 6) aNil) gReprV) neU) toB) (d1 (mB2 (mB2 (dVar 5) (dVar 1) (inU ow_contains)) (mB2 (dVar 6) (dC (.int 0)) gtU) neU) toB)) (sRet (dC (.bl false))) sNext)
def p__law_is_told_4 : MS :=
  (sFor [] (d1 (mB2 (d1 (aCons (dVar 2) aNil) gList) (aLst (aCons (d1 (aCons (dVar 0) aNil) (callM r__law_odd)) (aCons (d1 (aCons (dVar 0) aNil) (callM r__law_odd)) (aCons (dVar 3) (aCons (dC .non) (aCons (aLst (aCons (dC (.str "a")) aNil)) aNil)))))) (addU ow0)) iterF) (tName 5) (sSeq p__law_is_told_4_1 p__law_is_told_4_2))
def b__law_is_told : MS :=
  (sSeq p__law_is_told_1 (sSeq p__law_is_told_2 (sSeq p__law_is_told_3 (sSeq p__law_is_told_4 (sRet (dC (.bl true)))))))
def r__law_is_told : FnM := runB 9 3 b__law_is_told
theorem sc__law_is_told : FnScope ["_law_tape", "_law_stock", "_law_counts", "_law_items", "_law_told", "_law_value", "_law_due", "_law_kind", "_law_pair"] ["_law_tape", "_law_stock", "_law_counts"] (defScope s__law_is_told) := ⟨rfl, rfl, rfl, by decide +kernel, rfl, by decide +kernel, by decide +kernel⟩
theorem ok__law_is_told (T : Tx K mg) : FnG P w K mg base (L2.CX P w) 6 T.a__law_is_told (spD T.G r__law_is_told) := by
  refine T.d__law_is_told.ok sc__law_is_told fun cdv A outer s H E ρ hr => ?_
  have tk : Takes (cxOf (L2.CX P w) P w K mg base ["_law_tape", "_law_stock", "_law_counts", "_law_items", "_law_told", "_law_value", "_law_due", "_law_kind", "_law_pair"] "_law_is_told" (defScope s__law_is_told) T.a__law_is_told cdv A outer s H E) (fun c d _ H => E c d H) := takes_of rfl rfl rfl rfl
  exact (pdb_cons (pds_set (ps_set (i := 3) sc__law_is_told.nd rfl (by first | exact Or.inl rfl | exact Or.inr rfl) (PD.pe (pd_callTU (cad_tupFL rfl) T.z_tuple rfl (pda_cons (pd_callBU (cad_sorted rfl rfl hr) T.z_sorted rfl (pda_cons (PO.pd (po_lc (own := [("_law_kind", 7)]) rfl sc__law_is_told.nd (pdi_valF rfl (pd_name 2 (pv 2))) (blkOk_by (N := ["_law_tape", "_law_stock", "_law_counts", "_law_items", "_law_told", "_law_value", "_law_due", "_law_kind", "_law_pair"]) (sc := defScope s__law_is_told) (by decide +kernel)) (fun _ _ _ _ _ _ => (pdg_name (pg_name (i := 7) sc__law_is_told.nd rfl (by first | exact Or.inl rfl | exact Or.inr rfl)))) (fun _ _ _ _ _ _ => (pdts_one (pdt_cmpU opd_gt (pd_sub (opd_get rfl (owf_getitem T rfl rfl) (hr.mono (by decide)) takes0) (pd_name 2 (pv 2)) (pd_name 7 (pv 7))) pd_int (by rfl)))) (fun _ _ _ _ _ _ => (pd_tup (pda_cons (pd_name 7 (pv 7)) (pda_cons (pd_sub (opd_get rfl (owf_getitem T rfl rfl) (hr.mono (by decide)) takes0) (pd_name 2 (pv 2)) (pd_name 7 (pv 7))) pda_nil)))))) pda_nil)) pda_nil))))) (pdb_cons (pds_set (ps_set (i := 4) sc__law_is_told.nd rfl (by first | exact Or.inl rfl | exact Or.inr rfl) (PD.pe (PO.pd (po_lst (pda_cons (pd_attr (atf_kinds T rfl rfl) (hr.mono (by decide)) tk (pd_name 1 (pv 1))) (pda_cons (pd_attr (atf_entries T rfl rfl) (hr.mono (by decide)) tk (pd_name 1 (pv 1))) (pda_cons (pd_attr (atf_total T rfl rfl) (hr.mono (by decide)) tk (pd_name 1 (pv 1))) (pda_cons (pd_callBU (cad_lenF rfl (owf_len T rfl rfl) (hr.mono (by decide)) tk) T.z_len rfl (pda_cons (pd_name 1 (pv 1)) pda_nil)) (pda_cons (pd_callTU (cad_bool (owf_bool T rfl rfl) (hr.mono (by decide)) tk) T.z_bool rfl (pda_cons (pd_name 1 (pv 1)) pda_nil)) pda_nil)))))))))) (pdb_cons (pds_if (pdt_cmpU (opd_ne rfl hr) (pd_callBU (cad_reprV rfl hr.units hr.gd) T.z_repr rfl (pda_cons (pd_name 4 (pv 4)) pda_nil)) (pd_callBU (cad_reprV rfl hr.units hr.gd) T.z_repr rfl (pda_cons (PO.pd (po_lst (pda_cons (pd_callTU (cad_tupFL rfl) T.z_tuple rfl (pda_cons (PO.pd (po_lc (own := [("_law_pair", 8)]) rfl sc__law_is_told.nd (pdi_valF rfl (pd_name 3 (pv 3))) (blkOk_by (N := ["_law_tape", "_law_stock", "_law_counts", "_law_items", "_law_told", "_law_value", "_law_due", "_law_kind", "_law_pair"]) (sc := defScope s__law_is_told) (by decide +kernel)) (fun _ _ _ _ _ _ => (pdg_name (pg_name (i := 8) sc__law_is_told.nd rfl (by first | exact Or.inl rfl | exact Or.inr rfl)))) (fun _ _ _ _ _ _ => pdts_nil) (fun _ _ _ _ _ _ => (pd_sub (opd_get rfl (owf_getitem T rfl rfl) (hr.mono (by decide)) takes0) (pd_name 8 (pv 8)) pd_int)))) pda_nil)) (pda_cons (pd_name 3 (pv 3)) (pda_cons (pd_sumV T.z_sum rfl (pd_name 2 (pv 2))) (pda_cons (pd_callBU (cad_lenF rfl (owf_len T rfl rfl) (hr.mono (by decide)) tk) T.z_len rfl (pda_cons (pd_name 3 (pv 3)) pda_nil)) (pda_cons (pd_cmpU (opd_ne rfl hr) (pd_name 3 (pv 3)) (pd_tup pda_nil) (by rfl)) pda_nil))))))) pda_nil)) (by rfl)) (pdb_one (pds_ret pd_bl)) pdb_nil) (pdb_cons (pds_for [] (passes_of rfl) rfl (pdi_valF rfl (pd_bin (opd_add rfl (owf0 (k := 0)) (hr.mono (by decide)) tk) (pd_callTU (cad_list rfl rfl) T.z_list rfl (pda_cons (pd_name 2 (pv 2)) pda_nil)) (PO.pd (po_lst (pda_cons (pd_call (ok__law_odd T) (hr.mono (by decide)) tk T.g__law_odd T.d__law_odd.kp (pda_cons (pd_name 0 (pv 0)) pda_nil)) (pda_cons (pd_call (ok__law_odd T) (hr.mono (by decide)) tk T.g__law_odd T.d__law_odd.kp (pda_cons (pd_name 0 (pv 0)) pda_nil)) (pda_cons (pd_name 3 (pv 3)) (pda_cons pd_non (pda_cons (PO.pd (po_lst (pda_cons pd_str pda_nil))) pda_nil))))))))) (pdg_name (pg_name (i := 5) sc__law_is_told.nd rfl (by first | exact Or.inl rfl | exact Or.inr rfl))) (pdb_cons (pds_set (ps_set (i := 6) sc__law_is_told.nd rfl (by first | exact Or.inl rfl | exact Or.inr rfl) (PD.pe (pd_if (pdt_val (pd_callBU (fun _ => cap_isiF rfl isf0) T.z_isinstance rfl (pda_cons (pd_name 5 (pv 5)) (pda_cons (pd_const (pe_bltn (v := .ty "str") (u := .type "str") rfl T.z_str rfl rfl) fun _ => rep_ty) pda_nil)))) (pd_me1 rfl (by decide) PySem.F.plainAttrs_dict PySem.F.slot_dict_get PySem.F.type_dict_get (me_get hr) (pd_callTU (cad_dictF rfl rfl) T.z_dict rfl (pda_cons (pd_name 3 (pv 3)) pda_nil)) (pda_cons (pd_name 5 (pv 5)) (pda_cons pd_int pda_nil))) pd_int)))) (pdb_one (pds_if (PDW.t (pdw_or (pdt_cmpU (opd_ne rfl hr) (pd_callBU (cad_reprV rfl hr.units hr.gd) T.z_repr rfl (pda_cons (pd_sub (opd_get rfl (owf_getitem T rfl rfl) (hr.mono (by decide)) tk) (pd_name 1 (pv 1)) (pd_name 5 (pv 5))) pda_nil)) (pd_callBU (cad_reprV rfl hr.units hr.gd) T.z_repr rfl (pda_cons (pd_name 6 (pv 6)) pda_nil)) (by rfl)) (pdw_or1 (pdt_cmpU (opd_ne rfl hr) (pd_cmpU (opd_in rfl (owf_contains T rfl rfl) (hr.mono (by decide)) tk) (pd_name 5 (pv 5)) (pd_name 1 (pv 1)) (by rfl)) (pd_cmpU opd_gt (pd_name 6 (pv 6)) pd_int (by rfl)) (by rfl))))) (pdb_one (pds_ret pd_bl)) pdb_nil)))) (pdb_one (pds_ret pd_bl))))))
theorem eqft (T : Tx K mg) {X : Cx} (h1 : X.K = K) (h2 : X.mg = mg) : EqFT X T.G ["NoneType", "bool", "int", "str", "dict", "list", "tuple"] ow_eq := by
  subst h1 h2
  refine ⟨fun c m h => ?_⟩
  unfold ow_eq at h
  split at h
  · rename_i e; cases h; subst e; refine ⟨_, T.G_Stock, fun t ht => ?_⟩
    simp only [List.mem_cons, List.not_mem_nil, or_false] at ht
    rcases ht with rfl | rfl | rfl | rfl | rfl | rfl | rfl
    · exact T.eo_Stock_NoneType
    · exact T.eo_Stock_bool
    · exact T.eo_Stock_int
    · exact T.eo_Stock_str
    · exact T.eo_Stock_dict
    · exact T.eo_Stock_list
    · exact T.eo_Stock_tuple
  cases h
def p__law_by_names_1 : MS :=
  (sRet (aLst (aCons (d1 (dC (.cls "Stock")) (mkK0 mkT)) (aCons (d1 (aCons (dVar 0) aNil) (initKs "Stock" r_Stock___init__ ["a"])) (aCons (d1 (aCons (dVar 1) (aCons (dVar 0) aNil)) (initKs "Stock" r_Stock___init__ ["b", "a"])) (aCons (d1 (aCons (dVar 2) (aCons (dVar 1) (aCons (dVar 0) aNil))) (initKs "Stock" r_Stock___init__ ["c", "xyzwuvts", "a"])) aNil))))))
def b__law_by_names : MS :=
  p__law_by_names_1
def r__law_by_names : FnM := runB 3 3 b__law_by_names
theorem sc__law_by_names : FnScope ["_law_x", "_law_y", "_law_z"] ["_law_x", "_law_y", "_law_z"] (defScope s__law_by_names) := ⟨rfl, rfl, rfl, by decide +kernel, rfl, by decide +kernel, by decide +kernel⟩
theorem ok__law_by_names (T : Tx K mg) : FnG P w K mg base (L2.CX P w) 6 T.a__law_by_names (spD T.G r__law_by_names) := by
  refine T.d__law_by_names.ok sc__law_by_names fun cdv A outer s H E ρ hr => ?_
  have tk : Takes (cxOf (L2.CX P w) P w K mg base ["_law_x", "_law_y", "_law_z"] "_law_by_names" (defScope s__law_by_names) T.a__law_by_names cdv A outer s H E) (fun c d _ H => E c d H) := takes_of rfl rfl rfl rfl
  exact (pdb_one (pds_ret (PO.pd (po_lst (pda_cons (pd_make0 (mkf T rfl rfl) (mkeep T) (hr.mono (by decide)) tk (pd_const (v := .ref T.a_Stock) (pe_glob (v := .ref T.a_Stock) rfl T.g_Stock rfl) fun _ => .mk ⟨_, rfl, T.G_Stock⟩)) (pda_cons (pd_makeKs T.G_Stock T.g_Stock T.mk_Stock T.kp_Stock (ok_Stock___init__ T rfl rfl) (hr.mono (by decide)) tk (pdk_cons (pd_name 0 (pv 0)) pdk_nil) (by decide +kernel)) (pda_cons (pd_makeKs T.G_Stock T.g_Stock T.mk_Stock T.kp_Stock (ok_Stock___init__ T rfl rfl) (hr.mono (by decide)) tk (pdk_cons (pd_name 1 (pv 1)) (pdk_cons (pd_name 0 (pv 0)) pdk_nil)) (by decide +kernel)) (pda_cons (pd_makeKs T.G_Stock T.g_Stock T.mk_Stock T.kp_Stock (ok_Stock___init__ T rfl rfl) (hr.mono (by decide)) tk (pdk_cons (pd_name 2 (pv 2)) (pdk_cons (pd_name 1 (pv 1)) (pdk_cons (pd_name 0 (pv 0)) pdk_nil))) (by decide +kernel)) pda_nil))))))))
def p_Stock_single_1 : MS :=
  (sIf (mNot (d1 (d1 (aCons (dVar 0) aNil) (callM r_is_name)) toB)) sNever sNext)
def p_Stock_single_2 : MS :=
  (sIf (mNot (d1 (d1 (aCons (dVar 1) aNil) (callM r_is_amount)) toB)) sNever sNext)
def p_Stock_single_4 : MS :=
  (sRet (d1 (dC (.cls "Stock")) fun o => d1 (noX (dVar 2)) fun z => mkKW mkT o z))
def b_Stock_single : MS :=
  (sSeq p_Stock_single_1 (sSeq p_Stock_single_2 (sSeq (sSet 2 (mDic (prCons (dVar 0) (dVar 1) prNil))) p_Stock_single_4)))
def r_Stock_single : FnM := runB 3 2 b_Stock_single
theorem sc_Stock_single : FnScope ["kind", "count", "counts"] ["kind", "count"] (defScope s_Stock_single) := ⟨rfl, rfl, rfl, by decide +kernel, rfl, by decide +kernel, by decide +kernel⟩
theorem bo_Stock_single (T : Tx K mg) (cdv : Value) (A : Around) (outer : List Env) (s : Shared) (H : Hp) (E : XK) (ρ : Fz) (hr : RoomG 5 (A.deeper (envOfC "Stock.single" (defScope s_Stock_single) s.heap.objs.size T.a_Stock_single cdv))) : PDB (cxOf (L2.CX P w) P w K mg base ["kind", "count", "counts"] "Stock.single" (defScope s_Stock_single) T.a_Stock_single cdv A outer s H E) ⟨T.G, H, ρ, fun c d _ H => E c d H, []⟩ (defBody s_Stock_single) b_Stock_single := by
  have tk : Takes (cxOf (L2.CX P w) P w K mg base ["kind", "count", "counts"] "Stock.single" (defScope s_Stock_single) T.a_Stock_single cdv A outer s H E) (fun c d _ H => E c d H) := takes_of rfl rfl rfl rfl
  exact (pdb_cons (pds_if (pdt_not (pdt_val (pd_call (ok_is_name T) (hr.mono (by decide)) tk T.g_is_name T.d_is_name.kp (pda_cons (pd_name 0 (pv 0)) pda_nil)))) (pdb_one pds_never) pdb_nil) (pdb_cons (pds_if (pdt_not (pdt_val (pd_call (ok_is_amount T) (hr.mono (by decide)) tk T.g_is_amount T.d_is_amount.kp (pda_cons (pd_name 1 (pv 1)) pda_nil)))) (pdb_one pds_never) pdb_nil) (pdb_cons (pds_set (ps_set (i := 2) sc_Stock_single.nd rfl (by first | exact Or.inl rfl | exact Or.inr rfl) (PD.pe (PO.pd (po_dict (pdps_cons (fun _ => (pd_name 0 (pv 0))) (fun _ => (pd_name 1 (pv 1))) pdps_nil)))))) (pdb_one (pds_ret (pd_makeK (mkf T rfl rfl) (mkeep T) (hr.mono (by decide)) tk (pd_const (v := .ref T.a_Stock) (pe_glob (v := .ref T.a_Stock) rfl T.g_Stock rfl) fun _ => .mk ⟨_, rfl, T.G_Stock⟩) (fun _ => (pd_name 2 (pv 2)))))))))
theorem ok_Stock_single (T : Tx K mg) : FnG P w K mg base (L2.CX P w) 6 T.a_Stock_single (spD T.G r_Stock_single) := T.d_Stock_single.ok sc_Stock_single (bo_Stock_single T)
theorem okd_Stock_single (T : Tx K mg) : FnG P w K mg base (L2.CX P w) 6 T.a_Stock_single (spD T.G (dflt r_Stock_single [.int 1])) := T.d_Stock_single.okD sc_Stock_single 1 rfl (bo_Stock_single T) fun T kV doc pm an cdv ct us its hu hi => match us, hu, its, hi with | [_], _, [_], _ => ⟨_, rfl, rfl⟩
def p_law_1 : MS :=
  (sAsg (aTup (aCons (d1 (aCons (dVar 0) aNil) (callM r__law_begin)) (aCons (aLst aNil) aNil))) (tTupT 2 (tCons (tName 1) (tCons (tName 2) tNil))))
def p_law_2_1 : MS :=
  (sSet 4 (d1 (aCons (dVar 1) (aCons (d1 (aCons (dVar 1) (aCons (aLst (aCons (d1 (aCons (dVar 1) (aCons (dC (.int 6)) aNil)) (callM r__law_draw)) (aCons (d1 (aCons (dVar 1) (aCons (dC (.int 6)) aNil)) (callM r__law_draw)) (aCons (dC (.int 12)) aNil)))) aNil)) (callM r__law_pick)) aNil)) (callM r__law_names)))
def p_law_2_2 : MS :=
  (sSet 5 (d1 (aCons (mLc [17] (d1 (dVar 4) iterD) (tName 17) mYes (aTup (aCons (dVar 17) (aCons (d1 (aCons (dVar 1) (aCons (mB2 (dC (.int 10)) (dC (.int 18)) powU) aNil)) (callM r__law_number)) aNil)))) aNil) gDict))
def p_law_2_3 : MS :=
  (sSet 6 (toLoc (d1 (aCons (mLc [17] (d1 (d1 (aCons (dVar 1) (aCons (dVar 4) aNil)) (callM r__law_shuffled)) iterD) (tName 17) mYes (aTup (aCons (dVar 17) (aCons (mB2 (dVar 5) (dVar 17) (getU ow_getitem)) aNil)))) aNil) gDict)))
def p_law_2_4 : MS :=
  (sSet 7 (d1 (aCons (dVar 6) aNil) fun ds => callM r_Stock_of (.cls "Stock" :: ds)))
def p_law_2_6 : MS :=
  (sIf (mOr (mNot (d1 (d1 (aCons (dVar 1) (aCons (dVar 7) (aCons (dVar 5) aNil))) (callM r__law_is_told)) truN)) (d1 (mB2 (d1 (dC (.cls "Stock")) (getCc ck_MOST)) (mB2 (dC (.int 10)) (dC (.int 18)) powU) (neV ow_eq)) toB)) (sRet (dC (.bl false))) sNext)
def p_law_2_7 : MS :=
  (sIf (mOr (d1 (mB2 (dVar 7) (d1 (aCons (dVar 1) aNil) (callM r__law_odd)) (eqVT ["NoneType", "bool", "int", "str", "dict", "list", "tuple"] ow_eq)) toB) (d1 (mB2 (dVar 7) (dVar 5) (eqVT ["NoneType", "bool", "int", "str", "dict", "list", "tuple"] ow_eq)) toB)) (sRet (dC (.bl false))) sNext)
def p_law_2_8 : MS :=
  (sSet 8 (d1 (aCons (mLc [17] (d1 (dVar 4) iterD) (tName 17) (d1 (mB2 (mB2 (dVar 5) (dVar 17) (getU ow_getitem)) (dC (.int 0)) gtU) toB) (aTup (aCons (dVar 17) (aCons (mB2 (dVar 5) (dVar 17) (getU ow_getitem)) aNil)))) aNil) gSorted))
def p_law_2_9 : MS :=
  (sSet 2 (mB2 (dVar 2) (aLst (aCons (aTup (aCons (dVar 7) (aCons (dVar 8) aNil))) aNil)) (addU ow0)))
def p_law_2_10_1 : MS :=
  (sIf (mOr (d1 (mB2 (mB2 (dVar 9) (dVar 7) (eqU ow_eq)) (mB2 (dVar 10) (dVar 8) (eqU ow_eq)) (neV ow_eq)) toB) (d1 (mB2 (mB2 (dVar 9) (dVar 7) (neV ow_eq)) (mB2 (dVar 10) (dVar 8) (neV ow_eq)) (neV ow_eq)) toB)) (sRet (dC (.bl false))) sNext)
def p_law_2_10 : MS :=
  (sFor [] (d1 (dVar 2) iterD) (tTupT 2 (tCons (tName 9) (tCons (tName 10) tNil))) p_law_2_10_1)
def p_law_2_11 : MS :=
  (sAsg (mLc [18] (d1 (aCons (dC (.int 3)) aNil) rng1) (tName 18) mYes (d1 (aCons (dVar 1) (aCons (mB2 (dC (.int 10)) (dC (.int 18)) powU) aNil)) (callM r__law_number))) (tLstT 3 (tCons (tName 11) (tCons (tName 12) (tCons (tName 13) tNil)))))
def p_law_2_12 : MS :=
  (sSet 14 (aLst (aCons (fun st => .ok (.dic []) st) (aCons (mDic (prCons (dC (.str "a")) (dVar 11) prNil)) (aCons (mDic (prCons (dC (.str "a")) (dVar 11) (prCons (dC (.str "b")) (dVar 12) prNil))) (aCons (mDic (prCons (dC (.str "a")) (dVar 11) (prCons (dC (.str "c")) (dVar 13) (prCons (dC (.str "xyzwuvts")) (dVar 12) prNil)))) aNil))))))
def p_law_2_13_1 : MS :=
  (sIf (mOr (mNot (d1 (d1 (aCons (dVar 1) (aCons (dVar 15) (aCons (dVar 16) aNil))) (callM r__law_is_told)) truN)) (d1 (mB2 (dVar 15) (d1 (aCons (dVar 16) aNil) fun ds => callM r_Stock_of (.cls "Stock" :: ds)) (neV ow_eq)) toB)) (sRet (dC (.bl false))) sNext)
def p_law_2_13 : MS :=
  (sFor [] (d1 (aCons (d1 (aCons (dVar 11) (aCons (dVar 12) (aCons (dVar 13) aNil))) (callM r__law_by_names)) (aCons (dVar 14) aNil)) zipDA) (tTupT 2 (tCons (tName 15) (tCons (tName 16) tNil))) p_law_2_13_1)
def p_law_2_14_1 : MS :=
  (sIf (mOr (d1 (mB2 (d1 (aCons (dVar 17) (aCons (mB2 (dVar 5) (dVar 17) (getU ow_getitem)) aNil)) (callM r_Stock_single)) (d1 (aCons (mDic (prCons (dVar 17) (mB2 (dVar 5) (dVar 17) (getU ow_getitem)) prNil)) aNil) fun ds => callM r_Stock_of (.cls "Stock" :: ds)) (neV ow_eq)) toB) (d1 (mB2 (mB2 (d1 (aCons (dVar 17) aNil) (callM (dflt r_Stock_single [.int 1]))) (dVar 17) (getU ow_getitem)) (dC (.int 1)) (neV ow_eq)) toB)) (sRet (dC (.bl false))) sNext)
def p_law_2_b : MS :=
  (sSeq p_law_2_1 (sSeq p_law_2_2 (sSeq p_law_2_3 (sSeq p_law_2_4 (sSeq (sExpr (mMe "dict" (dVar 6) aNil gClrD)) (sSeq p_law_2_6 (sSeq p_law_2_7 (sSeq p_law_2_8 (sSeq p_law_2_9 (sSeq p_law_2_10 (sSeq p_law_2_11 (sSeq p_law_2_12 (sSeq p_law_2_13 (sFor [] (d1 (dVar 4) iterD) (tName 17) p_law_2_14_1))))))))))))))
def p_law_2 : MS :=
  (sFor [] (d1 (aCons (dC (.int 6)) aNil) rng1) (tName 3) (sCut [6] p_law_2_b))
def b_law : MS :=
  (sSeq p_law_1 (sSeq p_law_2 (sRet (dC (.bl true)))))
def r_law : FnM := runB 19 1 b_law
theorem sc_law : FnScope ["_law_script", "_law_tape", "_law_known", "_law_turn", "_law_names_here", "_law_counts", "_law_given", "_law_stock", "_law_items", "_law_other", "_law_told", "_law_x", "_law_y", "_law_z", "_law_dues", "_law_made", "_law_due", "_law_name", "_law_k"] ["_law_script"] (defScope s_law) := ⟨rfl, rfl, rfl, by decide +kernel, rfl, by decide +kernel, by decide +kernel⟩
theorem ok_law (T : Tx K mg) {fd : FuncData} (F : Fun K "law" "law" s_law T.a_law fd) : FnOkG P w K mg base (L2.CX P w) 7 T.a_law fd ["_law_script"] (spD T.G r_law) := by
  refine fn_d F sc_law fun cdv A outer s H E ρ hr => ?_
  have tk : Takes (cxOf (L2.CX P w) P w K mg base ["_law_script", "_law_tape", "_law_known", "_law_turn", "_law_names_here", "_law_counts", "_law_given", "_law_stock", "_law_items", "_law_other", "_law_told", "_law_x", "_law_y", "_law_z", "_law_dues", "_law_made", "_law_due", "_law_name", "_law_k"] "law" (defScope s_law) T.a_law cdv A outer s H E) (fun c d _ H => E c d H) := takes_of rfl rfl rfl rfl
  exact (pdb_cons (pds_asg (pd_tup (pda_cons (pd_call (ok__law_begin T) (hr.mono (by decide)) tk T.g__law_begin T.d__law_begin.kp (pda_cons (pd_name 0 (pv 0)) pda_nil)) (pda_cons (PO.pd (po_lst pda_nil)) pda_nil))) (pdg_tup rfl rfl (pdgs_cons (pdg_name (pg_name (i := 1) sc_law.nd rfl (by first | exact Or.inl rfl | exact Or.inr rfl))) (pdgs_cons (pdg_name (pg_name (i := 2) sc_law.nd rfl (by first | exact Or.inl rfl | exact Or.inr rfl))) pdgs_nil)))) (pdb_cons (pds_for [] (passes_of rfl) rfl (pdi_range1 T.z_range (pda_cons pd_int pda_nil)) (pdg_name (pg_name (i := 3) sc_law.nd rfl (by first | exact Or.inl rfl | exact Or.inr rfl))) (pdb_cut [6] (pdb_cons (pds_set (ps_set (i := 4) sc_law.nd rfl (by first | exact Or.inl rfl | exact Or.inr rfl) (PD.pe (pd_call (ok__law_names T) (hr.mono (by decide)) tk T.g__law_names T.d__law_names.kp (pda_cons (pd_name 1 (pv 1)) (pda_cons (pd_call (ok__law_pick T) (hr.mono (by decide)) tk T.g__law_pick T.d__law_pick.kp (pda_cons (pd_name 1 (pv 1)) (pda_cons (PO.pd (po_lst (pda_cons (pd_call (ok__law_draw T) (hr.mono (by decide)) tk T.g__law_draw T.d__law_draw.kp (pda_cons (pd_name 1 (pv 1)) (pda_cons pd_int pda_nil))) (pda_cons (pd_call (ok__law_draw T) (hr.mono (by decide)) tk T.g__law_draw T.d__law_draw.kp (pda_cons (pd_name 1 (pv 1)) (pda_cons pd_int pda_nil))) (pda_cons pd_int pda_nil))))) pda_nil))) pda_nil)))))) (pdb_cons (pds_set (ps_set (i := 5) sc_law.nd rfl (by first | exact Or.inl rfl | exact Or.inr rfl) (PD.pe (pd_callTU (cad_dict rfl rfl) T.z_dict rfl (pda_cons (PO.pd (po_lc (own := [("_law_name", 17)]) rfl sc_law.nd (pdi_val rfl (pd_name 4 (pv 4))) (blkOk_by (N := ["_law_script", "_law_tape", "_law_known", "_law_turn", "_law_names_here", "_law_counts", "_law_given", "_law_stock", "_law_items", "_law_other", "_law_told", "_law_x", "_law_y", "_law_z", "_law_dues", "_law_made", "_law_due", "_law_name", "_law_k"]) (sc := defScope s_law) (by decide +kernel)) (fun _ _ _ _ _ _ => (pdg_name (pg_name (i := 17) sc_law.nd rfl (by first | exact Or.inl rfl | exact Or.inr rfl)))) (fun _ _ _ _ _ _ => pdts_nil) (fun _ _ _ _ _ _ => (pd_tup (pda_cons (pd_name 17 (pv 17)) (pda_cons (pd_call (ok__law_number T) (hr.mono (by decide)) takes0 T.g__law_number T.d__law_number.kp (pda_cons (pd_name 1 (pv 1)) (pda_cons (pd_bin opd_pow pd_int pd_int) pda_nil))) pda_nil)))))) pda_nil))))) (pdb_cons (pds_set (ps_set (i := 6) sc_law.nd rfl (by first | exact Or.inl rfl | exact Or.inr rfl) (PD.pe (pd_loc (po_dictC (x := "dict") rfl rfl T.z_dict (pda_cons (PO.pd (po_lc (own := [("_law_name", 17)]) rfl sc_law.nd (pdi_val rfl (pd_call (ok__law_shuffled T) (hr.mono (by decide)) tk T.g__law_shuffled T.d__law_shuffled.kp (pda_cons (pd_name 1 (pv 1)) (pda_cons (pd_name 4 (pv 4)) pda_nil)))) (blkOk_by (N := ["_law_script", "_law_tape", "_law_known", "_law_turn", "_law_names_here", "_law_counts", "_law_given", "_law_stock", "_law_items", "_law_other", "_law_told", "_law_x", "_law_y", "_law_z", "_law_dues", "_law_made", "_law_due", "_law_name", "_law_k"]) (sc := defScope s_law) (by decide +kernel)) (fun _ _ _ _ _ _ => (pdg_name (pg_name (i := 17) sc_law.nd rfl (by first | exact Or.inl rfl | exact Or.inr rfl)))) (fun _ _ _ _ _ _ => pdts_nil) (fun _ _ _ _ _ _ => (pd_tup (pda_cons (pd_name 17 (pv 17)) (pda_cons (pd_sub (opd_get rfl (owf_getitem T rfl rfl) (hr.mono (by decide)) takes0) (pd_name 5 (pv 5)) (pd_name 17 (pv 17))) pda_nil)))))) pda_nil)))))) (pdb_cons (pds_set (ps_set (i := 7) sc_law.nd rfl (by first | exact Or.inl rfl | exact Or.inr rfl) (PD.pe (pd_cmeth (c := "Stock") T.G_Stock T.cr_Stock T.cm_Stock_of (ok_Stock_of T) (hr.mono (by decide)) tk (pe_glob rfl T.g_Stock rfl) (pda_cons (pd_name 6 (pv 6)) pda_nil))))) (pdb_cons (pds_expr (pd_me0 rfl (by decide) PySem.F.plainAttrs_dict PySem.F.slot_dict_clear PySem.F.type_dict_clear me_clrD (pd_name 6 (pv 6)))) (pdb_cons (pds_if (PDW.t (pdw_or (pdt_not (pdt_tru (trd_n rfl) (pd_call (ok__law_is_told T) (hr.mono (by decide)) tk T.g__law_is_told T.d__law_is_told.kp (pda_cons (pd_name 1 (pv 1)) (pda_cons (pd_name 7 (pv 7)) (pda_cons (pd_name 5 (pv 5)) pda_nil)))))) (pdw_or1 (pdt_cmpU (opd_neV rfl (owf_eq T rfl rfl) (nef T rfl rfl) (hr.mono (by decide)) tk) (pd_clsK (ccf_MOST T rfl rfl) (pd_const (v := .ref T.a_Stock) (pe_glob (v := .ref T.a_Stock) rfl T.g_Stock rfl) fun _ => .mk ⟨_, rfl, T.G_Stock⟩)) (pd_bin opd_pow pd_int pd_int) (by rfl))))) (pdb_one (pds_ret pd_bl)) pdb_nil) (pdb_cons (pds_if (PDW.t (pdw_or (pdt_cmpU (opd_eqVT rfl (owf_eq T rfl rfl) (eqft T rfl rfl) (hr.mono (by decide)) tk) (pd_name 7 (pv 7)) (pd_call (ok__law_odd T) (hr.mono (by decide)) tk T.g__law_odd T.d__law_odd.kp (pda_cons (pd_name 1 (pv 1)) pda_nil)) (by rfl)) (pdw_or1 (pdt_cmpU (opd_eqVT rfl (owf_eq T rfl rfl) (eqft T rfl rfl) (hr.mono (by decide)) tk) (pd_name 7 (pv 7)) (pd_name 5 (pv 5)) (by rfl))))) (pdb_one (pds_ret pd_bl)) pdb_nil) (pdb_cons (pds_set (ps_set (i := 8) sc_law.nd rfl (by first | exact Or.inl rfl | exact Or.inr rfl) (PD.pe (pd_callBU (cad_sorted rfl rfl hr) T.z_sorted rfl (pda_cons (PO.pd (po_lc (own := [("_law_name", 17)]) rfl sc_law.nd (pdi_val rfl (pd_name 4 (pv 4))) (blkOk_by (N := ["_law_script", "_law_tape", "_law_known", "_law_turn", "_law_names_here", "_law_counts", "_law_given", "_law_stock", "_law_items", "_law_other", "_law_told", "_law_x", "_law_y", "_law_z", "_law_dues", "_law_made", "_law_due", "_law_name", "_law_k"]) (sc := defScope s_law) (by decide +kernel)) (fun _ _ _ _ _ _ => (pdg_name (pg_name (i := 17) sc_law.nd rfl (by first | exact Or.inl rfl | exact Or.inr rfl)))) (fun _ _ _ _ _ _ => (pdts_one (pdt_cmpU opd_gt (pd_sub (opd_get rfl (owf_getitem T rfl rfl) (hr.mono (by decide)) takes0) (pd_name 5 (pv 5)) (pd_name 17 (pv 17))) pd_int (by rfl)))) (fun _ _ _ _ _ _ => (pd_tup (pda_cons (pd_name 17 (pv 17)) (pda_cons (pd_sub (opd_get rfl (owf_getitem T rfl rfl) (hr.mono (by decide)) takes0) (pd_name 5 (pv 5)) (pd_name 17 (pv 17))) pda_nil)))))) pda_nil))))) (pdb_cons (pds_set (ps_set (i := 2) sc_law.nd rfl (by first | exact Or.inl rfl | exact Or.inr rfl) (PD.pe (pd_bin (opd_add rfl (owf0 (k := 0)) (hr.mono (by decide)) tk) (pd_name 2 (pv 2)) (PO.pd (po_lst (pda_cons (pd_tup (pda_cons (pd_name 7 (pv 7)) (pda_cons (pd_name 8 (pv 8)) pda_nil))) pda_nil))))))) (pdb_cons (pds_for [] (passes_of rfl) rfl (pdi_val rfl (pd_name 2 (pv 2))) (pdg_tup rfl rfl (pdgs_cons (pdg_name (pg_name (i := 9) sc_law.nd rfl (by first | exact Or.inl rfl | exact Or.inr rfl))) (pdgs_cons (pdg_name (pg_name (i := 10) sc_law.nd rfl (by first | exact Or.inl rfl | exact Or.inr rfl))) pdgs_nil))) (pdb_one (pds_if (PDW.t (pdw_or (pdt_cmpU (opd_neV rfl (owf_eq T rfl rfl) (nef T rfl rfl) (hr.mono (by decide)) tk) (pd_cmpU (opd_eq rfl (owf_eq T rfl rfl) (hr.mono (by decide)) tk) (pd_name 9 (pv 9)) (pd_name 7 (pv 7)) (by rfl)) (pd_cmpU (opd_eq rfl (owf_eq T rfl rfl) (hr.mono (by decide)) tk) (pd_name 10 (pv 10)) (pd_name 8 (pv 8)) (by rfl)) (by rfl)) (pdw_or1 (pdt_cmpU (opd_neV rfl (owf_eq T rfl rfl) (nef T rfl rfl) (hr.mono (by decide)) tk) (pd_cmpU (opd_neV rfl (owf_eq T rfl rfl) (nef T rfl rfl) (hr.mono (by decide)) tk) (pd_name 9 (pv 9)) (pd_name 7 (pv 7)) (by rfl)) (pd_cmpU (opd_neV rfl (owf_eq T rfl rfl) (nef T rfl rfl) (hr.mono (by decide)) tk) (pd_name 10 (pv 10)) (pd_name 8 (pv 8)) (by rfl)) (by rfl))))) (pdb_one (pds_ret pd_bl)) pdb_nil))) (pdb_cons (pds_asg (PO.pd (po_lc (own := [("_law_k", 18)]) rfl sc_law.nd (pdi_range1 T.z_range (pda_cons pd_int pda_nil)) (blkOk_by (N := ["_law_script", "_law_tape", "_law_known", "_law_turn", "_law_names_here", "_law_counts", "_law_given", "_law_stock", "_law_items", "_law_other", "_law_told", "_law_x", "_law_y", "_law_z", "_law_dues", "_law_made", "_law_due", "_law_name", "_law_k"]) (sc := defScope s_law) (by decide +kernel)) (fun _ _ _ _ _ _ => (pdg_name (pg_name (i := 18) sc_law.nd rfl (by first | exact Or.inl rfl | exact Or.inr rfl)))) (fun _ _ _ _ _ _ => pdts_nil) (fun _ _ _ _ _ _ => (pd_call (ok__law_number T) (hr.mono (by decide)) takes0 T.g__law_number T.d__law_number.kp (pda_cons (pd_name 1 (pv 1)) (pda_cons (pd_bin opd_pow pd_int pd_int) pda_nil)))))) (pdg_lst rfl rfl (pdgs_cons (pdg_name (pg_name (i := 11) sc_law.nd rfl (by first | exact Or.inl rfl | exact Or.inr rfl))) (pdgs_cons (pdg_name (pg_name (i := 12) sc_law.nd rfl (by first | exact Or.inl rfl | exact Or.inr rfl))) (pdgs_cons (pdg_name (pg_name (i := 13) sc_law.nd rfl (by first | exact Or.inl rfl | exact Or.inr rfl))) pdgs_nil))))) (pdb_cons (pds_set (ps_set (i := 14) sc_law.nd rfl (by first | exact Or.inl rfl | exact Or.inr rfl) (PD.pe (PO.pd (po_lst (pda_cons (PO.pd po_dict0) (pda_cons (PO.pd (po_dict (pdps_cons (fun _ => pd_str) (fun _ => (pd_name 11 (pv 11))) pdps_nil))) (pda_cons (PO.pd (po_dict (pdps_cons (fun _ => pd_str) (fun _ => (pd_name 11 (pv 11))) (pdps_cons (fun _ => pd_str) (fun _ => (pd_name 12 (pv 12))) pdps_nil)))) (pda_cons (PO.pd (po_dict (pdps_cons (fun _ => pd_str) (fun _ => (pd_name 11 (pv 11))) (pdps_cons (fun _ => pd_str) (fun _ => (pd_name 13 (pv 13))) (pdps_cons (fun _ => pd_str) (fun _ => (pd_name 12 (pv 12))) pdps_nil))))) pda_nil))))))))) (pdb_cons (pds_for [] (passes_of rfl) rfl (pdi_zipA rfl T.z_zip (pda_cons (pd_call (ok__law_by_names T) (hr.mono (by decide)) tk T.g__law_by_names T.d__law_by_names.kp (pda_cons (pd_name 11 (pv 11)) (pda_cons (pd_name 12 (pv 12)) (pda_cons (pd_name 13 (pv 13)) pda_nil)))) (pda_cons (pd_name 14 (pv 14)) pda_nil))) (pdg_tup rfl rfl (pdgs_cons (pdg_name (pg_name (i := 15) sc_law.nd rfl (by first | exact Or.inl rfl | exact Or.inr rfl))) (pdgs_cons (pdg_name (pg_name (i := 16) sc_law.nd rfl (by first | exact Or.inl rfl | exact Or.inr rfl))) pdgs_nil))) (pdb_one (pds_if (PDW.t (pdw_or (pdt_not (pdt_tru (trd_n rfl) (pd_call (ok__law_is_told T) (hr.mono (by decide)) tk T.g__law_is_told T.d__law_is_told.kp (pda_cons (pd_name 1 (pv 1)) (pda_cons (pd_name 15 (pv 15)) (pda_cons (pd_name 16 (pv 16)) pda_nil)))))) (pdw_or1 (pdt_cmpU (opd_neV rfl (owf_eq T rfl rfl) (nef T rfl rfl) (hr.mono (by decide)) tk) (pd_name 15 (pv 15)) (pd_cmeth (c := "Stock") T.G_Stock T.cr_Stock T.cm_Stock_of (ok_Stock_of T) (hr.mono (by decide)) tk (pe_glob rfl T.g_Stock rfl) (pda_cons (pd_name 16 (pv 16)) pda_nil)) (by rfl))))) (pdb_one (pds_ret pd_bl)) pdb_nil))) (pdb_one (pds_for [] (passes_of rfl) rfl (pdi_val rfl (pd_name 4 (pv 4))) (pdg_name (pg_name (i := 17) sc_law.nd rfl (by first | exact Or.inl rfl | exact Or.inr rfl))) (pdb_one (pds_if (PDW.t (pdw_or (pdt_cmpU (opd_neV rfl (owf_eq T rfl rfl) (nef T rfl rfl) (hr.mono (by decide)) tk) (pd_smeth T.cr_Stock T.sm_Stock_single (ok_Stock_single T) (hr.mono (by decide)) tk (pe_glob rfl T.g_Stock rfl) (pda_cons (pd_name 17 (pv 17)) (pda_cons (pd_sub (opd_get rfl (owf_getitem T rfl rfl) (hr.mono (by decide)) tk) (pd_name 5 (pv 5)) (pd_name 17 (pv 17))) pda_nil))) (pd_cmeth (c := "Stock") T.G_Stock T.cr_Stock T.cm_Stock_of (ok_Stock_of T) (hr.mono (by decide)) tk (pe_glob rfl T.g_Stock rfl) (pda_cons (PO.pd (po_dict (pdps_cons (fun _ => (pd_name 17 (pv 17))) (fun _ => (pd_sub (opd_get rfl (owf_getitem T rfl rfl) (hr.mono (by decide)) takes0) (pd_name 5 (pv 5)) (pd_name 17 (pv 17)))) pdps_nil))) pda_nil)) (by rfl)) (pdw_or1 (pdt_cmpU (opd_neV rfl (owf_eq T rfl rfl) (nef T rfl rfl) (hr.mono (by decide)) tk) (pd_sub (opd_get rfl (owf_getitem T rfl rfl) (hr.mono (by decide)) tk) (pd_smeth T.cr_Stock T.sm_Stock_single (okd_Stock_single T) (hr.mono (by decide)) tk (pe_glob rfl T.g_Stock rfl) (pda_cons (pd_name 17 (pv 17)) pda_nil)) (pd_name 17 (pv 17))) pd_int (by rfl))))) (pdb_one (pds_ret pd_bl)) pdb_nil))))))))))))))))))) (pdb_one (pds_ret pd_bl))))
end
end K07
end
section
set_option maxRecDepth 100000
set_option maxHeartbeats 4000000
namespace B
open PySem L2
section
variable {α β : Type} {f : M α} {g : α → M β} {fa fb : M Dt} {h : MO2} {st : DS} {sl : List Slot} {w : Wd}
theorem e_d1 : d1 f g st = (f st).bind g := id rfl
theorem e_bind {a : α} {k : α → DS → Out β} : (Out.ok a st).bind k = k a st := id rfl
theorem e_mB2 : mB2 fa fb h st = (fa st).bind fun x st1 => (fb st1).bind fun y st2 => h x y st2 := id rfl
theorem e_dC {d : Dt} : dC d st = .ok d st := id rfl
theorem e_dVar {i : Nat} : dVar i st = (match st.sl[i]? with | some (.shr d) => .ok d st | some (.own d) => .ok d { st with sl := st.sl.set i (.shr d) } | _ => .stuck) := id rfl
theorem e_aNil : aNil st = .ok [] st := id rfl
theorem e_aCons {fs : M (List Dt)} : aCons fa fs st = (fa st).bind fun x st1 => (fs st1).bind fun xs st2 => .ok (x :: xs) st2 := id rfl
theorem e_aTup {fs : M (List Dt)} : aTup fs st = (fs st).bind fun xs st1 => opt (mkTup xs) st1 := id rfl
theorem e_aLst {fs : M (List Dt)} : aLst fs st = (fs st).bind fun xs st1 => opt (mkLst xs) st1 := id rfl
theorem e_mkTup {xs : List Dt} (l : xs.length ≤ 1000) : mkTup xs = some (.tup xs) := if_pos (Nat.le_trans l (by decide))
theorem e_mkLst {xs : List Dt} (l : xs.length ≤ 1000) : mkLst xs = some (.lst xs) := if_pos (Nat.le_trans l (by decide))
theorem e_optS {a : α} : (opt (some a) : M α) st = .ok a st := id rfl
theorem e_toB {b : Bool} : toB (.bl b) st = .ok b st := id rfl
theorem e_mAnd {c d : M Bool} : mAnd c d st = (c st).bind fun b st1 => if b then d st1 else .ok false st1 := by
  show (c st).bind _ = _
  congr 1; funext b st1; cases b <;> rfl
theorem e_mOr {c d : M Bool} : mOr c d st = (c st).bind fun b st1 => if b then .ok true st1 else d st1 := by
  show (c st).bind _ = _
  congr 1; funext b st1; cases b <;> rfl
theorem e_mNot {c : M Bool} : mNot c st = (c st).bind fun b st1 => .ok (!b) st1 := id rfl
theorem e_mIf {c : M Bool} {x y : M α} : mIf c x y st = (c st).bind fun b st1 => if b then x st1 else y st1 := by
  show (c st).bind _ = _
  congr 1; funext b st1; cases b <;> rfl
theorem e_vAnd {b : Bool} {s1 : DS} (e : fa st = .ok (.bl b) s1) : vAnd fa fb st = if b then fb s1 else .ok (.bl false) s1 := by unfold vAnd d1; rw [e]; cases b <;> rfl
theorem e_toS {a : α} {k : α → DS → SOut} : (Out.ok a st).toS k = k a st := id rfl
theorem e_sbind {k : MS} : (SOut.nx st).bind k = k st := id rfl
theorem e_sbindR {k : MS} {d : Dt} : (SOut.ret d st).bind k = .ret d st := id rfl
theorem e_sSeq {a b : MS} : sSeq a b st = (a st).bind b := id rfl
theorem e_sNext : sNext st = .nx st := id rfl
theorem e_sIf {c : M Bool} {a b : MS} : sIf c a b st = (c st).toS fun x st1 => if x then a st1 else b st1 := by
  show (c st).toS _ = _
  congr 1; funext x st1; cases x <;> rfl
theorem e_sSet {i : Nat} : sSet i fa st = (fa st).toS fun d st1 => .nx ⟨st1.sl.set i (.shr d), st1.w⟩ := id rfl
theorem e_sOwn {i : Nat} : sOwn i fa st = (fa st).toS fun d st1 => .nx ⟨st1.sl.set i (.own d), st1.w⟩ := id rfl
theorem e_sRet : sRet fa st = (fa st).toS .ret := id rfl
theorem e_sExpr : sExpr fa st = (fa st).toS fun _ st1 => .nx st1 := id rfl
theorem e_sAsg {t : TgM} : sAsg fa t st = (fa st).toS fun d st1 => match t d st1 with | some st2 => .nx st2 | none => .stuck := id rfl
theorem e_sPar {i j : Nat} {fs : M (List Dt)} {x y : Dt} {s1 : DS} (e : fs st = .ok [x, y] s1) : sPar i j fs st = .nx ⟨(s1.sl.set i (.shr x)).set j (.shr y), s1.w⟩ := by unfold sPar; rw [e]; rfl
theorem e_sPar3 {i j l : Nat} {fs : M (List Dt)} {x y z : Dt} {s1 : DS} (e : fs st = .ok [x, y, z] s1) : sPar3 i j l fs st = .nx ⟨((s1.sl.set i (.shr x)).set j (.shr y)).set l (.shr z), s1.w⟩ := by unfold sPar3; rw [e]; rfl
theorem e_tName {i : Nat} {d : Dt} : tName i d st = some ⟨st.sl.set i (.shr d), st.w⟩ := id rfl
theorem e_tTup {n : Nat} {k : List Dt → DS → Option DS} {ds : List Dt} (e : ds.length = n) : tTupT n k (.tup ds) st = k ds st := by show (if ds.length = n then k ds st else none) = _; rw [if_pos e]
theorem e_tNil : tNil [] st = some st := id rfl
theorem e_tCons {t : TgM} {k : List Dt → DS → Option DS} {d : Dt} {ds : List Dt} : tCons t k (d :: ds) st = (t d st).bind (k ds) := id rfl
theorem e_tSub {fo fi : M Dt} {d : Dt} : tSub fo fi d st = (match fo st with | .ok x st1 => (match fi st1 with | .ok i st2 => setI x i d st2 | _ => none) | _ => none) := id rfl
theorem e_call {m : FnM} {ds : List Dt} {d : Dt} {w' : Wd} (e : m ds st.w = .ok d w') : callM m ds st = .ok d ⟨st.sl, w'⟩ := by unfold callM; rw [e]
theorem e_toR {d : Dt} : (SOut.ret d st).toR = .ok d st.w := id rfl
theorem e_toRn : (SOut.nx st).toR = .ok .non st.w := id rfl
theorem e_toLoc : toLoc fa st = (fa st).bind fun d st1 => .ok (.loc st1.w.length) ⟨st1.sl, st1.w ++ [d]⟩ := id rfl
theorem e_mOrT {t : Dt → M Bool} : mOrT fa fb t st = (fa st).bind fun x st1 => (t x st1).bind fun c st2 => if c then .ok x st2 else fb st2 := by
  show (fa st).bind _ = _
  congr 1; funext x st1
  show (t x st1).bind _ = _
  congr 1; funext c st2; cases c <;> rfl
theorem e_noX {a : α} {s1 : DS} (e : f st = .ok a s1) : noX f st = .ok a s1 := by unfold noX; rw [e]
theorem e_mDic {k : M (List (Dt × Dt))} {ps : List (Dt × Dt)} {s1 : DS} (e : k st = .ok ps s1) : mDic k st = opt (if ps.all (fun kv => isKey kv.1) && decide (ps.length ≤ 15) then some (.dic (mergeD [] ps)) else none) s1 := by
  unfold mDic; rw [e_d1, e_noX e]; rfl
theorem e_prCons {k : M (List (Dt × Dt))} : prCons fa fb k st = (fa st).bind fun x st1 => (fb st1).bind fun y st2 => (k st2).bind fun ps st3 => .ok ((x, y) :: ps) st3 := id rfl
theorem u_lt {i j : Int} : ltU ow0 (.int i) (.int j) st = .ok (.bl (decide (i < j))) st := id (by rfl)
theorem u_le {i j : Int} : leU (.int i) (.int j) st = .ok (.bl (decide (i ≤ j))) st := id (by rfl)
theorem u_gt {i j : Int} : gtU (.int i) (.int j) st = .ok (.bl (decide (j < i))) st := id (by rfl)
theorem u_ge {i j : Int} : geU (.int i) (.int j) st = .ok (.bl (decide (j ≤ i))) st := id (by rfl)
theorem u_add {i j : Int} : addU ow0 (.int i) (.int j) st = .ok (.int (i + j)) st := id (by rfl)
theorem u_sub {i j : Int} : subU ow0 (.int i) (.int j) st = .ok (.int (i - j)) st := id (by rfl)
theorem u_mod {i j : Int} (h : 0 < j) : modU (.int i) (.int j) st = .ok (.int (i % j)) st := by
  show (opt (if 0 < j then some (Dt.int (i % j)) else none) : M Dt) st = _
  rw [if_pos h]; rfl
theorem u_fdiv {i j : Int} (h : 0 < j) (h2 : j.natAbs < 2 ^ 1000) : fdivU (.int i) (.int j) st = .ok (.int (i / j)) st := by
  show (opt (if 0 < j ∧ j.natAbs < 2 ^ 1000 then some (Dt.int (i / j)) else none) : M Dt) st = _
  rw [if_pos ⟨h, h2⟩]; rfl
theorem u_mulL {i j : Int} (h : i.natAbs < 2 ^ 64) : mulU (.int i) (.int j) st = .ok (.int (i * j)) st := by
  show (opt ((if (i.natAbs < 2 ^ 64 ∨ j.natAbs < 2 ^ 64) then some (Dt.int (i * j)) else none).or (mulS (.int i) (.int j))) : M Dt) st = _
  rw [if_pos (.inl h)]; rfl
theorem u_mulR {i j : Int} (h : j.natAbs < 2 ^ 64) : mulU (.int i) (.int j) st = .ok (.int (i * j)) st := by
  show (opt ((if (i.natAbs < 2 ^ 64 ∨ j.natAbs < 2 ^ 64) then some (Dt.int (i * j)) else none).or (mulS (.int i) (.int j))) : M Dt) st = _
  rw [if_pos (.inr h)]; rfl
theorem u_pow {i j : Int} (h : 0 ≤ j ∧ j ≤ 1000 ∧ i.natAbs < 2 ^ 64) : powU (.int i) (.int j) st = .ok (.int (i ^ j.toNat)) st := by
  show (opt (if 0 ≤ j ∧ j ≤ 1000 ∧ i.natAbs < 2 ^ 64 then some (Dt.int (i ^ j.toNat)) else none) : M Dt) st = _
  rw [if_pos h]; rfl
theorem u_lenL {xs : List Dt} : lenU ow0 [.lst xs] st = .ok (.int xs.length) st := id (by rfl)
theorem u_lenT {xs : List Dt} : lenU ow0 [.tup xs] st = .ok (.int xs.length) st := id (by rfl)
theorem g_intI {i : Int} : gInt [.int i] st = .ok (.int i) st := id (by rfl)
theorem at_ok {xs : List Dt} {i : Int} {d : Dt} (h0 : 0 ≤ i) (h : xs[i.toNat]? = some d) : atD xs i = some d := by
  have hl : i.toNat < xs.length := (List.getElem?_eq_some_iff.mp h).1
  unfold atD ixN
  rw [if_pos h0, if_pos (by omega)]
  exact h
theorem u_getL {xs : List Dt} {i : Int} {d : Dt} (h0 : 0 ≤ i) (h : xs[i.toNat]? = some d) : getU ow0 (.lst xs) (.int i) st = .ok d st := by
  show (opt ((atD xs i).or none) : M Dt) st = _
  rw [at_ok h0 h]; rfl
theorem u_getT {xs : List Dt} {i : Int} {d : Dt} (h0 : 0 ≤ i) (h : xs[i.toNat]? = some d) : getU ow0 (.tup xs) (.int i) st = .ok d st := by
  show (opt ((atD xs i).or none) : M Dt) st = _
  rw [at_ok h0 h]; rfl
theorem u_lenS {z : Str} (h : z.length ≤ 1000000) : lenU ow0 [.str z] st = .ok (.int z.length) st := by
  show (opt (if z.length ≤ 1000000 then some (Dt.int z.length) else none) : M Dt) st = _
  rw [if_pos h]; rfl
theorem u_getS {z : Str} {i : Int} {c : Nat} (hz : z.length ≤ 1000000) (h0 : 0 ≤ i) (h : z.cps.toList[i.toNat]? = some c) : getU ow0 (.str z) (.int i) st = .ok (.str ⟨#[c]⟩) st := by
  have hl : i.toNat < z.cps.toList.length := (List.getElem?_eq_some_iff.mp h).1
  show (opt ((if z.length ≤ 1000000 then (atI z.cps.toList i).map fun c => Dt.str ⟨#[c]⟩ else none).or none) : M Dt) st = _
  have e : atI z.cps.toList i = some c := by
    unfold atI ixN
    rw [if_pos h0, if_pos (by omega)]
    exact h
  rw [if_pos hz, e]; rfl
end
structure Tape where
  cs : List Int
  p : Int
  l : Int
def Tape.d (T : Tape) : Dt := .dic [(.str "cells", .lst (T.cs.map Dt.int)), (.str "place", .int T.p), (.str "left", .int T.l)]
structure Tape.Ok (T : Tape) (n : Nat) : Prop where
  ne : T.cs ≠ []
  p0 : 0 ≤ T.p
  pn : T.p ≤ n
theorem Tape.Ok.mono {T : Tape} {n m : Nat} (h : T.Ok n) (l : n ≤ m) : T.Ok m := ⟨h.ne, h.p0, by have := h.pn; omega⟩
def b_draw : MS :=
  (sSeq (sIf (d1 (mB2 (mB2 (dVar 0) (dC (.str "left")) (getU ow0)) (dVar 1) (ltU ow0)) toB) (sSeq (sPar 2 3 (aCons (mB2 (dVar 0) (dC (.str "place")) (getU ow0)) (aCons (d1 (aCons (mB2 (dVar 0) (dC (.str "cells")) (getU ow0)) aNil) (lenU ow0)) aNil))) (sSeq (sAsg (aTup (aCons (mB2 (mB2 (dVar 0) (dC (.str "cells")) (getU ow0)) (mB2 (d1 (aCons (dVar 2) aNil) gInt) (dVar 3) modU) (getU ow0)) (aCons (mB2 (dVar 2) (dC (.int 1)) (addU ow0)) aNil))) (tTupT 2 (tCons (tName 4) (tCons (tSub (dVar 0) (dC (.str "place"))) tNil)))) (sSeq (sAsg (mB2 (d1 (aCons (mB2 (mB2 (mB2 (mB2 (d1 (aCons (dVar 4) aNil) gInt) (dC (.int 2147483647)) modU) (mB2 (dC (.int 69621)) (dVar 2) mulU) (addU ow0)) (dC (.int 48271)) (addU ow0)) (dC (.int 17)) powU) aNil) gInt) (mB2 (mB2 (dC (.int 10)) (dC (.int 50)) powU) (dC (.int 151)) (addU ow0)) modU) (tSub (dVar 0) (dC (.str "left")))) (sIf (mAnd (d1 (mB2 (dVar 4) (mB2 (dC (.int 10)) (dC (.int 18)) powU) geU) toB) (d1 (mB2 (dVar 2) (dVar 3) (ltU ow0)) toB)) (sAsg (mB2 (dVar 4) (mB2 (dC (.int 10)) (dC (.int 18)) powU) (subU ow0)) (tSub (dVar 0) (dC (.str "left")))) sNext)))) sNext) (sSeq (sAsg (aTup (aCons (mB2 (d1 (aCons (mB2 (dVar 0) (dC (.str "left")) (getU ow0)) aNil) gInt) (dVar 1) modU) (aCons (mB2 (mB2 (dVar 0) (dC (.str "left")) (getU ow0)) (dVar 1) fdivU) aNil))) (tTupT 2 (tCons (tName 5) (tCons (tSub (dVar 0) (dC (.str "left"))) tNil)))) (sRet (dVar 5))))
def r_draw : FnM := runB 6 2 b_draw
section
variable {r : Wd} {sl : List Slot}
theorem t_left {T : Tape} : (getU ow0 (.loc 0) (.str "left")) ⟨sl, T.d :: r⟩ = .ok (.int T.l) ⟨sl, T.d :: r⟩ := id (by rfl)
theorem t_place {T : Tape} : (getU ow0 (.loc 0) (.str "place")) ⟨sl, T.d :: r⟩ = .ok (.int T.p) ⟨sl, T.d :: r⟩ := id (by rfl)
theorem t_cells {T : Tape} : (getU ow0 (.loc 0) (.str "cells")) ⟨sl, T.d :: r⟩ = .ok (.lst (T.cs.map Dt.int)) ⟨sl, T.d :: r⟩ := id (by rfl)
theorem t_setl {T : Tape} {x : Int} : setI (.loc 0) (.str "left") (.int x) ⟨sl, T.d :: r⟩ = some ⟨sl, Tape.d ⟨T.cs, T.p, x⟩ :: r⟩ := id (by rfl)
theorem t_setp {T : Tape} {x : Int} : setI (.loc 0) (.str "place") (.int x) ⟨sl, T.d :: r⟩ = some ⟨sl, Tape.d ⟨T.cs, x, T.l⟩ :: r⟩ := id (by rfl)
end
abbrev dsl (m : Int) (a b c d : Slot) : List Slot := [.shr (.loc 0), .shr (.int m), a, b, c, d]
def b_draw2 : MS := (sSeq (sAsg (aTup (aCons (mB2 (d1 (aCons (mB2 (dVar 0) (dC (.str "left")) (getU ow0)) aNil) gInt) (dVar 1) modU) (aCons (mB2 (mB2 (dVar 0) (dC (.str "left")) (getU ow0)) (dVar 1) fdivU) aNil))) (tTupT 2 (tCons (tName 5) (tCons (tSub (dVar 0) (dC (.str "left"))) tNil)))) (sRet (dVar 5)))
theorem draw2 {r : Wd} {T : Tape} {m : Int} (h0 : 0 < m) (h1 : m.natAbs < 2 ^ 1000) (a b c d : Slot) : (b_draw2 ⟨dsl m a b c d, T.d :: r⟩).toR = .ok (.int (T.l % m)) (Tape.d ⟨T.cs, T.p, T.l / m⟩ :: r) := by
  unfold b_draw2 dsl
  simp only [e_d1, e_bind, e_mB2, e_dC, e_dVar, e_aNil, e_aCons, e_aTup, e_aLst, e_mkTup, e_mkLst, e_optS, e_toB, e_mAnd, e_mOr, e_mNot, e_mIf, e_toS, e_sbind, e_sbindR, e_sSeq, e_sNext, e_sIf, e_sSet, e_sOwn, e_sRet, e_sExpr, e_sAsg, e_tName, e_tTup, e_tNil, e_tCons, e_tSub, e_toR, e_toRn, u_lt, u_le, u_gt, u_ge, u_add, u_sub, u_lenL, u_lenT, g_intI, List.getElem?_cons_zero, List.getElem?_cons_succ, List.set_cons_zero, List.set_cons_succ, List.length_cons, List.length_nil, List.map_cons, List.map_nil, List.replicate, List.cons_append, List.nil_append, Option.bind_some, Nat.zero_add, Nat.reduceAdd, Nat.reduceSub, Nat.reduceLeDiff, t_left, t_setl, u_mod h0, u_fdiv h0 h1]
theorem draw_okB {r : Wd} {T : Tape} {n : Nat} {m : Int} (h : T.Ok n) (hn : n ≤ 2 ^ 40) (h0 : 0 < m) (h1 : m.natAbs < 2 ^ 1000) :
    ∃ x T', r_draw [.loc 0, .int m] (T.d :: r) = .ok (.int x) (Tape.d T' :: r) ∧ 0 ≤ x ∧ x < m ∧ T'.Ok (n + 1) := by
  have hx : ∀ l : Int, 0 ≤ l % m ∧ l % m < m := fun l => ⟨Int.emod_nonneg _ (by omega), Int.emod_lt_of_pos _ h0⟩
  have fin : ∀ (T' : Tape) (a b c d : Slot), T'.Ok (n + 1) → ∃ x T'', (b_draw2 ⟨dsl m a b c d, Tape.d T' :: r⟩).toR = .ok (.int x) (Tape.d T'' :: r) ∧ 0 ≤ x ∧ x < m ∧ T''.Ok (n + 1) := fun T' a b c d q =>
    ⟨_, _, draw2 h0 h1 a b c d, (hx _).1, (hx _).2, ⟨q.ne, q.p0, q.pn⟩⟩
  have hc : (0 : Int) < T.cs.length := by
    have := List.length_pos_iff.mpr h.ne
    omega
  obtain ⟨c, ec⟩ : ∃ c : Int, (T.cs.map Dt.int)[(T.p % (T.cs.length : Int)).toNat]? = some (.int c) := by
    have a := Int.emod_nonneg T.p (show (T.cs.length : Int) ≠ 0 by omega)
    have b := Int.emod_lt_of_pos T.p hc
    refine ⟨T.cs[(T.p % (T.cs.length : Int)).toNat]'(by omega), ?_⟩
    rw [List.getElem?_map, List.getElem?_eq_getElem (by omega)]
    rfl
  have hp0 : 0 ≤ T.p + 1 := by have := h.p0; omega
  have hpl : (T.p + 1) ≤ (n + 1 : Nat) := by have := h.pn; omega
  show ∃ x T', ((sSeq _ b_draw2 : MS) ⟨dsl m .emp .emp .emp .emp, T.d :: r⟩).toR = _ ∧ _
  rw [e_sSeq, e_sIf]
  simp only [e_mB2, e_d1, e_dVar, e_dC, e_bind, List.getElem?_cons_zero, List.getElem?_cons_succ, t_left, u_lt, e_toB, e_toS]
  by_cases hl : T.l < m
  · simp only [decide_eq_true hl, if_true]
    have pa : (aCons (mB2 (dVar 0) (dC (.str "place")) (getU ow0)) (aCons (d1 (aCons (mB2 (dVar 0) (dC (.str "cells")) (getU ow0)) aNil) (lenU ow0)) aNil)) ⟨dsl m .emp .emp .emp .emp, T.d :: r⟩ = .ok [.int T.p, .int T.cs.length] ⟨dsl m .emp .emp .emp .emp, T.d :: r⟩ := by
      unfold dsl
      simp only [e_d1, e_bind, e_mB2, e_dC, e_dVar, e_aNil, e_aCons, e_aTup, e_aLst, e_mkTup, e_mkLst, e_optS, e_toB, e_mAnd, e_mOr, e_mNot, e_mIf, e_toS, e_sbind, e_sbindR, e_sSeq, e_sNext, e_sIf, e_sSet, e_sOwn, e_sRet, e_sExpr, e_sAsg, e_tName, e_tTup, e_tNil, e_tCons, e_tSub, e_toR, e_toRn, u_lt, u_le, u_gt, u_ge, u_add, u_sub, u_lenL, u_lenT, g_intI, List.getElem?_cons_zero, List.getElem?_cons_succ, List.set_cons_zero, List.set_cons_succ, List.length_cons, List.length_nil, List.map_cons, List.map_nil, List.replicate, List.cons_append, List.nil_append, Option.bind_some, Nat.zero_add, Nat.reduceAdd, Nat.reduceSub, Nat.reduceLeDiff, t_place, t_cells, List.length_map]
    have hi := Int.emod_nonneg T.p (show (T.cs.length : Int) ≠ 0 by omega)
    have g1 : ∀ (st : DS), getU ow0 (.lst (T.cs.map Dt.int)) (.int (T.p % (T.cs.length : Int))) st = .ok (.int c) st := fun st => u_getL hi ec
    have hb : ∀ (x : Int) (st : DS), powU (.int (x % 2147483647 + 69621 * T.p + 48271)) (.int 17) st = .ok (.int ((x % 2147483647 + 69621 * T.p + 48271) ^ (17 : Int).toNat)) st := fun x st => u_pow ⟨by decide, by decide, by
      have a := Int.emod_nonneg x (show (2147483647 : Int) ≠ 0 by decide)
      have b := Int.emod_lt_of_pos x (show (0 : Int) < 2147483647 by decide)
      have c := h.p0
      have d := h.pn
      omega⟩
    have m1 : ∀ (x : Int) (st : DS), modU (.int x) (.int 2147483647) st = .ok (.int (x % 2147483647)) st := fun x st => u_mod (by decide)
    have m2 : ∀ (st : DS), mulU (.int 69621) (.int T.p) st = .ok (.int (69621 * T.p)) st := fun st => u_mulL (by decide)
    have p1 : ∀ (st : DS), powU (.int 10) (.int 50) st = .ok (.int (10 ^ (50 : Int).toNat)) st := fun st => u_pow ⟨by decide, by decide, by decide⟩
    have p2 : ∀ (st : DS), powU (.int 10) (.int 18) st = .ok (.int (10 ^ (18 : Int).toNat)) st := fun st => u_pow ⟨by decide, by decide, by decide⟩
    have m3 : ∀ (x : Int) (st : DS), modU (.int x) (.int (10 ^ (50 : Int).toNat + 151)) st = .ok (.int (x % (10 ^ (50 : Int).toNat + 151))) st := fun x st => u_mod (by decide)
    simp only [e_d1, e_bind, e_mB2, e_dC, e_dVar, e_aNil, e_aCons, e_aTup, e_aLst, e_mkTup, e_mkLst, e_optS, e_toB, e_mAnd, e_mOr, e_mNot, e_mIf, e_toS, e_sbind, e_sbindR, e_sSeq, e_sNext, e_sIf, e_sSet, e_sOwn, e_sRet, e_sExpr, e_sAsg, e_tName, e_tTup, e_tNil, e_tCons, e_tSub, e_toR, e_toRn, u_lt, u_le, u_gt, u_ge, u_add, u_sub, u_lenL, u_lenT, g_intI, List.getElem?_cons_zero, List.getElem?_cons_succ, List.set_cons_zero, List.set_cons_succ, List.length_cons, List.length_nil, List.map_cons, List.map_nil, List.replicate, List.cons_append, List.nil_append, Option.bind_some, Nat.zero_add, Nat.reduceAdd, Nat.reduceSub, Nat.reduceLeDiff, e_sPar pa, t_cells, t_place, u_mod hc, g1, m1, m2, hb, p1, p2, m3, t_setl, t_setp]
    by_cases k1 : (10 : Int) ^ (18 : Int).toNat ≤ c
    · by_cases k2 : T.p < (T.cs.length : Int)
      · simp only [decide_eq_true k1, decide_eq_true k2, if_true, e_d1, e_bind, e_mB2, e_dC, e_dVar, e_aNil, e_aCons, e_aTup, e_aLst, e_mkTup, e_mkLst, e_optS, e_toB, e_mAnd, e_mOr, e_mNot, e_mIf, e_toS, e_sbind, e_sbindR, e_sSeq, e_sNext, e_sIf, e_sSet, e_sOwn, e_sRet, e_sExpr, e_sAsg, e_tName, e_tTup, e_tNil, e_tCons, e_tSub, e_toR, e_toRn, u_lt, u_le, u_gt, u_ge, u_add, u_sub, u_lenL, u_lenT, g_intI, List.getElem?_cons_zero, List.getElem?_cons_succ, List.set_cons_zero, List.set_cons_succ, List.length_cons, List.length_nil, List.map_cons, List.map_nil, List.replicate, List.cons_append, List.nil_append, Option.bind_some, Nat.zero_add, Nat.reduceAdd, Nat.reduceSub, Nat.reduceLeDiff, t_setl]
        exact fin ⟨T.cs, T.p + 1, _⟩ _ _ _ _ ⟨h.ne, hp0, hpl⟩
      · simp only [decide_eq_true k1, decide_eq_false k2, if_true, Bool.false_eq_true, if_false, e_d1, e_bind, e_mB2, e_dC, e_dVar, e_aNil, e_aCons, e_aTup, e_aLst, e_mkTup, e_mkLst, e_optS, e_toB, e_mAnd, e_mOr, e_mNot, e_mIf, e_toS, e_sbind, e_sbindR, e_sSeq, e_sNext, e_sIf, e_sSet, e_sOwn, e_sRet, e_sExpr, e_sAsg, e_tName, e_tTup, e_tNil, e_tCons, e_tSub, e_toR, e_toRn, u_lt, u_le, u_gt, u_ge, u_add, u_sub, u_lenL, u_lenT, g_intI, List.getElem?_cons_zero, List.getElem?_cons_succ, List.set_cons_zero, List.set_cons_succ, List.length_cons, List.length_nil, List.map_cons, List.map_nil, List.replicate, List.cons_append, List.nil_append, Option.bind_some, Nat.zero_add, Nat.reduceAdd, Nat.reduceSub, Nat.reduceLeDiff]
        exact fin ⟨T.cs, T.p + 1, _⟩ _ _ _ _ ⟨h.ne, hp0, hpl⟩
    · simp only [decide_eq_false k1, Bool.false_eq_true, if_false, e_d1, e_bind, e_mB2, e_dC, e_dVar, e_aNil, e_aCons, e_aTup, e_aLst, e_mkTup, e_mkLst, e_optS, e_toB, e_mAnd, e_mOr, e_mNot, e_mIf, e_toS, e_sbind, e_sbindR, e_sSeq, e_sNext, e_sIf, e_sSet, e_sOwn, e_sRet, e_sExpr, e_sAsg, e_tName, e_tTup, e_tNil, e_tCons, e_tSub, e_toR, e_toRn, u_lt, u_le, u_gt, u_ge, u_add, u_sub, u_lenL, u_lenT, g_intI, List.getElem?_cons_zero, List.getElem?_cons_succ, List.set_cons_zero, List.set_cons_succ, List.length_cons, List.length_nil, List.map_cons, List.map_nil, List.replicate, List.cons_append, List.nil_append, Option.bind_some, Nat.zero_add, Nat.reduceAdd, Nat.reduceSub, Nat.reduceLeDiff]
      exact fin ⟨T.cs, T.p + 1, _⟩ _ _ _ _ ⟨h.ne, hp0, hpl⟩
  · simp only [decide_eq_false hl, if_false, e_sNext, e_sbind]
    exact fin T _ _ _ _ (h.mono (Nat.le_succ n))
theorem draw_ok {r : Wd} {T : Tape} {n : Nat} {m : Int} (h : T.Ok n) (hn : n ≤ 2 ^ 40) (h0 : 0 < m) (h1 : m ≤ 4611686018427387904) :
    ∃ x T', r_draw [.loc 0, .int m] (T.d :: r) = .ok (.int x) (Tape.d T' :: r) ∧ 0 ≤ x ∧ x < m ∧ T'.Ok (n + 1) :=
  draw_okB h hn h0 (Nat.lt_of_lt_of_le (show m.natAbs < 2 ^ 63 by omega) (Nat.pow_le_pow_right (by omega) (by omega)))
def b_pick : MS := (sRet (mB2 (dVar 1) (d1 (aCons (dVar 0) (aCons (d1 (aCons (dVar 1) aNil) (lenU ow0)) aNil)) (callM r_draw)) (getU ow0)))
def r_pick : FnM := runB 2 2 b_pick
theorem pick_ok {r : Wd} {T : Tape} {n : Nat} {xs : List Dt} (h : T.Ok n) (hn : n ≤ 2 ^ 40) (h0 : xs ≠ []) (h1 : xs.length ≤ 2 ^ 40) :
    ∃ x T', r_pick [.loc 0, .lst xs] (T.d :: r) = .ok x (Tape.d T' :: r) ∧ x ∈ xs ∧ T'.Ok (n + 1) := by
  have hp := List.length_pos_iff.mpr h0
  obtain ⟨x, T', e, x0, x1, ok⟩ := draw_ok (r := r) h hn (m := (xs.length : Int)) (by omega) (by omega)
  have hi : xs[x.toNat]? = some (xs[x.toNat]'(by omega)) := List.getElem?_eq_getElem _
  refine ⟨_, T', ?_, List.getElem_mem (by omega : x.toNat < xs.length), ok⟩
  show (b_pick ⟨[.shr (.loc 0), .shr (.lst xs)], T.d :: r⟩).toR = _
  unfold b_pick
  simp only [e_d1, e_bind, e_mB2, e_dC, e_dVar, e_aNil, e_aCons, e_aTup, e_aLst, e_mkTup, e_mkLst, e_optS, e_toB, e_mAnd, e_mOr, e_mNot, e_mIf, e_toS, e_sbind, e_sbindR, e_sSeq, e_sNext, e_sIf, e_sSet, e_sOwn, e_sRet, e_sExpr, e_sAsg, e_tName, e_tTup, e_tNil, e_tCons, e_tSub, e_toR, e_toRn, u_lt, u_le, u_gt, u_ge, u_add, u_sub, u_lenL, u_lenT, g_intI, List.getElem?_cons_zero, List.getElem?_cons_succ, List.set_cons_zero, List.set_cons_succ, List.length_cons, List.length_nil, List.map_cons, List.map_nil, List.replicate, List.cons_append, List.nil_append, Option.bind_some, Nat.zero_add, Nat.reduceAdd, Nat.reduceSub, Nat.reduceLeDiff]
  rw [e_call e]
  simp only [e_d1, e_bind, e_mB2, e_dC, e_dVar, e_aNil, e_aCons, e_aTup, e_aLst, e_mkTup, e_mkLst, e_optS, e_toB, e_mAnd, e_mOr, e_mNot, e_mIf, e_toS, e_sbind, e_sbindR, e_sSeq, e_sNext, e_sIf, e_sSet, e_sOwn, e_sRet, e_sExpr, e_sAsg, e_tName, e_tTup, e_tNil, e_tCons, e_tSub, e_toR, e_toRn, u_lt, u_le, u_gt, u_ge, u_add, u_sub, u_lenL, u_lenT, g_intI, List.getElem?_cons_zero, List.getElem?_cons_succ, List.set_cons_zero, List.set_cons_succ, List.length_cons, List.length_nil, List.map_cons, List.map_nil, List.replicate, List.cons_append, List.nil_append, Option.bind_some, Nat.zero_add, Nat.reduceAdd, Nat.reduceSub, Nat.reduceLeDiff, u_getL x0 hi]
theorem pickS_ok {r : Wd} {T : Tape} {n : Nat} {z : Str} (h : T.Ok n) (hn : n ≤ 2 ^ 40) (h0 : z.cps.toList ≠ []) (h1 : z.length ≤ 2 ^ 10) :
    ∃ x T', r_pick [.loc 0, .str z] (T.d :: r) = .ok (.str ⟨#[x]⟩) (Tape.d T' :: r) ∧ x ∈ z.cps.toList ∧ T'.Ok (n + 1) := by
  have hp := List.length_pos_iff.mpr h0
  have hl : z.length = z.cps.toList.length := by show z.cps.size = _; rw [Array.length_toList]
  obtain ⟨x, T', e, x0, x1, ok⟩ := draw_ok (r := r) h hn (m := (z.length : Int)) (by omega) (by omega)
  have hi : z.cps.toList[x.toNat]? = some (z.cps.toList[x.toNat]'(by omega)) := List.getElem?_eq_getElem _
  refine ⟨_, T', ?_, List.getElem_mem (by omega : x.toNat < z.cps.toList.length), ok⟩
  show (b_pick ⟨[.shr (.loc 0), .shr (.str z)], T.d :: r⟩).toR = _
  unfold b_pick
  simp only [e_d1, e_bind, e_mB2, e_dC, e_dVar, e_aNil, e_aCons, e_aTup, e_aLst, e_mkTup, e_mkLst, e_optS, e_toB, e_mAnd, e_mOr, e_mNot, e_mIf, e_toS, e_sbind, e_sbindR, e_sSeq, e_sNext, e_sIf, e_sSet, e_sOwn, e_sRet, e_sExpr, e_sAsg, e_tName, e_tTup, e_tNil, e_tCons, e_tSub, e_toR, e_toRn, u_lt, u_le, u_gt, u_ge, u_add, u_sub, u_lenL, u_lenT, g_intI, List.getElem?_cons_zero, List.getElem?_cons_succ, List.set_cons_zero, List.set_cons_succ, List.length_cons, List.length_nil, List.map_cons, List.map_nil, List.replicate, List.cons_append, List.nil_append, Option.bind_some, Nat.zero_add, Nat.reduceAdd, Nat.reduceSub, Nat.reduceLeDiff, u_lenS (Nat.le_trans h1 (by decide))]
  rw [e_call e]
  simp only [e_d1, e_bind, e_mB2, e_dC, e_dVar, e_aNil, e_aCons, e_aTup, e_aLst, e_mkTup, e_mkLst, e_optS, e_toB, e_mAnd, e_mOr, e_mNot, e_mIf, e_toS, e_sbind, e_sbindR, e_sSeq, e_sNext, e_sIf, e_sSet, e_sOwn, e_sRet, e_sExpr, e_sAsg, e_tName, e_tTup, e_tNil, e_tCons, e_tSub, e_toR, e_toRn, u_lt, u_le, u_gt, u_ge, u_add, u_sub, u_lenL, u_lenT, g_intI, List.getElem?_cons_zero, List.getElem?_cons_succ, List.set_cons_zero, List.set_cons_succ, List.length_cons, List.length_nil, List.map_cons, List.map_nil, List.replicate, List.cons_append, List.nil_append, Option.bind_some, Nat.zero_add, Nat.reduceAdd, Nat.reduceSub, Nat.reduceLeDiff, u_getS (Nat.le_trans h1 (by decide)) x0 hi]
def b_begin : MS :=
  (sRet (toLoc (mDic (prCons (dC (.str "cells")) (mOrT (mSl (dVar 0) pNo (d1 (dC (.int 63)) pInt)) (aLst (aCons (dC (.int 0)) aNil)) truN) (prCons (dC (.str "place")) (dC (.int 0)) (prCons (dC (.str "left")) (dC (.int 0)) prNil))))))
def r_begin : FnM := runB 1 1 b_begin
theorem cut_all {xs : List Dt} (h : xs.length ≤ 63) : cutD xs none (some 63) = xs := by
  unfold cutD
  rw [HT.sIx_none, show (63 : Int) = ((63 : Nat) : Int) from rfl, HT.sIx_nat, List.drop_zero, Nat.min_eq_right h, Nat.sub_zero, List.take_length]
theorem begin_aux {y : Dt} {ys : List Dt} (h : (y :: ys).length ≤ 63) : r_begin [.set (y :: ys)] [] = .ok (.loc 0) [.dic [(.str "cells", .lst (y :: ys)), (.str "place", .int 0), (.str "left", .int 0)]] := by
  have e1 : (mSl (dVar 0) pNo (d1 (dC (.int 63)) pInt)) ⟨[.shr (.set (y :: ys))], []⟩ = .ok (.lst (y :: ys)) ⟨[.shr (.set (y :: ys))], []⟩ := by
    show (opt (some (Dt.lst (cutD (y :: ys) none (some 63)))) : M Dt) _ = _
    rw [cut_all h]; rfl
  have e4 : (prCons (dC (.str "cells")) (mOrT (mSl (dVar 0) pNo (d1 (dC (.int 63)) pInt)) (aLst (aCons (dC (.int 0)) aNil)) truN) (prCons (dC (.str "place")) (dC (.int 0)) (prCons (dC (.str "left")) (dC (.int 0)) prNil))) ⟨[.shr (.set (y :: ys))], []⟩ =
      .ok [(.str "cells", .lst (y :: ys)), (.str "place", .int 0), (.str "left", .int 0)] ⟨[.shr (.set (y :: ys))], []⟩ := by
    rw [e_prCons, e_dC, e_bind, e_mOrT, e1]; rfl
  show (b_begin ⟨[.shr (.set (y :: ys))], []⟩).toR = _
  unfold b_begin
  rw [e_sRet, e_toLoc, e_mDic e4]
  rfl
theorem begin_ok {ns : List Int} (h : ns.length ≤ 63) : ∃ T : Tape, r_begin [.set (ns.map Dt.int)] [] = .ok (.loc 0) [T.d] ∧ T.Ok 0 := by
  cases ns with
  | nil => exact ⟨⟨[0], 0, 0⟩, rfl, by decide, by decide, by decide⟩
  | cons x xs =>
    refine ⟨⟨x :: xs, 0, 0⟩, ?_, by simp, by simp, by simp⟩
    exact begin_aux (y := .int x) (ys := xs.map Dt.int) (by rw [List.length_cons, List.length_map]; exact h)
theorem forGo_ok {cl : List Nat} {tg : TgM} {body : MS} (I : Nat → DS → Prop) : ∀ (ds : List Dt) (k : Nat) (st : DS), I k st →
    (∀ i d st, ds[i]? = some d → I (k + i) st → ∃ st1 st2, tg d { st with sl := wipeS st.sl cl } = some st1 ∧ body st1 = .nx st2 ∧ I (k + i + 1) st2) →
    ∃ st', forGo cl tg body ds st = .nx { st' with sl := wipeS st'.sl cl } ∧ I (k + ds.length) st'
  | [], k, st, h, _ => ⟨st, rfl, h⟩
  | d :: ds, k, st, h, hs => by
    obtain ⟨st1, st2, e1, e2, h2⟩ := hs 0 d st rfl h
    obtain ⟨st', e3, h3⟩ := forGo_ok I ds (k + 1) st2 h2 fun i d st e hi => by
      have := hs (i + 1) d st e (by rw [show k + (i + 1) = k + 1 + i by omega]; exact hi)
      rw [show k + (i + 1) + 1 = k + 1 + i + 1 by omega] at this
      exact this
    refine ⟨st', ?_, by rw [List.length_cons, show k + (ds.length + 1) = k + 1 + ds.length by omega]; exact h3⟩
    unfold forGo
    rw [e1]
    show (body st1).loop _ = _
    rw [e2]
    exact e3
theorem lcGo_ok {vs : List Nat} {tg : TgM} {tt : M Bool} {te : M Dt} (I : Nat → List Dt → DS → Prop) : ∀ (ds acc : List Dt) (k : Nat) (st : DS), I k acc st → acc.length + ds.length < LIM →
    (∀ i d acc st, ds[i]? = some d → I (k + i) acc st → ∃ st1 b st2, tg d { st with sl := wipeS st.sl vs } = some st1 ∧ tt st1 = .ok b st2 ∧
      (b = false → I (k + i + 1) acc st2) ∧ (b = true → ∃ y st3, te st2 = .ok y st3 ∧ I (k + i + 1) (acc ++ [y]) st3)) →
    ∃ ys st', lcGo vs tg tt te ds acc st = .ok ys st' ∧ I (k + ds.length) ys st'
  | [], acc, k, st, h, _, _ => ⟨acc, st, rfl, h⟩
  | d :: ds, acc, k, st, h, hl, hs => by
    rw [List.length_cons] at hl
    have nxt : ∀ acc' st', I (k + 1) acc' st' → acc'.length ≤ acc.length + 1 → ∃ ys st2, lcGo vs tg tt te ds acc' st' = .ok ys st2 ∧ I (k + (d :: ds).length) ys st2 := fun acc' st' h' l' => by
      obtain ⟨ys, st2, e, h2⟩ := lcGo_ok I ds acc' (k + 1) st' h' (by omega) fun i d a st e hi => by
        have := hs (i + 1) d a st e (by rw [show k + (i + 1) = k + 1 + i by omega]; exact hi)
        rw [show k + (i + 1) + 1 = k + 1 + i + 1 by omega] at this
        exact this
      exact ⟨ys, st2, e, by rw [List.length_cons, show k + (ds.length + 1) = k + 1 + ds.length by omega]; exact h2⟩
    obtain ⟨st1, b, st2, e1, e2, hf, ht⟩ := hs 0 d acc st rfl h
    unfold lcGo
    rw [e1]
    dsimp only
    rw [e2]
    cases b with
    | false => exact nxt acc st2 (hf rfl) (by omega)
    | true =>
      obtain ⟨y, st3, e3, h3⟩ := ht rfl
      dsimp only
      rw [e3]
      dsimp only
      rw [if_pos (by omega)]
      exact nxt (acc ++ [y]) st3 h3 (by rw [List.length_append, List.length_singleton]; omega)
end B
end
section
set_option maxRecDepth 100000
set_option maxHeartbeats 4000000
namespace B
open PySem L2
abbrev tx (l : List Nat) : Str := ⟨⟨l⟩⟩
theorem tx_app (a b : List Nat) : tx a ++ tx b = tx (a ++ b) := by
  show (⟨(⟨a⟩ : Array Nat) ++ ⟨b⟩⟩ : Str) = _
  rw [List.append_toArray]
theorem tx_inj {a b : List Nat} (h : tx a = tx b) : a = b := by cases h; rfl
section
variable {st : DS}
theorem u_addS {a b : List Nat} (h : a.length + b.length ≤ 1000000) : addU ow0 (.str (tx a)) (.str (tx b)) st = .ok (.str (tx (a ++ b))) st := by
  show (opt ((if a.length + b.length ≤ 1000000 then some (Dt.str (tx a ++ tx b)) else none).or _) : M Dt) st = _
  rw [if_pos h, tx_app]; rfl
theorem rng1_ok {n : Nat} (h : n < 2 ^ 62) : rng1 [.int (n : Int)] st = .ok ((List.range n).map fun k => Dt.int (k : Nat)) st := by
  have e : ((List.range n).map fun k => Dt.int (0 + (k : Nat))) = (List.range n).map fun k => Dt.int (k : Nat) := List.map_congr_left fun k _ => by rw [Int.zero_add]
  unfold rng1
  dsimp only
  rw [if_pos (by omega), Int.toNat_natCast, e]
theorem e_mMe {T : String} {fo : M Dt} {fs : M (List Dt)} {g : MOm} {x : Dt} {s1 : DS} (e : fo st = .ok x s1) (t : tyB s1.w x = T) : mMe T fo fs g st = (fs s1).bind fun ds => g x ds := by
  unfold mMe
  rw [e_d1, e]
  exact if_pos t
theorem asStrs_strs (zs : List Str) : asStrs (zs.map Dt.str) = some zs := by
  induction zs with
  | nil => rfl
  | cons z zs ih => show (asStrs (zs.map Dt.str)).map (z :: ·) = _; rw [ih]; rfl
theorem join_one (cs : List Nat) : Txt.join "" (cs.map fun c => tx [c]) = tx cs := by
  have h : ∀ cs : List Nat, TL.joinL [] (cs.map fun c => [c]) = cs := by
    intro cs
    induction cs with
    | nil => rfl
    | cons c cs ih =>
      cases cs with
      | nil => rfl
      | cons d ds => show [c] ++ ([] ++ TL.joinL [] ((d :: ds).map fun c => [c])) = _; rw [ih]; rfl
  have := SX.join_S [] (cs.map fun c => [c])
  rw [List.map_map, h] at this
  exact this
theorem me_joinE {cs : List Nat} (h : cs.length ≤ 1000) : gJoin (.str "") [.lst (cs.map fun c => Dt.str (tx [c]))] st = .ok (.str (tx cs)) st := by
  have e : asStrs (cs.map fun c => Dt.str (tx [c])) = some (cs.map fun c => tx [c]) := by
    have := asStrs_strs (cs.map fun c => tx [c])
    rw [List.map_map] at this
    exact this
  have l : ((cs.map fun c => tx [c]).map (·.length)).sum + (cs.map fun c => tx [c]).length * (Str.length "") ≤ LIM := by
    rw [show Str.length "" = 0 from rfl, Nat.mul_zero, Nat.add_zero, List.map_map]
    have : ∀ cs : List Nat, (cs.map ((·.length) ∘ fun c => tx [c])).sum = cs.length := by
      intro cs
      induction cs with
      | nil => rfl
      | cons c cs ih => rw [List.map_cons, List.sum_cons, ih, List.length_cons]; show 1 + _ = _; omega
    rw [this]
    exact Nat.le_trans h (by decide)
  show (opt (joinD (.str "") _) : M Dt) st = _
  unfold joinD
  dsimp only
  rw [e]
  dsimp only
  rw [if_pos l, join_one]
  rfl
def b_names : MS :=
  (sSeq (sSet 2 (dC (.str "abcdefghijklmnopqrstuvwxyz"))) (sSeq (sSet 3 (mMe "str" (dC (.str "")) (aCons (mLc [8] (d1 (aCons (d1 (aCons (dVar 0) (aCons (dC (.int 8)) aNil)) (callM r_draw)) aNil) rng1) (tName 8) mYes (d1 (aCons (dVar 0) (aCons (dVar 2) aNil)) (callM r_pick))) aNil) gJoin)) (sSeq (sPar3 4 5 6 (aCons (d1 (aCons (dVar 0) (aCons (dC (.int 26)) aNil)) (callM r_draw)) (aCons (d1 (aCons (dVar 0) (aCons (aLst (aCons (dC (.int 1)) (aCons (dC (.int 3)) (aCons (dC (.int 5)) (aCons (dC (.int 7)) (aCons (dC (.int 9)) (aCons (dC (.int 11)) aNil))))))) aNil)) (callM r_pick)) (aCons (d1 (aCons (dVar 0) (aCons (dC (.int 3)) aNil)) (callM r_draw)) aNil)))) (sSeq (sOwn 7 (aLst aNil)) (sSeq (sFor [] (d1 (aCons (dVar 1) aNil) rng1) (tName 8) (sSeq (sSet 9 (mB2 (dVar 2) (mB2 (d1 (aCons (mB2 (dVar 4) (mB2 (dVar 5) (dVar 8) mulU) (addU ow0)) aNil) gInt) (dC (.int 26)) modU) (getU ow0))) (sSeq (sSet 10 (mB2 (aLst (aCons (mB2 (dVar 9) (dVar 3) (addU ow0)) (aCons (mB2 (dVar 3) (dVar 9) (addU ow0)) (aCons (mSl (mB2 (dVar 9) (dVar 3) (addU ow0)) pNo (d1 (mB2 (dC (.int 1)) (mB2 (d1 (aCons (dVar 8) aNil) gInt) (dC (.int 8)) modU) (addU ow0)) pInt)) aNil)))) (dVar 6) (getU ow0))) (sPeek 7 (sExpr (mMe "list" (dVar 7) (aCons (mIf (d1 (mB2 (dVar 10) (aTup (aCons (dC (.str "self")) (aCons (dC (.str "table")) (aCons (dC (.str "guards")) aNil)))) (inU ow0)) toB) (mB2 (mB2 (dC (.str "b")) (dVar 9) (addU ow0)) (dC (.str "b")) (addU ow0)) (dVar 10)) aNil) gAppend)))))) (sRet (dVar 7)))))))
def r_names : FnM := runB 11 2 b_names
abbrev abc : Str := "abcdefghijklmnopqrstuvwxyz"
theorem abc_eq : abc.cps.toList = (List.range 26).map (97 + ·) := by decide +kernel
theorem abc_mem {c : Nat} : c ∈ abc.cps.toList ↔ 97 ≤ c ∧ c < 123 := by
  rw [abc_eq]
  simp only [List.mem_map, List.mem_range]
  exact ⟨fun ⟨a, h, e⟩ => by omega, fun h => ⟨c - 97, by omega, by omega⟩⟩
theorem abc_at {i : Nat} (h : i < 26) : abc.cps.toList[i]? = some (97 + i) := by
  rw [abc_eq, List.getElem?_map, List.getElem?_range h]; rfl
def nmLet (first step : Int) (k : Nat) : Nat := 97 + ((first + step * k) % 26).toNat
def nmBase (stem : List Nat) (way : Int) (k c : Nat) : List Nat := if way = 0 then c :: stem else if way = 1 then stem ++ [c] else (c :: stem).take (1 + k % 8)
def isRes (l : List Nat) : Bool := ([("self" : Str), "table", "guards"] : List Str).any fun y => y == tx l
def nmAt (stem : List Nat) (first step way : Int) (k : Nat) : List Nat :=
  let c := nmLet first step k
  let b := nmBase stem way k c
  if isRes b then [98, c, 98] else b
structure Nms (stem : List Nat) (first step way : Int) : Prop where
  st : ∀ c ∈ stem, 97 ≤ c ∧ c < 123
  sl : stem.length ≤ 7
  f0 : 0 ≤ first
  f1 : first < 26
  s : step ∈ ([1, 3, 5, 7, 9, 11] : List Int)
  w0 : 0 ≤ way
  w1 : way < 3
theorem stem_ok {r : Wd} {T : Tape} {n : Nat} {m : Dt} (h : T.Ok n) (hn : n + 100 ≤ 2 ^ 40) :
    ∃ stem T', (mMe "str" (dC (.str "")) (aCons (mLc [8] (d1 (aCons (d1 (aCons (dVar 0) (aCons (dC (.int 8)) aNil)) (callM r_draw)) aNil) rng1) (tName 8) mYes (d1 (aCons (dVar 0) (aCons (dVar 2) aNil)) (callM r_pick))) aNil) gJoin)
      ⟨[.shr (.loc 0), .shr m, .shr (.str abc), .emp, .emp, .emp, .emp, .emp, .emp, .emp, .emp], T.d :: r⟩ = .ok (.str (tx stem)) ⟨[.shr (.loc 0), .shr m, .shr (.str abc), .emp, .emp, .emp, .emp, .emp, .emp, .emp, .emp], Tape.d T' :: r⟩ ∧
      (∀ c ∈ stem, 97 ≤ c ∧ c < 123) ∧ stem.length ≤ 7 ∧ T'.Ok (n + 8) := by
  obtain ⟨x, T1, e1, x0, x1, ok1⟩ := draw_ok (r := r) h (by omega) (m := 8) (by decide) (by decide)
  obtain ⟨i, rfl⟩ : ∃ i : Nat, x = i := ⟨x.toNat, by omega⟩
  have hi : i < 8 := by omega
  have it : (d1 (aCons (d1 (aCons (dVar 0) (aCons (dC (.int 8)) aNil)) (callM r_draw)) aNil) rng1) ⟨[.shr (.loc 0), .shr m, .shr (.str abc), .emp, .emp, .emp, .emp, .emp, .emp, .emp, .emp], T.d :: r⟩ =
      .ok ((List.range i).map fun k => Dt.int (k : Nat)) ⟨[.shr (.loc 0), .shr m, .shr (.str abc), .emp, .emp, .emp, .emp, .emp, .emp, .emp, .emp], T1.d :: r⟩ := by
    simp only [e_d1, e_bind, e_mB2, e_dC, e_dVar, e_aNil, e_aCons, e_aTup, e_aLst, e_mkTup, e_mkLst, e_optS, e_toB, e_mAnd, e_mOr, e_mNot, e_mIf, e_toS, e_sbind, e_sbindR, e_sSeq, e_sNext, e_sIf, e_sSet, e_sOwn, e_sRet, e_sExpr, e_sAsg, e_tName, e_tTup, e_tNil, e_tCons, e_tSub, e_toR, e_toRn, u_lt, u_le, u_gt, u_ge, u_add, u_sub, u_lenL, u_lenT, g_intI, List.getElem?_cons_zero, List.getElem?_cons_succ, List.set_cons_zero, List.set_cons_succ, List.length_cons, List.length_nil, List.map_cons, List.map_nil, List.replicate, List.cons_append, List.nil_append, Option.bind_some, Nat.zero_add, Nat.reduceAdd, Nat.reduceSub, Nat.reduceLeDiff]
    rw [e_call e1]
    simp only [e_d1, e_bind, e_mB2, e_dC, e_dVar, e_aNil, e_aCons, e_aTup, e_aLst, e_mkTup, e_mkLst, e_optS, e_toB, e_mAnd, e_mOr, e_mNot, e_mIf, e_toS, e_sbind, e_sbindR, e_sSeq, e_sNext, e_sIf, e_sSet, e_sOwn, e_sRet, e_sExpr, e_sAsg, e_tName, e_tTup, e_tNil, e_tCons, e_tSub, e_toR, e_toRn, u_lt, u_le, u_gt, u_ge, u_add, u_sub, u_lenL, u_lenT, g_intI, List.getElem?_cons_zero, List.getElem?_cons_succ, List.set_cons_zero, List.set_cons_succ, List.length_cons, List.length_nil, List.map_cons, List.map_nil, List.replicate, List.cons_append, List.nil_append, Option.bind_some, Nat.zero_add, Nat.reduceAdd, Nat.reduceSub, Nat.reduceLeDiff]
    exact rng1_ok (by omega)
  obtain ⟨ys, st', e2, cs, T2, x8, rfl, rfl, h2, h3, h4⟩ := lcGo_ok (vs := [8]) (tg := tName 8) (tt := mYes) (te := (d1 (aCons (dVar 0) (aCons (dVar 2) aNil)) (callM r_pick)))
    (fun k acc st => ∃ (cs : List Nat) (T' : Tape) (x8 : Slot), acc = cs.map (fun c => Dt.str (tx [c])) ∧ st = ⟨[.shr (.loc 0), .shr m, .shr (.str abc), .emp, .emp, .emp, .emp, .emp, x8, .emp, .emp], T'.d :: r⟩ ∧ (∀ c ∈ cs, 97 ≤ c ∧ c < 123) ∧ cs.length = k ∧ T'.Ok (n + 1 + k))
    ((List.range i).map fun k => Dt.int (k : Nat)) [] 0 ⟨[.shr (.loc 0), .shr m, .shr (.str abc), .emp, .emp, .emp, .emp, .emp, .emp, .emp, .emp], T1.d :: r⟩ ⟨[], T1, .emp, rfl, rfl, by simp, rfl, ok1⟩ (by rw [List.length_nil, List.length_map, List.length_range]; exact Nat.lt_of_lt_of_le (show 0 + i < 8 by omega) (by decide)) (by
      rintro k d acc st hk ⟨cs, T', x8, rfl, rfl, h2, h3, h4⟩
      have hk8 : k < i := by
        have := (List.getElem?_eq_some_iff.mp hk).1
        simpa using this
      obtain ⟨c, T3, e3, hc, ok3⟩ := pickS_ok (r := r) (z := abc) h4 (by omega) (by rw [abc_eq]; decide) (by decide +kernel)
      refine ⟨_, true, _, rfl, rfl, (fun z => by cases z), fun _ => ⟨.str (tx [c]), ⟨[.shr (.loc 0), .shr m, .shr (.str abc), .emp, .emp, .emp, .emp, .emp, .shr d, .emp, .emp], T3.d :: r⟩, ?_, cs ++ [c], T3, .shr d, by rw [List.map_append]; rfl, rfl, ?_, ?_, ?_⟩⟩
      · simp only [wipeS, e_d1, e_bind, e_mB2, e_dC, e_dVar, e_aNil, e_aCons, e_aTup, e_aLst, e_mkTup, e_mkLst, e_optS, e_toB, e_mAnd, e_mOr, e_mNot, e_mIf, e_toS, e_sbind, e_sbindR, e_sSeq, e_sNext, e_sIf, e_sSet, e_sOwn, e_sRet, e_sExpr, e_sAsg, e_tName, e_tTup, e_tNil, e_tCons, e_tSub, e_toR, e_toRn, u_lt, u_le, u_gt, u_ge, u_add, u_sub, u_lenL, u_lenT, g_intI, List.getElem?_cons_zero, List.getElem?_cons_succ, List.set_cons_zero, List.set_cons_succ, List.length_cons, List.length_nil, List.map_cons, List.map_nil, List.replicate, List.cons_append, List.nil_append, Option.bind_some, Nat.zero_add, Nat.reduceAdd, Nat.reduceSub, Nat.reduceLeDiff]
        rw [e_call e3]
      · intro z hz
        rcases List.mem_append.mp hz with q | q
        · exact h2 z q
        · rw [List.mem_singleton.mp q]; exact abc_mem.mp hc
      · rw [List.length_append, List.length_singleton, h3]
      · rw [show n + 1 + (0 + k + 1) = n + 1 + (0 + k) + 1 by omega]; exact ok3)
  rw [List.length_map, List.length_range] at h3 h4
  refine ⟨cs, T2, ?_, h2, by omega, h4.mono (by omega)⟩
  have e4 : (mLc [8] (d1 (aCons (d1 (aCons (dVar 0) (aCons (dC (.int 8)) aNil)) (callM r_draw)) aNil) rng1) (tName 8) mYes (d1 (aCons (dVar 0) (aCons (dVar 2) aNil)) (callM r_pick))) ⟨[.shr (.loc 0), .shr m, .shr (.str abc), .emp, .emp, .emp, .emp, .emp, .emp, .emp, .emp], T.d :: r⟩ =
      .ok (.lst (cs.map fun c => Dt.str (tx [c]))) ⟨[.shr (.loc 0), .shr m, .shr (.str abc), .emp, .emp, .emp, .emp, .emp, .emp, .emp, .emp], T2.d :: r⟩ := by
    unfold mLc
    rw [it, e_bind, e2, e_bind]
    rfl
  rw [e_mMe (T := "str") (x := .str "") (s1 := ⟨[.shr (.loc 0), .shr m, .shr (.str abc), .emp, .emp, .emp, .emp, .emp, .emp, .emp, .emp], T.d :: r⟩) e_dC rfl, e_aCons, e4]
  simp only [e_d1, e_bind, e_mB2, e_dC, e_dVar, e_aNil, e_aCons, e_aTup, e_aLst, e_mkTup, e_mkLst, e_optS, e_toB, e_mAnd, e_mOr, e_mNot, e_mIf, e_toS, e_sbind, e_sbindR, e_sSeq, e_sNext, e_sIf, e_sSet, e_sOwn, e_sRet, e_sExpr, e_sAsg, e_tName, e_tTup, e_tNil, e_tCons, e_tSub, e_toR, e_toRn, u_lt, u_le, u_gt, u_ge, u_add, u_sub, u_lenL, u_lenT, g_intI, List.getElem?_cons_zero, List.getElem?_cons_succ, List.set_cons_zero, List.set_cons_succ, List.length_cons, List.length_nil, List.map_cons, List.map_nil, List.replicate, List.cons_append, List.nil_append, Option.bind_some, Nat.zero_add, Nat.reduceAdd, Nat.reduceSub, Nat.reduceLeDiff]
  exact me_joinE (by omega)
end
theorem clos_app {n : Nat} {a b : List Dt} : clos n (a ++ b) = (clos n a && clos n b) := by
  induction a with
  | nil => rw [List.nil_append, clos, Bool.true_and]
  | cons x a ih => rw [List.cons_append, clos, ih, clos, Bool.and_assoc]
theorem at_end {w : Wd} {d : Dt} {n : Nat} (h : n = w.length) : (w ++ [d])[n]? = some d := by
  rw [h, List.getElem?_append_right (Nat.le_refl _), Nat.sub_self]; rfl
theorem set_end {w : Wd} {d e : Dt} {n : Nat} (h : n = w.length) : (w ++ [d]).set n e = w ++ [e] := by
  rw [h, List.set_append_right _ _ (Nat.le_refl _), Nat.sub_self]; rfl
theorem peek_app {i : Nat} {sl : List Slot} {w w' : Wd} {xs : List Dt} {y : Dt} {fe : M Dt} (h : sl[i]? = some (.own (.lst xs)))
    (he : fe ⟨sl.set i (.shr (.loc w.length)), w ++ [.lst xs]⟩ = .ok y ⟨sl.set i (.shr (.loc w.length)), w' ++ [.lst xs]⟩) (hw : w'.length = w.length) (hx : xs.length < 1000)
    (c1 : clos w.length w' = true) (c2 : clos w.length xs = true) (c3 : clo w.length y = true) (c4 : (sl.set i .emp).all (sloC w.length) = true) :
    sPeek i (sExpr (mMe "list" (dVar i) (aCons fe aNil) gAppend)) ⟨sl, w⟩ = .nx ⟨sl.set i (.own (.lst (xs ++ [y]))), w'⟩ := by
  have hi : i < sl.length := (List.getElem?_eq_some_iff.mp h).1
  have e0 : goIn i ⟨sl, w⟩ = some ⟨sl.set i (.shr (.loc w.length)), w ++ [.lst xs]⟩ := by unfold goIn; rw [h]
  have ev : dVar i ⟨sl.set i (.shr (.loc w.length)), w ++ [.lst xs]⟩ = .ok (.loc w.length) ⟨sl.set i (.shr (.loc w.length)), w ++ [.lst xs]⟩ := by
    rw [e_dVar, List.getElem?_set_self hi]
  have et : tyB (w ++ [.lst xs]) (.loc w.length) = "list" := by
    show (match (w ++ [Dt.lst xs])[w.length]? with | some (.lst _) => "list" | some (.dic _) => "dict" | _ => "") = _
    rw [at_end rfl]
  have e1 : sExpr (mMe "list" (dVar i) (aCons fe aNil) gAppend) ⟨sl.set i (.shr (.loc w.length)), w ++ [.lst xs]⟩ = .nx ⟨sl.set i (.shr (.loc w.length)), w' ++ [.lst (xs ++ [y])]⟩ := by
    rw [e_sExpr, e_mMe ev et, e_aCons, he]
    simp only [e_bind, e_aNil]
    have : gAppend (.loc w.length) [y] ⟨sl.set i (.shr (.loc w.length)), w' ++ [.lst xs]⟩ = .ok .non ⟨sl.set i (.shr (.loc w.length)), w' ++ [.lst (xs ++ [y])]⟩ := by
      show (chL (.loc w.length) _ _ : Out Dt) = _
      unfold chL
      dsimp only
      rw [at_end hw.symm]
      dsimp only
      rw [if_pos (Nat.lt_of_lt_of_le hx (by decide))]
      dsimp only
      rw [set_end hw.symm]
    rw [this, e_toS]
  unfold sPeek
  rw [e0]
  dsimp only
  rw [e1]
  dsimp only
  have e2 : goOut i w.length ⟨sl.set i (.shr (.loc w.length)), w' ++ [.lst (xs ++ [y])]⟩ = some ⟨sl.set i (.own (.lst (xs ++ [y]))), w'⟩ := by
    unfold goOut
    rw [show (DS.mk (sl.set i (.shr (.loc w.length))) (w' ++ [.lst (xs ++ [y])])).w[w.length]? = some (.lst (xs ++ [y])) from at_end hw.symm]
    dsimp only
    rw [if_pos, List.set_set, List.take_left' hw]
    refine ⟨by rw [List.length_append, hw]; rfl, ?_, ?_, ?_⟩
    · rw [List.getElem?_set_self hi]; unfold isLoc; exact decide_eq_true rfl
    · simp only [clos_app, c1, clos, clo, c2, c3, Bool.and_true]
    · rw [List.set_set]; exact c4
  rw [e2]
end B
end
section
set_option maxRecDepth 100000
set_option maxHeartbeats 4000000
namespace B
open PySem L2
theorem e_mSl {f : M Dt} {fl fh : M (Option Int)} {st : DS} : mSl f fl fh st = (f st).bind fun x s1 => (fl s1).bind fun lo s2 => (fh s2).bind fun hi s3 => opt (slD x lo hi) s3 := id rfl
theorem e_pNo {st : DS} : pNo st = .ok none st := id rfl
theorem e_pInt {i : Int} {st : DS} : pInt (.int i) st = .ok (some i) st := id rfl
theorem res_in {l : List Nat} {st : DS} : inU ow0 (.str (tx l)) (.tup [.str "self", .str "table", .str "guards"]) st = .ok (.bl (isRes l)) st := by rfl
theorem slice_ok {l : List Nat} {j : Nat} (hl : l.length ≤ 1000) : slD (.str (tx l)) none (some ((j : Nat) : Int)) = some (.str (tx (l.take j))) := by
  show (if (tx l).length ≤ LIM then some (Dt.str (cutS (tx l) none (some (j : Int)))) else none) = _
  have h1 : (tx l).length ≤ LIM := Nat.le_trans (show l.length ≤ 1000 from hl) (by decide)
  rw [if_pos h1]
  unfold cutS
  rw [HT.sIx_none, HT.sIx_nat]
  show some (Dt.str (tx ((l.drop 0).take (min j l.length - 0)))) = _
  rw [List.drop_zero, Nat.sub_zero]
  congr 3
  rw [List.take_eq_take_iff]
  simp
theorem name_round {r : Wd} {T : Tape} {m : Dt} {stem : List Nat} {first step way : Int} (N : Nms stem first step way) {k : Nat} (hk : k < 1000) {xs : List Dt} (hx : xs.length < 1000) (hc : clos (r.length + 1) (T.d :: r) = true) (hcx : clos (r.length + 1) xs = true) (hm : clo (r.length + 1) m = true) (x9 x10 : Slot)
    (h9 : sloC (r.length + 1) x9 = true) (h10 : sloC (r.length + 1) x10 = true) :
    (sSeq (sSet 9 (mB2 (dVar 2) (mB2 (d1 (aCons (mB2 (dVar 4) (mB2 (dVar 5) (dVar 8) mulU) (addU ow0)) aNil) gInt) (dC (.int 26)) modU) (getU ow0))) (sSeq (sSet 10 (mB2 (aLst (aCons (mB2 (dVar 9) (dVar 3) (addU ow0)) (aCons (mB2 (dVar 3) (dVar 9) (addU ow0)) (aCons (mSl (mB2 (dVar 9) (dVar 3) (addU ow0)) pNo (d1 (mB2 (dC (.int 1)) (mB2 (d1 (aCons (dVar 8) aNil) gInt) (dC (.int 8)) modU) (addU ow0)) pInt)) aNil)))) (dVar 6) (getU ow0))) (sPeek 7 (sExpr (mMe "list" (dVar 7) (aCons (mIf (d1 (mB2 (dVar 10) (aTup (aCons (dC (.str "self")) (aCons (dC (.str "table")) (aCons (dC (.str "guards")) aNil)))) (inU ow0)) toB) (mB2 (mB2 (dC (.str "b")) (dVar 9) (addU ow0)) (dC (.str "b")) (addU ow0)) (dVar 10)) aNil) gAppend)))))
      ⟨[.shr (.loc 0), .shr m, .shr (.str abc), .shr (.str (tx stem)), .shr (.int first), .shr (.int step), .shr (.int way), .own (.lst xs), .shr (.int k), x9, x10], T.d :: r⟩ =
    .nx ⟨[.shr (.loc 0), .shr m, .shr (.str abc), .shr (.str (tx stem)), .shr (.int first), .shr (.int step), .shr (.int way), .own (.lst (xs ++ [.str (tx (nmAt stem first step way k))])), .shr (.int k), .shr (.str (tx [nmLet first step k])), .shr (.str (tx (nmBase stem way k (nmLet first step k))))], T.d :: r⟩ := by
  have hs : step.natAbs < 2 ^ 64 := by
    have := N.s
    simp only [List.mem_cons, List.not_mem_nil, or_false] at this
    omega
  have i0 : 0 ≤ (first + step * (k : Int)) % 26 := Int.emod_nonneg _ (by decide)
  have i1 : (first + step * (k : Int)) % 26 < 26 := Int.emod_lt_of_pos _ (by decide)
  have a1 : abc.cps.toList[((first + step * (k : Int)) % 26).toNat]? = some (nmLet first step k) := abc_at (by omega)
  have g1 : ∀ st : DS, getU ow0 (.str abc) (.int ((first + step * (k : Int)) % 26)) st = .ok (.str (tx [nmLet first step k])) st := fun st => u_getS (by decide +kernel) i0 a1
  have sl7 := N.sl
  have c1 : ∀ st : DS, addU ow0 (.str (tx [nmLet first step k])) (.str (tx stem)) st = .ok (.str (tx (nmLet first step k :: stem))) st := fun st => u_addS (a := [_]) (by show 1 + _ ≤ _; omega)
  have c2 : ∀ st : DS, addU ow0 (.str (tx stem)) (.str (tx [nmLet first step k])) st = .ok (.str (tx (stem ++ [nmLet first step k]))) st := fun st => u_addS (by show _ + 1 ≤ _; omega)
  have c3 : ∀ st : DS, addU ow0 (.str (Str.ofString "b")) (.str (tx [nmLet first step k])) st = .ok (.str (tx [98, nmLet first step k])) st := fun st => u_addS (a := [98]) (b := [_]) (by show 1 + 1 ≤ _; omega)
  have c4 : ∀ st : DS, addU ow0 (.str (tx [98, nmLet first step k])) (.str (Str.ofString "b")) st = .ok (.str (tx [98, nmLet first step k, 98])) st := fun st => u_addS (a := [98, _]) (b := [98]) (by show 2 + 1 ≤ _; omega)
  have m1 : ∀ st : DS, mulU (.int step) (.int (k : Int)) st = .ok (.int (step * k)) st := fun st => u_mulL hs
  have m2 : ∀ (x : Int) (st : DS), modU (.int x) (.int 26) st = .ok (.int (x % 26)) st := fun x st => u_mod (by decide)
  have m3 : ∀ (st : DS), modU (.int (k : Int)) (.int 8) st = .ok (.int ((k : Int) % 8)) st := fun st => u_mod (by decide)
  have l1 : slD (.str (tx (nmLet first step k :: stem))) none (some ((1 : Int) + (k : Int) % 8)) = some (.str (tx ((nmLet first step k :: stem).take (1 + k % 8)))) := by
    rw [show (1 : Int) + (k : Int) % 8 = ((1 + k % 8 : Nat) : Int) by omega]
    exact slice_ok (by show stem.length + 1 ≤ _; omega)
  have g2 : ∀ st : DS, getU ow0 (.lst [.str (tx (nmLet first step k :: stem)), .str (tx (stem ++ [nmLet first step k])), .str (tx ((nmLet first step k :: stem).take (1 + k % 8)))]) (.int way) st = .ok (.str (tx (nmBase stem way k (nmLet first step k)))) st := fun st => by
    have h3 : way = 0 ∨ way = 1 ∨ way = 2 := by have := N.w0; have := N.w1; omega
    rcases h3 with rfl | rfl | rfl <;> exact u_getL (by decide) rfl
  rw [e_sSeq]
  simp only [e_d1, e_bind, e_mB2, e_dC, e_dVar, e_aNil, e_aCons, e_aTup, e_aLst, e_mkTup, e_mkLst, e_optS, e_toB, e_mAnd, e_mOr, e_mNot, e_mIf, e_toS, e_sbind, e_sbindR, e_sSeq, e_sNext, e_sIf, e_sSet, e_sOwn, e_sRet, e_sExpr, e_sAsg, e_tName, e_tTup, e_tNil, e_tCons, e_tSub, e_toR, e_toRn, u_lt, u_le, u_gt, u_ge, u_add, u_sub, u_lenL, u_lenT, g_intI, List.getElem?_cons_zero, List.getElem?_cons_succ, List.set_cons_zero, List.set_cons_succ, List.length_cons, List.length_nil, List.map_cons, List.map_nil, List.replicate, List.cons_append, List.nil_append, Option.bind_some, Nat.zero_add, Nat.reduceAdd, Nat.reduceSub, Nat.reduceLeDiff, m1, m2, g1]
  simp only [e_d1, e_bind, e_mB2, e_dC, e_dVar, e_aNil, e_aCons, e_aTup, e_aLst, e_mkTup, e_mkLst, e_optS, e_toB, e_mAnd, e_mOr, e_mNot, e_mIf, e_toS, e_sbind, e_sbindR, e_sSeq, e_sNext, e_sIf, e_sSet, e_sOwn, e_sRet, e_sExpr, e_sAsg, e_tName, e_tTup, e_tNil, e_tCons, e_tSub, e_toR, e_toRn, u_lt, u_le, u_gt, u_ge, u_add, u_sub, u_lenL, u_lenT, g_intI, List.getElem?_cons_zero, List.getElem?_cons_succ, List.set_cons_zero, List.set_cons_succ, List.length_cons, List.length_nil, List.map_cons, List.map_nil, List.replicate, List.cons_append, List.nil_append, Option.bind_some, Nat.zero_add, Nat.reduceAdd, Nat.reduceSub, Nat.reduceLeDiff, c1, c2, e_mSl, e_pNo, e_pInt, m3, l1, g2]
  rw [peek_app (xs := xs) (y := .str (tx (nmAt stem first step way k))) (w' := T.d :: r) rfl _ rfl hx hc hcx rfl]
  · rfl
  · rw [List.length_cons]
    simp only [List.set_cons_zero, List.set_cons_succ, List.all_cons, List.all_nil, sloC, clo, hm, h9, h10, Bool.and_true, decide_eq_true_eq]
    simp
  · simp only [e_d1, e_bind, e_mB2, e_dC, e_dVar, e_aNil, e_aCons, e_aTup, e_aLst, e_mkTup, e_mkLst, e_optS, e_toB, e_mAnd, e_mOr, e_mNot, e_mIf, e_toS, e_sbind, e_sbindR, e_sSeq, e_sNext, e_sIf, e_sSet, e_sOwn, e_sRet, e_sExpr, e_sAsg, e_tName, e_tTup, e_tNil, e_tCons, e_tSub, e_toR, e_toRn, u_lt, u_le, u_gt, u_ge, u_add, u_sub, u_lenL, u_lenT, g_intI, List.getElem?_cons_zero, List.getElem?_cons_succ, List.set_cons_zero, List.set_cons_succ, List.length_cons, List.length_nil, List.map_cons, List.map_nil, List.replicate, List.cons_append, List.nil_append, Option.bind_some, Nat.zero_add, Nat.reduceAdd, Nat.reduceSub, Nat.reduceLeDiff, res_in]
    by_cases hr : isRes (nmBase stem way k (nmLet first step k)) = true
    · simp only [hr, if_true, e_d1, e_bind, e_mB2, e_dC, e_dVar, e_aNil, e_aCons, e_aTup, e_aLst, e_mkTup, e_mkLst, e_optS, e_toB, e_mAnd, e_mOr, e_mNot, e_mIf, e_toS, e_sbind, e_sbindR, e_sSeq, e_sNext, e_sIf, e_sSet, e_sOwn, e_sRet, e_sExpr, e_sAsg, e_tName, e_tTup, e_tNil, e_tCons, e_tSub, e_toR, e_toRn, u_lt, u_le, u_gt, u_ge, u_add, u_sub, u_lenL, u_lenT, g_intI, List.getElem?_cons_zero, List.getElem?_cons_succ, List.set_cons_zero, List.set_cons_succ, List.length_cons, List.length_nil, List.map_cons, List.map_nil, List.replicate, List.cons_append, List.nil_append, Option.bind_some, Nat.zero_add, Nat.reduceAdd, Nat.reduceSub, Nat.reduceLeDiff, c3, c4]
      unfold nmAt
      simp only [hr, if_true]
    · simp only [hr, e_d1, e_bind, e_mB2, e_dC, e_dVar, e_aNil, e_aCons, e_aTup, e_aLst, e_mkTup, e_mkLst, e_optS, e_toB, e_mAnd, e_mOr, e_mNot, e_mIf, e_toS, e_sbind, e_sbindR, e_sSeq, e_sNext, e_sIf, e_sSet, e_sOwn, e_sRet, e_sExpr, e_sAsg, e_tName, e_tTup, e_tNil, e_tCons, e_tSub, e_toR, e_toRn, u_lt, u_le, u_gt, u_ge, u_add, u_sub, u_lenL, u_lenT, g_intI, List.getElem?_cons_zero, List.getElem?_cons_succ, List.set_cons_zero, List.set_cons_succ, List.length_cons, List.length_nil, List.map_cons, List.map_nil, List.replicate, List.cons_append, List.nil_append, Option.bind_some, Nat.zero_add, Nat.reduceAdd, Nat.reduceSub, Nat.reduceLeDiff, if_false, Bool.false_eq_true]
      unfold nmAt
      simp only [hr, if_false, Bool.false_eq_true]
theorem names_ok {r : Wd} {T : Tape} {n m : Nat} (h : T.Ok n) (hn : n + 100 ≤ 2 ^ 40) (hm : m ≤ 900) (hc : ∀ T' : Tape, clos (r.length + 1) (T'.d :: r) = true) :
    ∃ stem first step way T', r_names [.loc 0, .int (m : Int)] (T.d :: r) = .ok (.lst ((List.range m).map fun k => Dt.str (tx (nmAt stem first step way k)))) (Tape.d T' :: r) ∧ Nms stem first step way ∧ T'.Ok (n + 11) := by
  obtain ⟨stem, T1, e1, hs, hl, ok1⟩ := stem_ok (r := r) (m := .int (m : Int)) h hn
  obtain ⟨first, T2, e2, f0, f1, ok2⟩ := draw_ok (r := r) ok1 (by omega) (m := 26) (by decide) (by decide)
  obtain ⟨ds, T3, e3, hds, ok3⟩ := pick_ok (r := r) (xs := [.int 1, .int 3, .int 5, .int 7, .int 9, .int 11]) ok2 (by omega) (by simp) (by decide)
  obtain ⟨step, rfl, hstep⟩ : ∃ step : Int, ds = .int step ∧ step ∈ ([1, 3, 5, 7, 9, 11] : List Int) := by
    simp only [List.mem_cons, List.not_mem_nil, or_false] at hds
    rcases hds with rfl | rfl | rfl | rfl | rfl | rfl <;> exact ⟨_, rfl, by simp⟩
  obtain ⟨way, T4, e4, w0, w1, ok4⟩ := draw_ok (r := r) ok3 (by omega) (m := 3) (by decide) (by decide)
  have N : Nms stem first step way := ⟨hs, hl, f0, f1, hstep, w0, w1⟩
  refine ⟨stem, first, step, way, T4, ?_, N, ok4⟩
  have pa : (aCons (d1 (aCons (dVar 0) (aCons (dC (.int 26)) aNil)) (callM r_draw)) (aCons (d1 (aCons (dVar 0) (aCons (aLst (aCons (dC (.int 1)) (aCons (dC (.int 3)) (aCons (dC (.int 5)) (aCons (dC (.int 7)) (aCons (dC (.int 9)) (aCons (dC (.int 11)) aNil))))))) aNil)) (callM r_pick)) (aCons (d1 (aCons (dVar 0) (aCons (dC (.int 3)) aNil)) (callM r_draw)) aNil)))
      ⟨[.shr (.loc 0), .shr (.int (m : Int)), .shr (.str abc), .shr (.str (tx stem)), .emp, .emp, .emp, .emp, .emp, .emp, .emp], T1.d :: r⟩ = .ok [.int first, .int step, .int way] ⟨[.shr (.loc 0), .shr (.int (m : Int)), .shr (.str abc), .shr (.str (tx stem)), .emp, .emp, .emp, .emp, .emp, .emp, .emp], T4.d :: r⟩ := by
    simp only [e_d1, e_bind, e_mB2, e_dC, e_dVar, e_aNil, e_aCons, e_aTup, e_aLst, e_mkTup, e_mkLst, e_optS, e_toB, e_mAnd, e_mOr, e_mNot, e_mIf, e_toS, e_sbind, e_sbindR, e_sSeq, e_sNext, e_sIf, e_sSet, e_sOwn, e_sRet, e_sExpr, e_sAsg, e_tName, e_tTup, e_tNil, e_tCons, e_tSub, e_toR, e_toRn, u_lt, u_le, u_gt, u_ge, u_add, u_sub, u_lenL, u_lenT, g_intI, List.getElem?_cons_zero, List.getElem?_cons_succ, List.set_cons_zero, List.set_cons_succ, List.length_cons, List.length_nil, List.map_cons, List.map_nil, List.replicate, List.cons_append, List.nil_append, Option.bind_some, Nat.zero_add, Nat.reduceAdd, Nat.reduceSub, Nat.reduceLeDiff]
    rw [e_call e2]
    simp only [e_d1, e_bind, e_mB2, e_dC, e_dVar, e_aNil, e_aCons, e_aTup, e_aLst, e_mkTup, e_mkLst, e_optS, e_toB, e_mAnd, e_mOr, e_mNot, e_mIf, e_toS, e_sbind, e_sbindR, e_sSeq, e_sNext, e_sIf, e_sSet, e_sOwn, e_sRet, e_sExpr, e_sAsg, e_tName, e_tTup, e_tNil, e_tCons, e_tSub, e_toR, e_toRn, u_lt, u_le, u_gt, u_ge, u_add, u_sub, u_lenL, u_lenT, g_intI, List.getElem?_cons_zero, List.getElem?_cons_succ, List.set_cons_zero, List.set_cons_succ, List.length_cons, List.length_nil, List.map_cons, List.map_nil, List.replicate, List.cons_append, List.nil_append, Option.bind_some, Nat.zero_add, Nat.reduceAdd, Nat.reduceSub, Nat.reduceLeDiff]
    rw [e_call e3]
    simp only [e_d1, e_bind, e_mB2, e_dC, e_dVar, e_aNil, e_aCons, e_aTup, e_aLst, e_mkTup, e_mkLst, e_optS, e_toB, e_mAnd, e_mOr, e_mNot, e_mIf, e_toS, e_sbind, e_sbindR, e_sSeq, e_sNext, e_sIf, e_sSet, e_sOwn, e_sRet, e_sExpr, e_sAsg, e_tName, e_tTup, e_tNil, e_tCons, e_tSub, e_toR, e_toRn, u_lt, u_le, u_gt, u_ge, u_add, u_sub, u_lenL, u_lenT, g_intI, List.getElem?_cons_zero, List.getElem?_cons_succ, List.set_cons_zero, List.set_cons_succ, List.length_cons, List.length_nil, List.map_cons, List.map_nil, List.replicate, List.cons_append, List.nil_append, Option.bind_some, Nat.zero_add, Nat.reduceAdd, Nat.reduceSub, Nat.reduceLeDiff]
    rw [e_call e4]
    simp only [e_d1, e_bind, e_mB2, e_dC, e_dVar, e_aNil, e_aCons, e_aTup, e_aLst, e_mkTup, e_mkLst, e_optS, e_toB, e_mAnd, e_mOr, e_mNot, e_mIf, e_toS, e_sbind, e_sbindR, e_sSeq, e_sNext, e_sIf, e_sSet, e_sOwn, e_sRet, e_sExpr, e_sAsg, e_tName, e_tTup, e_tNil, e_tCons, e_tSub, e_toR, e_toRn, u_lt, u_le, u_gt, u_ge, u_add, u_sub, u_lenL, u_lenT, g_intI, List.getElem?_cons_zero, List.getElem?_cons_succ, List.set_cons_zero, List.set_cons_succ, List.length_cons, List.length_nil, List.map_cons, List.map_nil, List.replicate, List.cons_append, List.nil_append, Option.bind_some, Nat.zero_add, Nat.reduceAdd, Nat.reduceSub, Nat.reduceLeDiff]
  have it : ∀ sl, (d1 (aCons (dVar 1) aNil) rng1) ⟨.shr (.loc 0) :: .shr (.int (m : Int)) :: sl, T4.d :: r⟩ = .ok ((List.range m).map fun k => Dt.int (k : Nat)) ⟨.shr (.loc 0) :: .shr (.int (m : Int)) :: sl, T4.d :: r⟩ := fun sl => by
    simp only [e_d1, e_bind, e_mB2, e_dC, e_dVar, e_aNil, e_aCons, e_aTup, e_aLst, e_mkTup, e_mkLst, e_optS, e_toB, e_mAnd, e_mOr, e_mNot, e_mIf, e_toS, e_sbind, e_sbindR, e_sSeq, e_sNext, e_sIf, e_sSet, e_sOwn, e_sRet, e_sExpr, e_sAsg, e_tName, e_tTup, e_tNil, e_tCons, e_tSub, e_toR, e_toRn, u_lt, u_le, u_gt, u_ge, u_add, u_sub, u_lenL, u_lenT, g_intI, List.getElem?_cons_zero, List.getElem?_cons_succ, List.set_cons_zero, List.set_cons_succ, List.length_cons, List.length_nil, List.map_cons, List.map_nil, List.replicate, List.cons_append, List.nil_append, Option.bind_some, Nat.zero_add, Nat.reduceAdd, Nat.reduceSub, Nat.reduceLeDiff]
    exact rng1_ok (by omega)
  have clx : ∀ xs : List (List Nat), clos (r.length + 1) (xs.map fun x => Dt.str (tx x)) = true := fun xs => by
    induction xs with
    | nil => rfl
    | cons x xs ih => rw [List.map_cons, clos, ih]; rfl
  obtain ⟨st', e5, x8, x9, x10, rfl, q⟩ := forGo_ok (cl := []) (tg := tName 8) (body := (sSeq (sSet 9 (mB2 (dVar 2) (mB2 (d1 (aCons (mB2 (dVar 4) (mB2 (dVar 5) (dVar 8) mulU) (addU ow0)) aNil) gInt) (dC (.int 26)) modU) (getU ow0))) (sSeq (sSet 10 (mB2 (aLst (aCons (mB2 (dVar 9) (dVar 3) (addU ow0)) (aCons (mB2 (dVar 3) (dVar 9) (addU ow0)) (aCons (mSl (mB2 (dVar 9) (dVar 3) (addU ow0)) pNo (d1 (mB2 (dC (.int 1)) (mB2 (d1 (aCons (dVar 8) aNil) gInt) (dC (.int 8)) modU) (addU ow0)) pInt)) aNil)))) (dVar 6) (getU ow0))) (sPeek 7 (sExpr (mMe "list" (dVar 7) (aCons (mIf (d1 (mB2 (dVar 10) (aTup (aCons (dC (.str "self")) (aCons (dC (.str "table")) (aCons (dC (.str "guards")) aNil)))) (inU ow0)) toB) (mB2 (mB2 (dC (.str "b")) (dVar 9) (addU ow0)) (dC (.str "b")) (addU ow0)) (dVar 10)) aNil) gAppend))))))
    (fun k st => ∃ x8 x9 x10, st = ⟨[.shr (.loc 0), .shr (.int (m : Int)), .shr (.str abc), .shr (.str (tx stem)), .shr (.int first), .shr (.int step), .shr (.int way), .own (.lst ((List.range k).map fun k => Dt.str (tx (nmAt stem first step way k)))), x8, x9, x10], T4.d :: r⟩ ∧ (sloC (r.length + 1) x9 = true ∧ sloC (r.length + 1) x10 = true))
    ((List.range m).map fun k => Dt.int (k : Nat)) 0 ⟨[.shr (.loc 0), .shr (.int (m : Int)), .shr (.str abc), .shr (.str (tx stem)), .shr (.int first), .shr (.int step), .shr (.int way), .own (.lst []), .emp, .emp, .emp], T4.d :: r⟩
    ⟨.emp, .emp, .emp, rfl, rfl, rfl⟩ (by
      rintro k d st hk ⟨x8, x9, x10, rfl, q9, q10⟩
      have hk8 : k < m := by
        have := (List.getElem?_eq_some_iff.mp hk).1
        simpa using this
      have ed : d = .int (k : Nat) := by
        rw [List.getElem?_map, List.getElem?_range hk8] at hk
        exact (Option.some.inj hk).symm
      subst ed
      have rd := name_round (r := r) (T := T4) (m := .int (m : Int)) N (k := k) (by omega) (xs := (List.range k).map fun k => Dt.str (tx (nmAt stem first step way k))) (by rw [List.length_map, List.length_range]; omega) (hc T4)
          (by have := clx ((List.range k).map fun k => nmAt stem first step way k); rw [List.map_map] at this; exact this) rfl x9 x10 q9 q10
      rw [Nat.zero_add]
      refine ⟨_, _, rfl, rd, .shr (.int k), .shr (.str (tx [nmLet first step k])), .shr (.str (tx (nmBase stem way k (nmLet first step k)))), ?_, rfl, rfl⟩
      rw [List.range_succ, List.map_append]
      rfl)
  show (b_names ⟨[.shr (.loc 0), .shr (.int (m : Int)), .emp, .emp, .emp, .emp, .emp, .emp, .emp, .emp, .emp], T.d :: r⟩).toR = _
  unfold b_names
  simp only [e_sSeq, e_sSet, e_dC, e_toS, e_sbind, List.set_cons_zero, List.set_cons_succ]
  rw [e1]
  simp only [e_sSeq, e_toS, e_sbind, List.set_cons_zero, List.set_cons_succ]
  rw [e_sPar3 pa]
  simp only [e_sSeq, e_sOwn, e_aLst, e_aNil, e_bind, e_mkLst, e_optS, List.length_nil, Nat.zero_le, e_toS, e_sbind, List.set_cons_zero, List.set_cons_succ]
  unfold sFor
  rw [it, e_toS, e5]
  simp only [wipeS, e_d1, e_bind, e_mB2, e_dC, e_dVar, e_aNil, e_aCons, e_aTup, e_aLst, e_mkTup, e_mkLst, e_optS, e_toB, e_mAnd, e_mOr, e_mNot, e_mIf, e_toS, e_sbind, e_sbindR, e_sSeq, e_sNext, e_sIf, e_sSet, e_sOwn, e_sRet, e_sExpr, e_sAsg, e_tName, e_tTup, e_tNil, e_tCons, e_tSub, e_toR, e_toRn, u_lt, u_le, u_gt, u_ge, u_add, u_sub, u_lenL, u_lenT, g_intI, List.getElem?_cons_zero, List.getElem?_cons_succ, List.set_cons_zero, List.set_cons_succ, List.length_cons, List.length_nil, List.map_cons, List.map_nil, List.replicate, List.cons_append, List.nil_append, Option.bind_some, Nat.zero_add, Nat.reduceAdd, Nat.reduceSub, Nat.reduceLeDiff, List.length_map, List.length_range]
end B
end
section
set_option maxRecDepth 100000
set_option maxHeartbeats 4000000
namespace B
open PySem L2
def b_number : MS :=
  (sSeq (sSet 2 (dC (.int 0))) (sSeq (sFor [] (d1 (aCons (dC (.int 7)) aNil) rng1) (tName 3) (sSet 2 (mB2 (mB2 (dVar 2) (mB2 (dC (.int 10)) (dC (.int 6)) powU) mulU) (d1 (aCons (dVar 0) (aCons (mB2 (dC (.int 10)) (dC (.int 6)) powU) aNil)) (callM r_draw)) (addU ow0)))) (sRet (mB2 (d1 (aCons (d1 (aCons (dVar 0) (aCons (aLst (aCons (d1 (aCons (dVar 0) (aCons (dC (.int 4)) aNil)) (callM r_draw)) (aCons (mB2 (dVar 1) (d1 (aCons (dVar 0) (aCons (dC (.int 3)) aNil)) (callM r_draw)) (subU ow0)) (aCons (dVar 2) aNil)))) aNil)) (callM r_pick)) aNil) gInt) (mB2 (dVar 1) (dC (.int 1)) (addU ow0)) modU))))
def r_number : FnM := runB 4 2 b_number
theorem p6 (st : DS) : powU (.int 10) (.int 6) st = .ok (.int 1000000) st := u_pow (i := 10) (j := 6) ⟨by decide, by decide, by decide⟩
theorem p18 (st : DS) : powU (.int 10) (.int 18) st = .ok (.int 1000000000000000000) st := u_pow (i := 10) (j := 18) ⟨by decide, by decide, by decide⟩
theorem number_ok {r : Wd} {T : Tape} {n : Nat} {m : Int} (h : T.Ok n) (hn : n + 100 ≤ 2 ^ 40) (hm : 0 ≤ m) :
    ∃ x T', r_number [.loc 0, .int m] (T.d :: r) = .ok (.int x) (Tape.d T' :: r) ∧ 0 ≤ x ∧ x ≤ m ∧ T'.Ok (n + 10) := by
  obtain ⟨st', e5, y, T1, x3, rfl, ok1⟩ := forGo_ok (cl := []) (tg := tName 3) (body := (sSet 2 (mB2 (mB2 (dVar 2) (mB2 (dC (.int 10)) (dC (.int 6)) powU) mulU) (d1 (aCons (dVar 0) (aCons (mB2 (dC (.int 10)) (dC (.int 6)) powU) aNil)) (callM r_draw)) (addU ow0))))
    (fun k st => ∃ (y : Int) (T' : Tape) (x3 : Slot), st = ⟨[.shr (.loc 0), .shr (.int m), .shr (.int y), x3], T'.d :: r⟩ ∧ T'.Ok (n + k))
    ((List.range 7).map fun k => Dt.int (k : Nat)) 0 ⟨[.shr (.loc 0), .shr (.int m), .shr (.int 0), .emp], T.d :: r⟩ ⟨0, T, .emp, rfl, h⟩ (by
      rintro k d st hk ⟨y, T', x3, rfl, ok⟩
      have hk8 : k < 7 := by
        have := (List.getElem?_eq_some_iff.mp hk).1
        simpa using this
      obtain ⟨x, T2, e2, x0, x1, ok2⟩ := draw_ok (r := r) ok (by omega) (m := 1000000) (by decide) (by decide)
      have m1 : ∀ st : DS, mulU (.int y) (.int 1000000) st = .ok (.int (y * 1000000)) st := fun st => u_mulR (by decide)
      refine ⟨_, ⟨[.shr (.loc 0), .shr (.int m), .shr (.int (y * 1000000 + x)), .shr d], T2.d :: r⟩, rfl, ?_, _, T2, _, rfl, by rw [show n + (0 + k + 1) = n + (0 + k) + 1 by omega]; exact ok2⟩
      simp only [wipeS, e_d1, e_bind, e_mB2, e_dC, e_dVar, e_aNil, e_aCons, e_aTup, e_aLst, e_mkTup, e_mkLst, e_optS, e_toB, e_mAnd, e_mOr, e_mNot, e_mIf, e_toS, e_sbind, e_sbindR, e_sSeq, e_sNext, e_sIf, e_sSet, e_sOwn, e_sRet, e_sExpr, e_sAsg, e_tName, e_tTup, e_tNil, e_tCons, e_tSub, e_toR, e_toRn, u_lt, u_le, u_gt, u_ge, u_add, u_sub, u_lenL, u_lenT, g_intI, List.getElem?_cons_zero, List.getElem?_cons_succ, List.set_cons_zero, List.set_cons_succ, List.length_cons, List.length_nil, List.map_cons, List.map_nil, List.replicate, List.cons_append, List.nil_append, Option.bind_some, Nat.zero_add, Nat.reduceAdd, Nat.reduceSub, Nat.reduceLeDiff, p6, m1]
      rw [e_call e2]
      simp only [e_d1, e_bind, e_mB2, e_dC, e_dVar, e_aNil, e_aCons, e_aTup, e_aLst, e_mkTup, e_mkLst, e_optS, e_toB, e_mAnd, e_mOr, e_mNot, e_mIf, e_toS, e_sbind, e_sbindR, e_sSeq, e_sNext, e_sIf, e_sSet, e_sOwn, e_sRet, e_sExpr, e_sAsg, e_tName, e_tTup, e_tNil, e_tCons, e_tSub, e_toR, e_toRn, u_lt, u_le, u_gt, u_ge, u_add, u_sub, u_lenL, u_lenT, g_intI, List.getElem?_cons_zero, List.getElem?_cons_succ, List.set_cons_zero, List.set_cons_succ, List.length_cons, List.length_nil, List.map_cons, List.map_nil, List.replicate, List.cons_append, List.nil_append, Option.bind_some, Nat.zero_add, Nat.reduceAdd, Nat.reduceSub, Nat.reduceLeDiff])
  rw [List.length_map, List.length_range] at ok1
  obtain ⟨a, T2, e2, a0, a1, ok2⟩ := draw_ok (r := r) ok1 (by omega) (m := 4) (by decide) (by decide)
  obtain ⟨b, T3, e3, b0, b1, ok3⟩ := draw_ok (r := r) ok2 (by omega) (m := 3) (by decide) (by decide)
  obtain ⟨dc, T4, e4, hc, ok4⟩ := pick_ok (r := r) (xs := [.int a, .int (m - b), .int y]) ok3 (by omega) (by simp) (by show (3 : Nat) ≤ 2 ^ 40; decide)
  obtain ⟨c, rfl⟩ : ∃ c : Int, dc = .int c := by
    simp only [List.mem_cons, List.not_mem_nil, or_false] at hc
    rcases hc with rfl | rfl | rfl <;> exact ⟨_, rfl⟩
  refine ⟨c % (m + 1), T4, ?_, Int.emod_nonneg _ (by omega), by have := Int.emod_lt_of_pos c (show 0 < m + 1 by omega); omega, ok4.mono (by omega)⟩
  show (b_number ⟨[.shr (.loc 0), .shr (.int m), .emp, .emp], T.d :: r⟩).toR = _
  unfold b_number
  have it : ∀ st : DS, (d1 (aCons (dC (.int 7)) aNil) rng1) st = .ok ((List.range 7).map fun k => Dt.int (k : Nat)) st := fun st => rng1_ok (n := 7) (by omega)
  have m4 : ∀ st : DS, modU (.int c) (.int (m + 1)) st = .ok (.int (c % (m + 1))) st := fun st => u_mod (by omega)
  simp only [e_sSeq, e_sSet, e_dC, e_toS, e_sbind, List.set_cons_zero, List.set_cons_succ]
  unfold sFor
  rw [it, e_toS, e5]
  simp only [wipeS, e_d1, e_bind, e_mB2, e_dC, e_dVar, e_aNil, e_aCons, e_aTup, e_aLst, e_mkTup, e_mkLst, e_optS, e_toB, e_mAnd, e_mOr, e_mNot, e_mIf, e_toS, e_sbind, e_sbindR, e_sSeq, e_sNext, e_sIf, e_sSet, e_sOwn, e_sRet, e_sExpr, e_sAsg, e_tName, e_tTup, e_tNil, e_tCons, e_tSub, e_toR, e_toRn, u_lt, u_le, u_gt, u_ge, u_add, u_sub, u_lenL, u_lenT, g_intI, List.getElem?_cons_zero, List.getElem?_cons_succ, List.set_cons_zero, List.set_cons_succ, List.length_cons, List.length_nil, List.map_cons, List.map_nil, List.replicate, List.cons_append, List.nil_append, Option.bind_some, Nat.zero_add, Nat.reduceAdd, Nat.reduceSub, Nat.reduceLeDiff]
  rw [e_call e2]
  simp only [e_d1, e_bind, e_mB2, e_dC, e_dVar, e_aNil, e_aCons, e_aTup, e_aLst, e_mkTup, e_mkLst, e_optS, e_toB, e_mAnd, e_mOr, e_mNot, e_mIf, e_toS, e_sbind, e_sbindR, e_sSeq, e_sNext, e_sIf, e_sSet, e_sOwn, e_sRet, e_sExpr, e_sAsg, e_tName, e_tTup, e_tNil, e_tCons, e_tSub, e_toR, e_toRn, u_lt, u_le, u_gt, u_ge, u_add, u_sub, u_lenL, u_lenT, g_intI, List.getElem?_cons_zero, List.getElem?_cons_succ, List.set_cons_zero, List.set_cons_succ, List.length_cons, List.length_nil, List.map_cons, List.map_nil, List.replicate, List.cons_append, List.nil_append, Option.bind_some, Nat.zero_add, Nat.reduceAdd, Nat.reduceSub, Nat.reduceLeDiff]
  rw [e_call e3]
  simp only [e_d1, e_bind, e_mB2, e_dC, e_dVar, e_aNil, e_aCons, e_aTup, e_aLst, e_mkTup, e_mkLst, e_optS, e_toB, e_mAnd, e_mOr, e_mNot, e_mIf, e_toS, e_sbind, e_sbindR, e_sSeq, e_sNext, e_sIf, e_sSet, e_sOwn, e_sRet, e_sExpr, e_sAsg, e_tName, e_tTup, e_tNil, e_tCons, e_tSub, e_toR, e_toRn, u_lt, u_le, u_gt, u_ge, u_add, u_sub, u_lenL, u_lenT, g_intI, List.getElem?_cons_zero, List.getElem?_cons_succ, List.set_cons_zero, List.set_cons_succ, List.length_cons, List.length_nil, List.map_cons, List.map_nil, List.replicate, List.cons_append, List.nil_append, Option.bind_some, Nat.zero_add, Nat.reduceAdd, Nat.reduceSub, Nat.reduceLeDiff]
  rw [e_call e4]
  simp only [e_d1, e_bind, e_mB2, e_dC, e_dVar, e_aNil, e_aCons, e_aTup, e_aLst, e_mkTup, e_mkLst, e_optS, e_toB, e_mAnd, e_mOr, e_mNot, e_mIf, e_toS, e_sbind, e_sbindR, e_sSeq, e_sNext, e_sIf, e_sSet, e_sOwn, e_sRet, e_sExpr, e_sAsg, e_tName, e_tTup, e_tNil, e_tCons, e_tSub, e_toR, e_toRn, u_lt, u_le, u_gt, u_ge, u_add, u_sub, u_lenL, u_lenT, g_intI, List.getElem?_cons_zero, List.getElem?_cons_succ, List.set_cons_zero, List.set_cons_succ, List.length_cons, List.length_nil, List.map_cons, List.map_nil, List.replicate, List.cons_append, List.nil_append, Option.bind_some, Nat.zero_add, Nat.reduceAdd, Nat.reduceSub, Nat.reduceLeDiff, m4]
end B
end
section
set_option maxRecDepth 100000
set_option maxHeartbeats 4000000
namespace B
open PySem L2
def dk (kvs : List (Str × Dt)) : List (Dt × Dt) := kvs.map fun kv => (.str kv.1, kv.2)
def putS (kvs : List (Str × Dt)) (k : Str) (v : Dt) : List (Str × Dt) := if (kvs.any fun kv => kv.1 == k) = true then kvs.map (fun kv => if kv.1 == k then (kv.1, v) else kv) else kvs ++ [(k, v)]
theorem eqKey_str (a b : Str) : eqKey (.str a) (.str b) = (a == b) := by
  show decide (a = b) = (a == b)
  by_cases h : a = b
  · rw [decide_eq_true h, beq_iff_eq.mpr h]
  · rw [decide_eq_false h]; exact (beq_eq_false_iff_ne.mpr h).symm
theorem putD_dk (kvs : List (Str × Dt)) (k : Str) (v : Dt) : putD (dk kvs) (.str k) v = dk (putS kvs k v) := by
  have ha : (dk kvs).any (fun kv => eqKey kv.1 (.str k)) = kvs.any (fun kv => kv.1 == k) := by
    unfold dk
    rw [List.any_map]
    exact congrArg (List.any kvs) (funext fun kv => eqKey_str _ _)
  unfold putD putS
  rw [ha]
  split
  · unfold dk
    rw [List.map_map, List.map_map]
    refine List.map_congr_left fun kv _ => ?_
    show (if eqKey (.str kv.1) (.str k) = true then _ else _) = _
    rw [eqKey_str]
    show _ = (fun kv : Str × Dt => ((Dt.str kv.1, kv.2) : Dt × Dt)) (if (kv.1 == k) = true then (kv.1, v) else kv)
    split <;> rfl
  · unfold dk
    rw [List.map_append]; rfl
def mrgS (acc more : List (Str × Dt)) : List (Str × Dt) := more.foldl (fun a kv => putS a kv.1 kv.2) acc
theorem mergeD_dk : ∀ (more acc : List (Str × Dt)), mergeD (dk acc) (dk more) = dk (mrgS acc more)
  | [], acc => rfl
  | kv :: more, acc => by
    show mergeD (putD (dk acc) (.str kv.1) kv.2) (dk more) = _
    rw [putD_dk, mergeD_dk more]; rfl
theorem prsD_dk : ∀ kvs : List (Str × Dt), prsD (kvs.map fun kv => Dt.tup [.str kv.1, kv.2]) = some (dk kvs)
  | [] => rfl
  | kv :: kvs => by
    rw [List.map_cons]
    unfold prsD
    have h : isKey (Dt.str kv.1) = true := rfl
    rw [if_pos h, prsD_dk kvs]; rfl
end B
end
section
set_option maxRecDepth 100000
set_option maxHeartbeats 4000000
namespace B
open PySem L2
theorem e_chain {fa fb fc : M Dt} {g g' : MO2} {st s1 s2 s3 : DS} {x y : Dt} {b : Bool} (h1 : fa st = .ok x s1) (h2 : fb s1 = .ok y s2) (h3 : g x y s2 = .ok (.bl b) s3) :
    mChain fa fb fc g g' st = if b then (fc s3).bind fun w s4 => g' y w s4 else .ok (.bl false) s3 := by
  unfold mChain d1
  rw [h1, e_bind, h2, e_bind, h3, e_bind]
  cases b <;> rfl
def b_is_integer : MS :=
  (sRet (vAnd (d1 (aCons (dVar 0) (aCons (dC (.ty "int")) aNil)) (gIsi isB)) (vNot (d1 (aCons (dVar 0) (aCons (dC (.ty "bool")) aNil)) (gIsi isB)))))
def r_is_integer : FnM := runB 1 1 b_is_integer
theorem is_integer_int {i : Int} {w : Wd} : r_is_integer [.int i] w = .ok (.bl true) w := by rfl
def b_is_between : MS :=
  (sRet (vAnd (d1 (aCons (dVar 0) aNil) (callM r_is_integer)) (mChain (dVar 1) (dVar 0) (dVar 2) leU leU)))
def r_is_between : FnM := runB 3 3 b_is_between
theorem is_between_int {i a b : Int} {w : Wd} : r_is_between [.int i, .int a, .int b] w = .ok (.bl (decide (a ≤ i) && decide (i ≤ b))) w := by
  show (b_is_between ⟨[.shr (.int i), .shr (.int a), .shr (.int b)], w⟩).toR = _
  unfold b_is_between
  have e1 : (d1 (aCons (dVar 0) aNil) (callM r_is_integer)) ⟨[.shr (.int i), .shr (.int a), .shr (.int b)], w⟩ = .ok (.bl true) ⟨[.shr (.int i), .shr (.int a), .shr (.int b)], w⟩ := by
    simp only [e_d1, e_bind, e_mB2, e_dC, e_dVar, e_aNil, e_aCons, e_aTup, e_aLst, e_mkTup, e_mkLst, e_optS, e_toB, e_mAnd, e_mOr, e_mNot, e_mIf, e_toS, e_sbind, e_sbindR, e_sSeq, e_sNext, e_sIf, e_sSet, e_sOwn, e_sRet, e_sExpr, e_sAsg, e_tName, e_tTup, e_tNil, e_tCons, e_tSub, e_toR, e_toRn, u_lt, u_le, u_gt, u_ge, u_add, u_sub, u_lenL, u_lenT, g_intI, List.getElem?_cons_zero, List.getElem?_cons_succ, List.set_cons_zero, List.set_cons_succ, List.length_cons, List.length_nil, List.map_cons, List.map_nil, List.replicate, List.cons_append, List.nil_append, Option.bind_some, Nat.zero_add, Nat.reduceAdd, Nat.reduceSub, Nat.reduceLeDiff]
    rw [e_call is_integer_int]
  have h1 : dVar 1 ⟨[.shr (.int i), .shr (.int a), .shr (.int b)], w⟩ = .ok (.int a) ⟨[.shr (.int i), .shr (.int a), .shr (.int b)], w⟩ := rfl
  have h0 : dVar 0 ⟨[.shr (.int i), .shr (.int a), .shr (.int b)], w⟩ = .ok (.int i) ⟨[.shr (.int i), .shr (.int a), .shr (.int b)], w⟩ := rfl
  rw [e_sRet, e_vAnd e1, if_pos rfl, e_chain h1 h0 u_le]
  by_cases q : a ≤ i
  · simp only [decide_eq_true q, if_true, e_d1, e_bind, e_mB2, e_dC, e_dVar, e_aNil, e_aCons, e_aTup, e_aLst, e_mkTup, e_mkLst, e_optS, e_toB, e_mAnd, e_mOr, e_mNot, e_mIf, e_toS, e_sbind, e_sbindR, e_sSeq, e_sNext, e_sIf, e_sSet, e_sOwn, e_sRet, e_sExpr, e_sAsg, e_tName, e_tTup, e_tNil, e_tCons, e_tSub, e_toR, e_toRn, u_lt, u_le, u_gt, u_ge, u_add, u_sub, u_lenL, u_lenT, g_intI, List.getElem?_cons_zero, List.getElem?_cons_succ, List.set_cons_zero, List.set_cons_succ, List.length_cons, List.length_nil, List.map_cons, List.map_nil, List.replicate, List.cons_append, List.nil_append, Option.bind_some, Nat.zero_add, Nat.reduceAdd, Nat.reduceSub, Nat.reduceLeDiff, Bool.true_and]
  · simp only [decide_eq_false q, if_false, e_d1, e_bind, e_mB2, e_dC, e_dVar, e_aNil, e_aCons, e_aTup, e_aLst, e_mkTup, e_mkLst, e_optS, e_toB, e_mAnd, e_mOr, e_mNot, e_mIf, e_toS, e_sbind, e_sbindR, e_sSeq, e_sNext, e_sIf, e_sSet, e_sOwn, e_sRet, e_sExpr, e_sAsg, e_tName, e_tTup, e_tNil, e_tCons, e_tSub, e_toR, e_toRn, u_lt, u_le, u_gt, u_ge, u_add, u_sub, u_lenL, u_lenT, g_intI, List.getElem?_cons_zero, List.getElem?_cons_succ, List.set_cons_zero, List.set_cons_succ, List.length_cons, List.length_nil, List.map_cons, List.map_nil, List.replicate, List.cons_append, List.nil_append, Option.bind_some, Nat.zero_add, Nat.reduceAdd, Nat.reduceSub, Nat.reduceLeDiff, Bool.false_and, Bool.false_eq_true]
def b_is_amount : MS :=
  (sRet (d1 (aCons (dVar 0) (aCons (dC (.int 0)) (aCons (dC (.int 1000000000000000000)) aNil))) (callM r_is_between)))
def r_is_amount : FnM := runB 1 1 b_is_amount
theorem is_amount_int {i : Int} {w : Wd} : r_is_amount [.int i] w = .ok (.bl (decide (0 ≤ i) && decide (i ≤ 1000000000000000000))) w := by
  show (b_is_amount ⟨[.shr (.int i)], w⟩).toR = _
  unfold b_is_amount
  simp only [e_d1, e_bind, e_mB2, e_dC, e_dVar, e_aNil, e_aCons, e_aTup, e_aLst, e_mkTup, e_mkLst, e_optS, e_toB, e_mAnd, e_mOr, e_mNot, e_mIf, e_toS, e_sbind, e_sbindR, e_sSeq, e_sNext, e_sIf, e_sSet, e_sOwn, e_sRet, e_sExpr, e_sAsg, e_tName, e_tTup, e_tNil, e_tCons, e_tSub, e_toR, e_toRn, u_lt, u_le, u_gt, u_ge, u_add, u_sub, u_lenL, u_lenT, g_intI, List.getElem?_cons_zero, List.getElem?_cons_succ, List.set_cons_zero, List.set_cons_succ, List.length_cons, List.length_nil, List.map_cons, List.map_nil, List.replicate, List.cons_append, List.nil_append, Option.bind_some, Nat.zero_add, Nat.reduceAdd, Nat.reduceSub, Nat.reduceLeDiff]
  rw [e_call is_between_int]
  simp only [e_d1, e_bind, e_mB2, e_dC, e_dVar, e_aNil, e_aCons, e_aTup, e_aLst, e_mkTup, e_mkLst, e_optS, e_toB, e_mAnd, e_mOr, e_mNot, e_mIf, e_toS, e_sbind, e_sbindR, e_sSeq, e_sNext, e_sIf, e_sSet, e_sOwn, e_sRet, e_sExpr, e_sAsg, e_tName, e_tTup, e_tNil, e_tCons, e_tSub, e_toR, e_toRn, u_lt, u_le, u_gt, u_ge, u_add, u_sub, u_lenL, u_lenT, g_intI, List.getElem?_cons_zero, List.getElem?_cons_succ, List.set_cons_zero, List.set_cons_succ, List.length_cons, List.length_nil, List.map_cons, List.map_nil, List.replicate, List.cons_append, List.nil_append, Option.bind_some, Nat.zero_add, Nat.reduceAdd, Nat.reduceSub, Nat.reduceLeDiff]
def b_is_name : MS :=
  (sSeq (sIf (mOr (mNot (d1 (d1 (aCons (dVar 0) (aCons (dC (.ty "str")) aNil)) (gIsi isB)) toB)) (mOr (mNot (d1 (mChain (dC (.int 1)) (d1 (aCons (dVar 0) aNil) (lenU ow0)) (dC (.int 8)) leU leU) toB)) (d1 (d1 (dVar 0) (inKU ["self", "table", "guards"])) toB))) (sRet (dC (.bl false))) sNext) (sRet (d1 (aCons (mLc [1] (d1 (dVar 0) iterD) (tName 1) mYes (mB2 (dVar 1) (dC (.str "abcdefghijklmnopqrstuvwxyz")) (inU ow0))) aNil) gAllB)))
def r_is_name : FnM := runB 2 1 b_is_name
structure NameOk (l : List Nat) : Prop where
  l1 : 1 ≤ l.length
  l8 : l.length ≤ 8
  nr : isRes l = false
  al : ∀ c ∈ l, 97 ≤ c ∧ c < 123
theorem in_abc {c : Nat} {st : DS} (h : 97 ≤ c ∧ c < 123) : inU ow0 (.str (tx [c])) (.str abc) st = .ok (.bl true) st := by
  have e : inU ow0 (.str (tx [c])) (.str abc) st = .ok (.bl (decide (c ∈ abc.cps.toList))) st := by rfl
  rw [e, decide_eq_true (abc_mem.mpr h)]
theorem asBls_true (n : Nat) : asBls (List.replicate n (Dt.bl true)) = some (List.replicate n true) := by
  induction n with
  | zero => rfl
  | succ n ih => rw [List.replicate_succ, List.replicate_succ]; show (asBls (List.replicate n (Dt.bl true))).map (true :: ·) = _; rw [ih]; rfl
theorem allB_true {n : Nat} {st : DS} : gAllB [.lst (List.replicate n (Dt.bl true))] st = .ok (.bl true) st := by
  show (opt ((asBls (List.replicate n (Dt.bl true))).map fun bs => Dt.bl (bs.all id)) : M Dt) st = _
  rw [asBls_true]
  have : (List.replicate n true).all id = true := List.all_eq_true.mpr fun x hx => List.eq_of_mem_replicate hx
  show Out.ok (Dt.bl ((List.replicate n true).all id)) st = _
  rw [this]
theorem res_inK {l : List Nat} {st : DS} : inKU ["self", "table", "guards"] (.str (tx l)) st = .ok (.bl (isRes l)) st := id (by rfl)
theorem is_name_ok {l : List Nat} {w : Wd} (h : NameOk l) : r_is_name [.str (tx l)] w = .ok (.bl true) w := by
  have h1 := h.l1
  have h8 := h.l8
  show (b_is_name ⟨[.shr (.str (tx l)), .emp], w⟩).toR = _
  have is : ∀ st : DS, gIsi isB [.str (tx l), .ty "str"] st = .ok (.bl true) st := fun st => rfl
  have ln : ∀ st : DS, lenU ow0 [.str (tx l)] st = .ok (.int (l.length : Nat)) st := fun st => u_lenS (z := tx l) (by show l.length ≤ _; omega)
  have ch : mChain (dC (.int 1)) (d1 (aCons (dVar 0) aNil) (lenU ow0)) (dC (.int 8)) leU leU ⟨[.shr (.str (tx l)), .emp], w⟩ = .ok (.bl true) ⟨[.shr (.str (tx l)), .emp], w⟩ := by
    have e1 : (d1 (aCons (dVar 0) aNil) (lenU ow0)) ⟨[.shr (.str (tx l)), .emp], w⟩ = .ok (.int (l.length : Nat)) ⟨[.shr (.str (tx l)), .emp], w⟩ := by
      simp only [e_d1, e_bind, e_mB2, e_dC, e_dVar, e_aNil, e_aCons, e_aTup, e_aLst, e_mkTup, e_mkLst, e_optS, e_toB, e_mAnd, e_mOr, e_mNot, e_mIf, e_toS, e_sbind, e_sbindR, e_sSeq, e_sNext, e_sIf, e_sSet, e_sOwn, e_sRet, e_sExpr, e_sAsg, e_tName, e_tTup, e_tNil, e_tCons, e_tSub, e_toR, e_toRn, u_lt, u_le, u_gt, u_ge, u_add, u_sub, u_lenL, u_lenT, g_intI, List.getElem?_cons_zero, List.getElem?_cons_succ, List.set_cons_zero, List.set_cons_succ, List.length_cons, List.length_nil, List.map_cons, List.map_nil, List.replicate, List.cons_append, List.nil_append, Option.bind_some, Nat.zero_add, Nat.reduceAdd, Nat.reduceSub, Nat.reduceLeDiff, ln]
    rw [e_chain e_dC e1 u_le, decide_eq_true (by omega), if_pos rfl]
    simp only [e_d1, e_bind, e_mB2, e_dC, e_dVar, e_aNil, e_aCons, e_aTup, e_aLst, e_mkTup, e_mkLst, e_optS, e_toB, e_mAnd, e_mOr, e_mNot, e_mIf, e_toS, e_sbind, e_sbindR, e_sSeq, e_sNext, e_sIf, e_sSet, e_sOwn, e_sRet, e_sExpr, e_sAsg, e_tName, e_tTup, e_tNil, e_tCons, e_tSub, e_toR, e_toRn, u_lt, u_le, u_gt, u_ge, u_add, u_sub, u_lenL, u_lenT, g_intI, List.getElem?_cons_zero, List.getElem?_cons_succ, List.set_cons_zero, List.set_cons_succ, List.length_cons, List.length_nil, List.map_cons, List.map_nil, List.replicate, List.cons_append, List.nil_append, Option.bind_some, Nat.zero_add, Nat.reduceAdd, Nat.reduceSub, Nat.reduceLeDiff]
    rw [decide_eq_true (by omega)]
  obtain ⟨ys, st', e2, x1, rfl, rfl⟩ := lcGo_ok (vs := [1]) (tg := tName 1) (tt := mYes) (te := (mB2 (dVar 1) (dC (.str "abcdefghijklmnopqrstuvwxyz")) (inU ow0)))
    (fun k acc st => ∃ x1 : Slot, st = ⟨[.shr (.str (tx l)), x1], w⟩ ∧ acc = List.replicate k (Dt.bl true))
    (strsD (tx l)) [] 0 ⟨[.shr (.str (tx l)), .emp], w⟩ ⟨.emp, rfl, rfl⟩ (by rw [List.length_nil]; unfold strsD; rw [List.length_map]; exact Nat.lt_of_lt_of_le (show 0 + l.length < 1000 by omega) (by decide)) (by
      rintro k d acc st hk ⟨x1, rfl, rfl⟩
      obtain ⟨c, hc, rfl⟩ : ∃ c ∈ l, d = .str (tx [c]) := by
        obtain ⟨c, hc, e⟩ := List.mem_map.mp (List.mem_of_getElem? hk)
        exact ⟨c, hc, e.symm⟩
      refine ⟨_, true, ⟨[.shr (.str (tx l)), .shr (.str (tx [c]))], w⟩, rfl, rfl, (fun q => by cases q), fun _ => ⟨.bl true, ⟨[.shr (.str (tx l)), .shr (.str (tx [c]))], w⟩, ?_, _, rfl, ?_⟩⟩
      · simp only [e_d1, e_bind, e_mB2, e_dC, e_dVar, e_aNil, e_aCons, e_aTup, e_aLst, e_mkTup, e_mkLst, e_optS, e_toB, e_mAnd, e_mOr, e_mNot, e_mIf, e_toS, e_sbind, e_sbindR, e_sSeq, e_sNext, e_sIf, e_sSet, e_sOwn, e_sRet, e_sExpr, e_sAsg, e_tName, e_tTup, e_tNil, e_tCons, e_tSub, e_toR, e_toRn, u_lt, u_le, u_gt, u_ge, u_add, u_sub, u_lenL, u_lenT, g_intI, List.getElem?_cons_zero, List.getElem?_cons_succ, List.set_cons_zero, List.set_cons_succ, List.length_cons, List.length_nil, List.map_cons, List.map_nil, List.replicate, List.cons_append, List.nil_append, Option.bind_some, Nat.zero_add, Nat.reduceAdd, Nat.reduceSub, Nat.reduceLeDiff]
        exact in_abc (h.al c hc)
      · rw [Nat.zero_add, List.replicate_succ'])
  unfold b_is_name
  rw [e_sSeq, e_sIf]
  simp only [e_d1, e_bind, e_mB2, e_dC, e_dVar, e_aNil, e_aCons, e_aTup, e_aLst, e_mkTup, e_mkLst, e_optS, e_toB, e_mAnd, e_mOr, e_mNot, e_mIf, e_toS, e_sbind, e_sbindR, e_sSeq, e_sNext, e_sIf, e_sSet, e_sOwn, e_sRet, e_sExpr, e_sAsg, e_tName, e_tTup, e_tNil, e_tCons, e_tSub, e_toR, e_toRn, u_lt, u_le, u_gt, u_ge, u_add, u_sub, u_lenL, u_lenT, g_intI, List.getElem?_cons_zero, List.getElem?_cons_succ, List.set_cons_zero, List.set_cons_succ, List.length_cons, List.length_nil, List.map_cons, List.map_nil, List.replicate, List.cons_append, List.nil_append, Option.bind_some, Nat.zero_add, Nat.reduceAdd, Nat.reduceSub, Nat.reduceLeDiff, is, ch, res_inK, h.nr, if_true, Bool.false_eq_true, if_false, Bool.not_true]
  have e4 : mLc [1] (d1 (dVar 0) iterD) (tName 1) mYes (mB2 (dVar 1) (dC (.str "abcdefghijklmnopqrstuvwxyz")) (inU ow0)) ⟨[.shr (.str (tx l)), .emp], w⟩ = .ok (.lst (List.replicate (0 + (strsD (tx l)).length) (Dt.bl true))) ⟨[.shr (.str (tx l)), .emp], w⟩ := by
    unfold mLc
    have it : (d1 (dVar 0) iterD) ⟨[.shr (.str (tx l)), .emp], w⟩ = .ok (strsD (tx l)) ⟨[.shr (.str (tx l)), .emp], w⟩ := rfl
    rw [it, e_bind, e2, e_bind]
    rfl
  rw [e4]
  simp only [e_d1, e_bind, e_mB2, e_dC, e_dVar, e_aNil, e_aCons, e_aTup, e_aLst, e_mkTup, e_mkLst, e_optS, e_toB, e_mAnd, e_mOr, e_mNot, e_mIf, e_toS, e_sbind, e_sbindR, e_sSeq, e_sNext, e_sIf, e_sSet, e_sOwn, e_sRet, e_sExpr, e_sAsg, e_tName, e_tTup, e_tNil, e_tCons, e_tSub, e_toR, e_toRn, u_lt, u_le, u_gt, u_ge, u_add, u_sub, u_lenL, u_lenT, g_intI, List.getElem?_cons_zero, List.getElem?_cons_succ, List.set_cons_zero, List.set_cons_succ, List.length_cons, List.length_nil, List.map_cons, List.map_nil, List.replicate, List.cons_append, List.nil_append, Option.bind_some, Nat.zero_add, Nat.reduceAdd, Nat.reduceSub, Nat.reduceLeDiff, allB_true]
end B
end
section
set_option maxRecDepth 100000
set_option maxHeartbeats 4000000
namespace B
open PySem L2
abbrev Tb := List (Str × Int)
def Tb.d (kvs : Tb) : List (Dt × Dt) := kvs.map fun kv => (.str kv.1, .int kv.2)
def Tb.get (kvs : Tb) (k : Str) : Int := ((kvs.find? fun kv => kv.1 == k).map (·.2)).getD 0
theorem Tb.keys (kvs : Tb) : (kvs.d.all fun kv => isKey kv.1) = true := by
  unfold Tb.d
  rw [List.all_map]
  exact List.all_eq_true.mpr fun _ _ => rfl
theorem Tb.getK (kvs : Tb) (k : Str) : B.getK kvs.d (.str k) = ((kvs.find? fun kv => kv.1 == k).map fun kv => Dt.int kv.2) := by
  unfold B.getK Tb.d
  rw [List.find?_map, Option.map_map]
  have : ((fun kv : Dt × Dt => eqKey kv.1 (.str k)) ∘ fun kv : Str × Int => ((.str kv.1, .int kv.2) : Dt × Dt)) = fun kv => kv.1 == k := funext fun kv => eqKey_str _ _
  rw [this]
  rfl
theorem Tb.find_mem {kvs : Tb} {k : Str} (h : k ∈ kvs.map (·.1)) : (kvs.find? fun kv => kv.1 == k) = some (k, kvs.get k) := by
  obtain ⟨kv, hm, rfl⟩ := List.mem_map.mp h
  cases e : kvs.find? fun kv' => kv'.1 == kv.1 with
  | none => exact absurd (beq_self_eq_true kv.1) (List.find?_eq_none.mp e kv hm)
  | some p =>
    have h1 := List.find?_some e
    have h2 : p.1 = kv.1 := beq_iff_eq.mp h1
    unfold Tb.get
    rw [e]
    show some p = some (kv.1, p.2)
    rw [← h2]
section
variable {st : DS}
theorem u_getD {kvs : Tb} {k : Str} (h : k ∈ kvs.map (·.1)) : getU ow0 (.dic kvs.d) (.str k) st = .ok (.int (kvs.get k)) st := by
  have e : dgD st.w (.dic kvs.d) (.str k) = some (.int (kvs.get k)) := by
    have hg := Tb.getK kvs k
    rw [Tb.find_mem h] at hg
    cases kvs with
    | nil => cases h
    | cons kv kvs =>
      show (if isKey (.str k) && isKey (.str kv.1) then B.getK (Tb.d (kv :: kvs)) (.str k) else none) = _
      rw [hg]; rfl
  show (opt ((ixD (.dic kvs.d) (.str k)).or (dgD st.w (.dic kvs.d) (.str k))) : M Dt) st = _
  rw [e]; rfl
theorem asStrs_keys (kvs : Tb) : asStrs (kvs.d.map (·.1)) = some (kvs.map (·.1)) := by
  unfold Tb.d
  rw [List.map_map]
  have := asStrs_strs (kvs.map (·.1))
  rw [List.map_map] at this
  exact this
theorem sorted_keys {kvs : Tb} (h : kvs.length < 64) : gSorted [.dic kvs.d] st = .ok (.lst ((sortS (kvs.map (·.1))).map Dt.str)) st := by
  show (opt ((none : Option Dt).or (srtK [.dic kvs.d])) : M Dt) st = _
  unfold srtK
  dsimp only
  rw [asStrs_keys]
  dsimp only
  rw [if_pos (by rw [List.length_map]; exact h)]
  rfl
theorem asInts_vals (kvs : Tb) : asInts (kvs.d.map (·.2)) = some (kvs.map (·.2)) := by
  unfold Tb.d
  rw [List.map_map]
  induction kvs with
  | nil => rfl
  | cons kv kvs ih => rw [List.map_cons]; show (asInts _).map _ = _; rw [ih]; rfl
theorem viewD_tb (kvs : Tb) : viewD (.dic kvs.d) = some kvs.d := by
  show (if kvs.d.all (fun kv => isKey kv.1) then some kvs.d else none) = _
  rw [if_pos kvs.keys]
theorem sumV_tb (kvs : Tb) : sumV (.dic kvs.d) = some (.int (kvs.map (·.2)).sum) := by
  unfold sumV
  rw [viewD_tb]
  dsimp only
  rw [asInts_vals]; rfl
def Tb.prs (kvs : Tb) : List Dt := kvs.map fun kv => .tup [.str kv.1, .int kv.2]
theorem tupI_tb (kvs : Tb) : tupI (.dic kvs.d) = some (.tup kvs.prs) := by
  unfold tupI
  rw [viewD_tb]
  show some (Dt.tup (kvs.d.map pairD)) = _
  unfold Tb.d Tb.prs
  rw [List.map_map]; rfl
theorem tupK_tb (kvs : Tb) : tupK (.dic kvs.d) = some (.tup (kvs.map fun kv => Dt.str kv.1)) := by
  unfold tupK
  rw [viewD_tb]
  show some (Dt.tup (kvs.d.map (·.1))) = _
  unfold Tb.d
  rw [List.map_map]; rfl
end
theorem cloK_tb (n : Nat) : ∀ kvs : Tb, cloK n kvs.d = true
  | [] => rfl
  | kv :: kvs => by
    show cloK n (_ :: Tb.d kvs) = true
    unfold cloK
    rw [cloK_tb n kvs]; rfl
theorem clos_prs (n : Nat) : ∀ kvs : Tb, clos n kvs.prs = true
  | [] => rfl
  | kv :: kvs => by
    show clos n (_ :: Tb.prs kvs) = true
    unfold clos
    rw [clos_prs n kvs]; rfl
def Tb.held (kvs : Tb) : Tb := ((sortS (kvs.map (·.1))).map fun k => (k, kvs.get k)).filter fun kv => decide (0 < kv.2)
def Tb.stock (hs : Tb) : Dt := .ins "Stock" [("held", .dic hs.d), ("order", .tup [.int (hs.map (·.2)).sum, .tup hs.prs])]
def at_held : At := fun c => if c = "Stock" then some none else none
def at_order : At := fun c => if c = "Stock" then some none else none
def b_init : MS :=
  (sSeq (sFor [] (d1 (dVar 1) (valsD pairD)) (tTupT 2 (tCons (tName 2) (tCons (tName 3) tNil))) (sIf (mOr (mNot (d1 (d1 (aCons (dVar 2) aNil) (callM r_is_name)) toB)) (mNot (d1 (d1 (aCons (dVar 3) aNil) (callM r_is_amount)) toB))) sNever sNext)) (sSeq (sFldD "held" at_held (dVar 0) (mDc [2] (d1 (d1 (aCons (dVar 1) aNil) gSorted) iterD) (tName 2) (d1 (mB2 (mB2 (dVar 1) (dVar 2) (getU ow0)) (dC (.int 0)) gtU) toB) (dVar 2) (mB2 (dVar 1) (dVar 2) (getU ow0)))) (sFldD "order" at_order (dVar 0) (aTup (aCons (d1 (d1 (dVar 0) (getA "held" at_held)) fun x => opt (sumV x)) (aCons (d1 (d1 (dVar 0) (getA "held" at_held)) fun x => opt (tupI x)) aNil))))))
def r_init : FnM := runB 4 2 b_init
theorem dcGo_ok {vs : List Nat} {tg : TgM} {tt : M Bool} {tk tv : M Dt} (I : Nat → List (Dt × Dt) → DS → Prop) : ∀ (ds : List Dt) (acc : List (Dt × Dt)) (k : Nat) (st : DS), I k acc st → acc.length + ds.length < LIM →
    (∀ i d acc st, ds[i]? = some d → I (k + i) acc st → ∃ st1 b st2, tg d { st with sl := wipeS st.sl vs } = some st1 ∧ tt st1 = .ok b st2 ∧
      (b = false → I (k + i + 1) acc st2) ∧ (b = true → ∃ x y st3 st4, tk st2 = .ok x st3 ∧ tv st3 = .ok y st4 ∧ isKey x = true ∧ (putD acc x y).length ≤ acc.length + 1 ∧ I (k + i + 1) (putD acc x y) st4)) →
    ∃ ys st', dcGo vs tg tt tk tv ds acc st = .ok ys st' ∧ I (k + ds.length) ys st'
  | [], acc, k, st, h, _, _ => ⟨acc, st, rfl, h⟩
  | d :: ds, acc, k, st, h, hl, hs => by
    rw [List.length_cons] at hl
    have nxt : ∀ acc' st', I (k + 1) acc' st' → acc'.length ≤ acc.length + 1 → ∃ ys st2, dcGo vs tg tt tk tv ds acc' st' = .ok ys st2 ∧ I (k + (d :: ds).length) ys st2 := fun acc' st' h' l' => by
      obtain ⟨ys, st2, e, h2⟩ := dcGo_ok I ds acc' (k + 1) st' h' (by omega) fun i d a st e hi => by
        have := hs (i + 1) d a st e (by rw [show k + (i + 1) = k + 1 + i by omega]; exact hi)
        rw [show k + (i + 1) + 1 = k + 1 + i + 1 by omega] at this
        exact this
      exact ⟨ys, st2, e, by rw [List.length_cons, show k + (ds.length + 1) = k + 1 + ds.length by omega]; exact h2⟩
    obtain ⟨st1, b, st2, e1, e2, hf, ht⟩ := hs 0 d acc st rfl h
    unfold dcGo
    rw [e1]
    dsimp only
    rw [e2]
    cases b with
    | false => exact nxt acc st2 (hf rfl) (by omega)
    | true =>
      obtain ⟨x, y, st3, st4, e3, e4, hk, hp, h3⟩ := ht rfl
      dsimp only
      rw [e3]
      dsimp only
      rw [e4]
      dsimp only
      rw [if_pos ⟨by omega, hk⟩]
      exact nxt _ st4 h3 hp
end B
end
section
set_option maxRecDepth 100000
set_option maxHeartbeats 4000000
namespace B
open PySem L2
structure TbOk (kvs : Tb) : Prop where
  nm : ∀ kv ∈ kvs, ∃ l, kv.1 = tx l ∧ NameOk l
  v0 : ∀ kv ∈ kvs, 0 ≤ kv.2
  v1 : ∀ kv ∈ kvs, kv.2 ≤ 1000000000000000000
  nd : (kvs.map (·.1)).Nodup
  ln : kvs.length < 64
theorem putD_new {acc : Tb} {k : Str} {v : Int} (h : k ∉ acc.map (·.1)) : putD acc.d (.str k) (.int v) = Tb.d (acc ++ [(k, v)]) := by
  have ha : (acc.d).any (fun kv => eqKey kv.1 (.str k)) = false := by
    rw [List.any_eq_false]
    intro x hx
    obtain ⟨kv, hm, rfl⟩ := List.mem_map.mp hx
    show ¬ eqKey (.str kv.1) (.str k) = true
    rw [eqKey_str, beq_iff_eq]
    exact fun e => h (List.mem_map.mpr ⟨kv, hm, e⟩)
  unfold putD
  rw [ha]
  show acc.d ++ _ = _
  unfold Tb.d
  rw [List.map_append]; rfl
theorem Tb.get_of {kvs : Tb} (nd : (kvs.map (·.1)).Nodup) {kv : Str × Int} (h : kv ∈ kvs) : kvs.get kv.1 = kv.2 := by
  induction kvs with
  | nil => cases h
  | cons x kvs ih =>
    rw [List.map_cons, List.nodup_cons] at nd
    unfold Tb.get
    rw [List.find?_cons]
    rcases List.mem_cons.mp h with rfl | h
    · rw [beq_self_eq_true]; rfl
    · have hne : (x.1 == kv.1) = false := beq_eq_false_iff_ne.mpr fun e => nd.1 (e ▸ List.mem_map.mpr ⟨kv, h, rfl⟩)
      rw [hne]
      exact ih nd.2 h
theorem sortS_mem {ks : List Str} {k : Str} : k ∈ sortS ks ↔ k ∈ ks := (List.mergeSort_perm ks leS).mem_iff
theorem sortS_nd {ks : List Str} (h : ks.Nodup) : (sortS ks).Nodup := (List.mergeSort_perm ks leS).nodup_iff.mpr h
theorem sortS_len {ks : List Str} : (sortS ks).length = ks.length := (List.mergeSort_perm ks leS).length_eq
theorem init_loop {kvs : Tb} (h : TbOk kvs) {w : Wd} {self : Dt} : ∃ x2 x3, forGo [] (tTupT 2 (tCons (tName 2) (tCons (tName 3) tNil))) (sIf (mOr (mNot (d1 (d1 (aCons (dVar 2) aNil) (callM r_is_name)) toB)) (mNot (d1 (d1 (aCons (dVar 3) aNil) (callM r_is_amount)) toB))) sNever sNext)
    (kvs.d.map pairD) ⟨[.shr self, .shr (.dic kvs.d), .emp, .emp], w⟩ = .nx ⟨[.shr self, .shr (.dic kvs.d), x2, x3], w⟩ := by
  obtain ⟨st', e, x2, x3, rfl⟩ := forGo_ok (cl := []) (tg := (tTupT 2 (tCons (tName 2) (tCons (tName 3) tNil)))) (body := (sIf (mOr (mNot (d1 (d1 (aCons (dVar 2) aNil) (callM r_is_name)) toB)) (mNot (d1 (d1 (aCons (dVar 3) aNil) (callM r_is_amount)) toB))) sNever sNext))
    (fun k st => ∃ x2 x3 : Slot, st = ⟨[.shr self, .shr (.dic kvs.d), x2, x3], w⟩) (kvs.d.map pairD) 0 ⟨[.shr self, .shr (.dic kvs.d), .emp, .emp], w⟩ ⟨_, _, rfl⟩ (by
      rintro k d st hk ⟨x2, x3, rfl⟩
      obtain ⟨kv, hkv, rfl⟩ : ∃ kv ∈ kvs, d = .tup [.str kv.1, .int kv.2] := by
        obtain ⟨p, hp, e⟩ := List.mem_map.mp (List.mem_of_getElem? hk)
        obtain ⟨kv, hkv, e2⟩ := List.mem_map.mp hp
        exact ⟨kv, hkv, by rw [← e, ← e2]; rfl⟩
      obtain ⟨l, el, hl⟩ := h.nm kv hkv
      refine ⟨_, ⟨[.shr self, .shr (.dic kvs.d), .shr (.str kv.1), .shr (.int kv.2)], w⟩, rfl, ?_, _, _, rfl⟩
      have c1 : r_is_name [.str kv.1] w = .ok (.bl true) w := by rw [el]; exact is_name_ok hl
      have c2 : r_is_amount [.int kv.2] w = .ok (.bl true) w := by rw [is_amount_int, decide_eq_true (h.v0 kv hkv), decide_eq_true (h.v1 kv hkv)]; rfl
      simp only [wipeS, e_d1, e_bind, e_mB2, e_dC, e_dVar, e_aNil, e_aCons, e_aTup, e_aLst, e_mkTup, e_mkLst, e_optS, e_toB, e_mAnd, e_mOr, e_mNot, e_mIf, e_toS, e_sbind, e_sbindR, e_sSeq, e_sNext, e_sIf, e_sSet, e_sOwn, e_sRet, e_sExpr, e_sAsg, e_tName, e_tTup, e_tNil, e_tCons, e_tSub, e_toR, e_toRn, u_lt, u_le, u_gt, u_ge, u_add, u_sub, u_lenL, u_lenT, g_intI, List.getElem?_cons_zero, List.getElem?_cons_succ, List.set_cons_zero, List.set_cons_succ, List.length_cons, List.length_nil, List.map_cons, List.map_nil, List.replicate, List.cons_append, List.nil_append, Option.bind_some, Nat.zero_add, Nat.reduceAdd, Nat.reduceSub, Nat.reduceLeDiff]
      rw [e_call c1]
      simp only [e_d1, e_bind, e_mB2, e_dC, e_dVar, e_aNil, e_aCons, e_aTup, e_aLst, e_mkTup, e_mkLst, e_optS, e_toB, e_mAnd, e_mOr, e_mNot, e_mIf, e_toS, e_sbind, e_sbindR, e_sSeq, e_sNext, e_sIf, e_sSet, e_sOwn, e_sRet, e_sExpr, e_sAsg, e_tName, e_tTup, e_tNil, e_tCons, e_tSub, e_toR, e_toRn, u_lt, u_le, u_gt, u_ge, u_add, u_sub, u_lenL, u_lenT, g_intI, List.getElem?_cons_zero, List.getElem?_cons_succ, List.set_cons_zero, List.set_cons_succ, List.length_cons, List.length_nil, List.map_cons, List.map_nil, List.replicate, List.cons_append, List.nil_append, Option.bind_some, Nat.zero_add, Nat.reduceAdd, Nat.reduceSub, Nat.reduceLeDiff, Bool.not_true, Bool.false_eq_true, if_false]
      rw [e_call c2]
      simp only [e_d1, e_bind, e_mB2, e_dC, e_dVar, e_aNil, e_aCons, e_aTup, e_aLst, e_mkTup, e_mkLst, e_optS, e_toB, e_mAnd, e_mOr, e_mNot, e_mIf, e_toS, e_sbind, e_sbindR, e_sSeq, e_sNext, e_sIf, e_sSet, e_sOwn, e_sRet, e_sExpr, e_sAsg, e_tName, e_tTup, e_tNil, e_tCons, e_tSub, e_toR, e_toRn, u_lt, u_le, u_gt, u_ge, u_add, u_sub, u_lenL, u_lenT, g_intI, List.getElem?_cons_zero, List.getElem?_cons_succ, List.set_cons_zero, List.set_cons_succ, List.length_cons, List.length_nil, List.map_cons, List.map_nil, List.replicate, List.cons_append, List.nil_append, Option.bind_some, Nat.zero_add, Nat.reduceAdd, Nat.reduceSub, Nat.reduceLeDiff, Bool.not_true, Bool.false_eq_true, if_false])
  exact ⟨x2, x3, e⟩
theorem init_held {kvs : Tb} (h : TbOk kvs) {w : Wd} {self : Dt} {x2 x3 : Slot} : ∃ x2', mDc [2] (d1 (d1 (aCons (dVar 1) aNil) gSorted) iterD) (tName 2) (d1 (mB2 (mB2 (dVar 1) (dVar 2) (getU ow0)) (dC (.int 0)) gtU) toB) (dVar 2) (mB2 (dVar 1) (dVar 2) (getU ow0)) ⟨[.shr self, .shr (.dic kvs.d), x2, x3], w⟩ =
    .ok (.dic kvs.held.d) ⟨[.shr self, .shr (.dic kvs.d), x2', x3], w⟩ := by
  have hnd := sortS_nd h.nd
  have hlen : (sortS (kvs.map (·.1))).length < 64 := by rw [sortS_len, List.length_map]; exact h.ln
  obtain ⟨ys, st', e2, x2', rfl, rfl⟩ := dcGo_ok (vs := [2]) (tg := tName 2) (tt := (d1 (mB2 (mB2 (dVar 1) (dVar 2) (getU ow0)) (dC (.int 0)) gtU) toB)) (tk := dVar 2) (tv := (mB2 (dVar 1) (dVar 2) (getU ow0)))
    (fun k acc st => ∃ x2 : Slot, st = ⟨[.shr self, .shr (.dic kvs.d), x2, x3], w⟩ ∧ acc = Tb.d ((((sortS (kvs.map (·.1))).take k).map fun k => (k, kvs.get k)).filter fun kv => decide (0 < kv.2)))
    ((sortS (kvs.map (·.1))).map Dt.str) [] 0 ⟨[.shr self, .shr (.dic kvs.d), x2, x3], w⟩ ⟨x2, rfl, rfl⟩ (by rw [List.length_nil, List.length_map]; exact Nat.lt_of_lt_of_le (show 0 + _ < 1000 by omega) (by decide)) (by
      rintro k d acc st hk ⟨x2, rfl, rfl⟩
      rw [Nat.zero_add]
      have hk8 : k < (sortS (kvs.map (·.1))).length := by
        have := (List.getElem?_eq_some_iff.mp hk).1
        simpa using this
      obtain ⟨z, hz⟩ : ∃ z, z = (sortS (kvs.map (·.1)))[k]'hk8 := ⟨_, rfl⟩
      have ed : d = .str z := by
        rw [List.getElem?_map, List.getElem?_eq_getElem hk8] at hk
        rw [hz]
        exact (Option.some.inj hk).symm
      subst ed
      have hmem : z ∈ kvs.map (·.1) := sortS_mem.mp (by rw [hz]; exact List.getElem_mem hk8)
      have g : ∀ st : DS, getU ow0 (.dic kvs.d) (.str z) st = .ok (.int (kvs.get z)) st := fun st => u_getD hmem
      have htk : (sortS (kvs.map (·.1))).take (k + 1) = (sortS (kvs.map (·.1))).take k ++ [z] := by
        rw [List.take_succ_eq_append_getElem hk8, hz]
      refine ⟨_, decide (0 < kvs.get z), ⟨[.shr self, .shr (.dic kvs.d), .shr (.str z), x3], w⟩, rfl, ?_, fun q => ⟨_, rfl, ?_⟩, fun q => ⟨.str z, .int (kvs.get z), ⟨[.shr self, .shr (.dic kvs.d), .shr (.str z), x3], w⟩, ⟨[.shr self, .shr (.dic kvs.d), .shr (.str z), x3], w⟩, ?_, ?_, rfl, ?_, _, rfl, ?_⟩⟩
      · simp only [wipeS, e_d1, e_bind, e_mB2, e_dC, e_dVar, e_aNil, e_aCons, e_aTup, e_aLst, e_mkTup, e_mkLst, e_optS, e_toB, e_mAnd, e_mOr, e_mNot, e_mIf, e_toS, e_sbind, e_sbindR, e_sSeq, e_sNext, e_sIf, e_sSet, e_sOwn, e_sRet, e_sExpr, e_sAsg, e_tName, e_tTup, e_tNil, e_tCons, e_tSub, e_toR, e_toRn, u_lt, u_le, u_gt, u_ge, u_add, u_sub, u_lenL, u_lenT, g_intI, List.getElem?_cons_zero, List.getElem?_cons_succ, List.set_cons_zero, List.set_cons_succ, List.length_cons, List.length_nil, List.map_cons, List.map_nil, List.replicate, List.cons_append, List.nil_append, Option.bind_some, Nat.zero_add, Nat.reduceAdd, Nat.reduceSub, Nat.reduceLeDiff, g]
      · rw [htk, List.map_append, List.filter_append, List.map_cons, List.map_nil, List.filter_cons_of_neg (by rw [q]; exact Bool.false_ne_true), List.filter_nil, List.append_nil]
      · rfl
      · simp only [e_d1, e_bind, e_mB2, e_dC, e_dVar, e_aNil, e_aCons, e_aTup, e_aLst, e_mkTup, e_mkLst, e_optS, e_toB, e_mAnd, e_mOr, e_mNot, e_mIf, e_toS, e_sbind, e_sbindR, e_sSeq, e_sNext, e_sIf, e_sSet, e_sOwn, e_sRet, e_sExpr, e_sAsg, e_tName, e_tTup, e_tNil, e_tCons, e_tSub, e_toR, e_toRn, u_lt, u_le, u_gt, u_ge, u_add, u_sub, u_lenL, u_lenT, g_intI, List.getElem?_cons_zero, List.getElem?_cons_succ, List.set_cons_zero, List.set_cons_succ, List.length_cons, List.length_nil, List.map_cons, List.map_nil, List.replicate, List.cons_append, List.nil_append, Option.bind_some, Nat.zero_add, Nat.reduceAdd, Nat.reduceSub, Nat.reduceLeDiff, g]
      · unfold putD
        split
        · rw [List.length_map]; omega
        · rw [List.length_append]; exact Nat.le_refl _
      · rw [htk, List.map_append, List.filter_append, List.map_cons, List.map_nil, List.filter_cons_of_pos (by exact q), List.filter_nil]
        refine putD_new fun hm => ?_
        obtain ⟨p, hp, ep⟩ := List.mem_map.mp hm
        obtain ⟨y, hy, ey⟩ := List.mem_map.mp (List.mem_filter.mp hp).1
        have : z ∈ (sortS (kvs.map (·.1))).take k := by rw [← ep, ← ey]; exact hy
        have hn : ((sortS (kvs.map (·.1))).take (k + 1)).Nodup := hnd.sublist (List.take_sublist _ _)
        rw [htk] at hn
        exact (List.nodup_append.mp hn).2.2 z this z (List.mem_singleton.mpr rfl) rfl)
  rw [List.length_map, Nat.zero_add, List.take_length] at e2
  refine ⟨shrOf (some x2), ?_⟩
  unfold mDc
  have it : (d1 (d1 (aCons (dVar 1) aNil) gSorted) iterD) ⟨[.shr self, .shr (.dic kvs.d), x2, x3], w⟩ = .ok ((sortS (kvs.map (·.1))).map Dt.str) ⟨[.shr self, .shr (.dic kvs.d), x2, x3], w⟩ := by
    simp only [e_d1, e_bind, e_mB2, e_dC, e_dVar, e_aNil, e_aCons, e_aTup, e_aLst, e_mkTup, e_mkLst, e_optS, e_toB, e_mAnd, e_mOr, e_mNot, e_mIf, e_toS, e_sbind, e_sbindR, e_sSeq, e_sNext, e_sIf, e_sSet, e_sOwn, e_sRet, e_sExpr, e_sAsg, e_tName, e_tTup, e_tNil, e_tCons, e_tSub, e_toR, e_toRn, u_lt, u_le, u_gt, u_ge, u_add, u_sub, u_lenL, u_lenT, g_intI, List.getElem?_cons_zero, List.getElem?_cons_succ, List.set_cons_zero, List.set_cons_succ, List.length_cons, List.length_nil, List.map_cons, List.map_nil, List.replicate, List.cons_append, List.nil_append, Option.bind_some, Nat.zero_add, Nat.reduceAdd, Nat.reduceSub, Nat.reduceLeDiff, sorted_keys h.ln]
    rfl
  rw [it, e_bind, e2, e_bind]
  rfl
theorem held_nd {kvs : Tb} (h : TbOk kvs) : (kvs.held.map (·.1)).Nodup := by
  unfold Tb.held
  refine ((List.filter_sublist (p := fun kv : Str × Int => decide (0 < kv.2))).map (·.1)).nodup ?_
  rw [List.map_map]
  have : ((·.1) ∘ fun k => ((k, kvs.get k) : Str × Int)) = id := rfl
  rw [this, List.map_id]
  exact sortS_nd h.nd
theorem e_fld {f : Str} {pr : At} {fo fv : M Dt} {st s1 s2 : DS} {y : Dt} {n : Nat} {c : Str} {fs : List (Str × Dt)} (h1 : fv st = .ok y s1) (h2 : fo s1 = .ok (.loc n) s2) (h3 : s2.w[n]? = some (.ins c fs)) (h4 : pr c = some none) (h5 : fs.length < 1000) :
    sFldD f pr fo fv st = .nx ⟨s2.sl, s2.w.set n (.ins c (putFD f y fs))⟩ := by
  unfold sFldD
  rw [h1, e_toS, h2, e_toS]
  dsimp only
  rw [h3]
  dsimp only
  rw [h4]
  dsimp only
  rw [if_pos h5]
theorem e_getA {f : Str} {pr : At} {x : Dt} {st : DS} {c : Str} {fs : List (Str × Dt)} {d : Dt} (h1 : insOf st.w x = some (c, fs)) (h2 : pr c = some none) (h3 : fs.lookup f = some d) : getA f pr x st = .ok d st := by
  unfold getA
  rw [h1]
  dsimp only
  rw [h2]
  dsimp only
  rw [h3]
theorem ins_loc {w : Wd} {c : Str} {fs : List (Str × Dt)} : insOf (w ++ [.ins c fs]) (.loc w.length) = some (c, fs) := by
  unfold insOf
  dsimp only
  rw [at_end rfl]
theorem init_ok {kvs : Tb} (h : TbOk kvs) {w : Wd} : r_init [.loc w.length, .dic kvs.d] (w ++ [.ins "Stock" []]) = .ok .non (w ++ [kvs.held.stock]) := by
  obtain ⟨a2, a3, e1⟩ := init_loop h (w := w ++ [.ins "Stock" []]) (self := .loc w.length)
  obtain ⟨b2, e2⟩ := init_held h (w := w ++ [.ins "Stock" []]) (self := .loc w.length) (x2 := a2) (x3 := a3)
  show (b_init ⟨[.shr (.loc w.length), .shr (.dic kvs.d), .emp, .emp], w ++ [.ins "Stock" []]⟩).toR = _
  unfold b_init
  have it : (d1 (dVar 1) (valsD pairD)) ⟨[.shr (.loc w.length), .shr (.dic kvs.d), .emp, .emp], w ++ [.ins "Stock" []]⟩ = .ok (kvs.d.map pairD) ⟨[.shr (.loc w.length), .shr (.dic kvs.d), .emp, .emp], w ++ [.ins "Stock" []]⟩ := by
    simp only [e_d1, e_bind, e_mB2, e_dC, e_dVar, e_aNil, e_aCons, e_aTup, e_aLst, e_mkTup, e_mkLst, e_optS, e_toB, e_mAnd, e_mOr, e_mNot, e_mIf, e_toS, e_sbind, e_sbindR, e_sSeq, e_sNext, e_sIf, e_sSet, e_sOwn, e_sRet, e_sExpr, e_sAsg, e_tName, e_tTup, e_tNil, e_tCons, e_tSub, e_toR, e_toRn, u_lt, u_le, u_gt, u_ge, u_add, u_sub, u_lenL, u_lenT, g_intI, List.getElem?_cons_zero, List.getElem?_cons_succ, List.set_cons_zero, List.set_cons_succ, List.length_cons, List.length_nil, List.map_cons, List.map_nil, List.replicate, List.cons_append, List.nil_append, Option.bind_some, Nat.zero_add, Nat.reduceAdd, Nat.reduceSub, Nat.reduceLeDiff]
    show (if kvs.d.all (fun kv => isKey kv.1) then _ else _ : M (List Dt)) _ = _
    rw [if_pos kvs.keys]
  rw [e_sSeq]
  unfold sFor
  rw [it, e_toS, e1, e_sbind, e_sSeq, e_fld (fo := dVar 0) (s2 := ⟨[.shr (.loc w.length), .shr (.dic kvs.d), b2, a3], w ++ [.ins "Stock" []]⟩) (y := .dic kvs.held.d) (n := w.length) (c := "Stock") (fs := []) e2 rfl (at_end rfl) (by rfl) (by decide), e_sbind, set_end rfl]
  have g : ∀ (sl : List Slot), getA "held" at_held (.loc w.length) ⟨sl, w ++ [.ins "Stock" (putFD "held" (.dic kvs.held.d) [])]⟩ = .ok (.dic kvs.held.d) ⟨sl, w ++ [.ins "Stock" (putFD "held" (.dic kvs.held.d) [])]⟩ := fun sl =>
    e_getA ins_loc (by rfl) (by rfl)
  have e5 : (aTup (aCons (d1 (d1 (dVar 0) (getA "held" at_held)) fun x => opt (sumV x)) (aCons (d1 (d1 (dVar 0) (getA "held" at_held)) fun x => opt (tupI x)) aNil))) ⟨[.shr (.loc w.length), .shr (.dic kvs.d), b2, a3], w ++ [.ins "Stock" (putFD "held" (.dic kvs.held.d) [])]⟩ =
      .ok (.tup [.int (kvs.held.map (·.2)).sum, .tup kvs.held.prs]) ⟨[.shr (.loc w.length), .shr (.dic kvs.d), b2, a3], w ++ [.ins "Stock" (putFD "held" (.dic kvs.held.d) [])]⟩ := by
    simp only [e_d1, e_bind, e_mB2, e_dC, e_dVar, e_aNil, e_aCons, e_aTup, e_aLst, e_mkTup, e_mkLst, e_optS, e_toB, e_mAnd, e_mOr, e_mNot, e_mIf, e_toS, e_sbind, e_sbindR, e_sSeq, e_sNext, e_sIf, e_sSet, e_sOwn, e_sRet, e_sExpr, e_sAsg, e_tName, e_tTup, e_tNil, e_tCons, e_tSub, e_toR, e_toRn, u_lt, u_le, u_gt, u_ge, u_add, u_sub, u_lenL, u_lenT, g_intI, List.getElem?_cons_zero, List.getElem?_cons_succ, List.set_cons_zero, List.set_cons_succ, List.length_cons, List.length_nil, List.map_cons, List.map_nil, List.replicate, List.cons_append, List.nil_append, Option.bind_some, Nat.zero_add, Nat.reduceAdd, Nat.reduceSub, Nat.reduceLeDiff, g, sumV_tb, tupI_tb]
  rw [e_fld (fo := dVar 0) (s2 := ⟨[.shr (.loc w.length), .shr (.dic kvs.d), b2, a3], w ++ [.ins "Stock" (putFD "held" (.dic kvs.held.d) [])]⟩) (y := .tup [.int (kvs.held.map (·.2)).sum, .tup kvs.held.prs]) (n := w.length) (c := "Stock") (fs := putFD "held" (.dic kvs.held.d) []) e5 rfl (at_end rfl) (by rfl) (by show 1 < 1000; decide), set_end rfl, e_toRn]
  rfl
def mkT : Ow := fun c => if c = "Stock" then some r_init else none
theorem clo_stock (n : Nat) (hs : Tb) : clo n hs.stock = true := by
  unfold Tb.stock
  simp only [clo, cloF, clos, cloK_tb, clos_prs, Bool.and_true]
theorem init_made {kvs : Tb} (h : TbOk kvs) {sl : List Slot} {w : Wd} (hc : clos w.length w = true) : initM "Stock" r_init [.dic kvs.d] ⟨sl, w⟩ = .ok kvs.held.stock ⟨sl, w⟩ := by
  unfold initM
  dsimp only
  rw [init_ok h]
  dsimp only
  rw [at_end rfl]
  show (if _ then _ else _ : Out Dt) = _
  rw [if_pos ⟨by rw [List.length_append]; rfl, by rw [clos_app, hc, clos, clo_stock]; rfl⟩]
  rw [List.take_left' rfl]
  rfl
theorem not_self {l : List Nat} (h : isRes l = false) : (tx l : Str) ≠ "self" := fun e => by
  unfold isRes at h
  rw [e] at h
  exact absurd h (by decide +kernel)
theorem of_comp {kvs : Tb} (h : TbOk kvs) {w : Wd} {c : Dt} : ∃ ys : List Dt, mLc [2, 3] (d1 (dVar 1) (valsD pairD)) (tTupT 2 (tCons (tName 2) (tCons (tName 3) tNil))) mYes (vAnd (d1 (aCons (dVar 2) aNil) (callM r_is_name)) (d1 (aCons (dVar 3) aNil) (callM r_is_amount))) ⟨[.shr c, .shr (.dic kvs.d), .emp, .emp], w⟩ =
    .ok (.lst (List.replicate kvs.length (Dt.bl true))) ⟨[.shr c, .shr (.dic kvs.d), .emp, .emp], w⟩ := by
  refine ⟨[], ?_⟩
  obtain ⟨ys, st', e2, x2, x3, rfl, rfl⟩ := lcGo_ok (vs := [2, 3]) (tg := (tTupT 2 (tCons (tName 2) (tCons (tName 3) tNil)))) (tt := mYes) (te := (vAnd (d1 (aCons (dVar 2) aNil) (callM r_is_name)) (d1 (aCons (dVar 3) aNil) (callM r_is_amount))))
    (fun k acc st => ∃ x2 x3 : Slot, st = ⟨[.shr c, .shr (.dic kvs.d), x2, x3], w⟩ ∧ acc = List.replicate k (Dt.bl true))
    (kvs.d.map pairD) [] 0 ⟨[.shr c, .shr (.dic kvs.d), .emp, .emp], w⟩ ⟨.emp, .emp, rfl, rfl⟩ (by
      have := h.ln
      rw [List.length_nil, List.length_map]
      unfold Tb.d
      rw [List.length_map]
      exact Nat.lt_of_lt_of_le (show 0 + kvs.length < 1000 by omega) (by decide)) (by
      rintro k d acc st hk ⟨x2, x3, rfl, rfl⟩
      obtain ⟨kv, hkv, rfl⟩ : ∃ kv ∈ kvs, d = .tup [.str kv.1, .int kv.2] := by
        obtain ⟨p, hp, e⟩ := List.mem_map.mp (List.mem_of_getElem? hk)
        obtain ⟨kv, hkv, e2⟩ := List.mem_map.mp hp
        exact ⟨kv, hkv, by rw [← e, ← e2]; rfl⟩
      obtain ⟨l, el, hl⟩ := h.nm kv hkv
      have c1 : r_is_name [.str kv.1] w = .ok (.bl true) w := by rw [el]; exact is_name_ok hl
      have c2 : r_is_amount [.int kv.2] w = .ok (.bl true) w := by rw [is_amount_int, decide_eq_true (h.v0 kv hkv), decide_eq_true (h.v1 kv hkv)]; rfl
      refine ⟨_, true, ⟨[.shr c, .shr (.dic kvs.d), .shr (.str kv.1), .shr (.int kv.2)], w⟩, rfl, rfl, (fun q => by cases q), fun _ => ⟨.bl true, ⟨[.shr c, .shr (.dic kvs.d), .shr (.str kv.1), .shr (.int kv.2)], w⟩, ?_, _, _, rfl, ?_⟩⟩
      · have e1 : (d1 (aCons (dVar 2) aNil) (callM r_is_name)) ⟨[.shr c, .shr (.dic kvs.d), .shr (.str kv.1), .shr (.int kv.2)], w⟩ = .ok (.bl true) ⟨[.shr c, .shr (.dic kvs.d), .shr (.str kv.1), .shr (.int kv.2)], w⟩ := by
          simp only [e_d1, e_bind, e_mB2, e_dC, e_dVar, e_aNil, e_aCons, e_aTup, e_aLst, e_mkTup, e_mkLst, e_optS, e_toB, e_mAnd, e_mOr, e_mNot, e_mIf, e_toS, e_sbind, e_sbindR, e_sSeq, e_sNext, e_sIf, e_sSet, e_sOwn, e_sRet, e_sExpr, e_sAsg, e_tName, e_tTup, e_tNil, e_tCons, e_tSub, e_toR, e_toRn, u_lt, u_le, u_gt, u_ge, u_add, u_sub, u_lenL, u_lenT, g_intI, List.getElem?_cons_zero, List.getElem?_cons_succ, List.set_cons_zero, List.set_cons_succ, List.length_cons, List.length_nil, List.map_cons, List.map_nil, List.replicate, List.cons_append, List.nil_append, Option.bind_some, Nat.zero_add, Nat.reduceAdd, Nat.reduceSub, Nat.reduceLeDiff]
          rw [e_call c1]
        show vAnd _ _ ⟨[.shr c, .shr (.dic kvs.d), .shr (.str kv.1), .shr (.int kv.2)], w⟩ = _
        rw [e_vAnd e1, if_pos rfl]
        simp only [e_d1, e_bind, e_mB2, e_dC, e_dVar, e_aNil, e_aCons, e_aTup, e_aLst, e_mkTup, e_mkLst, e_optS, e_toB, e_mAnd, e_mOr, e_mNot, e_mIf, e_toS, e_sbind, e_sbindR, e_sSeq, e_sNext, e_sIf, e_sSet, e_sOwn, e_sRet, e_sExpr, e_sAsg, e_tName, e_tTup, e_tNil, e_tCons, e_tSub, e_toR, e_toRn, u_lt, u_le, u_gt, u_ge, u_add, u_sub, u_lenL, u_lenT, g_intI, List.getElem?_cons_zero, List.getElem?_cons_succ, List.set_cons_zero, List.set_cons_succ, List.length_cons, List.length_nil, List.map_cons, List.map_nil, List.replicate, List.cons_append, List.nil_append, Option.bind_some, Nat.zero_add, Nat.reduceAdd, Nat.reduceSub, Nat.reduceLeDiff]
        rw [e_call c2]
      · rw [Nat.zero_add, List.replicate_succ'])
  have hl : (kvs.d.map pairD).length = kvs.length := by
    rw [List.length_map]; unfold Tb.d; rw [List.length_map]
  rw [hl, Nat.zero_add] at e2
  unfold mLc
  have it : (d1 (dVar 1) (valsD pairD)) ⟨[.shr c, .shr (.dic kvs.d), .emp, .emp], w⟩ = .ok (kvs.d.map pairD) ⟨[.shr c, .shr (.dic kvs.d), .emp, .emp], w⟩ := by
    simp only [e_d1, e_bind, e_mB2, e_dC, e_dVar, e_aNil, e_aCons, e_aTup, e_aLst, e_mkTup, e_mkLst, e_optS, e_toB, e_mAnd, e_mOr, e_mNot, e_mIf, e_toS, e_sbind, e_sbindR, e_sSeq, e_sNext, e_sIf, e_sSet, e_sOwn, e_sRet, e_sExpr, e_sAsg, e_tName, e_tTup, e_tNil, e_tCons, e_tSub, e_toR, e_toRn, u_lt, u_le, u_gt, u_ge, u_add, u_sub, u_lenL, u_lenT, g_intI, List.getElem?_cons_zero, List.getElem?_cons_succ, List.set_cons_zero, List.set_cons_succ, List.length_cons, List.length_nil, List.map_cons, List.map_nil, List.replicate, List.cons_append, List.nil_append, Option.bind_some, Nat.zero_add, Nat.reduceAdd, Nat.reduceSub, Nat.reduceLeDiff]
    show (if kvs.d.all (fun kv => isKey kv.1) then _ else _ : M (List Dt)) _ = _
    rw [if_pos kvs.keys]
  rw [it, e_bind, e2, e_bind]
  rfl
end B
end
section
set_option maxRecDepth 100000
set_option maxHeartbeats 4000000
namespace B
open PySem L2
def b_kinds : MS := (sRet (d1 (aCons (d1 (dVar 0) (getA "held" at_held)) aNil) gTuple))
def r_kinds : FnM := runB 1 1 b_kinds
theorem stock_held {hs : Tb} {st : DS} : getA "held" at_held hs.stock st = .ok (.dic hs.d) st := e_getA (c := "Stock") (fs := [("held", .dic hs.d), ("order", .tup [.int (hs.map (·.2)).sum, .tup hs.prs])]) (by rfl) (by rfl) (by rfl)
theorem kinds_ok {hs : Tb} {w : Wd} : r_kinds [hs.stock] w = .ok (.tup (hs.map fun kv => Dt.str kv.1)) w := by
  show (b_kinds ⟨[.shr hs.stock], w⟩).toR = _
  unfold b_kinds
  have g : ∀ st : DS, gTuple [.dic hs.d] st = .ok (.tup (hs.map fun kv => Dt.str kv.1)) st := fun st => by
    show (opt ((none : Option Dt).or (tupK (.dic hs.d))) : M Dt) st = _
    rw [tupK_tb]; rfl
  simp only [e_d1, e_bind, e_mB2, e_dC, e_dVar, e_aNil, e_aCons, e_aTup, e_aLst, e_mkTup, e_mkLst, e_optS, e_toB, e_mAnd, e_mOr, e_mNot, e_mIf, e_toS, e_sbind, e_sbindR, e_sSeq, e_sNext, e_sIf, e_sSet, e_sOwn, e_sRet, e_sExpr, e_sAsg, e_tName, e_tTup, e_tNil, e_tCons, e_tSub, e_toR, e_toRn, u_lt, u_le, u_gt, u_ge, u_add, u_sub, u_lenL, u_lenT, g_intI, List.getElem?_cons_zero, List.getElem?_cons_succ, List.set_cons_zero, List.set_cons_succ, List.length_cons, List.length_nil, List.map_cons, List.map_nil, List.replicate, List.cons_append, List.nil_append, Option.bind_some, Nat.zero_add, Nat.reduceAdd, Nat.reduceSub, Nat.reduceLeDiff, stock_held, g]
def b_contains : MS :=
  (sRet (vAnd (d1 (aCons (dVar 1) (aCons (dC (.ty "str")) aNil)) (gIsi isB)) (mB2 (dVar 1) (d1 (dVar 0) (getA "held" at_held)) (inU ow0))))
def r_contains : FnM := runB 2 2 b_contains
theorem u_inD {hs : Tb} {z : Str} {st : DS} : inU ow0 (.str z) (.dic hs.d) st = .ok (.bl (decide (z ∈ hs.map (·.1)))) st := by
  have e : diB st.w (.str z) (.dic hs.d) = some (decide (z ∈ hs.map (·.1))) := by
    have hg := Tb.getK hs z
    cases hs with
    | nil => rfl
    | cons kv kvs =>
      show (if isKey (.str z) && isKey (.str kv.1) then some (B.getK (Tb.d (kv :: kvs)) (.str z)).isSome else none) = _
      rw [hg]
      show some _ = _
      congr 1
      by_cases h : z ∈ (kv :: kvs).map (·.1)
      · rw [Tb.find_mem h, decide_eq_true h]; rfl
      · rw [decide_eq_false h]
        have : ((kv :: kvs).find? fun p => p.1 == z) = none := List.find?_eq_none.mpr fun p hp q => h (List.mem_map.mpr ⟨p, hp, beq_iff_eq.mp q⟩)
        rw [this]; rfl
  show (opt ((none : Option Dt).or (((diB st.w (.str z) (.dic hs.d)).map fun b => Dt.bl (if false then !b else b)).or _)) : M Dt) st = _
  rw [e]; rfl
def ow_contains : Ow := fun c => if c = "Stock" then some r_contains else none
def b_getitem : MS :=
  (sRet (mIf (d1 (mB2 (dVar 1) (dVar 0) (inU ow_contains)) toB) (mB2 (d1 (dVar 0) (getA "held" at_held)) (dVar 1) (getU ow0)) (dC (.int 0))))
def r_getitem : FnM := runB 2 2 b_getitem
def ow_getitem : Ow := fun c => if c = "Stock" then some r_getitem else none
end B
end
section
set_option maxRecDepth 100000
set_option maxHeartbeats 4000000
namespace B
open PySem L2
theorem name_lay {l : List Nat} (h : ∀ c ∈ l, 97 ≤ c ∧ c < 123) : PyData.canLay0 (.str (tx l)) = true := by
  unfold PyData.canLay0
  show (⟨l⟩ : Array Nat).all (· < 0x110000) = true
  rw [← Array.all_toList]
  exact List.all_eq_true.mpr fun c hc => decide_eq_true (by have := h c hc; omega)
end B
end
section
set_option maxRecDepth 100000
set_option maxHeartbeats 4000000
namespace B
open PySem L2
def at_kinds : At := fun c => if c = "Stock" then some (some r_kinds) else none
end B
end
section
set_option maxRecDepth 100000
set_option maxHeartbeats 4000000
namespace B
open PySem L2
theorem goOut_ok {i : Nat} {sl : List Slot} {w' : Wd} {d' : Dt} {n : Nat} (hi : i < sl.length) (hw : w'.length = n) (c1 : clos n w' = true) (c2 : clo n d' = true) (c4 : (sl.set i .emp).all (sloC n) = true) :
    goOut i n ⟨sl.set i (.shr (.loc n)), w' ++ [d']⟩ = some ⟨sl.set i (.own d'), w'⟩ := by
  unfold goOut
  rw [show (DS.mk (sl.set i (.shr (.loc n))) (w' ++ [d'])).w[n]? = some d' from at_end hw.symm]
  dsimp only
  rw [if_pos, List.set_set, List.take_left' hw]
  refine ⟨by rw [List.length_append, hw]; rfl, ?_, ?_, ?_⟩
  · rw [List.getElem?_set_self hi]; unfold isLoc; exact decide_eq_true rfl
  · simp only [clos_app, c1, clos, c2, Bool.and_true]
  · rw [List.set_set]; exact c4
theorem peek_gen {i : Nat} {sl : List Slot} {w w' : Wd} {d d' : Dt} {f : MS} (h : sl[i]? = some (.own d))
    (he : f ⟨sl.set i (.shr (.loc w.length)), w ++ [d]⟩ = .nx ⟨sl.set i (.shr (.loc w.length)), w' ++ [d']⟩) (hw : w'.length = w.length)
    (c1 : clos w.length w' = true) (c2 : clo w.length d' = true) (c4 : (sl.set i .emp).all (sloC w.length) = true) :
    sPeek i f ⟨sl, w⟩ = .nx ⟨sl.set i (.own d'), w'⟩ := by
  have hi : i < sl.length := (List.getElem?_eq_some_iff.mp h).1
  have e0 : goIn i ⟨sl, w⟩ = some ⟨sl.set i (.shr (.loc w.length)), w ++ [d]⟩ := by unfold goIn; rw [h]
  unfold sPeek
  rw [e0]
  dsimp only
  rw [he]
  dsimp only
  rw [goOut_ok hi hw c1 c2 c4]
end B
end
section
set_option maxRecDepth 100000
set_option maxHeartbeats 4000000
namespace B
open PySem L2
theorem u_cat {xs ys : List Dt} {st : DS} (h : (xs ++ ys).length ≤ 1000) : addU ow0 (.lst xs) (.lst ys) st = .ok (.lst (xs ++ ys)) st := by
  have e : catL (.lst xs) (.lst ys) = some (.lst (xs ++ ys)) := by
    unfold catL
    dsimp only
    rw [if_pos (by rw [← List.length_append]; exact Nat.le_trans h (by decide))]
  show (opt ((none : Option Dt).or ((none : Option Dt).or ((catL (.lst xs) (.lst ys)).or _))) : M Dt) st = _
  rw [e]; rfl
theorem clos_tape (T : Tape) : clos 1 [T.d] = true := by
  have h : ∀ cs : List Int, clos 1 (cs.map Dt.int) = true := fun cs => by
    induction cs with
    | nil => rfl
    | cons c cs ih => rw [List.map_cons, clos, ih]; rfl
  unfold Tape.d
  simp only [clos, clo, cloK, h, Bool.and_true]
theorem clos_ints (n : Nat) (cs : List Int) : clos n (cs.map Dt.int) = true := by
  induction cs with
  | nil => rfl
  | cons c cs ih => rw [List.map_cons, clos, ih]; rfl
end B
end
section
set_option maxRecDepth 100000
set_option maxHeartbeats 4000000
namespace B
open PySem L2
def putT (kvs : Tb) (k : Str) (v : Int) : Tb := if (kvs.any fun kv => kv.1 == k) = true then kvs.map (fun kv => if kv.1 == k then (kv.1, v) else kv) else kvs ++ [(k, v)]
def Tb.c (kvs : Tb) : List (Str × Dt) := kvs.map fun kv => (kv.1, .int kv.2)
theorem putS_c (kvs : Tb) (k : Str) (v : Int) : putS kvs.c k (.int v) = (putT kvs k v).c := by
  have ha : (Tb.c kvs).any (fun kv => kv.1 == k) = kvs.any (fun kv => kv.1 == k) := by
    unfold Tb.c
    rw [List.any_map]; rfl
  unfold putS putT
  rw [ha]
  split
  · unfold Tb.c
    rw [List.map_map, List.map_map]
    refine List.map_congr_left fun kv _ => ?_
    show (if (kv.1 == k) = true then _ else _) = (fun kv : Str × Int => ((kv.1, Dt.int kv.2) : Str × Dt)) (if (kv.1 == k) = true then (kv.1, v) else kv)
    split <;> rfl
  · unfold Tb.c
    rw [List.map_append]; rfl
theorem d_c (kvs : Tb) : dk kvs.c = kvs.d := by
  unfold dk Tb.c Tb.d
  rw [List.map_map]; rfl
def mrgT (acc more : Tb) : Tb := more.foldl (fun a kv => putT a kv.1 kv.2) acc
theorem mrg_c : ∀ (more acc : Tb), mrgS acc.c more.c = (mrgT acc more).c
  | [], acc => rfl
  | kv :: more, acc => by
    show mrgS (putS acc.c kv.1 (.int kv.2)) (Tb.c more) = _
    rw [putS_c, mrg_c more]; rfl
theorem mrgT_new : ∀ (more acc : Tb), ((acc ++ more).map (·.1)).Nodup → mrgT acc more = acc ++ more
  | [], acc, h => by rw [List.append_nil]; rfl
  | kv :: more, acc, h => by
    have hn : kv.1 ∉ acc.map (·.1) := fun hm => by
      rw [List.map_append, List.nodup_append] at h
      exact h.2.2 kv.1 hm kv.1 (by simp) rfl
    have e : putT acc kv.1 kv.2 = acc ++ [kv] := by
      unfold putT
      rw [if_neg fun q => hn (by
        obtain ⟨p, hm, hk⟩ := List.any_eq_true.mp q
        exact List.mem_map.mpr ⟨p, hm, beq_iff_eq.mp hk⟩)]
    show mrgT (putT acc kv.1 kv.2) more = _
    rw [e, mrgT_new more _ (by rw [List.append_assoc]; exact h), List.append_assoc]
    rfl
end B
end
section
set_option maxRecDepth 100000
set_option maxHeartbeats 4000000
namespace B
open PySem L2
abbrev x8 : Str := tx (List.replicate 8 120)
end B
end
section
set_option maxRecDepth 100000
set_option maxHeartbeats 4000000
namespace B
open PySem L2
def unstr : Dt → Str
  | .str z => z
  | _ => ""
end B
end
section
set_option maxRecDepth 100000
set_option maxHeartbeats 4000000
namespace B
open PySem L2
theorem nmLet_ok {first step : Int} {k : Nat} : 97 ≤ nmLet first step k ∧ nmLet first step k < 123 := by unfold nmLet; omega
theorem res3 (c : Nat) : isRes [98, c, 98] = false := by
  refine Bool.eq_false_iff.mpr fun h => ?_
  unfold isRes at h
  obtain ⟨y, hy, e⟩ := List.any_eq_true.mp h
  have e' := beq_iff_eq.mp e
  subst e'
  have len : (tx [98, c, 98] : Str).length = 3 := rfl
  simp only [List.mem_cons, List.not_mem_nil, or_false] at hy
  rcases hy with q | q | q <;> (rw [q] at len; revert len; decide +kernel)
theorem nmAt_ok {stem : List Nat} {first step way : Int} (N : Nms stem first step way) (k : Nat) : NameOk (nmAt stem first step way k) := by
  have hc := nmLet_ok (first := first) (step := step) (k := k)
  have hl := N.sl
  unfold nmAt
  dsimp only
  split
  · refine ⟨by simp, by simp, res3 _, fun c hm => ?_⟩
    simp only [List.mem_cons, List.not_mem_nil, or_false] at hm
    rcases hm with rfl | rfl | rfl <;> omega
  · rename_i hr
    have ha : ∀ c ∈ nmLet first step k :: stem, 97 ≤ c ∧ c < 123 := fun c hm => by
      rcases List.mem_cons.mp hm with rfl | q
      · exact hc
      · exact N.st c q
    refine ⟨?_, ?_, by simpa using hr, ?_⟩
    · unfold nmBase
      split
      · rw [List.length_cons]; omega
      · split
        · rw [List.length_append, List.length_singleton]; omega
        · rw [List.length_take, List.length_cons]; omega
    · unfold nmBase
      split
      · rw [List.length_cons]; omega
      · split
        · rw [List.length_append, List.length_singleton]; omega
        · rw [List.length_take, List.length_cons]; omega
    · unfold nmBase
      split
      · exact ha
      · split
        · intro c hm
          rcases List.mem_append.mp hm with q | q
          · exact N.st c q
          · rw [List.mem_singleton.mp q]; exact hc
        · exact fun c hm => ha c (List.mem_of_mem_take hm)
theorem TbOk.lay {K : Tb} (h : TbOk K) : ∀ z ∈ K.map (·.1), PyData.canLay0 (.str z) = true := fun z m => by
  obtain ⟨kv, hk, rfl⟩ := List.mem_map.mp m
  obtain ⟨l, e, hl⟩ := h.nm kv hk
  rw [e]; exact name_lay hl.al
theorem held_sub {K : Tb} {kv : Str × Int} (h : kv ∈ K.held) : kv.1 ∈ K.map (·.1) := by
  unfold Tb.held at h
  obtain ⟨k, hk, e⟩ := List.mem_map.mp (List.mem_filter.mp h).1
  rw [← e]; exact sortS_mem.mp hk
end B
end
section
set_option maxRecDepth 100000
set_option maxHeartbeats 4000000
namespace B
open PySem L2
abbrev Tb.ks (a : Tb) : List Str := a.map (·.1)
theorem Tb.get_cons (p : Str × Int) (b : Tb) (z : Str) : Tb.get (p :: b) z = if p.1 = z then p.2 else Tb.get b z := by
  unfold Tb.get
  rw [List.find?_cons]
  by_cases h : p.1 = z
  · rw [if_pos h, beq_iff_eq.mpr h]; rfl
  · rw [if_neg h, beq_eq_false_iff_ne.mpr h]
theorem Tb.get_out {a : Tb} {z : Str} (h : z ∉ a.ks) : a.get z = 0 := by
  unfold Tb.get
  rw [List.find?_eq_none.mpr fun p hp q => h (List.mem_map.mpr ⟨p, hp, beq_iff_eq.mp q⟩)]
  rfl
theorem Tb.get_mem {a : Tb} {z : Str} (h : z ∈ a.ks) : (z, a.get z) ∈ a := by
  have := Tb.find_mem h
  exact List.mem_of_find?_eq_some this
theorem Tb.get_val {a : Tb} {z : Str} {P : Int → Prop} (h0 : P 0) (h : ∀ p ∈ a, P p.2) : P (a.get z) := by
  by_cases q : z ∈ a.ks
  · exact h _ (Tb.get_mem q)
  · rw [Tb.get_out q]; exact h0
theorem Tb.eq_map {a : Tb} (nd : a.ks.Nodup) : a = a.ks.map fun k => (k, a.get k) := by
  unfold Tb.ks
  rw [List.map_map]
  refine (List.map_id a).symm.trans (List.map_congr_left fun p hp => ?_)
  show p = (p.1, a.get p.1)
  rw [Tb.get_of nd hp]
structure Cn (a : Tb) : Prop where
  ok : TbOk a
  srt : a.ks.Pairwise fun x y => leS x y = true
  pos : ∀ p ∈ a, 0 < p.2
theorem Cn.nd {a : Tb} (C : Cn a) : a.ks.Nodup := C.ok.nd
theorem Cn.nn {a : Tb} (C : Cn a) (z : Str) : 0 ≤ a.get z := Tb.get_val (P := fun v => 0 ≤ v) (Int.le_refl 0) fun p hp => C.ok.v0 p hp
theorem Cn.in_iff {a : Tb} (C : Cn a) {z : Str} : z ∈ a.ks ↔ 0 < a.get z := by
  constructor
  · intro h; exact C.pos _ (Tb.get_mem h)
  · intro h
    by_cases q : z ∈ a.ks
    · exact q
    · rw [Tb.get_out q] at h; exact absurd h (by decide)
theorem Cn.keys_ext {a b : Tb} (A : Cn a) (C : Cn b) (h : ∀ k, 0 < a.get k ↔ 0 < b.get k) : a.ks = b.ks := by
  refine List.Perm.eq_of_pairwise (le := fun x y => leS x y = true) (fun x y _ _ h1 h2 => leS_anti x y h1 h2) A.srt C.srt ?_
  exact (List.perm_ext_iff_of_nodup A.nd C.nd).mpr fun k => by rw [A.in_iff, C.in_iff, h k]
theorem Cn.ext {a b : Tb} (A : Cn a) (C : Cn b) (h : ∀ k, a.get k = b.get k) : a = b := by
  rw [Tb.eq_map A.nd, Tb.eq_map C.nd, A.keys_ext C fun k => by rw [h k]]
  exact List.map_congr_left fun k _ => by rw [h k]
theorem held_keysF (D : Tb) : D.held.ks = (sortS D.ks).filter fun k => decide (0 < D.get k) := by
  unfold Tb.held Tb.ks
  rw [List.filter_map, List.map_map]
  exact List.map_id _
theorem held_in {D : Tb} {z : Str} : z ∈ D.held.ks ↔ z ∈ D.ks ∧ 0 < D.get z := by
  rw [held_keysF, List.mem_filter, sortS_mem]
  exact ⟨fun h => ⟨h.1, of_decide_eq_true h.2⟩, fun h => ⟨h.1, decide_eq_true h.2⟩⟩
theorem held_val {D : Tb} {p : Str × Int} (h : p ∈ D.held) : p.2 = D.get p.1 ∧ 0 < p.2 := by
  unfold Tb.held at h
  obtain ⟨hm, hp⟩ := List.mem_filter.mp h
  obtain ⟨k, hk, rfl⟩ := List.mem_map.mp hm
  exact ⟨rfl, of_decide_eq_true hp⟩
theorem held_getA {D : Tb} (h : TbOk D) (z : Str) : D.held.get z = D.get z := by
  have nn : 0 ≤ D.get z := Tb.get_val (P := fun v => 0 ≤ v) (Int.le_refl 0) fun p hp => h.v0 p hp
  by_cases q : z ∈ D.held.ks
  · exact (held_val (Tb.get_mem q)).1
  · rw [Tb.get_out q]
    by_cases q2 : z ∈ D.ks
    · have : ¬ 0 < D.get z := fun hp => q (held_in.mpr ⟨q2, hp⟩)
      omega
    · rw [Tb.get_out q2]
theorem held_len (D : Tb) : D.held.length ≤ D.length := by
  have : D.held.ks.length ≤ (sortS D.ks).length := by rw [held_keysF]; exact List.length_filter_le _ _
  rw [sortS_len] at this
  unfold Tb.ks at this
  rw [List.length_map, List.length_map] at this
  exact this
theorem held_cn {D : Tb} (h : TbOk D) : Cn D.held := by
  refine ⟨⟨fun p hp => ?_, fun p hp => Int.le_of_lt (held_val hp).2, fun p hp => ?_, held_nd h, Nat.lt_of_le_of_lt (held_len D) h.ln⟩, ?_, fun p hp => (held_val hp).2⟩
  · obtain ⟨kv, hkv, e⟩ := List.mem_map.mp (held_sub hp)
    rw [← e]; exact h.nm kv hkv
  · rw [(held_val hp).1]
    exact Tb.get_val (P := fun v => v ≤ 1000000000000000000) (by decide) fun q hq => h.v1 q hq
  · rw [held_keysF]
    exact List.Pairwise.filter _ (List.pairwise_mergeSort leS_tr (fun x y => leS_tot x y) _)
def sumT (a : Tb) : Int := (a.map (·.2)).sum
theorem sum_ins {k : Str} {v : Int} {g : Str → Int} (hg : g k = 0) : ∀ {L : List Str}, L.Nodup → k ∈ L → (L.map fun z => if k = z then v else g z).sum = v + (L.map g).sum
  | [], _, h => by cases h
  | z :: L, nd, h => by
    rw [List.nodup_cons] at nd
    rw [List.map_cons, List.map_cons, List.sum_cons, List.sum_cons]
    by_cases q : k = z
    · subst q
      rw [if_pos rfl, hg]
      have : (L.map fun z => if k = z then v else g z) = L.map g := List.map_congr_left fun y hy => if_neg (fun (e : k = y) => nd.1 (by rw [e]; exact hy))
      rw [this]; omega
    · rw [if_neg q, sum_ins hg nd.2 ((List.mem_cons.mp h).resolve_left q)]
      omega
theorem sum_zero (L : List Str) : (L.map fun _ => (0 : Int)).sum = 0 := by
  induction L with
  | nil => rfl
  | cons z L ih => rw [List.map_cons, List.sum_cons, ih]; rfl
theorem sum_keys : ∀ {a : Tb} {L : List Str}, a.ks.Nodup → L.Nodup → (∀ z ∈ a.ks, z ∈ L) → (L.map a.get).sum = sumT a
  | [], L, _, _, _ => by
    have : (L.map (Tb.get [])) = L.map fun _ => (0 : Int) := rfl
    rw [this, sum_zero L]; rfl
  | p :: a, L, nd, nl, h => by
    have nd' : p.1 ∉ Tb.ks a ∧ (Tb.ks a).Nodup := List.nodup_cons.mp nd
    have e : L.map (Tb.get (p :: a)) = L.map fun z => if p.1 = z then p.2 else Tb.get a z := List.map_congr_left fun z _ => Tb.get_cons p a z
    rw [e, sum_ins (Tb.get_out nd'.1) nl (h _ List.mem_cons_self), sum_keys nd'.2 nl fun z hz => h z (List.mem_cons_of_mem _ hz)]
    unfold sumT
    rw [List.map_cons, List.sum_cons]
end B
end
section
set_option maxRecDepth 100000
set_option maxHeartbeats 4000000
namespace B
open PySem L2
def isTS : IsT := isC ["Stock"]
def b_single : MS :=
  (sSeq (sIf (mNot (d1 (d1 (aCons (dVar 0) aNil) (callM r_is_name)) toB)) sNever sNext) (sSeq (sIf (mNot (d1 (d1 (aCons (dVar 1) aNil) (callM r_is_amount)) toB)) sNever sNext) (sSeq (sSet 2 (mDic (prCons (dVar 0) (dVar 1) prNil))) (sRet (d1 (dC (.cls "Stock")) fun o => d1 (noX (dVar 2)) fun z => mkKW mkT o z)))))
def r_single : FnM := runB 3 2 b_single
def b_above : MS :=
  (sRet (vAnd (mB2 (d1 (dVar 0) (getA "kinds" at_kinds)) (d1 (dVar 1) (getA "kinds" at_kinds)) (eqU ow0)) (d1 (aCons (mLc [2] (d1 (d1 (dVar 0) (getA "held" at_held)) iterD) (tName 2) mYes (mB2 (mB2 (dVar 0) (dVar 2) (getU ow_getitem)) (mB2 (dVar 1) (dVar 2) (getU ow_getitem)) geU)) aNil) gAllB)))
def r_above : FnM := runB 3 2 b_above
def mt_above : Ow := fun c => if c = "Stock" then some r_above else none
def b_eqS : MS :=
  (sRet (vAnd (d1 (aCons (dVar 1) (aCons (dC (.cls "Stock")) aNil)) (gIsi isTS)) (mB2 (d1 (dVar 0) (getA "order" at_order)) (d1 (dVar 1) (getA "order" at_order)) (eqU ow0))))
def r_eqS : FnM := runB 2 2 b_eqS
def ow_eq : Ow := fun c => if c = "Stock" then some r_eqS else none
def b_total : MS :=
  (sRet (mB2 (d1 (dVar 0) (getA "order" at_order)) (dC (.int 0)) (getU ow0)))
def r_total : FnM := runB 1 1 b_total
def at_total : At := fun c => if c = "Stock" then some (some r_total) else none
def b_boolS : MS :=
  (sRet (d1 (aCons (d1 (dVar 0) (getA "held" at_held)) aNil) (boolV ow0)))
def r_boolS : FnM := runB 1 1 b_boolS
def ow_bool : Ow := fun c => if c = "Stock" then some r_boolS else none
def b_ltS : MS :=
  (sSeq (sIf (mNot (d1 (d1 (aCons (dVar 1) (aCons (dC (.cls "Stock")) aNil)) (gIsi isTS)) toB)) sNever sNext) (sRet (mB2 (d1 (dVar 0) (getA "order" at_order)) (d1 (dVar 1) (getA "order" at_order)) (ltV ow0))))
def r_ltS : FnM := runB 2 2 b_ltS
def ow_lt : Ow := fun c => if c = "Stock" then some r_ltS else none
end B
end
section
set_option maxRecDepth 100000
set_option maxHeartbeats 4000000
namespace B
open PySem L2
theorem restore1 {v : Nat} {sl : List Slot} {x s : Slot} (h : sl[v]? = some s) (hs : shrOf (some s) = s) : restore sl (sl.set v x) [v] = sl := by
  show (sl.set v x).set v (shrOf sl[v]?) = sl
  obtain ⟨h1, h2⟩ := List.getElem?_eq_some_iff.mp h
  rw [List.set_set, h, hs, ← h2]
  exact List.set_getElem_self h1
theorem wipe1 {v : Nat} {sl : List Slot} {x : Slot} : wipeS (sl.set v x) [v] = sl.set v .emp := by
  show (sl.set v x).set v .emp = _
  rw [List.set_set]
theorem lcK_ok {v : Nat} {sl : List Slot} {s : Slot} {w : Wd} {ds : List Dt} {g : Dt → Bool} {h : Dt → Dt} {it : M (List Dt)} {tt : M Bool} {te : M Dt} (hs : sl[v]? = some s) (hso : shrOf (some s) = s) (hit : it ⟨sl, w⟩ = .ok ds ⟨sl, w⟩) (hl : ds.length < 900)
    (htt : ∀ d ∈ ds, tt ⟨sl.set v (.shr d), w⟩ = .ok (g d) ⟨sl.set v (.shr d), w⟩) (hte : ∀ d ∈ ds, g d = true → te ⟨sl.set v (.shr d), w⟩ = .ok (h d) ⟨sl.set v (.shr d), w⟩) :
    mLc [v] it (tName v) tt te ⟨sl, w⟩ = .ok (.lst ((ds.filter g).map h)) ⟨sl, w⟩ := by
  have hv : v < sl.length := (List.getElem?_eq_some_iff.mp hs).1
  have hset : sl = sl.set v sl[v] := (List.set_getElem_self hv).symm
  obtain ⟨ys, st', e2, x, rfl, rfl⟩ := lcGo_ok (vs := [v]) (tg := tName v) (tt := tt) (te := te) (fun k acc st => ∃ x : Slot, st = ⟨sl.set v x, w⟩ ∧ acc = ((ds.take k).filter g).map h) ds [] 0 ⟨sl, w⟩
    ⟨sl[v], by rw [← hset], rfl⟩ (by rw [List.length_nil]; exact Nat.lt_of_lt_of_le (show 0 + ds.length < 1000 by omega) (by decide)) (by
      rintro k d acc st hk ⟨x, rfl, rfl⟩
      have hk8 : k < ds.length := (List.getElem?_eq_some_iff.mp hk).1
      have hd : d ∈ ds := List.mem_of_getElem? hk
      have hd' : ds[k] = d := (List.getElem?_eq_some_iff.mp hk).2
      refine ⟨_, g d, ⟨sl.set v (.shr d), w⟩, rfl, ?_, fun q => ⟨_, rfl, ?_⟩, fun q => ⟨h d, ⟨sl.set v (.shr d), w⟩, hte d hd q, _, rfl, ?_⟩⟩
      · show tt ⟨(wipeS (sl.set v x) [v]).set v (.shr d), w⟩ = _
        rw [wipe1, List.set_set]
        exact htt d hd
      · rw [Nat.zero_add, List.take_succ_eq_append_getElem hk8, List.filter_append, List.filter_cons_of_neg (by rw [hd', q]; exact Bool.false_ne_true), List.filter_nil, List.append_nil]
      · rw [Nat.zero_add, List.take_succ_eq_append_getElem hk8, List.filter_append, List.filter_cons_of_pos (by rw [hd', q]), List.filter_nil, List.map_append, hd']
        rfl)
  rw [Nat.zero_add, List.take_length] at e2
  unfold mLc
  rw [hit, e_bind, e2, e_bind]
  show Out.ok _ (DS.mk (restore sl (sl.set v x) [v]) w) = _
  rw [restore1 hs hso]
section
variable {st : DS} {w : Wd}
theorem iter_tb {a : Tb} : iterD (.dic a.d) st = .ok (a.ks.map Dt.str) st := by
  show (if a.d.all (fun kv => isKey kv.1) then _ else _ : M (List Dt)) st = _
  rw [if_pos a.keys]
  show Out.ok (a.d.map (·.1)) st = _
  unfold Tb.d Tb.ks
  rw [List.map_map, List.map_map]; rfl
theorem stock_order {a : Tb} : getA "order" at_order a.stock st = .ok (.tup [.int (sumT a), .tup a.prs]) st := e_getA (c := "Stock") (fs := [("held", .dic a.d), ("order", .tup [.int (a.map (·.2)).sum, .tup a.prs])]) (by rfl) (by rfl) (by rfl)
theorem stock_kinds {a : Tb} : getA "kinds" at_kinds a.stock st = .ok (.tup (a.map fun kv => Dt.str kv.1)) st := by
  have e1 : getA "kinds" at_kinds a.stock st = noX (callM r_kinds [a.stock]) st := by rfl
  rw [e1]
  exact e_noX (e_call kinds_ok)
theorem mk_ok {kvs : Tb} (h : TbOk kvs) {sl : List Slot} {w : Wd} (hc : clos w.length w = true) : mkKW mkT (.cls "Stock") (.dic kvs.d) ⟨sl, w⟩ = .ok kvs.held.stock ⟨sl, w⟩ := by
  have self : ((kvs.map (·.1)).all fun k => decide (k ≠ ("self" : Str))) = true := List.all_eq_true.mpr fun k hk => by
    obtain ⟨kv, hkv, rfl⟩ := List.mem_map.mp hk
    obtain ⟨l, el, hl⟩ := h.nm kv hkv
    rw [el]
    exact decide_eq_true (not_self hl.nr)
  have em : mkT "Stock" = some r_init := by rfl
  unfold mkKW
  dsimp only
  rw [em]
  dsimp only
  rw [viewD_tb]
  dsimp only
  rw [asStrs_keys]
  dsimp only
  rw [if_pos self]
  exact init_made h hc
theorem mk0_ok {sl : List Slot} {w : Wd} (hc : clos w.length w = true) : mkK0 mkT (.cls "Stock") ⟨sl, w⟩ = .ok (Tb.stock []) ⟨sl, w⟩ := by
  have em : mkT "Stock" = some r_init := by rfl
  unfold mkK0
  dsimp only
  rw [em]
  have h : TbOk [] := ⟨(fun _ h => nomatch h), (fun _ h => nomatch h), (fun _ h => nomatch h), List.nodup_nil, by decide⟩
  have e : Tb.held [] = [] := by unfold Tb.held sortS; simp
  have := init_made h (sl := sl) hc
  rw [e] at this
  exact this
end
theorem ks_len (a : Tb) : a.ks.length = a.length := List.length_map _
theorem Cn.nmk {a : Tb} (A : Cn a) {k : Str} (h : k ∈ a.ks) : ∃ l, k = tx l ∧ NameOk l := by
  obtain ⟨p, hp, rfl⟩ := List.mem_map.mp h
  exact A.ok.nm p hp
end B
end
section
set_option maxRecDepth 100000
set_option maxHeartbeats 4000000
namespace B
open PySem L2
section
variable {a b : Tb} {w : Wd}
theorem Cn.lay (A : Cn a) : ∀ z ∈ a.ks, PyData.canLay0 (.str z) = true := A.ok.lay
end
end B
end
section
set_option maxRecDepth 100000
set_option maxHeartbeats 4000000
namespace B
open PySem L2
def prP (kv : Str × Int) : PyData := .tuple [.str kv.1, .int kv.2]
def ordP (a : Tb) : PyData := .tuple [.int (sumT a), .tuple (a.map prP)]
theorem pyDs_prs (a : Tb) : pyDs a.prs = some (a.map prP) := by
  unfold Tb.prs
  induction a with
  | nil => rfl
  | cons kv a ih =>
    rw [List.map_cons]
    unfold pyDs
    have e : pyD (.tup [.str kv.1, .int kv.2]) = some (prP kv) := by
      unfold pyD pyDs pyDs pyDs pyD; rfl
    rw [e, ih]; rfl
theorem pyD_ord (a : Tb) : pyD (.tup [.int (sumT a), .tup a.prs]) = some (ordP a) := by
  have e1 : pyD (.tup a.prs) = some (.tuple (a.map prP)) := by unfold pyD; rw [pyDs_prs]; rfl
  have e2 : pyD (.int (sumT a)) = some (.int (sumT a)) := by unfold pyD; rfl
  have e3 : pyDs [.int (sumT a), .tup a.prs] = some [.int (sumT a), .tuple (a.map prP)] := by
    unfold pyDs
    rw [e2]
    dsimp only
    unfold pyDs
    rw [e1]
    rfl
  unfold pyD
  rw [e3]; rfl
theorem eqvAll_prs : ∀ a b : Tb, PyData.eqvAll (a.map prP) (b.map prP) = decide (a = b)
  | [], [] => by rfl
  | [], y :: ys => by rfl
  | x :: xs, [] => by rfl
  | x :: xs, y :: ys => by
    rw [List.map_cons, List.map_cons]
    unfold PyData.eqvAll
    rw [eqvAll_prs xs ys]
    have e : PyData.eqv (prP x) (prP y) = decide (x = y) := by
      unfold prP PyData.eqv PyData.eqvAll PyData.eqvAll PyData.eqvAll PyData.eqv
      rw [Bool.eq_iff_iff]
      simp only [Bool.and_eq_true, beq_iff_eq, decide_eq_true_eq, Bool.and_true]
      constructor
      · rintro ⟨h1, h2⟩; exact Prod.ext h1 h2
      · rintro rfl; exact ⟨rfl, rfl⟩
    rw [e, Bool.eq_iff_iff]
    simp only [Bool.and_eq_true, decide_eq_true_eq, List.cons.injEq]
theorem eqv_ord (a b : Tb) : PyData.eqv (ordP a) (ordP b) = decide (a = b) := by
  have e1 : PyData.eqv (.tuple (a.map prP)) (.tuple (b.map prP)) = decide (a = b) := by unfold PyData.eqv; exact eqvAll_prs a b
  have e2 : PyData.eqv (.int (sumT a)) (.int (sumT b)) = (sumT a == sumT b) := by unfold PyData.eqv; rfl
  unfold ordP PyData.eqv PyData.eqvAll
  rw [e2]
  unfold PyData.eqvAll
  rw [e1]
  unfold PyData.eqvAll
  by_cases h : a = b
  · subst h
    simp
  · rw [decide_eq_false h]
    simp
theorem depth_prs (a : Tb) : PyData.depthAll (a.map prP) ≤ 3 := by
  induction a with
  | nil => unfold PyData.depthAll; decide
  | cons kv a ih =>
    rw [List.map_cons]
    unfold PyData.depthAll
    have : PyData.depth (prP kv) ≤ 3 := by
      unfold prP PyData.depth PyData.depthAll PyData.depthAll PyData.depthAll PyData.depth
      decide
    omega
theorem depth_ord (a : Tb) : PyData.depth (ordP a) ≤ 60 := by
  have h := depth_prs a
  have e1 : PyData.depth (.tuple (a.map prP)) ≤ 4 := by unfold PyData.depth; omega
  have e2 : PyData.depth (.int (sumT a)) ≤ 1 := by unfold PyData.depth; decide
  have e3 : PyData.depthAll [.int (sumT a), .tuple (a.map prP)] ≤ 5 := by
    unfold PyData.depthAll PyData.depthAll PyData.depthAll
    omega
  unfold ordP PyData.depth
  omega
theorem lay_prs {a : Tb} (h : ∀ z ∈ a.ks, PyData.canLay0 (.str z) = true) : PyData.canLayAll0 (a.map prP) = true := by
  induction a with
  | nil => rfl
  | cons kv a ih =>
    rw [List.map_cons]
    unfold PyData.canLayAll0
    have e : PyData.canLay0 (prP kv) = true := by
      unfold prP PyData.canLay0 PyData.canLayAll0
      rw [h kv.1 (by unfold Tb.ks; exact List.mem_map.mpr ⟨kv, List.mem_cons_self, rfl⟩)]
      unfold PyData.canLayAll0 PyData.canLayAll0 PyData.canLay0
      rfl
    rw [e, ih fun z hz => h z (List.mem_cons_of_mem _ hz)]; rfl
theorem shaped_ord {a : Tb} (A : Cn a) : SeqAt.shaped (ordP a) = true := by
  unfold SeqAt.shaped
  have e1 : PyData.canLay0 (.tuple (a.map prP)) = true := by unfold PyData.canLay0; exact lay_prs A.lay
  have e2 : PyData.canLay0 (.int (sumT a)) = true := by unfold PyData.canLay0; rfl
  have e3 : PyData.canLay0 (ordP a) = true := by
    unfold ordP PyData.canLay0 PyData.canLayAll0
    rw [e2]
    unfold PyData.canLayAll0
    rw [e1]; rfl
  rw [e3, decide_eq_true (Nat.le_trans (depth_ord a) (by decide))]; rfl
section
variable {a b : Tb} {w : Wd} {st : DS}
theorem ord_eq (A : Cn a) (C : Cn b) : eqU ow0 (.tup [.int (sumT a), .tup a.prs]) (.tup [.int (sumT b), .tup b.prs]) st = .ok (.bl (decide (a = b))) st := by
  have e : eqB (.tup [.int (sumT a), .tup a.prs]) (.tup [.int (sumT b), .tup b.prs]) = some (decide (a = b)) := by
    unfold eqB
    rw [pyD_ord, pyD_ord]
    dsimp only
    rw [shaped_ord A, shaped_ord C, eqv_ord]; rfl
  show (opt ((eqB (.tup [.int (sumT a), .tup a.prs]) (.tup [.int (sumT b), .tup b.prs])).map Dt.bl) : M Dt) st = _
  rw [e]; rfl
theorem total_ok : r_total [a.stock] w = .ok (.int (sumT a)) w := by
  show (b_total ⟨[.shr a.stock], w⟩).toR = _
  unfold b_total
  have g : ∀ st : DS, getU ow0 (.tup [.int (sumT a), .tup a.prs]) (.int 0) st = .ok (.int (sumT a)) st := fun st => u_getT (i := 0) (by decide) rfl
  simp only [e_d1, e_bind, e_mB2, e_dC, e_dVar, e_aNil, e_aCons, e_aTup, e_aLst, e_mkTup, e_mkLst, e_optS, e_toB, e_mAnd, e_mOr, e_mNot, e_mIf, e_toS, e_sbind, e_sbindR, e_sSeq, e_sNext, e_sIf, e_sSet, e_sOwn, e_sRet, e_sExpr, e_sAsg, e_tName, e_tTup, e_tNil, e_tCons, e_tSub, e_toR, e_toRn, u_lt, u_le, u_gt, u_ge, u_add, u_sub, u_lenL, u_lenT, g_intI, List.getElem?_cons_zero, List.getElem?_cons_succ, List.set_cons_zero, List.set_cons_succ, List.length_cons, List.length_nil, List.map_cons, List.map_nil, List.replicate, List.cons_append, List.nil_append, Option.bind_some, Nat.zero_add, Nat.reduceAdd, Nat.reduceSub, Nat.reduceLeDiff, stock_order, g]
theorem stock_total : getA "total" at_total a.stock st = .ok (.int (sumT a)) st := by
  have e1 : getA "total" at_total a.stock st = noX (callM r_total [a.stock]) st := by rfl
  rw [e1]
  exact e_noX (e_call total_ok)
theorem boolS_ok : r_boolS [a.stock] w = .ok (.bl (!a.isEmpty)) w := by
  show (b_boolS ⟨[.shr a.stock], w⟩).toR = _
  unfold b_boolS
  have g : ∀ st : DS, boolV ow0 [.dic a.d] st = .ok (.bl (!a.isEmpty)) st := fun st => by
    show (if a.d.all (fun kv => isKey kv.1) then Out.ok (.bl (!a.d.isEmpty)) st else .stuck : Out Dt) = _
    rw [if_pos a.keys]
    have : a.d.isEmpty = a.isEmpty := by unfold Tb.d; cases a <;> rfl
    rw [this]
  simp only [e_d1, e_bind, e_mB2, e_dC, e_dVar, e_aNil, e_aCons, e_aTup, e_aLst, e_mkTup, e_mkLst, e_optS, e_toB, e_mAnd, e_mOr, e_mNot, e_mIf, e_toS, e_sbind, e_sbindR, e_sSeq, e_sNext, e_sIf, e_sSet, e_sOwn, e_sRet, e_sExpr, e_sAsg, e_tName, e_tTup, e_tNil, e_tCons, e_tSub, e_toR, e_toRn, u_lt, u_le, u_gt, u_ge, u_add, u_sub, u_lenL, u_lenT, g_intI, List.getElem?_cons_zero, List.getElem?_cons_succ, List.set_cons_zero, List.set_cons_succ, List.length_cons, List.length_nil, List.map_cons, List.map_nil, List.replicate, List.cons_append, List.nil_append, Option.bind_some, Nat.zero_add, Nat.reduceAdd, Nat.reduceSub, Nat.reduceLeDiff, stock_held, g]
end
end B
end
section
set_option maxRecDepth 100000
set_option maxHeartbeats 4000000
namespace B
open PySem L2
section
variable {a b c : Tb} {w : Wd} {sl : List Slot}
theorem k_bool : boolV ow_bool [a.stock] ⟨sl, w⟩ = .ok (.bl (!a.isEmpty)) ⟨sl, w⟩ := by
  have e1 : boolV ow_bool [a.stock] ⟨sl, w⟩ = ((callM r_boolS [a.stock] ⟨sl, w⟩).bind toB).bind fun b st' => .ok (.bl b) st' := by rfl
  rw [e1, e_call boolS_ok, e_bind, e_toB, e_bind]
end
end B
end
section
set_option maxRecDepth 100000
set_option maxHeartbeats 4000000
namespace B
open PySem L2
theorem dict_prs (a : Tb) : dicD [.lst a.prs] = some (.dic (mrgT [] a).d) := by
  have e : a.prs = (Tb.c a).map fun kv => Dt.tup [.str kv.1, kv.2] := by unfold Tb.prs Tb.c; rw [List.map_map]; rfl
  unfold dicD
  dsimp only
  rw [e, prsD_dk]
  have := mergeD_dk (Tb.c a) []
  show some (Dt.dic (mergeD [] (dk (Tb.c a)))) = _
  rw [show ([] : List (Dt × Dt)) = dk [] from rfl, this, show ([] : List (Str × Dt)) = Tb.c [] from rfl, mrg_c, d_c]
def singleT (k : Str) (v : Int) : Tb := Tb.held [(k, v)]
section
variable {w : Wd}
theorem singleD_ok {k : Str} {v : Int} (hk : ∃ l, k = tx l ∧ NameOk l) (v0 : 0 ≤ v) (v1 : v ≤ 1000000000000000000) : TbOk [(k, v)] := by
  refine ⟨fun p hp => ?_, fun p hp => ?_, fun p hp => ?_, by simp, by simp⟩
  · rw [List.mem_singleton.mp hp]; exact hk
  · rw [List.mem_singleton.mp hp]; exact v0
  · rw [List.mem_singleton.mp hp]; exact v1
theorem single_ok {k : Str} {v : Int} (hk : ∃ l, k = tx l ∧ NameOk l) (v0 : 0 ≤ v) (v1 : v ≤ 1000000000000000000) (hc : clos w.length w = true) : r_single [.str k, .int v] w = .ok (singleT k v).stock w := by
  show (b_single ⟨[.shr (.str k), .shr (.int v), .emp], w⟩).toR = _
  unfold b_single
  obtain ⟨l, el, hl⟩ := hk
  have c1 : r_is_name [.str k] w = .ok (.bl true) w := by rw [el]; exact is_name_ok hl
  have c2 : r_is_amount [.int v] w = .ok (.bl true) w := by rw [is_amount_int, decide_eq_true v0, decide_eq_true v1]; rfl
  have e3 : mDic (prCons (dVar 0) (dVar 1) prNil) ⟨[.shr (.str k), .shr (.int v), .emp], w⟩ = .ok (.dic (Tb.d [(k, v)])) ⟨[.shr (.str k), .shr (.int v), .emp], w⟩ := by
    rw [e_mDic (ps := [(.str k, .int v)]) (s1 := ⟨[.shr (.str k), .shr (.int v), .emp], w⟩) (by rw [e_prCons]; rfl)]
    rfl
  rw [e_sSeq, e_sIf]
  simp only [e_d1, e_bind, e_mB2, e_dC, e_dVar, e_aNil, e_aCons, e_aTup, e_aLst, e_mkTup, e_mkLst, e_optS, e_toB, e_mAnd, e_mOr, e_mNot, e_mIf, e_toS, e_sbind, e_sbindR, e_sSeq, e_sNext, e_sIf, e_sSet, e_sOwn, e_sRet, e_sExpr, e_sAsg, e_tName, e_tTup, e_tNil, e_tCons, e_tSub, e_toR, e_toRn, u_lt, u_le, u_gt, u_ge, u_add, u_sub, u_lenL, u_lenT, g_intI, List.getElem?_cons_zero, List.getElem?_cons_succ, List.set_cons_zero, List.set_cons_succ, List.length_cons, List.length_nil, List.map_cons, List.map_nil, List.replicate, List.cons_append, List.nil_append, Option.bind_some, Nat.zero_add, Nat.reduceAdd, Nat.reduceSub, Nat.reduceLeDiff]
  rw [e_call c1]
  simp only [e_d1, e_bind, e_mB2, e_dC, e_dVar, e_aNil, e_aCons, e_aTup, e_aLst, e_mkTup, e_mkLst, e_optS, e_toB, e_mAnd, e_mOr, e_mNot, e_mIf, e_toS, e_sbind, e_sbindR, e_sSeq, e_sNext, e_sIf, e_sSet, e_sOwn, e_sRet, e_sExpr, e_sAsg, e_tName, e_tTup, e_tNil, e_tCons, e_tSub, e_toR, e_toRn, u_lt, u_le, u_gt, u_ge, u_add, u_sub, u_lenL, u_lenT, g_intI, List.getElem?_cons_zero, List.getElem?_cons_succ, List.set_cons_zero, List.set_cons_succ, List.length_cons, List.length_nil, List.map_cons, List.map_nil, List.replicate, List.cons_append, List.nil_append, Option.bind_some, Nat.zero_add, Nat.reduceAdd, Nat.reduceSub, Nat.reduceLeDiff, Bool.not_true, Bool.false_eq_true, if_false]
  rw [e_call c2]
  simp only [e_d1, e_bind, e_mB2, e_dC, e_dVar, e_aNil, e_aCons, e_aTup, e_aLst, e_mkTup, e_mkLst, e_optS, e_toB, e_mAnd, e_mOr, e_mNot, e_mIf, e_toS, e_sbind, e_sbindR, e_sSeq, e_sNext, e_sIf, e_sSet, e_sOwn, e_sRet, e_sExpr, e_sAsg, e_tName, e_tTup, e_tNil, e_tCons, e_tSub, e_toR, e_toRn, u_lt, u_le, u_gt, u_ge, u_add, u_sub, u_lenL, u_lenT, g_intI, List.getElem?_cons_zero, List.getElem?_cons_succ, List.set_cons_zero, List.set_cons_succ, List.length_cons, List.length_nil, List.map_cons, List.map_nil, List.replicate, List.cons_append, List.nil_append, Option.bind_some, Nat.zero_add, Nat.reduceAdd, Nat.reduceSub, Nat.reduceLeDiff, Bool.not_true, Bool.false_eq_true, if_false]
  rw [e3]
  simp only [e_toS, e_sbind, List.set_cons_zero, List.set_cons_succ, e_sRet, e_d1, e_dC, e_bind]
  rw [e_noX (f := dVar 2) (a := .dic (Tb.d [(k, v)])) (s1 := ⟨[.shr (.str k), .shr (.int v), .shr (.dic (Tb.d [(k, v)]))], w⟩) rfl]
  rw [e_bind, mk_ok (singleD_ok ⟨l, el, hl⟩ v0 v1) hc]
  rfl
end
end B
end
section
set_option maxRecDepth 100000
set_option maxHeartbeats 4000000
namespace B
open PySem L2
def sortT (g : Tb) : Tb := (sortS g.ks).map fun k => (k, g.get k)
theorem sortT_perm {g : Tb} (nd : g.ks.Nodup) : (sortT g).Perm g := by
  have h := (List.mergeSort_perm g.ks leS).map fun k => (k, g.get k)
  rw [← Tb.eq_map nd] at h
  exact h
theorem lt_pr {p q : Str × Int} (h : p.1 ≠ q.1) : PySem.W.dataLt (prP p) (prP q) = decide (p.1.cps.toList < q.1.cps.toList) := by
  unfold prP
  rw [PySem.W.dataLt_pair (by rfl) (by rfl), if_neg (by
    unfold PyData.eqv
    intro e
    exact h (eq_of_beq e)), PySem.W.dataLt_str]
theorem le_pr {p q : Str × Int} (h : p.1 ≠ q.1) : PySem.W.dataLe false encD (.tup [.str p.1, .int p.2]) (.tup [.str q.1, .int q.2]) = leS p.1 q.1 := by
  rw [PySem.W.dataLe_eq]
  show (!PySem.W.dataLt (prP q) (prP p)) = _
  rw [lt_pr (fun e => h e.symm)]
  rfl
theorem alike_prP (p q : Str × Int) : PySem.W.alike (prP p) (prP q) = true := by
  unfold prP
  rw [PySem.W.alike.eq_6]
  rfl
theorem prs_eq (g : Tb) : g.d.map pairD = g.prs := by
  unfold Tb.d Tb.prs
  rw [List.map_map]
  rfl
theorem sort_prs {g : Tb} (nd : g.ks.Nodup) : g.prs.mergeSort (PySem.W.dataLe false encD) = (sortT g).prs := by
  have perm : (g.prs.mergeSort (PySem.W.dataLe false encD)).Perm g.prs := List.mergeSort_perm _ _
  have perm2 : (sortT g).prs.Perm g.prs := (sortT_perm nd).map _
  have h1 : (g.prs.mergeSort (PySem.W.dataLe false encD)).Pairwise fun a b => PySem.W.dataLe false encD a b = true := PySem.W.sort_pairwise (PySem.W.sortLe_total _ _ _) g.prs
  have h2 : (sortT g).prs.Pairwise fun a b => PySem.W.dataLe false encD a b = true := by
    unfold Tb.prs sortT
    rw [List.map_map, List.pairwise_map]
    have s1 : (sortS g.ks).Pairwise fun a b => leS a b = true := List.pairwise_mergeSort leS_tr leS_tot _
    have s2 : (sortS g.ks).Pairwise fun a b => a ≠ b := sortS_nd nd
    exact (s1.and s2).imp fun {a b} h => (le_pr (p := (a, g.get a)) (q := (b, g.get b)) h.2).trans h.1
  refine List.Perm.eq_of_pairwise (fun a b ha hb l1 l2 => ?_) h1 h2 (perm.trans perm2.symm)
  obtain ⟨p, hp, rfl⟩ := List.mem_map.mp (perm.mem_iff.mp ha)
  obtain ⟨q, hq, rfl⟩ := List.mem_map.mp (perm2.mem_iff.mp hb)
  by_cases e : p.1 = q.1
  · have ep : g.get p.1 = p.2 := Tb.get_of nd hp
    have eq : g.get q.1 = q.2 := Tb.get_of nd hq
    rw [← ep, ← eq, e]
  · rw [le_pr e] at l1
    rw [le_pr (fun z => e z.symm)] at l2
    exact absurd (leS_anti _ _ l1 l2) e
theorem srtI_tb {g : Tb} (nd : g.ks.Nodup) (hl : g.length ≤ 900) : srtI (.dic g.d) = some (.lst (sortT g).prs) := by
  unfold srtI
  rw [viewD_tb, Option.bind_some, prs_eq]
  unfold srtD
  rw [pyDs_prs]
  dsimp only
  rw [if_pos, sort_prs nd]
  · rfl
  rw [Bool.and_eq_true, Bool.and_eq_true, Bool.and_eq_true]
  refine ⟨⟨⟨?_, ?_⟩, ?_⟩, ?_⟩
  · refine List.all_eq_true.mpr fun x hx => List.all_eq_true.mpr fun y hy => ?_
    obtain ⟨p, _, rfl⟩ := List.mem_map.mp hx
    obtain ⟨q, _, rfl⟩ := List.mem_map.mp hy
    exact alike_prP p q
  · rw [Bool.or_eq_true]
    refine .inl (List.all_eq_true.mpr fun x hx => ?_)
    obtain ⟨p, _, rfl⟩ := List.mem_map.mp hx
    rfl
  · refine decide_eq_true ?_
    unfold Tb.prs
    rw [List.length_map]
    exact Nat.le_trans hl (by decide)
  · refine List.all_eq_true.mpr fun x hx => ?_
    obtain ⟨p, _, rfl⟩ := List.mem_map.mp hx
    refine decide_eq_true ?_
    unfold prP
    rw [PyData.depth, PyData.depthAll, PyData.depthAll, PyData.depthAll, PyData.depth, PyData.depth]
    decide
end B
end
section
set_option maxRecDepth 100000
set_option maxHeartbeats 4000000
namespace B
open PySem L2
def b_key : MS :=
  (sRet (aTup (aCons (d1 (dVar 0) fun x => opt (sumV x)) (aCons (d1 (aCons (d1 (dVar 0) fun x => opt (srtI x)) aNil) gTuple) aNil))))
def r_key : FnM := runB 1 1 b_key
def b_shuffled : MS :=
  (sSeq (sOut 2 (sOutK 1 3 (sPar 2 3 (aCons (toLoc (d1 (aCons (dVar 1) aNil) gListO)) (aCons (toLoc (aLst aNil)) aNil))))) (sSeq (sPeek 3 (sPeek 2 (whileGo [] (d1 (mB2 (dVar 2) (aLst aNil) neWU) toB) (sExpr (mMe "list" (dVar 3) (aCons (mMe "list" (dVar 2) (aCons (d1 (aCons (dVar 0) (aCons (d1 (aCons (dVar 2) aNil) (lenW ow0)) aNil)) (callM r_draw)) aNil) gPop) aNil) gAppend)) 20))) (sRet (dVar 3))))
def r_shuffled : FnM := runB 4 2 b_shuffled
def b_odd : MS :=
  (sSeq (sSet 1 (aLst (aCons (dC .non) (aCons (dC (.bl true)) (aCons (dC (.bl false)) (aCons (dC (.int 0)) (aCons (dC (.int 1)) (aCons (d1 (dC (.int 1)) fun x => opt (negD x)) (aCons (dC (.int 2)) (aCons (mB2 (dC (.int 10)) (dC (.int 18)) powU) (aCons (mB2 (mB2 (dC (.int 10)) (dC (.int 18)) powU) (dC (.int 1)) (addU ow0)) (aCons (dC (.str "")) (aCons (dC (.str "a")) (aCons (dC (.str "A")) (aCons (dC (.str "self")) (aCons (dC (.str "table")) (aCons (dC (.str "guards")) (aCons (dC (.str "ab cd")) aNil)))))))))))))))))) (sSeq (sSet 1 (mB2 (dVar 1) (aLst (aCons (fun st => .ok (.dic []) st) (aCons (aTup (aCons (dC (.str "a")) aNil)) (aCons (aLst (aCons (dC (.str "a")) aNil)) (aCons (mDic (prCons (dC (.str "a")) (dC (.int 1)) prNil)) (aCons (aTup (aCons (dC (.str "a")) (aCons (dC (.str "b")) (aCons (dC (.str "a")) aNil)))) (aCons (aTup (aCons (dC (.str "a")) (aCons (dC (.str "a")) (aCons (dC (.str "a")) aNil)))) (aCons (aTup (aCons (dC .non) (aCons (dC (.str "a")) aNil))) (aCons (aLst (aCons (aTup aNil) aNil)) (aCons (aTup (aCons (dC (.str "a")) (aCons (dC (.int 1)) aNil))) (aCons (mDic (prCons (dC (.int 1)) (dC (.str "a")) prNil)) aNil))))))))))) (addU ow0))) (sSeq (sSet 1 (mB2 (dVar 1) (aLst (aCons (dC (.str "abcdefghi")) (aCons (aTup aNil) (aCons (aLst aNil) aNil)))) (addU ow0))) (sRet (d1 (aCons (dVar 0) (aCons (dVar 1) aNil)) (callM r_pick))))))
def r_odd : FnM := runB 2 1 b_odd
def b_entries : MS :=
  (sRet (mB2 (d1 (dVar 0) (getA "order" at_order)) (dC (.int 1)) (getU ow0)))
def r_entries : FnM := runB 1 1 b_entries
def at_entries : At := fun c => if c = "Stock" then some (some r_entries) else none
end B
end
section
set_option maxRecDepth 100000
set_option maxHeartbeats 4000000
namespace B
open PySem L2
section
variable {a b : Tb} {w : Wd}
theorem entries_ok : r_entries [a.stock] w = .ok (.tup a.prs) w := by
  show (b_entries ⟨[.shr a.stock], w⟩).toR = _
  unfold b_entries
  have g : ∀ st : DS, getU ow0 (.tup [.int (sumT a), .tup a.prs]) (.int 1) st = .ok (.tup a.prs) st := fun st => u_getT (i := 1) (by decide) rfl
  simp only [e_d1, e_bind, e_mB2, e_dC, e_dVar, e_aNil, e_aCons, e_aTup, e_aLst, e_mkTup, e_mkLst, e_optS, e_toB, e_mAnd, e_mOr, e_mNot, e_mIf, e_toS, e_sbind, e_sbindR, e_sSeq, e_sNext, e_sIf, e_sSet, e_sOwn, e_sRet, e_sExpr, e_sAsg, e_tName, e_tTup, e_tNil, e_tCons, e_tSub, e_toR, e_toRn, u_lt, u_le, u_gt, u_ge, u_add, u_sub, u_lenL, u_lenT, g_intI, List.getElem?_cons_zero, List.getElem?_cons_succ, List.set_cons_zero, List.set_cons_succ, List.length_cons, List.length_nil, List.map_cons, List.map_nil, List.replicate, List.cons_append, List.nil_append, Option.bind_some, Nat.zero_add, Nat.reduceAdd, Nat.reduceSub, Nat.reduceLeDiff, stock_order, g]
theorem stock_entries {st : DS} : getA "entries" at_entries a.stock st = .ok (.tup a.prs) st := by
  have e1 : getA "entries" at_entries a.stock st = noX (callM r_entries [a.stock]) st := by rfl
  rw [e1]
  exact e_noX (e_call entries_ok)
end
end B
end
section
set_option maxRecDepth 100000
set_option maxHeartbeats 4000000
namespace B
open PySem L2
def NoLoc (d : Dt) : Prop := ∀ n, clo n d = true
theorem clos_of {ds : List Dt} (h : ∀ d ∈ ds, NoLoc d) (n : Nat) : clos n ds = true := by
  induction ds with
  | nil => rw [clos]
  | cons d ds ih => rw [clos, h d List.mem_cons_self n, ih fun x hx => h x (List.mem_cons_of_mem _ hx)]; rfl
theorem noLoc_str (x : Str) : NoLoc (.str x) := fun n => by rw [clo]
theorem noLoc_int (x : Int) : NoLoc (.int x) := fun n => by rw [clo]
theorem noLoc_lst {ds : List Dt} (h : ∀ d ∈ ds, NoLoc d) : NoLoc (.lst ds) := fun n => by rw [clo]; exact clos_of h n
theorem noLoc_tup {ds : List Dt} (h : ∀ d ∈ ds, NoLoc d) : NoLoc (.tup ds) := fun n => by rw [clo]; exact clos_of h n
theorem noLoc_tb (a : Tb) : NoLoc (.dic a.d) := fun n => by rw [clo]; exact cloK_tb n a
theorem clo_tape (T : Tape) : NoLoc T.d := fun n => by
  unfold Tape.d
  simp [clo, cloK, clos_ints]
theorem noLoc_stock (a : Tb) : NoLoc a.stock := fun n => clo_stock n a
def odd1 : List Dt := [.non, .bl true, .bl false, .int 0, .int 1, .int (-1), .int 2, .int 1000000000000000000, .int 1000000000000000001, .str "", .str "a", .str "A", .str "self", .str "table", .str "guards", .str "ab cd"]
def odd2 : List Dt := [.dic [], .tup [.str "a"], .lst [.str "a"], .dic [(.str "a", .int 1)], .tup [.str "a", .str "b", .str "a"], .tup [.str "a", .str "a", .str "a"], .tup [.non, .str "a"], .lst [.tup []], .tup [.str "a", .int 1], .dic [(.int 1, .str "a")]]
def odd3 : List Dt := [.str "abcdefghi", .tup [], .lst []]
def oddL : List Dt := odd1 ++ odd2 ++ odd3
theorem u_pow18 {st : DS} : powU (.int 10) (.int 18) st = .ok (.int 1000000000000000000) st := p18 st
theorem u_neg1 {st : DS} : (opt (negD (.int 1)) : M Dt) st = .ok (.int (-1)) st := rfl
theorem e_dic1 {k : Str} {v : Int} {st : DS} : mDic (prCons (dC (.str k)) (dC (.int v)) prNil) st = .ok (.dic [(.str k, .int v)]) st := rfl
theorem e_dic2 {k : Int} {v : Str} {st : DS} : mDic (prCons (dC (.int k)) (dC (.str v)) prNil) st = .ok (.dic [(.int k, .str v)]) st := rfl
theorem era_perm {α : Type} : ∀ (l : List α) (i : Nat) (h : i < l.length), (l[i] :: l.eraseIdx i).Perm l
  | x :: xs, 0, _ => .refl _
  | x :: xs, i + 1, h => by
    rw [List.getElem_cons_succ, List.eraseIdx_cons_succ]
    exact (List.Perm.swap _ _ _).trans ((era_perm xs i (Nat.lt_of_succ_lt_succ h)).cons x)
theorem peek_gen2 {i : Nat} {sl sl' : List Slot} {w w' : Wd} {d d' : Dt} {f : MS} (h : sl[i]? = some (.own d)) (hi : i < sl'.length)
    (he : f ⟨sl.set i (.shr (.loc w.length)), w ++ [d]⟩ = .nx ⟨sl'.set i (.shr (.loc w.length)), w' ++ [d']⟩) (hw : w'.length = w.length)
    (c1 : clos w.length w' = true) (c2 : clo w.length d' = true) (c4 : (sl'.set i .emp).all (sloC w.length) = true) :
    sPeek i f ⟨sl, w⟩ = .nx ⟨sl'.set i (.own d'), w'⟩ := by
  have e0 : goIn i ⟨sl, w⟩ = some ⟨sl.set i (.shr (.loc w.length)), w ++ [d]⟩ := by unfold goIn; rw [h]
  unfold sPeek
  rw [e0]
  dsimp only
  rw [he]
  dsimp only
  rw [goOut_ok hi hw c1 c2 c4]
theorem len_loc {m : Nat} {xs : List Dt} {st : DS} (h : st.w[m]? = some (.lst xs)) : lenW ow0 [.loc m] st = .ok (.int xs.length) st := by
  unfold lenW
  dsimp only
  rw [h]
theorem ne_loc {m : Nat} {xs : List Dt} {st : DS} (h : st.w[m]? = some (.lst xs)) : neWU (.loc m) (.lst []) st = .ok (.bl (!xs.isEmpty)) st := by
  show (opt (neW st.w (.loc m) (.lst [])) : M Dt) st = _
  have e : neW st.w (.loc m) (.lst []) = some (.bl (!xs.isEmpty)) := by
    unfold neW
    rw [show resD st.w (.loc m) = some (.lst xs) from h]
    dsimp only
    cases xs with
    | nil => rfl
    | cons x xs => rw [if_neg (by simp)]; rfl
  rw [e]; rfl
theorem pop_loc {m : Nat} {xs : List Dt} {i : Int} {st : DS} (h : st.w[m]? = some (.lst xs)) (h0 : 0 ≤ i) (h1 : i < xs.length) (hl : xs.length ≤ 900) :
    gPop (.loc m) [.int i] st = .ok (xs[i.toNat]'(by omega)) ⟨st.sl, st.w.set m (.lst (xs.eraseIdx i.toNat))⟩ := by
  show (chL (.loc m) _ _ : Out Dt) = _
  unfold chL
  dsimp only
  rw [h]
  dsimp only
  rw [if_pos ⟨by omega, by omega⟩, PySem.seqIndex_of h0 (by omega)]
  dsimp only
  rw [List.getElem?_eq_getElem (by omega)]
theorem app_loc {m : Nat} {xs : List Dt} {y : Dt} {st : DS} (h : st.w[m]? = some (.lst xs)) (hl : xs.length < 900) :
    gAppend (.loc m) [y] st = .ok .non ⟨st.sl, st.w.set m (.lst (xs ++ [y]))⟩ := by
  show (chL (.loc m) _ _ : Out Dt) = _
  unfold chL
  dsimp only
  rw [h]
  dsimp only
  rw [if_pos (Nat.lt_of_lt_of_le hl (by decide))]
def shB : MS := (sExpr (mMe "list" (dVar 3) (aCons (mMe "list" (dVar 2) (aCons (d1 (aCons (dVar 0) (aCons (d1 (aCons (dVar 2) aNil) (lenW ow0)) aNil)) (callM r_draw)) aNil) gPop) aNil) gAppend))
def shC : M Bool := (d1 (mB2 (dVar 2) (aLst aNil) neWU) toB)
theorem shB_ok {T : Tape} {n : Nat} (h : T.Ok n) (hn : n ≤ 2 ^ 40) {s1 : Slot} {found left : List Dt} (hne : left ≠ []) (hl : found.length + left.length < 800) :
    ∃ (T' : Tape) (found' left' : List Dt), shB ⟨[.shr (.loc 0), s1, .shr (.loc 2), .shr (.loc 1)], [T.d, .lst found, .lst left]⟩ = .nx ⟨[.shr (.loc 0), s1, .shr (.loc 2), .shr (.loc 1)], [Tape.d T', .lst found', .lst left']⟩ ∧
      (found' ++ left').Perm (found ++ left) ∧ left'.length + 1 = left.length ∧ T'.Ok (n + 1) := by
  have hp := List.length_pos_iff.mpr hne
  obtain ⟨x, T', e, x0, x1, ok⟩ := draw_ok (r := [.lst found, .lst left]) h hn (m := (left.length : Int)) (by omega) (by omega)
  refine ⟨T', found ++ [left[x.toNat]'(by omega)], left.eraseIdx x.toNat, ?_, ?_, ?_, ok⟩
  · unfold shB
    have l1 := len_loc (m := 2) (xs := left) (st := ⟨[.shr (.loc 0), s1, .shr (.loc 2), .shr (.loc 1)], [T.d, .lst found, .lst left]⟩) rfl
    rw [e_sExpr, e_mMe (fo := dVar 3) (T := "list") (x := .loc 1) (s1 := ⟨[.shr (.loc 0), s1, .shr (.loc 2), .shr (.loc 1)], [T.d, .lst found, .lst left]⟩) rfl rfl, e_aCons,
      e_mMe (fo := dVar 2) (T := "list") (x := .loc 2) (s1 := ⟨[.shr (.loc 0), s1, .shr (.loc 2), .shr (.loc 1)], [T.d, .lst found, .lst left]⟩) rfl rfl]
    simp only [e_d1, e_bind, e_mB2, e_dC, e_dVar, e_aNil, e_aCons, e_aTup, e_aLst, e_mkTup, e_mkLst, e_optS, e_toB, e_mAnd, e_mOr, e_mNot, e_mIf, e_toS, e_sbind, e_sbindR, e_sSeq, e_sNext, e_sIf, e_sSet, e_sOwn, e_sRet, e_sExpr, e_sAsg, e_tName, e_tTup, e_tNil, e_tCons, e_tSub, e_toR, e_toRn, u_lt, u_le, u_gt, u_ge, u_add, u_sub, u_lenL, u_lenT, g_intI, List.getElem?_cons_zero, List.getElem?_cons_succ, List.set_cons_zero, List.set_cons_succ, List.length_cons, List.length_nil, List.map_cons, List.map_nil, List.replicate, List.cons_append, List.nil_append, Option.bind_some, Nat.zero_add, Nat.reduceAdd, Nat.reduceSub, Nat.reduceLeDiff, l1]
    rw [e_call e]
    simp only [e_d1, e_bind, e_mB2, e_dC, e_dVar, e_aNil, e_aCons, e_aTup, e_aLst, e_mkTup, e_mkLst, e_optS, e_toB, e_mAnd, e_mOr, e_mNot, e_mIf, e_toS, e_sbind, e_sbindR, e_sSeq, e_sNext, e_sIf, e_sSet, e_sOwn, e_sRet, e_sExpr, e_sAsg, e_tName, e_tTup, e_tNil, e_tCons, e_tSub, e_toR, e_toRn, u_lt, u_le, u_gt, u_ge, u_add, u_sub, u_lenL, u_lenT, g_intI, List.getElem?_cons_zero, List.getElem?_cons_succ, List.set_cons_zero, List.set_cons_succ, List.length_cons, List.length_nil, List.map_cons, List.map_nil, List.replicate, List.cons_append, List.nil_append, Option.bind_some, Nat.zero_add, Nat.reduceAdd, Nat.reduceSub, Nat.reduceLeDiff]
    rw [pop_loc (xs := left) rfl x0 x1 (by omega)]
    simp only [e_d1, e_bind, e_mB2, e_dC, e_dVar, e_aNil, e_aCons, e_aTup, e_aLst, e_mkTup, e_mkLst, e_optS, e_toB, e_mAnd, e_mOr, e_mNot, e_mIf, e_toS, e_sbind, e_sbindR, e_sSeq, e_sNext, e_sIf, e_sSet, e_sOwn, e_sRet, e_sExpr, e_sAsg, e_tName, e_tTup, e_tNil, e_tCons, e_tSub, e_toR, e_toRn, u_lt, u_le, u_gt, u_ge, u_add, u_sub, u_lenL, u_lenT, g_intI, List.getElem?_cons_zero, List.getElem?_cons_succ, List.set_cons_zero, List.set_cons_succ, List.length_cons, List.length_nil, List.map_cons, List.map_nil, List.replicate, List.cons_append, List.nil_append, Option.bind_some, Nat.zero_add, Nat.reduceAdd, Nat.reduceSub, Nat.reduceLeDiff]
    rw [app_loc (xs := found) rfl (by omega)]
    simp only [e_d1, e_bind, e_mB2, e_dC, e_dVar, e_aNil, e_aCons, e_aTup, e_aLst, e_mkTup, e_mkLst, e_optS, e_toB, e_mAnd, e_mOr, e_mNot, e_mIf, e_toS, e_sbind, e_sbindR, e_sSeq, e_sNext, e_sIf, e_sSet, e_sOwn, e_sRet, e_sExpr, e_sAsg, e_tName, e_tTup, e_tNil, e_tCons, e_tSub, e_toR, e_toRn, u_lt, u_le, u_gt, u_ge, u_add, u_sub, u_lenL, u_lenT, g_intI, List.getElem?_cons_zero, List.getElem?_cons_succ, List.set_cons_zero, List.set_cons_succ, List.length_cons, List.length_nil, List.map_cons, List.map_nil, List.replicate, List.cons_append, List.nil_append, Option.bind_some, Nat.zero_add, Nat.reduceAdd, Nat.reduceSub, Nat.reduceLeDiff]
  · rw [List.append_assoc]
    exact (era_perm left x.toNat (by omega)).append_left found
  · rw [List.length_eraseIdx_of_lt (by omega)]; omega
theorem sh_go {s1 : Slot} : ∀ (k turns : Nat) (T : Tape) (n : Nat) (found left : List Dt), T.Ok n → n + k ≤ 2 ^ 40 → left.length = k → k < turns → found.length + left.length < 800 →
    ∃ (T' : Tape) (found' : List Dt), whileGo [] shC shB turns ⟨[.shr (.loc 0), s1, .shr (.loc 2), .shr (.loc 1)], [T.d, .lst found, .lst left]⟩ = .nx ⟨[.shr (.loc 0), s1, .shr (.loc 2), .shr (.loc 1)], [Tape.d T', .lst found', .lst []]⟩ ∧
      found'.Perm (found ++ left) ∧ T'.Ok (n + k)
  | _, 0, _, _, _, _, _, _, _, hk, _ => absurd hk (Nat.not_lt_zero _)
  | k, t + 1, T, n, found, left, h, hn, hl, hk, hs => by
    have c := ne_loc (m := 2) (xs := left) (st := ⟨[.shr (.loc 0), s1, .shr (.loc 2), .shr (.loc 1)], [T.d, .lst found, .lst left]⟩) rfl
    have ec : shC ⟨[.shr (.loc 0), s1, .shr (.loc 2), .shr (.loc 1)], [T.d, .lst found, .lst left]⟩ = .ok (!left.isEmpty) ⟨[.shr (.loc 0), s1, .shr (.loc 2), .shr (.loc 1)], [T.d, .lst found, .lst left]⟩ := by
      unfold shC
      simp only [e_d1, e_bind, e_mB2, e_dC, e_dVar, e_aNil, e_aCons, e_aTup, e_aLst, e_mkTup, e_mkLst, e_optS, e_toB, e_mAnd, e_mOr, e_mNot, e_mIf, e_toS, e_sbind, e_sbindR, e_sSeq, e_sNext, e_sIf, e_sSet, e_sOwn, e_sRet, e_sExpr, e_sAsg, e_tName, e_tTup, e_tNil, e_tCons, e_tSub, e_toR, e_toRn, u_lt, u_le, u_gt, u_ge, u_add, u_sub, u_lenL, u_lenT, g_intI, List.getElem?_cons_zero, List.getElem?_cons_succ, List.set_cons_zero, List.set_cons_succ, List.length_cons, List.length_nil, List.map_cons, List.map_nil, List.replicate, List.cons_append, List.nil_append, Option.bind_some, Nat.zero_add, Nat.reduceAdd, Nat.reduceSub, Nat.reduceLeDiff, c]
    by_cases hne : left = []
    · subst hne
      refine ⟨T, found, ?_, by rw [List.append_nil], h.mono (by omega)⟩
      show (shC ⟨[.shr (.loc 0), s1, .shr (.loc 2), .shr (.loc 1)], [T.d, .lst found, .lst []]⟩).toS _ = _
      rw [ec]
      rfl
    · obtain ⟨T1, f1, l1, e1, p1, len1, ok1⟩ := shB_ok h (by omega) (s1 := s1) (found := found) hne hs
      have hl1 : f1.length + l1.length = found.length + left.length := by have := p1.length_eq; rw [List.length_append, List.length_append] at this; exact this
      obtain ⟨T2, f2, e2, p2, ok2⟩ := sh_go (s1 := s1) l1.length t T1 (n + 1) f1 l1 ok1 (by omega) rfl (by omega) (by omega)
      refine ⟨T2, f2, ?_, p2.trans p1, by rw [show n + k = n + 1 + l1.length by omega]; exact ok2⟩
      show (shC ⟨[.shr (.loc 0), s1, .shr (.loc 2), .shr (.loc 1)], [T.d, .lst found, .lst left]⟩).toS _ = _
      rw [ec, show (!left.isEmpty) = true by cases left with | nil => exact absurd rfl hne | cons _ _ => rfl]
      show (shB ⟨[.shr (.loc 0), s1, .shr (.loc 2), .shr (.loc 1)], [T.d, .lst found, .lst left]⟩).loop (whileGo [] shC shB t) = _
      rw [e1]
      exact e2
theorem shuffled_ok {T : Tape} {n : Nat} (h : T.Ok n) (hn : n + 100 ≤ 2 ^ 40) {xs : List Dt} (hx : ∀ d ∈ xs, NoLoc d) (hl : xs.length < 20) :
    ∃ (ys : List Dt) (T' : Tape), r_shuffled [.loc 0, .lst xs] [T.d] = .ok (.lst ys) [Tape.d T'] ∧ ys.Perm xs ∧ T'.Ok (n + 20) := by
  obtain ⟨T1, ys, e1, p1, ok1⟩ := sh_go (s1 := .shr (.lst xs)) xs.length 20 T n [] xs h (by omega) rfl hl (by simp; omega)
  rw [List.nil_append] at p1
  refine ⟨ys, T1, ?_, p1, ok1.mono (by omega)⟩
  have hy : ∀ d ∈ ys, NoLoc d := fun d hd => hx d (p1.mem_iff.mp hd)
  show (b_shuffled ⟨[.shr (.loc 0), .shr (.lst xs), .emp, .emp], [T.d]⟩).toR = _
  unfold b_shuffled
  have eg : ∀ st : DS, gListO [.lst xs] st = .ok (.lst xs) st := fun st => rfl
  have e0 : sPar 2 3 (aCons (toLoc (d1 (aCons (dVar 1) aNil) gListO)) (aCons (toLoc (aLst aNil)) aNil)) ⟨[.shr (.loc 0), .shr (.lst xs), .emp, .emp], [T.d]⟩ = .nx ⟨[.shr (.loc 0), .shr (.lst xs), .shr (.loc 1), .shr (.loc 2)], [T.d, .lst xs, .lst []]⟩ := by
    refine e_sPar (x := .loc 1) (y := .loc 2) (s1 := ⟨[.shr (.loc 0), .shr (.lst xs), .emp, .emp], [T.d, .lst xs, .lst []]⟩) ?_
    simp only [e_d1, e_bind, e_mB2, e_dC, e_dVar, e_aNil, e_aCons, e_aTup, e_aLst, e_mkTup, e_mkLst, e_optS, e_toB, e_mAnd, e_mOr, e_mNot, e_mIf, e_toS, e_sbind, e_sbindR, e_sSeq, e_sNext, e_sIf, e_sSet, e_sOwn, e_sRet, e_sExpr, e_sAsg, e_tName, e_tTup, e_tNil, e_tCons, e_tSub, e_toR, e_toRn, u_lt, u_le, u_gt, u_ge, u_add, u_sub, u_lenL, u_lenT, g_intI, List.getElem?_cons_zero, List.getElem?_cons_succ, List.set_cons_zero, List.set_cons_succ, List.length_cons, List.length_nil, List.map_cons, List.map_nil, List.replicate, List.cons_append, List.nil_append, Option.bind_some, Nat.zero_add, Nat.reduceAdd, Nat.reduceSub, Nat.reduceLeDiff, e_toLoc, eg]
  have ct : ∀ T : Tape, clos 1 [T.d] = true := clos_tape
  have e2 : sOutK 1 3 (sPar 2 3 (aCons (toLoc (d1 (aCons (dVar 1) aNil) gListO)) (aCons (toLoc (aLst aNil)) aNil))) ⟨[.shr (.loc 0), .shr (.lst xs), .emp, .emp], [T.d]⟩ = .nx ⟨[.shr (.loc 0), .shr (.lst xs), .shr (.loc 1), .own (.lst [])], [T.d, .lst xs]⟩ := by
    unfold sOutK
    rw [e0]
    dsimp only
    have g := goOut_ok (i := 3) (sl := [.shr (.loc 0), .shr (.lst xs), .shr (.loc 1), .emp]) (w' := [T.d, .lst xs]) (d' := .lst []) (n := 2) (by simp) rfl (by rw [clos, clos, clos]; simp [clo_tape T 2, noLoc_lst hx 2]) (by rw [clo, clos]) (by simp [sloC, clo, clos_of hx])
    have g' : goOut 3 ([T.d].length + 1) ⟨[.shr (.loc 0), .shr (.lst xs), .shr (.loc 1), .shr (.loc 2)], [T.d, .lst xs, .lst []]⟩ = some ⟨[.shr (.loc 0), .shr (.lst xs), .shr (.loc 1), .own (.lst [])], [T.d, .lst xs]⟩ := g
    rw [g']
  have e3 : sOut 2 (sOutK 1 3 (sPar 2 3 (aCons (toLoc (d1 (aCons (dVar 1) aNil) gListO)) (aCons (toLoc (aLst aNil)) aNil)))) ⟨[.shr (.loc 0), .shr (.lst xs), .emp, .emp], [T.d]⟩ = .nx ⟨[.shr (.loc 0), .shr (.lst xs), .own (.lst xs), .own (.lst [])], [T.d]⟩ := by
    unfold sOut
    rw [e2]
    dsimp only
    have g := goOut_ok (i := 2) (sl := [.shr (.loc 0), .shr (.lst xs), .emp, .own (.lst [])]) (w' := [T.d]) (d' := .lst xs) (n := 1) (by simp) rfl (ct T) (noLoc_lst hx 1) (by simp [sloC, clo, clos_of hx, clos])
    have g' : goOut 2 [T.d].length ⟨[.shr (.loc 0), .shr (.lst xs), .shr (.loc 1), .own (.lst [])], [T.d, .lst xs]⟩ = some ⟨[.shr (.loc 0), .shr (.lst xs), .own (.lst xs), .own (.lst [])], [T.d]⟩ := g
    rw [g']
  have e4 : sPeek 2 (whileGo [] shC shB 20) ⟨[.shr (.loc 0), .shr (.lst xs), .own (.lst xs), .shr (.loc 1)], [T.d, .lst []]⟩ = .nx ⟨[.shr (.loc 0), .shr (.lst xs), .own (.lst []), .shr (.loc 1)], [Tape.d T1, .lst ys]⟩ :=
    peek_gen (i := 2) (sl := [.shr (.loc 0), .shr (.lst xs), .own (.lst xs), .shr (.loc 1)]) (w := [T.d, .lst []]) (w' := [Tape.d T1, .lst ys]) (d := .lst xs) (d' := .lst []) rfl e1 rfl (by rw [clos, clos, clos]; simp [clo_tape T1 2, noLoc_lst hy 2]) (by rw [clo, clos]) (by simp [sloC, clo, clos_of hx])
  have e5 : sPeek 3 (sPeek 2 (whileGo [] shC shB 20)) ⟨[.shr (.loc 0), .shr (.lst xs), .own (.lst xs), .own (.lst [])], [T.d]⟩ = .nx ⟨[.shr (.loc 0), .shr (.lst xs), .own (.lst []), .own (.lst ys)], [Tape.d T1]⟩ :=
    peek_gen2 (i := 3) (sl := [.shr (.loc 0), .shr (.lst xs), .own (.lst xs), .own (.lst [])]) (sl' := [.shr (.loc 0), .shr (.lst xs), .own (.lst []), .own (.lst [])]) (w := [T.d]) (w' := [Tape.d T1]) (d := .lst []) (d' := .lst ys) rfl (by simp) e4 rfl (ct T1) (noLoc_lst hy 1) (by simp [sloC, clo, clos_of hx, clos])
  rw [e_sSeq, e3, e_sbind, e_sSeq]
  show ((sPeek 3 (sPeek 2 (whileGo [] shC shB 20)) _).bind _).toR = _
  rw [e5]
  simp only [e_d1, e_bind, e_mB2, e_dC, e_dVar, e_aNil, e_aCons, e_aTup, e_aLst, e_mkTup, e_mkLst, e_optS, e_toB, e_mAnd, e_mOr, e_mNot, e_mIf, e_toS, e_sbind, e_sbindR, e_sSeq, e_sNext, e_sIf, e_sSet, e_sOwn, e_sRet, e_sExpr, e_sAsg, e_tName, e_tTup, e_tNil, e_tCons, e_tSub, e_toR, e_toRn, u_lt, u_le, u_gt, u_ge, u_add, u_sub, u_lenL, u_lenT, g_intI, List.getElem?_cons_zero, List.getElem?_cons_succ, List.set_cons_zero, List.set_cons_succ, List.length_cons, List.length_nil, List.map_cons, List.map_nil, List.replicate, List.cons_append, List.nil_append, Option.bind_some, Nat.zero_add, Nat.reduceAdd, Nat.reduceSub, Nat.reduceLeDiff]
end B
end
section
set_option maxRecDepth 100000
set_option maxHeartbeats 4000000
namespace B
open PySem L2
section
variable {zs : List Str} {T : Tape} {n : Nat}
def gd (gs : List Tb) : List Dt := gs.map fun g => .dic g.d
end
end B
end
section
set_option maxRecDepth 100000
set_option maxHeartbeats 4000000
namespace B
open PySem L2
section
variable {zs : List Str} {g h : Tb} {st : DS} {a b : Tb}
def pC : M Dt := (mLc [17] (d1 (dVar 6) iterD) (tName 17) (d1 (mB2 (mB2 (dVar 6) (dVar 17) (getU ow0)) (mB2 (dVar 8) (dVar 17) (getU ow0)) (ltV ow_lt)) toB) (dVar 17))
def p1 : MS := (sSet 10 (vAnd (mB2 (d1 (aCons (dVar 6) aNil) gSorted) (d1 (aCons (dVar 8) aNil) gSorted) (eqU ow_eq)) (mB2 pC (aLst aNil) (eqU ow_eq))))
def p2 : MS := (sIf (d1 (mB2 (d1 (aCons (aLst (aCons (mtM "above" mt_above (dVar 7) (aCons (dVar 9) aNil)) (aCons (mB2 (dVar 7) (dVar 9) (ltV ow_lt)) aNil))) aNil) gReprL) (d1 (aCons (aLst (aCons (dVar 10) (aCons (mB2 (d1 (aCons (dVar 6) aNil) (callM r_key)) (d1 (aCons (dVar 8) aNil) (callM r_key)) (ltV ow_lt)) aNil))) aNil) gReprL) (neV ow_eq)) toB) (sRet (dC (.bl false))) sNext)
variable {x0 x2 x3 x4 x5 x10 x11 x12 x13 x14 x15 x16 x17 x18 : Slot} {w : Wd}
end
end B
end
section
set_option maxRecDepth 100000
set_option maxHeartbeats 4000000
namespace B
open PySem L2
section
variable {zs : List Str} {gs : List Tb} {T : Tape} {x0 x2 x3 x5 x6 x7 x8 x9 x10 x11 x12 x13 x14 x15 x16 x17 x18 : Slot}
def unT (kvs : List (Dt × Dt)) : Tb := kvs.map fun kv => (match kv.1 with | .str z => z | _ => "", match kv.2 with | .int i => i | _ => 0)
def kS : Dt → Dt
  | .dic kvs => (sortT (unT kvs)).stock
  | d => d
end
end B
end
section
set_option maxRecDepth 100000
set_option maxHeartbeats 4000000
namespace B
open PySem L2
section
variable {zs : List Str} {T : Tape} {x0 x2 x5 x6 x7 x8 x9 x10 x11 x12 x13 x14 x15 x16 x17 x18 : Slot} {st : DS}
theorem get_shr {g : Tb} {k : Str} : gGet (.dic g.d) [.str k, .int 0] st = .ok (.int (g.get k)) st := by
  have hg := Tb.getK g k
  have e : dgO st.w (.dic g.d) (.str k) = some (if k ∈ g.ks then some (.int (g.get k)) else none) := by
    unfold dgO
    rw [show resD st.w (.dic g.d) = some (.dic g.d) from rfl]
    cases g with
    | nil => rfl
    | cons p q =>
      show (if isKey (.str k) && isKey (.str p.1) then some (getK (Tb.d (p :: q)) (.str k)) else none) = _
      rw [hg]
      show some _ = _
      congr 1
      by_cases h : k ∈ Tb.ks (p :: q)
      · rw [if_pos h, Tb.find_mem h]; rfl
      · rw [if_neg h]
        have : ((p :: q).find? fun kv => kv.1 == k) = none := List.find?_eq_none.mpr fun r hr q' => h (List.mem_map.mpr ⟨r, hr, beq_iff_eq.mp q'⟩)
        rw [this]; rfl
  show (match dgO st.w (.dic g.d) (.str k) with
    | some od => Out.ok (od.getD (.int 0)) _
    | none => .stuck) = _
  rw [e]
  dsimp only
  by_cases h : k ∈ g.ks
  · rw [if_pos h]; rfl
  · rw [if_neg h, Tb.get_out h]; rfl
end
end B
end
section
set_option maxRecDepth 100000
set_option maxHeartbeats 4000000
namespace B
open PySem L2
structure En where
  nx : DS → Prop
  rt : Dt → DS → Prop
  lp : Bool → DS → Prop
  ex : XD → DS → Prop
end B
end
section
set_option maxRecDepth 100000
set_option maxHeartbeats 4000000
namespace B
open PySem L2
noncomputable section
def r_cp0 : FnM := fun _ _ => .stuck
def b_cp1 : MS :=
  (sSeq (sIf (d1 (d1 (aCons (dVar 0) (aCons (aTup (aCons (dC (.ty "list")) (aCons (dC (.ty "tuple")) aNil))) aNil)) (gIsiT isB)) toB) (sSeq (sOwn 1 (mLc [2] (d1 (dVar 0) iterD) (tName 2) mYes (d1 (aCons (dVar 2) aNil) (callM r_cp0)))) (sRet (mIf (d1 (d1 (aCons (dVar 0) (aCons (dC (.ty "list")) aNil)) (gIsi isB)) toB) (dVar 1) (d1 (aCons (dVar 1) aNil) gTuple)))) sNext) (sSeq (sIf (d1 (d1 (aCons (dVar 0) (aCons (dC (.ty "dict")) aNil)) (gIsi isB)) toB) (sRet (mDc [3, 2] (d1 (dVar 0) (valsD pairD)) (tTupT 2 (tCons (tName 3) (tCons (tName 2) tNil))) mYes (dVar 3) (d1 (aCons (dVar 2) aNil) (callM r_cp0)))) sNext) (sRet (dVar 0))))
def r_cp1 : FnM := runB 4 1 b_cp1
def b_cp2 : MS :=
  (sSeq (sIf (d1 (d1 (aCons (dVar 0) (aCons (aTup (aCons (dC (.ty "list")) (aCons (dC (.ty "tuple")) aNil))) aNil)) (gIsiT isB)) toB) (sSeq (sOwn 1 (mLc [2] (d1 (dVar 0) iterD) (tName 2) mYes (d1 (aCons (dVar 2) aNil) (callM r_cp1)))) (sRet (mIf (d1 (d1 (aCons (dVar 0) (aCons (dC (.ty "list")) aNil)) (gIsi isB)) toB) (dVar 1) (d1 (aCons (dVar 1) aNil) gTuple)))) sNext) (sSeq (sIf (d1 (d1 (aCons (dVar 0) (aCons (dC (.ty "dict")) aNil)) (gIsi isB)) toB) (sRet (mDc [3, 2] (d1 (dVar 0) (valsD pairD)) (tTupT 2 (tCons (tName 3) (tCons (tName 2) tNil))) mYes (dVar 3) (d1 (aCons (dVar 2) aNil) (callM r_cp1)))) sNext) (sRet (dVar 0))))
def r_cp2 : FnM := runB 4 1 b_cp2
def b_cp3 : MS :=
  (sSeq (sIf (d1 (d1 (aCons (dVar 0) (aCons (aTup (aCons (dC (.ty "list")) (aCons (dC (.ty "tuple")) aNil))) aNil)) (gIsiT isB)) toB) (sSeq (sOwn 1 (mLc [2] (d1 (dVar 0) iterD) (tName 2) mYes (d1 (aCons (dVar 2) aNil) (callM r_cp2)))) (sRet (mIf (d1 (d1 (aCons (dVar 0) (aCons (dC (.ty "list")) aNil)) (gIsi isB)) toB) (dVar 1) (d1 (aCons (dVar 1) aNil) gTuple)))) sNext) (sSeq (sIf (d1 (d1 (aCons (dVar 0) (aCons (dC (.ty "dict")) aNil)) (gIsi isB)) toB) (sRet (mDc [3, 2] (d1 (dVar 0) (valsD pairD)) (tTupT 2 (tCons (tName 3) (tCons (tName 2) tNil))) mYes (dVar 3) (d1 (aCons (dVar 2) aNil) (callM r_cp2)))) sNext) (sRet (dVar 0))))
def r_cp3 : FnM := runB 4 1 b_cp3
def b_cp4 : MS :=
  (sSeq (sIf (d1 (d1 (aCons (dVar 0) (aCons (aTup (aCons (dC (.ty "list")) (aCons (dC (.ty "tuple")) aNil))) aNil)) (gIsiT isB)) toB) (sSeq (sOwn 1 (mLc [2] (d1 (dVar 0) iterD) (tName 2) mYes (d1 (aCons (dVar 2) aNil) (callM r_cp3)))) (sRet (mIf (d1 (d1 (aCons (dVar 0) (aCons (dC (.ty "list")) aNil)) (gIsi isB)) toB) (dVar 1) (d1 (aCons (dVar 1) aNil) gTuple)))) sNext) (sSeq (sIf (d1 (d1 (aCons (dVar 0) (aCons (dC (.ty "dict")) aNil)) (gIsi isB)) toB) (sRet (mDc [3, 2] (d1 (dVar 0) (valsD pairD)) (tTupT 2 (tCons (tName 3) (tCons (tName 2) tNil))) mYes (dVar 3) (d1 (aCons (dVar 2) aNil) (callM r_cp3)))) sNext) (sRet (dVar 0))))
def r_cp4 : FnM := runB 4 1 b_cp4
def b_subE : MS :=
  (sSeq (sFor [] (d1 (d1 (dVar 1) (getA "held" at_held)) iterD) (tName 2) (sIf (d1 (mB2 (mB2 (dVar 1) (dVar 2) (getU ow_getitem)) (mB2 (dVar 0) (dVar 2) (getU ow_getitem)) gtU) toB) (sRaise (mErr "NotEnough" "kind" r_cp4 (dVar 2))) sNext)) (sSeq (sOwn 3 (mDc [2] (d1 (d1 (dVar 0) (getA "held" at_held)) iterD) (tName 2) mYes (dVar 2) (mB2 (mB2 (dVar 0) (dVar 2) (getU ow_getitem)) (mB2 (dVar 1) (dVar 2) (getU ow_getitem)) (subU ow0)))) (sRet (d1 (dC (.cls "Stock")) fun o => d1 (noX (dVar 3)) fun z => mkKW mkT o z))))
def r_subE : FnM := runB 4 2 b_subE
def ow_subE : Ow := fun c => if c = "Stock" then some r_subE else none
def b_swE : MS :=
  (sSeq (sIf (d1 (d1 (aCons (mLc [1] (d1 (dVar 0) (valsD (·.2))) (tName 1) mYes (mB2 (dVar 1) (dC (.int 1000000000000000000)) gtU)) aNil) gAnyB) toB) (sRaise (mErr "TooMany" "limit" r_cp4 (dC (.int 1000000000000000000)))) sNext) (sRet (d1 (dC (.cls "Stock")) fun o => d1 (noX (dVar 0)) fun z => mkKW mkT o z)))
def r_swE : FnM := runB 2 1 b_swE
def b_mulE : MS :=
  (sSeq (sIf (mNot (d1 (d1 (aCons (dVar 1) aNil) (callM r_is_amount)) toB)) (sRaise (mErr "InvalidCount" "value" r_cp4 (dVar 1))) sNext) (sRet (d1 (aCons (mDc [2] (d1 (d1 (dVar 0) (getA "held" at_held)) iterD) (tName 2) mYes (dVar 2) (mB2 (mB2 (dVar 0) (dVar 2) (getU ow_getitem)) (dVar 1) mulU)) aNil) (callM r_swE))))
def r_mulE : FnM := runB 3 2 b_mulE
def ow_mulE : Ow := fun c => if c = "Stock" then some r_mulE else none
abbrev mulTs : List String := ["NoneType", "bool", "int", "str", "tuple", "list", "dict"]
end
end B
end
section
set_option maxRecDepth 100000
set_option maxHeartbeats 4000000
namespace B
open PySem L2
abbrev OkS (z : Str) : Prop := ∀ c ∈ z.cps.toList, c < 0x110000
theorem OkS.lay {z : Str} (h : OkS z) : PyData.canLay0 (.str z) = true := by
  unfold PyData.canLay0
  show z.cps.all (· < 0x110000) = true
  rw [← Array.all_toList]
  exact List.all_eq_true.mpr fun c hc => decide_eq_true (h c hc)
theorem okS_of {s : String} : OkS (Str.ofString s) := fun c hc => by
  rw [Str.ofString_eq_toList] at hc
  obtain ⟨ch, _, rfl⟩ := List.mem_map.mp hc
  have := ch.valid
  unfold UInt32.isValidChar Nat.isValidChar at this
  show ch.val.toNat < _
  omega
theorem cps_app (a b : Str) : (a ++ b).cps.toList = a.cps.toList ++ b.cps.toList := Array.toList_append ..
theorem OkS.app {a b : Str} (h1 : OkS a) (h2 : OkS b) : OkS (a ++ b) := fun c hc => by
  rw [cps_app] at hc
  exact (List.mem_append.mp hc).elim (h1 c) (h2 c)
theorem okS_rc {q c : Nat} (hq : q < 0x110000) (hc : c < 0x110000) : ∀ x ∈ Builtin.Str.reprChar q c, x < 0x110000 := by
  intro x hx
  have hx0 : ∀ (w : Nat), x ∈ List.replicate (w - ((Nat.toDigits 16 c).map Char.toNat).length) 48 ++ (Nat.toDigits 16 c).map Char.toNat → x < 0x110000 := fun w m => by
    rcases List.mem_append.mp m with m | m
    · rw [List.eq_of_mem_replicate m]; decide
    · obtain ⟨ch, _, rfl⟩ := List.mem_map.mp m
      have := ch.valid
      unfold UInt32.isValidChar Nat.isValidChar at this
      show ch.val.toNat < _
      omega
  unfold Builtin.Str.reprChar at hx
  dsimp only at hx
  repeat' split at hx
  all_goals first
    | (simp only [List.mem_cons, List.not_mem_nil, or_false] at hx; rcases hx with rfl | rfl <;> first | decide | assumption)
    | (simp only [List.mem_cons, List.not_mem_nil, or_false] at hx; subst hx; assumption)
    | (
      rcases List.mem_append.mp hx with m | m
      · simp only [List.mem_cons, List.not_mem_nil, or_false] at m; rcases m with rfl | rfl <;> decide
      · exact hx0 _ m)
theorem okS_fold {q : Nat} (hq : q < 0x110000) : ∀ (l : List Nat) (acc : Array Nat), (∀ c ∈ l, c < 0x110000) → (∀ c ∈ acc.toList, c < 0x110000) → ∀ c ∈ (l.foldl (fun out c => out ++ (Builtin.Str.reprChar q c).toArray) acc).toList, c < 0x110000
  | [], acc, _, h => h
  | c :: l, acc, hl, h => okS_fold hq l _ (fun x hx => hl x (List.mem_cons_of_mem _ hx)) (fun x hx => by
      rw [Array.toList_append] at hx
      rcases List.mem_append.mp hx with m | m
      · exact h x m
      · exact okS_rc hq (hl c List.mem_cons_self) x m)
theorem okS_repr {z : Str} (h : OkS z) : OkS (reprText z) := by
  have hq : reprQuote z < 0x110000 := by unfold reprQuote; split <;> decide
  intro c hc
  unfold reprText at hc
  rw [Array.toList_push, ← Array.foldl_toList] at hc
  rcases List.mem_append.mp hc with m | m
  · exact okS_fold hq _ _ h (fun x hx => by rw [List.mem_singleton.mp hx]; exact hq) c m
  · rw [List.mem_singleton.mp m]; exact hq
theorem okS_join {sep : Str} (h : OkS sep) : ∀ ts : List Str, (∀ t ∈ ts, OkS t) → OkS (Str.join sep ts)
  | [], _ => fun c hc => by cases hc
  | [x], hs => hs x List.mem_cons_self
  | x :: y :: r, hs => ((hs x List.mem_cons_self).app h).app (okS_join h (y :: r) fun t ht => hs t (List.mem_cons_of_mem _ ht))
theorem okS_from : ∀ (ts : List Str) (k : Nat) (acc : Str), OkS acc → (∀ t ∈ ts, OkS t) → OkS (textFrom k acc ts)
  | [], _, _, h, _ => h
  | t :: r, k, acc, h, hs => okS_from r (k + 1) _ ((h.app okS_of).app (hs t List.mem_cons_self)) fun x hx => hs x (List.mem_cons_of_mem _ hx)
mutual
def okD : PyData → Prop
  | .none | .bool _ | .int _ => True
  | .str x => OkS x
  | .list xs | .tuple xs => okDs xs
  | .dict kvs => okKv kvs
def okDs : List PyData → Prop
  | [] => True
  | x :: xs => okD x ∧ okDs xs
def okKv : List (PyData × PyData) → Prop
  | [] => True
  | (k, v) :: r => okD k ∧ okD v ∧ okKv r
end
mutual
theorem okS_shown : ∀ d : PyData, okD d → OkS d.shown
  | .none, _ => by unfold PyData.shown; exact okS_of
  | .bool b, _ => by unfold PyData.shown; split <;> exact okS_of
  | .int i, _ => by unfold PyData.shown; exact okS_of
  | .str x, h => by unfold okD at h; unfold PyData.shown; exact okS_repr h
  | .list xs, h => by unfold okD at h; unfold PyData.shown listText; exact (okS_from _ _ _ okS_of (okS_all xs h)).app okS_of
  | .tuple xs, h => by unfold okD at h; unfold PyData.shown tupleText; exact (OkS.app okS_of (okS_join okS_of _ (okS_all xs h))).app okS_of
  | .dict kvs, h => by unfold okD at h; unfold PyData.shown dictText; exact (OkS.app okS_of (okS_join okS_of _ (okS_kv kvs h))).app okS_of
theorem okS_all : ∀ xs : List PyData, okDs xs → ∀ t ∈ PyData.shownAll xs, OkS t
  | [], _ => by unfold PyData.shownAll; intro t ht; cases ht
  | x :: xs, h => by
    unfold okDs at h
    unfold PyData.shownAll
    intro t ht
    rcases List.mem_cons.mp ht with rfl | ht
    · exact okS_shown x h.1
    · exact okS_all xs h.2 t ht
theorem okS_kv : ∀ kvs : List (PyData × PyData), okKv kvs → ∀ t ∈ PyData.shownKv kvs, OkS t
  | [], _ => by unfold PyData.shownKv; intro t ht; cases ht
  | (k, v) :: r, h => by
    unfold okKv at h
    unfold PyData.shownKv
    intro t ht
    rcases List.mem_cons.mp ht with rfl | ht
    · exact ((okS_shown k h.1).app okS_of).app (okS_shown v h.2.1)
    · exact okS_kv r h.2.2 t ht
end
theorem ne_self {x : Dt} {p : PyData} {st : DS} (e : pyD x = some p) (h : p.canLay0 = true) (hd : p.depth ≤ 64) : neU x x st = .ok (.bl false) st := by
  show (opt (neD x x) : M Dt) st = _
  unfold neD eqB
  rw [e]
  dsimp only
  rw [if_pos]
  · rw [SeqAt.eqv_refl p h]; rfl
  · have : SeqAt.shaped p = true := by unfold SeqAt.shaped; rw [h, decide_eq_true hd]; rfl
    rw [this]; rfl
theorem ne_str {z : Str} {st : DS} (h : OkS z) : neU (.str z) (.str z) st = .ok (.bl false) st := ne_self (p := .str z) (by unfold pyD; rfl) h.lay (by unfold PyData.depth; decide)
end B
end
section
set_option maxRecDepth 100000
set_option maxHeartbeats 4000000
namespace B
open PySem L2
section
variable {D : Tb} {w : Wd}
theorem srtD_prs {g : Tb} (nd : g.ks.Nodup) (hl : g.length ≤ 900) : srtD g.prs = some (sortT g).prs := by
  have h := srtI_tb nd hl
  unfold srtI at h
  rw [viewD_tb, Option.bind_some, prs_eq] at h
  cases e : srtD g.prs with
  | none => rw [e] at h; cases h
  | some x => rw [e] at h; cases h; rfl
def posT (D : Tb) : Tb := (D.ks.filter fun k => decide (0 < D.get k)).map fun k => (k, D.get k)
theorem posT_ks : (posT D).ks = D.ks.filter fun k => decide (0 < D.get k) := by
  unfold posT Tb.ks
  rw [List.map_map]; exact List.map_id _
theorem sort_fil {ks : List Str} (P : Str → Bool) : sortS (ks.filter P) = (sortS ks).filter P := by
  refine List.Perm.eq_of_pairwise (le := fun x y => leS x y = true) (fun x y _ _ h1 h2 => leS_anti x y h1 h2) (List.pairwise_mergeSort leS_tr leS_tot _) (List.Pairwise.filter _ (List.pairwise_mergeSort leS_tr leS_tot _)) ?_
  exact (List.mergeSort_perm _ _).trans ((List.mergeSort_perm ks leS).filter P).symm
theorem posT_sort (nd : D.ks.Nodup) : sortT (posT D) = D.held := by
  have nd2 : (posT D).ks.Nodup := by rw [posT_ks]; exact nd.filter _
  unfold sortT Tb.held
  rw [posT_ks, sort_fil, List.filter_map]
  refine List.map_congr_left fun k hk => ?_
  have hk2 := (List.mem_filter.mp hk)
  have hm : (k, D.get k) ∈ posT D := List.mem_map.mpr ⟨k, List.mem_filter.mpr ⟨sortS_mem.mp hk2.1, hk2.2⟩, rfl⟩
  rw [Tb.get_of nd2 hm]
end
end B
end
section
set_option maxRecDepth 100000
set_option maxHeartbeats 4000000
namespace B
open PySem L2
theorem lcT {v : Nat} {sl : List Slot} {s : Slot} {w0 : Wd} {T : Tape} {n c : Nat} {xs : List Str} {it : M (List Dt)} {te : M Dt} {P : Str → Int → Prop} (hs : sl[v]? = some s) (hso : shrOf (some s) = s) (hit : it ⟨sl, w0⟩ = .ok (xs.map Dt.str) ⟨sl, [T.d]⟩) (hl : xs.length < 900) (h : T.Ok n)
    (hte : ∀ k ∈ xs, ∀ (T : Tape) (m : Nat), T.Ok m → m ≤ n + c * xs.length → ∃ (i : Int) (T' : Tape), te ⟨sl.set v (.shr (.str k)), [T.d]⟩ = .ok (.tup [.str k, .int i]) ⟨sl.set v (.shr (.str k)), [T'.d]⟩ ∧ P k i ∧ T'.Ok (m + c)) :
    ∃ (D : Tb) (T' : Tape), mLc [v] it (tName v) mYes te ⟨sl, w0⟩ = .ok (.lst D.prs) ⟨sl, [T'.d]⟩ ∧ D.ks = xs ∧ (∀ p ∈ D, P p.1 p.2) ∧ T'.Ok (n + c * xs.length) := by
  have hv : v < sl.length := (List.getElem?_eq_some_iff.mp hs).1
  have hset : sl = sl.set v sl[v] := (List.set_getElem_self hv).symm
  obtain ⟨ys, st', e2, D, T', x, rfl, rfl, h1, h2, h3⟩ := lcGo_ok (vs := [v]) (tg := tName v) (tt := mYes) (te := te)
    (fun k acc st => ∃ (D : Tb) (T' : Tape) (x : Slot), st = ⟨sl.set v x, [T'.d]⟩ ∧ acc = D.prs ∧ D.ks = xs.take k ∧ (∀ p ∈ D, P p.1 p.2) ∧ T'.Ok (n + c * k))
    (xs.map Dt.str) [] 0 ⟨sl, [T.d]⟩ ⟨[], T, sl[v], by rw [← hset], rfl, rfl, (fun p hp => by cases hp), h⟩ (by rw [List.length_nil, List.length_map]; exact Nat.lt_of_lt_of_le (show 0 + xs.length < 1000 by omega) (by decide)) (by
      rintro k d acc st hk ⟨D, T', x, rfl, rfl, h1, h2, h3⟩
      have hk8 : k < xs.length := by
        have := (List.getElem?_eq_some_iff.mp hk).1
        rw [List.length_map] at this; exact this
      have ed : d = .str (xs[k]'hk8) := by
        rw [List.getElem?_map, List.getElem?_eq_getElem hk8] at hk
        exact (Option.some.inj hk).symm
      subst ed
      obtain ⟨i, T1, e1, p1, ok1⟩ := hte _ (List.getElem_mem hk8) T' (n + c * k) (by rw [Nat.zero_add] at h3; exact h3) (Nat.add_le_add_left (Nat.mul_le_mul_left c (Nat.le_of_lt hk8)) n)
      refine ⟨⟨sl.set v (.shr (.str (xs[k]'hk8))), [T'.d]⟩, true, ⟨sl.set v (.shr (.str (xs[k]'hk8))), [T'.d]⟩, ?_, rfl, (fun q => by cases q), fun _ => ⟨_, _, e1, D ++ [(xs[k]'hk8, i)], T1, _, rfl, ?_, ?_, ?_, ?_⟩⟩
      · show some (⟨(wipeS (sl.set v x) [v]).set v (.shr (.str (xs[k]'hk8))), [T'.d]⟩ : DS) = _
        rw [wipe1, List.set_set]
      · unfold Tb.prs; rw [List.map_append]; rfl
      · show (D ++ [(xs[k]'hk8, i)]).map (·.1) = _
        rw [List.map_append, show D.map (·.1) = xs.take k from by rw [Nat.zero_add] at h1; exact h1, Nat.zero_add, List.take_succ_eq_append_getElem hk8]; rfl
      · intro p hp
        rcases List.mem_append.mp hp with q | q
        · exact h2 p q
        · rw [List.mem_singleton.mp q]; exact p1
      · rw [Nat.zero_add, Nat.mul_succ, ← Nat.add_assoc]; exact ok1)
  rw [List.length_map, Nat.zero_add] at h1 h3
  rw [List.take_length] at h1
  refine ⟨D, T', ?_, h1, h2, h3⟩
  unfold mLc
  rw [hit, e_bind, e2, e_bind]
  show Out.ok _ (DS.mk (restore sl (sl.set v x) [v]) _) = _
  rw [restore1 hs hso]
theorem gd_prs {D : Tb} {st : DS} : gDict [.lst D.prs] st = .ok (.dic (mrgT [] D).d) st := by
  show (opt (dicD [.lst D.prs]) : M Dt) st = _
  rw [dict_prs]; rfl
theorem odd_in {T : Tape} {n : Nat} {r : Wd} (h : T.Ok n) (hn : n ≤ 2 ^ 40) : ∃ d T', r_odd [.loc 0] (T.d :: r) = .ok d (Tape.d T' :: r) ∧ d ∈ oddL ∧ T'.Ok (n + 1) := by
  obtain ⟨d, T', e, hd, ok⟩ := pick_ok (r := r) (xs := oddL) h hn (by unfold oddL odd1; simp) (by unfold oddL odd1 odd2 odd3; simp)
  refine ⟨d, T', ?_, hd, ok⟩
  show (b_odd ⟨[.shr (.loc 0), .emp], T.d :: r⟩).toR = _
  unfold b_odd
  have c1 : ∀ st : DS, addU ow0 (.lst odd1) (.lst odd2) st = .ok (.lst (odd1 ++ odd2)) st := fun st => u_cat (by unfold odd1 odd2; simp)
  have c2 : ∀ st : DS, addU ow0 (.lst (odd1 ++ odd2)) (.lst odd3) st = .ok (.lst oddL) st := fun st => u_cat (by unfold odd1 odd2 odd3; simp)
  simp only [e_d1, e_bind, e_mB2, e_dC, e_dVar, e_aNil, e_aCons, e_aTup, e_aLst, e_mkTup, e_mkLst, e_optS, e_toB, e_mAnd, e_mOr, e_mNot, e_mIf, e_toS, e_sbind, e_sbindR, e_sSeq, e_sNext, e_sIf, e_sSet, e_sOwn, e_sRet, e_sExpr, e_sAsg, e_tName, e_tTup, e_tNil, e_tCons, e_tSub, e_toR, e_toRn, u_lt, u_le, u_gt, u_ge, u_add, u_sub, u_lenL, u_lenT, g_intI, List.getElem?_cons_zero, List.getElem?_cons_succ, List.set_cons_zero, List.set_cons_succ, List.length_cons, List.length_nil, List.map_cons, List.map_nil, List.replicate, List.cons_append, List.nil_append, Option.bind_some, Nat.zero_add, Nat.reduceAdd, Nat.reduceSub, Nat.reduceLeDiff, u_pow18, u_neg1, e_dic1, e_dic2]
  have x1 : (1000000000000000000 + 1 : Int) = 1000000000000000001 := rfl
  rw [x1]
  have c1' := c1 ⟨[.shr (.loc 0), .shr (.lst odd1)], T.d :: r⟩
  unfold odd1 odd2 at c1'
  rw [c1']
  simp only [e_d1, e_bind, e_mB2, e_dC, e_dVar, e_aNil, e_aCons, e_aTup, e_aLst, e_mkTup, e_mkLst, e_optS, e_toB, e_mAnd, e_mOr, e_mNot, e_mIf, e_toS, e_sbind, e_sbindR, e_sSeq, e_sNext, e_sIf, e_sSet, e_sOwn, e_sRet, e_sExpr, e_sAsg, e_tName, e_tTup, e_tNil, e_tCons, e_tSub, e_toR, e_toRn, u_lt, u_le, u_gt, u_ge, u_add, u_sub, u_lenL, u_lenT, g_intI, List.getElem?_cons_zero, List.getElem?_cons_succ, List.set_cons_zero, List.set_cons_succ, List.length_cons, List.length_nil, List.map_cons, List.map_nil, List.replicate, List.cons_append, List.nil_append, Option.bind_some, Nat.zero_add, Nat.reduceAdd, Nat.reduceSub, Nat.reduceLeDiff]
  have c2' := c2 ⟨[.shr (.loc 0), .shr (.lst (odd1 ++ odd2))], T.d :: r⟩
  unfold oddL odd1 odd2 odd3 at c2' e
  simp only [List.cons_append, List.nil_append] at c2' e
  rw [c2']
  simp only [e_d1, e_bind, e_mB2, e_dC, e_dVar, e_aNil, e_aCons, e_aTup, e_aLst, e_mkTup, e_mkLst, e_optS, e_toB, e_mAnd, e_mOr, e_mNot, e_mIf, e_toS, e_sbind, e_sbindR, e_sSeq, e_sNext, e_sIf, e_sSet, e_sOwn, e_sRet, e_sExpr, e_sAsg, e_tName, e_tTup, e_tNil, e_tCons, e_tSub, e_toR, e_toRn, u_lt, u_le, u_gt, u_ge, u_add, u_sub, u_lenL, u_lenT, g_intI, List.getElem?_cons_zero, List.getElem?_cons_succ, List.set_cons_zero, List.set_cons_succ, List.length_cons, List.length_nil, List.map_cons, List.map_nil, List.replicate, List.cons_append, List.nil_append, Option.bind_some, Nat.zero_add, Nat.reduceAdd, Nat.reduceSub, Nat.reduceLeDiff]
  rw [e_call e]
  simp only [e_d1, e_bind, e_mB2, e_dC, e_dVar, e_aNil, e_aCons, e_aTup, e_aLst, e_mkTup, e_mkLst, e_optS, e_toB, e_mAnd, e_mOr, e_mNot, e_mIf, e_toS, e_sbind, e_sbindR, e_sSeq, e_sNext, e_sIf, e_sSet, e_sOwn, e_sRet, e_sExpr, e_sAsg, e_tName, e_tTup, e_tNil, e_tCons, e_tSub, e_toR, e_toRn, u_lt, u_le, u_gt, u_ge, u_add, u_sub, u_lenL, u_lenT, g_intI, List.getElem?_cons_zero, List.getElem?_cons_succ, List.set_cons_zero, List.set_cons_succ, List.length_cons, List.length_nil, List.map_cons, List.map_nil, List.replicate, List.cons_append, List.nil_append, Option.bind_some, Nat.zero_add, Nat.reduceAdd, Nat.reduceSub, Nat.reduceLeDiff]
end B
end
section
set_option maxRecDepth 100000
set_option maxHeartbeats 4000000
namespace B
open PySem L2
theorem same_held {D E : Tb} (h1 : TbOk D) (h2 : TbOk E) (he : ∀ k, D.get k = E.get k) : D.held = E.held :=
  (held_cn h1).ext (held_cn h2) fun k => by rw [held_getA h1, held_getA h2, he]
section
variable {zs : List Str} {a b : Tb} {x0 x2 x3 x4 x5 x6 x7 x8 x9 x10 x11 x12 x13 : Slot} {w : Wd}
theorem es (i j : Int) (st : DS) : subU ow_subE (.int i) (.int j) st = .ok (.int (i - j)) st := id (by rfl)
end
end B
end
section
set_option maxRecDepth 100000
set_option maxHeartbeats 4000000
namespace B
open PySem L2
def fDict : M Dt := (d1 (aCons (mLc [14] (d1 (dVar 4) iterD) (tName 14) mYes (aTup (aCons (dVar 14) (aCons (mB2 (dVar 12) (mB2 (dVar 4) (dVar 14) (getU ow0)) (mulVT mulTs ow_mulE)) aNil)))) aNil) gDict)
end B
end
section
set_option maxRecDepth 100000
set_option maxHeartbeats 4000000
namespace B
open PySem L2
theorem kc {m : FnM} {ds : List Dt} {d : Dt} {w w' : Wd} (e : m ds w = .ok d w') (sl : List Slot) : callM m ds ⟨sl, w⟩ = .ok d ⟨sl, w'⟩ := e_call (st := ⟨sl, w⟩) e
theorem kx {m : FnM} {ds : List Dt} {x : XD} {w w' : Wd} (e : m ds w = .exc x w') (sl : List Slot) : callM m ds ⟨sl, w⟩ = .exc x ⟨sl, w'⟩ := by unfold callM; rw [e]
section
variable {sl : List Slot} {w w0 r : Wd}
theorem lcD {v : Nat} {s : Slot} {T : Tape} {n c : Nat} {ds : List Dt} {it : M (List Dt)} {te : M Dt} {R : Dt → Dt → Prop} (hs : sl[v]? = some s) (hso : shrOf (some s) = s) (hit : it ⟨sl, w0⟩ = .ok ds ⟨sl, T.d :: r⟩) (hl : ds.length < 900) (h : T.Ok n)
    (hte : ∀ d ∈ ds, ∀ (T : Tape) (m : Nat), T.Ok m → m ≤ n + c * ds.length → ∃ (y : Dt) (T' : Tape), te ⟨sl.set v (.shr d), T.d :: r⟩ = .ok y ⟨sl.set v (.shr d), T'.d :: r⟩ ∧ R d y ∧ T'.Ok (m + c)) :
    ∃ (ys : List Dt) (T' : Tape), mLc [v] it (tName v) mYes te ⟨sl, w0⟩ = .ok (.lst ys) ⟨sl, T'.d :: r⟩ ∧ Paired R ds ys ∧ T'.Ok (n + c * ds.length) := by
  have hv : v < sl.length := (List.getElem?_eq_some_iff.mp hs).1
  have hset : sl = sl.set v sl[v] := (List.set_getElem_self hv).symm
  obtain ⟨ys, st', e2, T', x, rfl, h1, h3⟩ := lcGo_ok (vs := [v]) (tg := tName v) (tt := mYes) (te := te)
    (fun k acc st => ∃ (T' : Tape) (x : Slot), st = ⟨sl.set v x, T'.d :: r⟩ ∧ Paired R (ds.take k) acc ∧ T'.Ok (n + c * k))
    ds [] 0 ⟨sl, T.d :: r⟩ ⟨T, sl[v], by rw [← hset], .nil, h⟩ (by rw [List.length_nil]; exact Nat.lt_of_lt_of_le (show 0 + ds.length < 1000 by omega) (by decide)) (by
      rintro k d acc st hk ⟨T', x, rfl, h1, h3⟩
      have hk8 : k < ds.length := (List.getElem?_eq_some_iff.mp hk).1
      have ed : ds[k]'hk8 = d := (List.getElem?_eq_some_iff.mp hk).2
      obtain ⟨y, T1, e1, p1, ok1⟩ := hte d (List.mem_of_getElem? hk) T' (n + c * k) (by rw [Nat.zero_add] at h3; exact h3) (Nat.add_le_add_left (Nat.mul_le_mul_left c (Nat.le_of_lt hk8)) n)
      refine ⟨⟨sl.set v (.shr d), T'.d :: r⟩, true, ⟨sl.set v (.shr d), T'.d :: r⟩, ?_, rfl, (fun q => by cases q), fun _ => ⟨_, _, e1, T1, _, rfl, ?_, ?_⟩⟩
      · show some (⟨(wipeS (sl.set v x) [v]).set v (.shr d), T'.d :: r⟩ : DS) = _
        rw [wipe1, List.set_set]
      · rw [Nat.zero_add, List.take_succ_eq_append_getElem hk8, ed]
        rw [Nat.zero_add] at h1
        exact paired_app1 p1 h1
      · rw [Nat.zero_add, Nat.mul_succ, ← Nat.add_assoc]; exact ok1)
  rw [Nat.zero_add] at h1 h3
  rw [List.take_length] at h1
  refine ⟨ys, T', ?_, h1, h3⟩
  unfold mLc
  rw [hit, e_bind, e2, e_bind]
  show Out.ok _ (DS.mk (restore sl (sl.set v x) [v]) _) = _
  rw [restore1 hs hso]
end
def Cl (x : Slot) : Prop := ∀ m, 1 ≤ m → sloC m x = true
theorem Cl.emp : Cl .emp := fun _ _ => rfl
theorem Cl.tape : Cl (.shr (.loc 0)) := fun m h => by show clo m (.loc 0) = true; rw [clo]; exact decide_eq_true (by omega)
theorem Cl.shr {d : Dt} (h : NoLoc d) : Cl (.shr d) := fun m _ => h m
def AllCl (sl : List Slot) : Prop := ∀ x ∈ sl, Cl x
theorem AllCl.set {sl : List Slot} {i : Nat} {x : Slot} (h : AllCl sl) (hx : Cl x) : AllCl (sl.set i x) := fun y m => (List.mem_or_eq_of_mem_set m).elim (h y) fun e => e ▸ hx
theorem AllCl.all {sl : List Slot} (h : AllCl sl) {m : Nat} (h1 : 1 ≤ m) : sl.all (sloC m) = true := List.all_eq_true.mpr fun x hx => h x hx m h1
theorem noLoc_ints (xs : List Int) : ∀ d ∈ xs.map Dt.int, NoLoc d := fun d hd => by obtain ⟨i, _, rfl⟩ := List.mem_map.mp hd; exact noLoc_int i
theorem noLoc_strs (xs : List Str) : ∀ d ∈ xs.map Dt.str, NoLoc d := fun d hd => by obtain ⟨i, _, rfl⟩ := List.mem_map.mp hd; exact noLoc_str i
theorem noLoc_set {ds : List Dt} (h : ∀ d ∈ ds, NoLoc d) : NoLoc (.set ds) := fun n => by rw [clo]; exact clos_of h n
theorem noLoc_prs (a : Tb) : ∀ d ∈ a.prs, NoLoc d := fun d hd => by
  obtain ⟨p, _, rfl⟩ := List.mem_map.mp hd
  exact noLoc_tup fun x hx => by
    simp only [List.mem_cons, List.not_mem_nil, or_false] at hx
    rcases hx with rfl | rfl
    · exact noLoc_str _
    · exact noLoc_int _
theorem sFor_ok {tg : TgM} {body : MS} {it : M (List Dt)} {ds : List Dt} {st st0 : DS} (I : Nat → DS → Prop) (hit : it st = .ok ds st0) (h : I 0 st0) (hs : ∀ i d st, ds[i]? = some d → I i st → ∃ st1 st2, tg d st = some st1 ∧ body st1 = .nx st2 ∧ I (i + 1) st2) :
    ∃ st', sFor [] it tg body st = .nx st' ∧ I ds.length st' := by
  obtain ⟨st', e, hI⟩ := forGo_ok (cl := []) (tg := tg) (body := body) I ds 0 st0 h fun i d st hd hi => by
    rw [Nat.zero_add] at hi
    obtain ⟨st1, st2, a, b, c⟩ := hs i d st hd hi
    exact ⟨st1, st2, a, b, by rw [Nat.zero_add]; exact c⟩
  rw [Nat.zero_add] at hI
  refine ⟨st', ?_, hI⟩
  unfold sFor
  rw [hit]
  exact e
end B
end
section
set_option maxRecDepth 100000
set_option maxHeartbeats 4000000
namespace B
open PySem L2
noncomputable section
def isOD : List (Dt × Dt) → Bool
  | [] => true
  | [(.str x, .int i)] => decide (x.cps.toList = [97]) && decide (i = 1)
  | [(.int i, .str x)] => decide (x.cps.toList = [97]) && decide (i = 1)
  | _ => false
def Asc (x : Str) : Prop := ∀ c ∈ x.cps.toList, c < 128
theorem asc_dec {x : Str} (h : (x.cps.toList.all fun c => decide (c < 128)) = true) : Asc x := fun c m => of_decide_eq_true (List.all_eq_true.mp h c m)
def pl (s l k : Nat) : Nat → Dt → Bool
  | 0, _ => false
  | _ + 1, .non => true
  | _ + 1, .bl _ => true
  | _ + 1, .int i => decide (i.natAbs ≤ 1000000000000000000 + k)
  | _ + 1, .str x => decide (x.length ≤ s) && x.cps.toList.all fun c => decide (c < 128)
  | n + 1, .lst ds => decide (ds.length ≤ l) && ds.all (pl s l k n)
  | n + 1, .tup ds => decide (ds.length ≤ l) && ds.all (pl s l k n)
  | _ + 1, .dic kvs => isOD kvs
  | _ + 1, _ => false
mutual
def wt : Dt → Nat
  | .str x => x.length + 3
  | .lst ds => wts ds + 3
  | .tup ds => wts ds + 3
  | .dic _ => 40
  | .non => 25
  | .bl _ => 25
  | .int _ => 25
  | .set _ => 25
  | .frt _ => 25
  | .kys _ => 25
  | .ins _ _ => 25
  | .exc _ _ => 25
  | .ty _ => 25
  | .cls _ => 25
  | .loc _ => 25
def wts : List Dt → Nat
  | [] => 0
  | d :: ds => wt d + 2 + wts ds
end
theorem wt_str {x : Str} : wt (.str x) = x.length + 3 := by rw [wt]
theorem wt_lst {ds : List Dt} : wt (.lst ds) = wts ds + 3 := by rw [wt]
theorem wt_tup {ds : List Dt} : wt (.tup ds) = wts ds + 3 := by rw [wt]
theorem wt_int {i : Int} : wt (.int i) = 25 := by rw [wt]
theorem wt_dic {kvs : List (Dt × Dt)} : wt (.dic kvs) = 40 := by rw [wt]
theorem wts_cons {d : Dt} {ds : List Dt} : wts (d :: ds) = wt d + 2 + wts ds := by rw [wts]
section
variable {s l k s' l' k' : Nat}
theorem pl_lst {n : Nat} {ds : List Dt} : pl s l k (n + 1) (.lst ds) = true ↔ ds.length ≤ l ∧ ∀ d ∈ ds, pl s l k n d = true := by
  show (decide (ds.length ≤ l) && ds.all (pl s l k n)) = true ↔ _
  rw [Bool.and_eq_true, decide_eq_true_eq, List.all_eq_true]
theorem pl_tup {n : Nat} {ds : List Dt} : pl s l k (n + 1) (.tup ds) = true ↔ ds.length ≤ l ∧ ∀ d ∈ ds, pl s l k n d = true := by
  show (decide (ds.length ≤ l) && ds.all (pl s l k n)) = true ↔ _
  rw [Bool.and_eq_true, decide_eq_true_eq, List.all_eq_true]
theorem pl_int {n : Nat} {i : Int} : pl s l k (n + 1) (.int i) = true ↔ i.natAbs ≤ 1000000000000000000 + k := decide_eq_true_iff
theorem pl_str {n : Nat} {x : Str} : pl s l k (n + 1) (.str x) = true ↔ x.length ≤ s ∧ Asc x := by
  show (decide (x.length ≤ s) && x.cps.toList.all fun c => decide (c < 128)) = true ↔ _
  rw [Bool.and_eq_true, decide_eq_true_eq, List.all_eq_true]
  exact ⟨fun h => ⟨h.1, fun c m => of_decide_eq_true (h.2 c m)⟩, fun h => ⟨h.1, fun c m => decide_eq_true (h.2 c m)⟩⟩
end
theorem str_int_len {i : Int} (h : i.natAbs ≤ 1000000000000000011) : i.natAbs.log2 < 1920 ∧ (Str.ofString (toString i)).length ≤ 21 := by
  refine ⟨?_, ?_⟩
  · by_cases z : i.natAbs = 0
    · rw [z]; decide
    · refine (Nat.log2_lt z).mpr (Nat.lt_of_le_of_lt h ?_)
      exact Nat.lt_of_lt_of_le (show 1000000000000000011 < 2 ^ 64 by decide) (Nat.pow_le_pow_right (by omega) (by omega))
  · have e := int_text_length_le10 (a := i) (k := 20) (by decide) (Nat.lt_of_le_of_lt h (by decide))
    rw [ofString_length]
    omega
end
end B
end
section
set_option maxRecDepth 100000
set_option maxHeartbeats 4000000
namespace B
open PySem L2
noncomputable section
def nmB (l : List Nat) : Bool := decide (1 ≤ l.length) && decide (l.length ≤ 8) && !isRes l && l.all fun c => decide (97 ≤ c ∧ c < 123)
def nm : Dt → Bool
  | .str x => nmB x.cps.toList
  | _ => false
def un : Dt → Str
  | .str x => x
  | _ => Str.empty
end
end B
end
section
set_option maxRecDepth 100000
set_option maxHeartbeats 4000000
namespace B
open PySem L2
noncomputable section
theorem asc_ok {x : Str} (h : Asc x) : OkS x := fun c m => by have := h c m; omega
def Wr (d : Dt) (p : PyData) : Prop := p.leavesShort 30 = true ∧ p.weight ≤ 3 * wt d ∧ okD p
def Wrs (ds : List Dt) (ps : List PyData) : Prop := PyData.leavesShortAll 30 ps = true ∧ PyData.weightAll ps ≤ 3 * wts ds ∧ okDs ps
theorem wr_all {f : Dt → Option PyData} : ∀ {ds : List Dt}, (∀ d ∈ ds, ∃ p, f d = some p ∧ Wr d p) → ∃ ps, mapO f ds = some ps ∧ Wrs ds ps
  | [], _ => ⟨[], rfl, by simp only [PyData.leavesShortAll], by simp only [PyData.weightAll]; omega, by simp only [okDs]⟩
  | d :: ds, h => by
    obtain ⟨p, e, h1, h2, h3⟩ := h d List.mem_cons_self
    obtain ⟨ps, es, g1, g2, g3⟩ := wr_all fun d m => h d (List.mem_cons_of_mem _ m)
    refine ⟨p :: ps, ?_, by simp only [PyData.leavesShortAll, h1, g1, Bool.and_self], ?_, by simp only [okDs]; exact ⟨h3, g3⟩⟩
    · unfold mapO
      rw [e, es]
    · simp only [PyData.weightAll]
      rw [wts_cons]
      omega
theorem pa_int {i : Int} (h : i.natAbs < 2 ^ 64) : pyAt (.int i) = some (.int i) := if_pos (Nat.lt_of_lt_of_le h (Nat.pow_le_pow_right (by omega) (by omega)))
theorem pk_int {i : Int} (h : i.natAbs < 2 ^ 64) : pyKey (.int i) = some (.int i) := if_pos (Nat.lt_of_lt_of_le h (Nat.pow_le_pow_right (by omega) (by omega)))
theorem wr_ok {s l k : Nat} (hk : k ≤ 10) : ∀ {n m : Nat} {d : Dt}, pl s l k n d = true → n ≤ m → ∃ p, wrV m d = some p ∧ Wr d p
  | 0, _, _, h, _ => by cases h
  | n + 1, 0, _, _, hm => by omega
  | n + 1, m + 1, d, h, hm => by
    cases d with
    | non => exact ⟨.none, rfl, by simp only [PyData.leavesShort], by simp only [PyData.weight]; omega, by simp only [okD]⟩
    | bl b => exact ⟨.bool b, rfl, by simp only [PyData.leavesShort], by simp only [PyData.weight]; omega, by simp only [okD]⟩
    | int i =>
      have hi := pl_int.mp h
      obtain ⟨lg, ln⟩ := str_int_len (i := i) (by omega)
      have e : wrV (m + 1) (.int i) = some (.int i) := pa_int (by omega)
      refine ⟨.int i, e, ?_, ?_, by simp only [okD]⟩
      · have z : (PyData.shown (.int i)).length ≤ 30 := by rw [PyData.shown]; exact Nat.le_trans ln (by decide)
        simp only [PyData.leavesShort, z, decide_true]
      · rw [wt_int]
        unfold PyData.weight
        split
        · omega
        · by_cases z : i.natAbs = 0
          · rw [z]; decide
          · have : i.natAbs.log2 < 64 := (Nat.log2_lt z).mpr (by omega)
            omega
    | str x =>
      obtain ⟨h1, h2⟩ := pl_str.mp h
      refine ⟨.str x, rfl, ?_, ?_, by simp only [okD]; exact asc_ok h2⟩
      · simp only [PyData.leavesShort]
        exact List.all_eq_true.mpr fun c m => decide_eq_true (Nat.lt_of_lt_of_le (h2 c m) (by decide))
      · simp only [PyData.weight]
        rw [wt_str]
        show x.cps.size ≤ 3 * (x.cps.size + 3)
        omega
    | lst ds =>
      obtain ⟨ps, e, g1, g2, g3⟩ := wr_all (f := wrV m) fun d md => wr_ok hk ((pl_lst.mp h).2 d md) (show n ≤ m by omega)
      refine ⟨.list ps, ?_, by simp only [PyData.leavesShort]; exact g1, by simp only [PyData.weight]; rw [wt_lst]; omega, by simp only [okD]; exact g3⟩
      show (mapO (wrV m) ds).map PyData.list = _
      rw [e]; rfl
    | tup ds =>
      obtain ⟨ps, e, g1, g2, g3⟩ := wr_all (f := wrV m) fun d md => wr_ok hk ((pl_tup.mp h).2 d md) (show n ≤ m by omega)
      refine ⟨.tuple ps, ?_, by simp only [PyData.leavesShort]; exact g1, by simp only [PyData.weight]; rw [wt_tup]; omega, by simp only [okD]; exact g3⟩
      show (mapO (wrV m) ds).map PyData.tuple = _
      rw [e]; rfl
    | dic kvs =>
      replace h : isOD kvs = true := h
      have at1 : ∀ j, wrV j (.int 1) = some (.int 1) := fun j => by
        have z : pyAt (.int 1) = some (.int 1) := pa_int (by decide)
        cases j <;> exact z
      have ats : ∀ j x, wrV j (.str x) = some (.str x) := fun j x => by cases j <;> rfl
      unfold isOD at h
      split at h
      · exact ⟨.dict [], rfl, by simp only [PyData.leavesShort, PyData.leavesShortKv], by simp only [PyData.weight, PyData.weightKv]; omega, by simp only [okD, okKv]⟩
      · rename_i x i
        rw [Bool.and_eq_true, decide_eq_true_eq, decide_eq_true_eq] at h
        obtain ⟨hx, rfl⟩ := h
        have hx : x = tx [97] := by rw [← hx]
        subst hx
        refine ⟨.dict [(.str (tx [97]), .int 1)], ?_, by decide, by rw [wt_dic]; decide, ?_⟩
        · show (match mapO pyKey [.str (tx [97])], mapO (wrV m) [.int 1] with | some ks, some vs => some (PyData.dict (ks.zip vs)) | _, _ => none) = _
          unfold mapO mapO
          rw [at1]
          rfl
        · simp only [okD, okKv]
          exact ⟨asc_ok (asc_dec (by decide)), trivial, trivial⟩
      · rename_i i x
        rw [Bool.and_eq_true, decide_eq_true_eq, decide_eq_true_eq] at h
        obtain ⟨hx, rfl⟩ := h
        have hx : x = tx [97] := by rw [← hx]
        subst hx
        have pk : pyKey (.int 1) = some (.int 1) := pk_int (by decide)
        refine ⟨.dict [(.int 1, .str (tx [97]))], ?_, by decide, by rw [wt_dic]; decide, ?_⟩
        · show (match mapO pyKey [.int 1], mapO (wrV m) [.str (tx [97])] with | some ks, some vs => some (PyData.dict (ks.zip vs)) | _, _ => none) = _
          unfold mapO mapO
          rw [ats, pk]
          rfl
        · simp only [okD, okKv]
          exact ⟨trivial, asc_ok (asc_dec (by decide)), trivial⟩
      · cases h
    | _ => cases h
theorem repr_ok {s l k n : Nat} {d : Dt} (h : pl s l k n d = true) (hk : k ≤ 10) (hn : n ≤ 8) (hw : wt d ≤ 30000) (hs : s ≤ 10000) : ∃ t, (∀ st : DS, gReprV [d] st = .ok (.str t) st) ∧ OkS t := by
  have big : ∀ p, wrV 8 d = some p → Wr d p → contD d = true → repD [d] = none → ∃ t, (∀ st : DS, gReprV [d] st = .ok (.str t) st) ∧ OkS t := fun p e ⟨h1, h2, h3⟩ hc hr => by
    have hz : p.shown.length ≤ 10000000 := by
      have := PyData.shown_le 30 (by decide) p h1
      omega
    refine ⟨p.shown, fun st => ?_, okS_shown p h3⟩
    show (opt (reprV [d]) : M Dt) st = _
    unfold reprV
    rw [hr]
    dsimp only
    rw [if_pos hc]
    unfold reprW2
    rw [e]
    dsimp only
    rw [if_pos hz]
    rfl
  obtain ⟨p, e, W⟩ := wr_ok (m := 8) hk h hn
  cases n with
  | zero => cases h
  | succ n =>
    cases d with
    | non => exact ⟨"None", fun st => rfl, okS_of⟩
    | bl b => exact ⟨if b then "True" else "False", fun st => rfl, by cases b <;> exact okS_of⟩
    | int i =>
      have hi := pl_int.mp h
      refine ⟨toString i, fun st => ?_, okS_of⟩
      show (opt (reprV [.int i]) : M Dt) st = _
      have z : repD [.int i] = some (.str (toString i)) := if_pos (Nat.lt_of_le_of_lt hi (Nat.lt_of_lt_of_le (show 1000000000000000000 + k < 2 ^ 64 by omega) (Nat.pow_le_pow_right (by omega) (by omega))))
      unfold reprV
      rw [z]; rfl
    | str x =>
      obtain ⟨h1, h2, h3⟩ := W
      have hz := PyData.shown_le 30 (by decide) p h1
      have e : some (PyData.str x) = some p := e
      cases e
      simp only [PyData.shown, PyData.weight] at hz
      have hx := (pl_str.mp h).1
      have hx : x.cps.size ≤ s := hx
      refine ⟨reprText x, fun st => ?_, okS_repr (asc_ok (pl_str.mp h).2)⟩
      show (opt (reprV [.str x]) : M Dt) st = _
      have z : repD [.str x] = some (.str (reprText x)) := if_pos (Nat.le_trans hz (Nat.le_trans (show (30 + 2) * x.cps.size + 30 ≤ 400000 by omega) (by decide)))
      unfold reprV
      rw [z]; rfl
    | lst ds => exact big p e W rfl rfl
    | tup ds => exact big p e W rfl rfl
    | dic kvs => exact big p e W rfl rfl
    | _ => cases h
end
end B
end
section
set_option maxRecDepth 100000
set_option maxHeartbeats 4000000
namespace B
open PySem L2
noncomputable section
abbrev Tri := Str × Str × Str
def t3D (t : Tri) : Dt := .tup [.str t.1, .str t.2.1, .str t.2.2]
end
end B
end
section
set_option maxRecDepth 100000
set_option maxHeartbeats 1000000
namespace B
open PySem L2
noncomputable section
def tbl (zs : List Str) (us : List Tri) : Dt := .ins "Table" [("own_kinds", .tup ((sortS zs).map Dt.str)), ("own_rules", .tup (us.map t3D))]
end
end B
end
section
set_option maxRecDepth 100000
set_option maxHeartbeats 1000000
namespace B
open PySem L2
noncomputable section
abbrev I3 := Int × Int × Int
end
end B
end
section
set_option maxRecDepth 100000
set_option maxHeartbeats 1000000
namespace B
open PySem L2
theorem nmLet_inj {stem : List Nat} {first step way : Int} (N : Nms stem first step way) {i j : Nat} (hi : i < 26) (hj : j < 26) (h : nmLet first step i = nmLet first step j) : i = j := by
  unfold nmLet at h
  have s := N.s
  have f0 := N.f0
  have f1 := N.f1
  simp only [List.mem_cons, List.not_mem_nil, or_false] at s
  rcases s with rfl | rfl | rfl | rfl | rfl | rfl <;> omega
theorem isRes_cases {l : List Nat} (h : isRes l = true) : l = [115, 101, 108, 102] ∨ l = [116, 97, 98, 108, 101] ∨ l = [103, 117, 97, 114, 100, 115] := by
  unfold isRes at h
  rw [List.any_eq_true] at h
  obtain ⟨y, m, e⟩ := h
  have e := congrArg (fun z : Str => z.cps.toList) (beq_iff_eq.mp e)
  simp only [List.mem_cons, List.not_mem_nil, or_false] at m
  rcases m with rfl | rfl | rfl
  · exact .inl e.symm
  · exact .inr (.inl e.symm)
  · exact .inr (.inr e.symm)
theorem base_ne {stem : List Nat} {way : Int} {i j a b : Nat} (h : nmBase stem way i a = nmBase stem way j b) : a = b := by
  unfold nmBase at h
  split at h
  · exact (List.cons.inj h).1
  · split at h
    · have := (List.append_inj' h rfl).2
      exact (List.cons.inj this).1
    · rw [Nat.add_comm 1, Nat.add_comm 1, List.take_succ_cons, List.take_succ_cons] at h
      exact (List.cons.inj h).1
theorem base_res {stem : List Nat} {way : Int} {i j a b : Nat} (h1 : isRes (nmBase stem way i a) = true) (h : nmBase stem way j b = [98, a, 98]) : False := by
  unfold nmBase at h h1
  split at h
  · rename_i h0
    rw [if_pos h0] at h1
    obtain ⟨rfl, rfl⟩ := List.cons.inj h
    rcases isRes_cases h1 with e | e | e <;> cases e
  · rename_i h0
    rw [if_neg h0] at h1
    split at h
    · rename_i h2
      rw [if_pos h2] at h1
      have e : stem ++ [b] = [98, a] ++ [98] := h
      obtain ⟨rfl, _⟩ := List.append_inj' e rfl
      rcases isRes_cases h1 with e | e | e <;> cases e
    · rename_i h2
      rw [if_neg h2] at h1
      rw [Nat.add_comm 1, List.take_succ_cons] at h h1
      obtain ⟨rfl, e⟩ := List.cons.inj h
      cases stem with
      | nil => rw [List.take_nil] at e; cases e
      | cons x xs =>
        cases j8 : j % 8 with
        | zero => rw [j8] at e; cases e
        | succ m =>
          rw [j8, List.take_succ_cons] at e
          obtain ⟨rfl, _⟩ := List.cons.inj e
          cases i8 : i % 8 with
          | zero => rw [i8] at h1; rcases isRes_cases h1 with e | e | e <;> cases e
          | succ m' =>
            rw [i8, List.take_succ_cons] at h1
            rcases isRes_cases h1 with e | e | e
            · have p := (List.cons.inj e).1; have q := (List.cons.inj (List.cons.inj e).2).1; omega
            · have p := (List.cons.inj e).1; have q := (List.cons.inj (List.cons.inj e).2).1; omega
            · have p := (List.cons.inj e).1; have q := (List.cons.inj (List.cons.inj e).2).1; omega
theorem nmAt_let {stem : List Nat} {first step way : Int} {i j : Nat} (h : nmAt stem first step way i = nmAt stem first step way j) : nmLet first step i = nmLet first step j := by
  unfold nmAt at h
  dsimp only at h
  split at h
  · rename_i h1
    split at h
    · exact (List.cons.inj (List.cons.inj h).2).1
    · exact (base_res h1 h.symm).elim
  · split at h
    · rename_i h1
      exact (base_res h1 h).elim
    · exact base_ne h
theorem nmAt_nd {stem : List Nat} {first step way : Int} (N : Nms stem first step way) {m : Nat} (hm : m ≤ 26) : ((List.range m).map fun k => tx (nmAt stem first step way k)).Nodup := by
  refine List.pairwise_map.mpr (List.Pairwise.imp_of_mem (fun {i j} hi hj hne e => hne ?_) List.nodup_range)
  exact nmLet_inj N (by have := List.mem_range.mp hi; omega) (by have := List.mem_range.mp hj; omega) (nmAt_let (tx_inj e))
end B
end
section
set_option maxRecDepth 100000
set_option maxHeartbeats 1000000
namespace B
open PySem L2
noncomputable section
def Nm8 (z : Str) : Prop := ∃ l, z = tx l ∧ NameOk l
theorem Nm8.pl {z : Str} (h : Nm8 z) {l k n : Nat} : pl 8 l k (n + 1) (.str z) = true := by
  obtain ⟨l, rfl, N⟩ := h
  refine pl_str.mpr ⟨N.l8, fun c m => ?_⟩
  have := N.al c m
  omega
theorem Nm8.wt {z : Str} (h : Nm8 z) : wt (.str z) ≤ 11 := by
  obtain ⟨l, rfl, N⟩ := h
  rw [wt_str]
  have : (tx l).length = l.length := rfl
  have := N.l8
  omega
end
end B
end
section
set_option maxRecDepth 100000
set_option maxHeartbeats 1000000
namespace B
open PySem L2
noncomputable section
def Tri.A (t : Tri) : Prop := Asc t.1 ∧ Asc t.2.1 ∧ Asc t.2.2
end
end B
end
section
set_option maxRecDepth 100000
set_option maxHeartbeats 1000000
namespace B
open PySem L2
noncomputable section
abbrev Rw := Tri × Int
end
end B
end
section
set_option maxRecDepth 100000
set_option maxHeartbeats 1000000
namespace B
open PySem L2
noncomputable section
section
variable {zs : List Str} {T : Tape} {n : Nat} {rs : List Rw} {hs : Tb}
theorem wts_all {b : Nat} : ∀ ds : List Dt, (∀ d ∈ ds, wt d ≤ b) → wts ds ≤ (b + 3) * ds.length
  | [], _ => by rw [wts]; exact Nat.zero_le _
  | d :: ds, h => by
    have h1 := h d List.mem_cons_self
    have h2 := wts_all ds fun x m => h x (List.mem_cons_of_mem _ m)
    rw [wts, List.length_cons, Nat.mul_add]
    omega
end
end
end B
end
section
set_option maxRecDepth 100000
set_option maxHeartbeats 1000000
namespace B
open PySem L2
noncomputable section
def p_slen17_1 : MS :=
  (sRet (d1 (aCons (d1 (dVar 0) (getA "held" at_held)) aNil) (lenU ow0)))
def b_slen17 : MS :=
  p_slen17_1
def r_slen17 : FnM := runB 1 1 b_slen17
def owLen17 : Ow := fun c => if c = "Stock" then some r_slen17 else none
end
end B
end
section
set_option maxRecDepth 100000
set_option maxHeartbeats 1000000
namespace B
open PySem L2
noncomputable section
def isT07 : IsT := isC2 ["Stock"]
def p_con07_1 : MS :=
  (sRet (vAnd (d1 (aCons (dVar 1) (aCons (dC (.ty "str")) aNil)) (gIsiF isB)) (mB2 (dVar 1) (d1 (dVar 0) (getA "held" at_held)) (inU ow0))))
def b_con07 : MS :=
  p_con07_1
def r_con07 : FnM := runB 2 2 b_con07
def owCon07 : Ow := fun c => if c = "Stock" then some r_con07 else none
def p_get07_1 : MS :=
  (sRet (mIf (d1 (mB2 (dVar 1) (dVar 0) (inU owCon07)) toB) (mB2 (d1 (dVar 0) (getA "held" at_held)) (dVar 1) (getU ow0)) (dC (.int 0))))
def b_get07 : MS :=
  p_get07_1
def r_get07 : FnM := runB 2 2 b_get07
def owGet07 : Ow := fun c => if c = "Stock" then some r_get07 else none
def p_of07_1 : MS :=
  (sIf (mNot (d1 (d1 (aCons (dVar 1) (aCons (dC (.ty "dict")) aNil)) (gIsi isB)) toB)) sNever sNext)
def p_of07_2 : MS :=
  (sIf (bLendW 4 (mNot (d1 (d1 (aCons (mLc [2, 3] (d1 (dVar 1) (valsD pairD)) (tTupT 2 (tCons (tName 2) (tCons (tName 3) tNil))) mYes (vAnd (d1 (aCons (dVar 2) aNil) (callM r_is_name)) (d1 (aCons (dVar 3) aNil) (callM r_is_amount)))) aNil) gAllB) toB))) sNever sNext)
def p_of07_3 : MS :=
  (sRet (d1 (dVar 0) fun o => d1 (noX (dVar 1)) fun z => mkKWL mkT o z))
def b_of07 : MS :=
  (sSeq p_of07_1 (sSeq p_of07_2 p_of07_3))
def r_of07 : FnM := runB 4 2 b_of07
def ckMost07 : Str → Option Int := fun c => if c = "Stock" then some 1000000000000000000 else none
def p_eq07_1 : MS :=
  (sRet (vAnd (d1 (aCons (dVar 1) (aCons (dC (.cls "Stock")) aNil)) (gIsi isT07)) (mB2 (d1 (dVar 0) (getA "order" at_order)) (d1 (dVar 1) (getA "order" at_order)) (eqU ow0))))
def b_eq07 : MS :=
  p_eq07_1
def r_eq07 : FnM := runB 2 2 b_eq07
def owEq07 : Ow := fun c => if c = "Stock" then some r_eq07 else none
def owLen07 : Ow := fun c => if c = "Stock" then some r_slen17 else none
def p_itd07_1 : MS :=
  (sSet 3 (d1 (aCons (d1 (aCons (mLc [7] (d1 (dVar 2) iterF) (tName 7) (d1 (mB2 (mB2 (dVar 2) (dVar 7) (getU owGet07)) (dC (.int 0)) gtU) toB) (aTup (aCons (dVar 7) (aCons (mB2 (dVar 2) (dVar 7) (getU owGet07)) aNil)))) aNil) gSorted) aNil) (fun ds => opt (tupFL ds))))
def p_itd07_2 : MS :=
  (sSet 4 (aLst (aCons (d1 (dVar 1) (getA "kinds" at_kinds)) (aCons (d1 (dVar 1) (getA "entries" at_entries)) (aCons (d1 (dVar 1) (getA "total" at_total)) (aCons (d1 (aCons (dVar 1) aNil) (lenUF owLen07)) (aCons (d1 (aCons (dVar 1) aNil) (boolV ow_bool)) aNil)))))))
def p_itd07_3 : MS :=
  (sIf (d1 (mB2 (d1 (aCons (dVar 4) aNil) gReprV) (d1 (aCons (aLst (aCons (d1 (aCons (mLc [8] (d1 (dVar 3) iterF) (tName 8) mYes (mB2 (dVar 8) (dC (.int 0)) (getU owGet07))) aNil) (fun ds => opt (tupFL ds))) (aCons (dVar 3) (aCons (d1 (dVar 2) fun x => opt (sumV x)) (aCons (d1 (aCons (dVar 3) aNil) (lenUF owLen07)) (aCons (mB2 (dVar 3) (aTup aNil) neU) aNil)))))) aNil) gReprV) neU) toB) (sRet (dC (.bl false))) sNext)
def p_itd07_4_1 : MS :=
  (sSet 6 (mIf (d1 (d1 (aCons (dVar 5) (aCons (dC (.ty "str")) aNil)) (gIsiF isB)) toB) (mMe "dict" (d1 (aCons (dVar 3) aNil) fun ds => opt (dicFD ds)) (aCons (dVar 5) (aCons (dC (.int 0)) aNil)) gGet) (dC (.int 0))))
def p_itd07_4_2 : MS :=
  (sIf (mOr (d1 (mB2 (d1 (aCons (mB2 (dVar 1) (dVar 5) (getU owGet07)) aNil) gReprV) (d1 (aCons (dVar 6) aNil) gReprV) neU) toB) (d1 (mB2 (mB2 (dVar 5) (dVar 1) (inU owCon07)) (mB2 (dVar 6) (dC (.int 0)) gtU) neU) toB)) (sRet (dC (.bl false))) sNext)
def p_itd07_4 : MS :=
  (sFor [] (d1 (mB2 (d1 (aCons (dVar 2) aNil) gList) (aLst (aCons (d1 (aCons (dVar 0) aNil) (callM r_odd)) (aCons (d1 (aCons (dVar 0) aNil) (callM r_odd)) (aCons (dVar 3) (aCons (dC .non) (aCons (aLst (aCons (dC (.str "a")) aNil)) aNil)))))) (addU ow0)) iterF) (tName 5) (sSeq p_itd07_4_1 p_itd07_4_2))
def b_itd07 : MS :=
  (sSeq p_itd07_1 (sSeq p_itd07_2 (sSeq p_itd07_3 (sSeq p_itd07_4 (sRet (dC (.bl true)))))))
def r_itd07 : FnM := runB 9 3 b_itd07
def p_lby07_1 : MS :=
  (sRet (aLst (aCons (d1 (dC (.cls "Stock")) (mkK0 mkT)) (aCons (d1 (aCons (dVar 0) aNil) (initKs "Stock" r_init ["a"])) (aCons (d1 (aCons (dVar 1) (aCons (dVar 0) aNil)) (initKs "Stock" r_init ["b", "a"])) (aCons (d1 (aCons (dVar 2) (aCons (dVar 1) (aCons (dVar 0) aNil))) (initKs "Stock" r_init ["c", "xyzwuvts", "a"])) aNil))))))
def b_lby07 : MS :=
  p_lby07_1
def r_lby07 : FnM := runB 3 3 b_lby07
def p_k07_law_1 : MS :=
  (sAsg (aTup (aCons (d1 (aCons (dVar 0) aNil) (callM r_begin)) (aCons (aLst aNil) aNil))) (tTupT 2 (tCons (tName 1) (tCons (tName 2) tNil))))
def p_k07_law_2_1 : MS :=
  (sSet 4 (d1 (aCons (dVar 1) (aCons (d1 (aCons (dVar 1) (aCons (aLst (aCons (d1 (aCons (dVar 1) (aCons (dC (.int 6)) aNil)) (callM r_draw)) (aCons (d1 (aCons (dVar 1) (aCons (dC (.int 6)) aNil)) (callM r_draw)) (aCons (dC (.int 12)) aNil)))) aNil)) (callM r_pick)) aNil)) (callM r_names)))
def p_k07_law_2_2 : MS :=
  (sSet 5 (d1 (aCons (mLc [17] (d1 (dVar 4) iterD) (tName 17) mYes (aTup (aCons (dVar 17) (aCons (d1 (aCons (dVar 1) (aCons (mB2 (dC (.int 10)) (dC (.int 18)) powU) aNil)) (callM r_number)) aNil)))) aNil) gDict))
def p_k07_law_2_3 : MS :=
  (sSet 6 (toLoc (d1 (aCons (mLc [17] (d1 (d1 (aCons (dVar 1) (aCons (dVar 4) aNil)) (callM r_shuffled)) iterD) (tName 17) mYes (aTup (aCons (dVar 17) (aCons (mB2 (dVar 5) (dVar 17) (getU owGet07)) aNil)))) aNil) gDict)))
def p_k07_law_2_4 : MS :=
  (sSet 7 (d1 (aCons (dVar 6) aNil) fun ds => callM r_of07 (.cls "Stock" :: ds)))
def p_k07_law_2_6 : MS :=
  (sIf (mOr (mNot (d1 (d1 (aCons (dVar 1) (aCons (dVar 7) (aCons (dVar 5) aNil))) (callM r_itd07)) truN)) (d1 (mB2 (d1 (dC (.cls "Stock")) (getCc ckMost07)) (mB2 (dC (.int 10)) (dC (.int 18)) powU) (neV owEq07)) toB)) (sRet (dC (.bl false))) sNext)
def p_k07_law_2_7 : MS :=
  (sIf (mOr (d1 (mB2 (dVar 7) (d1 (aCons (dVar 1) aNil) (callM r_odd)) (eqVT ["NoneType", "bool", "int", "str", "dict", "list", "tuple"] owEq07)) toB) (d1 (mB2 (dVar 7) (dVar 5) (eqVT ["NoneType", "bool", "int", "str", "dict", "list", "tuple"] owEq07)) toB)) (sRet (dC (.bl false))) sNext)
def p_k07_law_2_8 : MS :=
  (sSet 8 (d1 (aCons (mLc [17] (d1 (dVar 4) iterD) (tName 17) (d1 (mB2 (mB2 (dVar 5) (dVar 17) (getU owGet07)) (dC (.int 0)) gtU) toB) (aTup (aCons (dVar 17) (aCons (mB2 (dVar 5) (dVar 17) (getU owGet07)) aNil)))) aNil) gSorted))
def p_k07_law_2_9 : MS :=
  (sSet 2 (mB2 (dVar 2) (aLst (aCons (aTup (aCons (dVar 7) (aCons (dVar 8) aNil))) aNil)) (addU ow0)))
def p_k07_law_2_10_1 : MS :=
  (sIf (mOr (d1 (mB2 (mB2 (dVar 9) (dVar 7) (eqU owEq07)) (mB2 (dVar 10) (dVar 8) (eqU owEq07)) (neV owEq07)) toB) (d1 (mB2 (mB2 (dVar 9) (dVar 7) (neV owEq07)) (mB2 (dVar 10) (dVar 8) (neV owEq07)) (neV owEq07)) toB)) (sRet (dC (.bl false))) sNext)
def p_k07_law_2_10 : MS :=
  (sFor [] (d1 (dVar 2) iterD) (tTupT 2 (tCons (tName 9) (tCons (tName 10) tNil))) p_k07_law_2_10_1)
def p_k07_law_2_11 : MS :=
  (sAsg (mLc [18] (d1 (aCons (dC (.int 3)) aNil) rng1) (tName 18) mYes (d1 (aCons (dVar 1) (aCons (mB2 (dC (.int 10)) (dC (.int 18)) powU) aNil)) (callM r_number))) (tLstT 3 (tCons (tName 11) (tCons (tName 12) (tCons (tName 13) tNil)))))
def p_k07_law_2_12 : MS :=
  (sSet 14 (aLst (aCons (fun st => .ok (.dic []) st) (aCons (mDic (prCons (dC (.str "a")) (dVar 11) prNil)) (aCons (mDic (prCons (dC (.str "a")) (dVar 11) (prCons (dC (.str "b")) (dVar 12) prNil))) (aCons (mDic (prCons (dC (.str "a")) (dVar 11) (prCons (dC (.str "c")) (dVar 13) (prCons (dC (.str "xyzwuvts")) (dVar 12) prNil)))) aNil))))))
def p_k07_law_2_13_1 : MS :=
  (sIf (mOr (mNot (d1 (d1 (aCons (dVar 1) (aCons (dVar 15) (aCons (dVar 16) aNil))) (callM r_itd07)) truN)) (d1 (mB2 (dVar 15) (d1 (aCons (dVar 16) aNil) fun ds => callM r_of07 (.cls "Stock" :: ds)) (neV owEq07)) toB)) (sRet (dC (.bl false))) sNext)
def p_k07_law_2_13 : MS :=
  (sFor [] (d1 (aCons (d1 (aCons (dVar 11) (aCons (dVar 12) (aCons (dVar 13) aNil))) (callM r_lby07)) (aCons (dVar 14) aNil)) zipDA) (tTupT 2 (tCons (tName 15) (tCons (tName 16) tNil))) p_k07_law_2_13_1)
def p_k07_law_2_14_1 : MS :=
  (sIf (mOr (d1 (mB2 (d1 (aCons (dVar 17) (aCons (mB2 (dVar 5) (dVar 17) (getU owGet07)) aNil)) (callM r_single)) (d1 (aCons (mDic (prCons (dVar 17) (mB2 (dVar 5) (dVar 17) (getU owGet07)) prNil)) aNil) fun ds => callM r_of07 (.cls "Stock" :: ds)) (neV owEq07)) toB) (d1 (mB2 (mB2 (d1 (aCons (dVar 17) aNil) (callM (dflt r_single [.int 1]))) (dVar 17) (getU owGet07)) (dC (.int 1)) (neV owEq07)) toB)) (sRet (dC (.bl false))) sNext)
def p_k07_law_2_b : MS :=
  (sSeq p_k07_law_2_1 (sSeq p_k07_law_2_2 (sSeq p_k07_law_2_3 (sSeq p_k07_law_2_4 (sSeq (sExpr (mMe "dict" (dVar 6) aNil gClrD)) (sSeq p_k07_law_2_6 (sSeq p_k07_law_2_7 (sSeq p_k07_law_2_8 (sSeq p_k07_law_2_9 (sSeq p_k07_law_2_10 (sSeq p_k07_law_2_11 (sSeq p_k07_law_2_12 (sSeq p_k07_law_2_13 (sFor [] (d1 (dVar 4) iterD) (tName 17) p_k07_law_2_14_1))))))))))))))
def p_k07_law_2 : MS :=
  (sFor [] (d1 (aCons (dC (.int 6)) aNil) rng1) (tName 3) (sCut [6] p_k07_law_2_b))
def b_k07_law : MS :=
  (sSeq p_k07_law_1 (sSeq p_k07_law_2 (sRet (dC (.bl true)))))
def r_k07_law : FnM := runB 19 1 b_k07_law
end
end B
end
section
set_option maxRecDepth 100000
set_option maxHeartbeats 1000000
namespace B
open PySem L2
noncomputable section
abbrev Row := List Int
end
end B
end
section
set_option maxRecDepth 100000
set_option maxHeartbeats 1000000
namespace B
open PySem L2
noncomputable section
abbrev Ks := List Str
end
end B
end
section
set_option maxRecDepth 100000
set_option maxHeartbeats 1000000
namespace B
open PySem L2
noncomputable section
abbrev LD := List (Ks × List Row)
end
end B
end
section
set_option maxRecDepth 100000
set_option maxHeartbeats 1000000
namespace B
open PySem L2
noncomputable section
abbrev Tb.vs (a : Tb) : Row := a.map (·.2)
section
variable {a b : Tb} {w : Wd} {st : DS}
theorem mergeD_tb : ∀ (a acc : Tb), (acc ++ a).ks.Nodup → mergeD acc.d a.d = (acc ++ a).d
  | [], acc, _ => by rw [List.append_nil]; rfl
  | p :: a, acc, nd => by
    have hn : p.1 ∉ acc.map (·.1) := fun m => by
      unfold Tb.ks at nd
      rw [List.map_append, List.map_cons] at nd
      exact (List.nodup_append.mp nd).2.2 p.1 m p.1 List.mem_cons_self rfl
    have e2 : mergeD acc.d (Tb.d (p :: a)) = mergeD (putD acc.d (.str p.1) (.int p.2)) (Tb.d a) := rfl
    rw [e2, putD_new hn, mergeD_tb a (acc ++ [(p.1, p.2)]) (by rw [List.append_assoc]; exact nd), List.append_assoc]
    rfl
theorem len1_tb : len1 w [.dic a.d] = some (.int (a.length : Nat)) := by
  show (if a.d.all (fun kv => isKey kv.1) then some (Dt.int a.d.length) else none) = _
  rw [if_pos a.keys]
  unfold Tb.d
  rw [List.length_map]
theorem slen_ok : r_slen17 [a.stock] w = .ok (.int (a.length : Nat)) w := by
  show (b_slen17 ⟨[.shr a.stock], w⟩).toR = _
  unfold b_slen17 p_slen17_1
  have e1 : (d1 (dVar 0) (getA "held" at_held) : M Dt) ⟨[.shr a.stock], w⟩ = .ok (.dic a.d) ⟨[.shr a.stock], w⟩ := by
    rw [e_d1]
    rfl
  have e2 : lenU ow0 [.dic a.d] ⟨[.shr a.stock], w⟩ = .ok (.int (a.length : Nat)) ⟨[.shr a.stock], w⟩ := by
    show (opt (len1 w [.dic a.d]) : M Dt) _ = _
    rw [len1_tb]
    rfl
  rw [e_sRet, e_d1, e_aCons, e1, e_bind, e_aNil, e_bind, e_bind, e2]
  rfl
theorem len17_ok (h9 : a.length ≤ 900) : lenU owLen17 [a.stock] st = .ok (.int (a.length : Nat)) st := by
  show ((callM r_slen17 [a.stock] st).bind fun d => match d with | .int i => if 0 ≤ i ∧ i < 2 ^ 62 then (fun st' => Out.ok (.int i) st' : M Dt) else stk | _ => stk) = _
  rw [e_call slen_ok, e_bind]
  show (if 0 ≤ ((a.length : Nat) : Int) ∧ ((a.length : Nat) : Int) < 2 ^ 62 then (fun st' => Out.ok (Dt.int (a.length : Nat)) st' : M Dt) else stk) st = _
  rw [if_pos ⟨by omega, by omega⟩]
end
end
end B
end
section
set_option maxRecDepth 100000
set_option maxHeartbeats 1000000
namespace B
open PySem L2
noncomputable section
section
variable {kvs a b c : Tb} {w : Wd} {Z d : Dt} {z : Str} {st : DS} {sl : List Slot} {n : Nat}
theorem dpWk_tb (f : Nat → Option Dt) : ∀ a : Tb, dpWk f a.d = some a.d
  | [] => rfl
  | (k, v) :: a => by
    show dpWk f ((.str k, .int v) :: Tb.d a) = _
    rw [dpWk, dpWk_tb f a]
    rfl
theorem slR_tb (k : Nat) : slR w k (.shr (.dic a.d)) = .shr (.dic a.d) := by
  show optW (dpW _ (.dic a.d)) = _
  rw [dpW, dpWk_tb]
  rfl
theorem slR_loc (h : w[n]? = some (.dic a.d)) : slR w 4 (.shr (.loc n)) = .shr (.dic a.d) := by
  show optW (dpW (rdW w 4) (.loc n)) = _
  rw [dpW, rdW, h]
  dsimp only
  rw [dpWk_tb]
  rfl
theorem e_bLend07 {k : Nat} {fe : M Bool} {b : Bool} {st1 : DS} (h : fe ⟨sl.map (slR w k), []⟩ = .ok b st1) : bLendW k fe ⟨sl, w⟩ = .ok b ⟨sl, w⟩ := by
  unfold bLendW
  dsimp only
  rw [h]
theorem of07_gen (h : TbOk kvs) (hZ : slR w 4 (.shr Z) = .shr (.dic kvs.d)) (hi : gIsi isB [Z, .ty "dict"] ⟨[.shr (.cls "Stock"), .shr Z, .emp, .emp], w⟩ = .ok (.bl true) ⟨[.shr (.cls "Stock"), .shr Z, .emp, .emp], w⟩)
    (hm : mkKWL mkT (.cls "Stock") Z ⟨[.shr (.cls "Stock"), .shr Z, .emp, .emp], w⟩ = .ok kvs.held.stock ⟨[.shr (.cls "Stock"), .shr Z, .emp, .emp], w⟩) : r_of07 [.cls "Stock", Z] w = .ok kvs.held.stock w := by
  show (b_of07 ⟨[.shr (.cls "Stock"), .shr Z, .emp, .emp], w⟩).toR = _
  obtain ⟨_, e1⟩ := of_comp h (w := []) (c := .cls "Stock")
  have v1 : (dVar 1 : M Dt) ⟨[.shr (.cls "Stock"), .shr Z, .emp, .emp], w⟩ = .ok Z ⟨[.shr (.cls "Stock"), .shr Z, .emp, .emp], w⟩ := rfl
  have s1 : p_of07_1 ⟨[.shr (.cls "Stock"), .shr Z, .emp, .emp], w⟩ = .nx ⟨[.shr (.cls "Stock"), .shr Z, .emp, .emp], w⟩ := by
    unfold p_of07_1
    have cc : (mNot (d1 (d1 (aCons (dVar 1) (aCons (dC (.ty "dict")) aNil)) (gIsi isB)) toB) : M Bool) ⟨[.shr (.cls "Stock"), .shr Z, .emp, .emp], w⟩ = .ok false ⟨[.shr (.cls "Stock"), .shr Z, .emp, .emp], w⟩ := by
      rw [e_mNot, e_d1, e_d1, e_aCons, v1, e_bind, e_aCons, e_dC, e_bind, e_aNil, e_bind, e_bind, e_bind, hi, e_bind]
      rfl
    rw [e_sIf, cc, e_toS, if_neg Bool.false_ne_true]
    rfl
  have s2 : p_of07_2 ⟨[.shr (.cls "Stock"), .shr Z, .emp, .emp], w⟩ = .nx ⟨[.shr (.cls "Stock"), .shr Z, .emp, .emp], w⟩ := by
    unfold p_of07_2
    have em : ([.shr (.cls "Stock"), .shr Z, .emp, .emp] : List Slot).map (slR w 4) = [.shr (.cls "Stock"), .shr (.dic kvs.d), .emp, .emp] := by
      rw [List.map_cons, List.map_cons, hZ]
      rfl
    rw [e_sIf, e_bLend07 (b := false) (st1 := ⟨[.shr (.cls "Stock"), .shr (.dic kvs.d), .emp, .emp], []⟩) (by
      rw [em, e_mNot, e_d1, e_d1, e_aCons, e1, e_bind, e_aNil, e_bind, e_bind]
      simp only [e_d1, e_bind, e_mB2, e_dC, e_dVar, e_aNil, e_aCons, e_aTup, e_aLst, e_mkTup, e_mkLst, e_optS, e_toB, e_mAnd, e_mOr, e_mNot, e_mIf, e_toS, e_sbind, e_sbindR, e_sSeq, e_sNext, e_sIf, e_sSet, e_sOwn, e_sRet, e_sExpr, e_sAsg, e_tName, e_tTup, e_tNil, e_tCons, e_tSub, e_toR, e_toRn, u_lt, u_le, u_gt, u_ge, u_add, u_sub, u_lenL, u_lenT, g_intI, List.getElem?_cons_zero, List.getElem?_cons_succ, List.set_cons_zero, List.set_cons_succ, List.length_cons, List.length_nil, List.map_cons, List.map_nil, List.replicate, List.cons_append, List.nil_append, Option.bind_some, Nat.zero_add, Nat.reduceAdd, Nat.reduceSub, Nat.reduceLeDiff, allB_true, Bool.not_true]), e_toS, if_neg Bool.false_ne_true]
    rfl
  unfold b_of07
  rw [e_sSeq, s1, e_sbind, e_sSeq, s2, e_sbind]
  unfold p_of07_3
  have v0 : (dVar 0 : M Dt) ⟨[.shr (.cls "Stock"), .shr Z, .emp, .emp], w⟩ = .ok (.cls "Stock") ⟨[.shr (.cls "Stock"), .shr Z, .emp, .emp], w⟩ := rfl
  rw [e_sRet, e_d1, v0, e_bind, e_d1, e_noX v1, e_bind, hm]
  rfl
theorem isd_tb : gIsi isB [.dic kvs.d, .ty "dict"] st = .ok (.bl true) st := by
  show (opt ((match (if kvs.d.all (fun kv => isKey kv.1) then some (Tp.ty "dict") else none), some (Tp.ty "dict") with | some t, some k => (isB t k).map Dt.bl | _, _ => none)) : M Dt) st = _
  rw [if_pos kvs.keys]; rfl
theorem of07_ok (h : TbOk kvs) (hc : clos w.length w = true) : r_of07 [.cls "Stock", .dic kvs.d] w = .ok kvs.held.stock w :=
  of07_gen h (slR_tb 4) isd_tb (mk_ok h hc)
theorem of07_loc (h : TbOk kvs) (hc : clos w.length w = true) (hn : w[n]? = some (.dic kvs.d)) : r_of07 [.cls "Stock", .loc n] w = .ok kvs.held.stock w := by
  refine of07_gen h (slR_loc hn) ?_ ?_
  · show (opt ((match (match w[n]? with | some (.lst _) => some (Tp.ty "list") | some (.dic _) => some (Tp.ty "dict") | some (.ins c _) => some (Tp.cl c) | _ => none), some (Tp.ty "dict") with | some t, some k => (isB t k).map Dt.bl | _, _ => none)) : M Dt) _ = _
    rw [hn]
    rfl
  · unfold mkKWL
    dsimp only
    rw [hn]
    exact mk_ok h hc
theorem isi07 : gIsi isT07 [b.stock, .cls "Stock"] st = .ok (.bl true) st := by rfl
theorem eq07_ok (A : Cn a) (C : Cn b) : r_eq07 [a.stock, b.stock] w = .ok (.bl (decide (a = b))) w := by
  show (b_eq07 ⟨[.shr a.stock, .shr b.stock], w⟩).toR = _
  unfold b_eq07 p_eq07_1
  have e1 : (d1 (aCons (dVar 1) (aCons (dC (.cls "Stock")) aNil)) (gIsi isT07)) ⟨[.shr a.stock, .shr b.stock], w⟩ = .ok (.bl true) ⟨[.shr a.stock, .shr b.stock], w⟩ := by
    simp only [e_d1, e_aCons, e_dVar, e_dC, e_bind, e_aNil, List.getElem?_cons_zero, List.getElem?_cons_succ]
    exact isi07
  rw [e_sRet, e_vAnd e1, if_pos rfl]
  simp only [e_d1, e_bind, e_mB2, e_dC, e_dVar, e_aNil, e_aCons, e_aTup, e_aLst, e_mkTup, e_mkLst, e_optS, e_toB, e_mAnd, e_mOr, e_mNot, e_mIf, e_toS, e_sbind, e_sbindR, e_sSeq, e_sNext, e_sIf, e_sSet, e_sOwn, e_sRet, e_sExpr, e_sAsg, e_tName, e_tTup, e_tNil, e_tCons, e_tSub, e_toR, e_toRn, u_lt, u_le, u_gt, u_ge, u_add, u_sub, u_lenL, u_lenT, g_intI, List.getElem?_cons_zero, List.getElem?_cons_succ, List.set_cons_zero, List.set_cons_succ, List.length_cons, List.length_nil, List.map_cons, List.map_nil, List.replicate, List.cons_append, List.nil_append, Option.bind_some, Nat.zero_add, Nat.reduceAdd, Nat.reduceSub, Nat.reduceLeDiff, stock_order, ord_eq A C]
theorem eq07_no (h : ∀ st : DS, gIsi isT07 [d, .cls "Stock"] st = .ok (.bl false) st) : r_eq07 [a.stock, d] w = .ok (.bl false) w := by
  show (b_eq07 ⟨[.shr a.stock, .shr d], w⟩).toR = _
  unfold b_eq07 p_eq07_1
  have e1 : (d1 (aCons (dVar 1) (aCons (dC (.cls "Stock")) aNil)) (gIsi isT07)) ⟨[.shr a.stock, .shr d], w⟩ = .ok (.bl false) ⟨[.shr a.stock, .shr d], w⟩ := by
    have v : (dVar 1 : M Dt) ⟨[.shr a.stock, .shr d], w⟩ = .ok d ⟨[.shr a.stock, .shr d], w⟩ := rfl
    rw [e_d1, e_aCons, v, e_bind, e_aCons, e_dC, e_bind, e_aNil, e_bind, e_bind, e_bind, h]
  rw [e_sRet, e_vAnd e1, if_neg Bool.false_ne_true]
  rfl
theorem eqv_stk (A : Cn a) (C : Cn b) : eqU owEq07 a.stock b.stock st = .ok (.bl (decide (a = b))) st := by
  show callM r_eq07 [a.stock, b.stock] st = _
  exact kc (eq07_ok A C) st.sl
theorem nev_stk (A : Cn a) (C : Cn b) : neV owEq07 a.stock b.stock st = .ok (.bl (!decide (a = b))) st := by
  show ((callM r_eq07 [a.stock, b.stock] st).bind toB).bind (fun b st' => Out.ok (Dt.bl (!b)) st') = _
  rw [show callM r_eq07 [a.stock, b.stock] st = .ok (.bl (decide (a = b))) st from kc (eq07_ok A C) st.sl]
  rfl
abbrev ts07 : List String := ["NoneType", "bool", "int", "str", "dict", "list", "tuple"]
theorem eqT_odd (h : d ∈ oddL) : eqVT ts07 owEq07 a.stock d st = .ok (.bl false) st := by
  have key : (∀ st : DS, gIsi isT07 [d, .cls "Stock"] st = .ok (.bl false) st) ∧ eqVT ts07 owEq07 a.stock d st = callM r_eq07 [a.stock, d] st := by
    simp only [oddL, odd1, odd2, odd3, List.cons_append, List.nil_append, List.mem_cons, List.not_mem_nil, or_false] at h
    rcases h with rfl | rfl | rfl | rfl | rfl | rfl | rfl | rfl | rfl | rfl | rfl | rfl | rfl | rfl | rfl | rfl | rfl | rfl | rfl | rfl | rfl | rfl | rfl | rfl | rfl | rfl | rfl | rfl | rfl <;> exact ⟨fun st => rfl, rfl⟩
  rw [key.2]
  exact kc (eq07_no key.1) st.sl
theorem eqT_tb : eqVT ts07 owEq07 a.stock (.dic kvs.d) st = .ok (.bl false) st := by
  have tp : tpOf st.w (.dic kvs.d) = some (.ty "dict") := by
    show (if kvs.d.all (fun kv => isKey kv.1) then some (Tp.ty "dict") else none) = _
    rw [if_pos kvs.keys]
  have h : ∀ st : DS, gIsi isT07 [.dic kvs.d, .cls "Stock"] st = .ok (.bl false) st := fun st => by
    show (opt ((match (if kvs.d.all (fun kv => isKey kv.1) then some (Tp.ty "dict") else none), some (Tp.cl "Stock") with | some t, some k => (isT07 t k).map Dt.bl | _, _ => none)) : M Dt) st = _
    rw [if_pos kvs.keys]; rfl
  show ownMulT ts07 owEq07 a.stock (.dic kvs.d) st = _
  unfold ownMulT
  rw [tp]
  dsimp only
  rw [if_pos (by decide)]
  show callM r_eq07 [a.stock, .dic kvs.d] st = _
  exact kc (eq07_no h) st.sl
theorem eqB_prs (A : Cn a) (C : Cn b) : eqB (.lst a.prs) (.lst b.prs) = some (decide (a = b)) := by
  have p1 : ∀ a : Tb, pyD (.lst a.prs) = some (.list (a.map prP)) := fun a => by unfold pyD; rw [pyDs_prs]; rfl
  have s1 : ∀ {a : Tb}, Cn a → SeqAt.shaped (.list (a.map prP)) = true := fun {a} A => by
    unfold SeqAt.shaped
    have e1 : PyData.canLay0 (.list (a.map prP)) = true := by unfold PyData.canLay0; exact lay_prs A.lay
    have e2 : PyData.depth (.list (a.map prP)) ≤ 64 := by
      unfold PyData.depth
      have := depth_prs a
      omega
    rw [e1, decide_eq_true e2]; rfl
  unfold eqB
  rw [p1, p1]
  dsimp only
  rw [s1 A, s1 C]
  have e : PyData.eqv (.list (a.map prP)) (.list (b.map prP)) = decide (a = b) := by
    unfold PyData.eqv
    exact eqvAll_prs a b
  rw [e]; rfl
theorem eq_prs (A : Cn a) (C : Cn b) : eqU owEq07 (.lst a.prs) (.lst b.prs) st = .ok (.bl (decide (a = b))) st := by
  show (opt ((eqB (.lst a.prs) (.lst b.prs)).map Dt.bl) : M Dt) st = _
  rw [eqB_prs A C]
  rfl
theorem ne_prsV (A : Cn a) (C : Cn b) : neV owEq07 (.lst a.prs) (.lst b.prs) st = .ok (.bl (!decide (a = b))) st := by
  show (opt ((eqB (.lst a.prs) (.lst b.prs)).map fun b => Dt.bl (!b)) : M Dt) st = _
  rw [eqB_prs A C]
  rfl
theorem nev_bl {p q : Bool} : neV owEq07 (.bl p) (.bl q) st = .ok (.bl (p != q)) st := by cases p <;> cases q <;> rfl
end
end
end B
end
section
set_option maxRecDepth 100000
set_option maxHeartbeats 1000000
namespace B
open PySem L2
noncomputable section
section
variable {a c h D : Tb} {w : Wd} {d : Dt} {z : Str} {st : DS} {sl : List Slot} {n : Nat} {x3 x4 x5 x6 : Slot} {r : Wd} {T : Tape}
def Tx07 (d : Dt) : Prop := (∃ z, d = .str z) ∨ ∀ st : DS, gIsiF isB [d, .ty "str"] st = .ok (.bl false) st
def unX : Dt → Str
  | .str z => z
  | _ => ""
def inB07 (a : Tb) : Dt → Bool
  | .str z => decide (z ∈ a.ks)
  | _ => false
def getB07 (a : Tb) : Dt → Int
  | .str z => a.get z
  | _ => 0
theorem nstr07 (hn : ∀ st : DS, gIsiF isB [d, .ty "str"] st = .ok (.bl false) st) : (∀ z, d ≠ .str z) := fun z e => by
  have := hn ⟨[], []⟩
  rw [e] at this
  cases this
theorem inB07_no (hn : ∀ z, d ≠ .str z) : inB07 a d = false := by
  cases d with
  | str z => exact absurd rfl (hn z)
  | _ => rfl
theorem getB07_no (hn : ∀ z, d ≠ .str z) : getB07 a d = 0 := by
  cases d with
  | str z => exact absurd rfl (hn z)
  | _ => rfl
theorem con07 (t : Tx07 d) : r_con07 [a.stock, d] w = .ok (.bl (inB07 a d)) w := by
  show (b_con07 ⟨[.shr a.stock, .shr d], w⟩).toR = _
  unfold b_con07 p_con07_1
  have v : (dVar 1 : M Dt) ⟨[.shr a.stock, .shr d], w⟩ = .ok d ⟨[.shr a.stock, .shr d], w⟩ := rfl
  rcases t with ⟨z, rfl⟩ | t
  · have e1 : (d1 (aCons (dVar 1) (aCons (dC (.ty "str")) aNil)) (gIsiF isB) : M Dt) ⟨[.shr a.stock, .shr (.str z)], w⟩ = .ok (.bl true) ⟨[.shr a.stock, .shr (.str z)], w⟩ := rfl
    have v0 : (d1 (dVar 0) (getA "held" at_held) : M Dt) ⟨[.shr a.stock, .shr (.str z)], w⟩ = .ok (.dic a.d) ⟨[.shr a.stock, .shr (.str z)], w⟩ := stock_held
    rw [e_sRet, e_vAnd e1, if_pos rfl, e_mB2, v, e_bind, v0, e_bind, u_inD]
    rfl
  · have e1 : (d1 (aCons (dVar 1) (aCons (dC (.ty "str")) aNil)) (gIsiF isB) : M Dt) ⟨[.shr a.stock, .shr d], w⟩ = .ok (.bl false) ⟨[.shr a.stock, .shr d], w⟩ := by
      rw [e_d1, e_aCons, v, e_bind, e_aCons, e_dC, e_bind, e_aNil, e_bind, e_bind, e_bind, t]
    rw [e_sRet, e_vAnd e1, if_neg Bool.false_ne_true, inB07_no (nstr07 t)]
    rfl
theorem in07 (t : Tx07 d) : inU owCon07 d a.stock st = .ok (.bl (inB07 a d)) st := by
  have e : inU owCon07 d a.stock st = ((callM r_con07 [a.stock, d] st).bind toB).bind fun b st' => .ok (.bl (if false then !b else b)) st' := rfl
  rw [e, show callM r_con07 [a.stock, d] st = .ok (.bl (inB07 a d)) st from kc (con07 t) st.sl]
  rfl
theorem get07 (t : Tx07 d) : r_get07 [a.stock, d] w = .ok (.int (getB07 a d)) w := by
  show (b_get07 ⟨[.shr a.stock, .shr d], w⟩).toR = _
  unfold b_get07 p_get07_1
  have v : (dVar 1 : M Dt) ⟨[.shr a.stock, .shr d], w⟩ = .ok d ⟨[.shr a.stock, .shr d], w⟩ := rfl
  have v0 : (dVar 0 : M Dt) ⟨[.shr a.stock, .shr d], w⟩ = .ok a.stock ⟨[.shr a.stock, .shr d], w⟩ := rfl
  have v2 : (d1 (dVar 0) (getA "held" at_held) : M Dt) ⟨[.shr a.stock, .shr d], w⟩ = .ok (.dic a.d) ⟨[.shr a.stock, .shr d], w⟩ := stock_held
  rw [e_sRet, e_mIf, e_d1, e_mB2, v, e_bind, v0, e_bind, in07 t, e_bind, e_toB, e_bind]
  rcases t with ⟨z, rfl⟩ | t
  · show ((if decide (z ∈ a.ks) = true then _ else _ : Out Dt).toS _).toR = _
    by_cases q : z ∈ a.ks
    · rw [if_pos (decide_eq_true q), e_mB2, v2, e_bind, v, e_bind, u_getD q]
      rfl
    · rw [if_neg (by rw [decide_eq_true_eq]; exact q)]
      show Rs.ok (.int 0) w = .ok (.int (a.get z)) w
      rw [Tb.get_out q]
  · rw [inB07_no (nstr07 t), getB07_no (nstr07 t), if_neg Bool.false_ne_true]
    rfl
theorem getU07 (t : Tx07 d) : getU owGet07 a.stock d st = .ok (.int (getB07 a d)) st := kc (get07 t) st.sl
theorem getU07D (hz : z ∈ D.ks) : getU owGet07 (.dic D.d) (.str z) st = .ok (.int (D.get z)) st := u_getD (st := st) hz
theorem pos_comp {v i : Nat} {s : Slot} {it : M (List Dt)} (hs : sl[v]? = some s) (hso : shrOf (some s) = s) (hiv : i ≠ v) (hi : sl[i]? = some (.shr (.dic D.d))) (hit : it ⟨sl, w⟩ = .ok (D.ks.map Dt.str) ⟨sl, w⟩) (hl : D.length < 900) :
    mLc [v] it (tName v) (d1 (mB2 (mB2 (dVar i) (dVar v) (getU owGet07)) (dC (.int 0)) gtU) toB) (aTup (aCons (dVar v) (aCons (mB2 (dVar i) (dVar v) (getU owGet07)) aNil))) ⟨sl, w⟩ = .ok (.lst (posT D).prs) ⟨sl, w⟩ := by
  have hv : v < sl.length := (List.getElem?_eq_some_iff.mp hs).1
  have vv : ∀ d : Dt, (dVar v : M Dt) ⟨sl.set v (.shr d), w⟩ = .ok d ⟨sl.set v (.shr d), w⟩ := fun d => by unfold dVar; rw [List.getElem?_set_self hv]
  have vi : ∀ d : Dt, (dVar i : M Dt) ⟨sl.set v (.shr d), w⟩ = .ok (.dic D.d) ⟨sl.set v (.shr d), w⟩ := fun d => by unfold dVar; rw [List.getElem?_set_ne hiv.symm, hi]
  have e1 := lcK_ok (v := v) (sl := sl) (s := s) (w := w) (ds := D.ks.map Dt.str) (g := fun d => match d with | .str k => decide (0 < D.get k) | _ => false) (h := fun d => match d with | .str k => .tup [.str k, .int (D.get k)] | _ => .non) (it := it)
    (tt := d1 (mB2 (mB2 (dVar i) (dVar v) (getU owGet07)) (dC (.int 0)) gtU) toB) (te := aTup (aCons (dVar v) (aCons (mB2 (dVar i) (dVar v) (getU owGet07)) aNil))) hs hso hit
    (by rw [List.length_map, ks_len]; exact hl) (fun d hd => by
      obtain ⟨k, hk, rfl⟩ := List.mem_map.mp hd
      rw [e_d1, e_mB2, e_mB2, vi, e_bind, vv, e_bind, getU07D hk, e_bind, e_dC, e_bind, u_gt, e_bind, e_toB]) (fun d hd _ => by
      obtain ⟨k, hk, rfl⟩ := List.mem_map.mp hd
      rw [e_aTup, e_aCons, vv, e_bind, e_aCons, e_mB2, vi, e_bind, vv, e_bind, getU07D hk]
      rfl)
  have e2 : ((D.ks.map Dt.str).filter fun d => match d with | .str k => decide (0 < D.get k) | _ => false).map (fun d => match d with | .str k => Dt.tup [.str k, .int (D.get k)] | _ => .non) = (posT D).prs := by
    unfold posT Tb.prs
    rw [List.filter_map, List.map_map, List.map_map]; rfl
  rw [e2] at e1
  exact e1
theorem srt_pos (nd : D.ks.Nodup) (hl : D.length ≤ 900) (st : DS) : gSorted [.lst (posT D).prs] st = .ok (.lst D.held.prs) st := by
  have nd2 : (posT D).ks.Nodup := by rw [posT_ks]; exact nd.filter _
  have l2 : (posT D).length ≤ 900 := by
    have : (posT D).ks.length ≤ D.ks.length := by rw [posT_ks]; exact List.length_filter_le _ _
    rw [ks_len, ks_len] at this; omega
  show (opt ((srt1 [.lst (posT D).prs]).or (srtK [.lst (posT D).prs])) : M Dt) st = _
  unfold srt1
  dsimp only
  rw [srtD_prs nd2 l2, posT_sort nd]; rfl
abbrev i07 (h c : Tb) (x3 x4 x5 x6 : Slot) : List Slot := [.shr (.loc 0), .shr h.stock, .shr (.dic c.d), x3, x4, x5, x6, .emp, .emp]
def strsK (h : Tb) : List Dt := h.map fun kv => Dt.str kv.1
def toldL (h : Tb) : List Dt := [.tup (strsK h), .tup h.prs, .int (sumT h), .int (h.length : Nat), .bl (!h.isEmpty)]
def toldR (h : Tb) : List Dt := [.frt (strsK h), .frt h.prs, .int (sumT h), .int (h.length : Nat), .bl (!h.isEmpty)]
theorem itd_1 (nd : c.ks.Nodup) (hl : c.length ≤ 60) : p_itd07_1 ⟨i07 h c x3 x4 x5 x6, w⟩ = .nx ⟨i07 h c (.shr (.frt c.held.prs)) x4 x5 x6, w⟩ := by
  unfold p_itd07_1
  have lc := pos_comp (D := c) (v := 7) (i := 2) (sl := i07 h c x3 x4 x5 x6) (w := w) (it := d1 (dVar 2) iterF) (s := .emp) rfl rfl (by decide) rfl (by
    rw [e_d1, show (dVar 2 : M Dt) ⟨i07 h c x3 x4 x5 x6, w⟩ = .ok (.dic c.d) ⟨i07 h c x3 x4 x5 x6, w⟩ from rfl, e_bind]
    show iterD (.dic c.d) _ = _
    exact iter_tb) (by omega)
  rw [e_sSet, e_d1, e_aCons, e_d1, e_aCons, lc, e_bind, e_aNil, e_bind, e_bind, srt_pos nd (by omega), e_bind, e_aNil, e_bind, e_bind]
  rfl
theorem itd_2 (hl : h.length ≤ 60) : p_itd07_2 ⟨i07 h c x3 x4 x5 x6, w⟩ = .nx ⟨i07 h c x3 (.shr (.lst (toldL h))) x5 x6, w⟩ := by
  unfold p_itd07_2
  have v : (dVar 1 : M Dt) ⟨i07 h c x3 x4 x5 x6, w⟩ = .ok h.stock ⟨i07 h c x3 x4 x5 x6, w⟩ := rfl
  have ln : lenUF owLen07 [h.stock] ⟨i07 h c x3 x4 x5 x6, w⟩ = .ok (.int (h.length : Nat)) ⟨i07 h c x3 x4 x5 x6, w⟩ := len17_ok (by omega)
  rw [e_sSet, e_aLst, e_aCons, e_d1, v, e_bind, stock_kinds, e_bind, e_aCons, e_d1, v, e_bind, stock_entries, e_bind, e_aCons, e_d1, v, e_bind, stock_total, e_bind, e_aCons, e_d1, e_aCons, v, e_bind, e_aNil, e_bind, e_bind, ln, e_bind, e_aCons, e_d1, e_aCons, v, e_bind, e_aNil, e_bind, e_bind, k_bool, e_bind, e_aNil]
  rfl
end
end
end B
end
section
set_option maxRecDepth 100000
set_option maxHeartbeats 1000000
namespace B
open PySem L2
noncomputable section
section
variable {a c h D : Tb} {w : Wd} {d : Dt} {z : Str} {st : DS} {sl : List Slot} {n : Nat} {x3 x4 x5 x6 : Slot} {r : Wd} {T : Tape} {i : Int}
theorem wr_int7 {m : Nat} (hi : i.natAbs ≤ 12000000000000000000) : ∃ p, wrV (m + 1) (.int i) = some p ∧ Wr (.int i) p := by
  have e : wrV (m + 1) (.int i) = some (.int i) := pa_int (Nat.lt_of_le_of_lt hi (by decide))
  have ln : (Str.ofString (toString i)).length ≤ 21 := by
    have e := int_text_length_le10 (a := i) (k := 20) (by decide) (Nat.lt_of_le_of_lt hi (by decide))
    rw [ofString_length]
    omega
  refine ⟨.int i, e, ?_, ?_, by simp only [okD]⟩
  · have z : (PyData.shown (.int i)).length ≤ 30 := by rw [PyData.shown]; exact Nat.le_trans ln (by decide)
    simp only [PyData.leavesShort, z, decide_true]
  · rw [wt_int]
    unfold PyData.weight
    split
    · omega
    · by_cases z : i.natAbs = 0
      · rw [z]; decide
      · have : i.natAbs.log2 < 64 := (Nat.log2_lt z).mpr (Nat.lt_of_le_of_lt hi (by decide))
        omega
theorem Cn.nm8 (A : Cn h) (hz : z ∈ h.ks) : Nm8 z := A.nmk hz
theorem strsK_ok (A : Cn h) (hl : h.length ≤ 12) : pl 8 12 0 2 (.tup (strsK h)) = true ∧ wt (.tup (strsK h)) ≤ 200 := by
  have pp : ∀ d ∈ strsK h, pl 8 12 0 1 d = true ∧ wt d ≤ 11 := fun d m => by
    obtain ⟨p, hp, rfl⟩ := List.mem_map.mp m
    have N := A.nm8 (List.mem_map.mpr ⟨p, hp, rfl⟩)
    exact ⟨N.pl, N.wt⟩
  have ll : (strsK h).length ≤ 12 := by unfold strsK; rw [List.length_map]; exact hl
  refine ⟨pl_tup.mpr ⟨ll, fun d m => (pp d m).1⟩, ?_⟩
  have w2 := wts_all (b := 11) (strsK h) fun d m => (pp d m).2
  have m2 := Nat.mul_le_mul_left 14 ll
  rw [wt.eq_def (.tup _)]
  dsimp only
  omega
theorem prs_pl (A : Cn h) (hl : h.length ≤ 12) : pl 8 12 0 3 (.tup h.prs) = true ∧ wt (.tup h.prs) ≤ 1300 := by
  have pp : ∀ d ∈ h.prs, pl 8 12 0 2 d = true ∧ wt d ≤ 100 := fun d m => by
    obtain ⟨p, hp, rfl⟩ := List.mem_map.mp m
    have N := A.nm8 (List.mem_map.mpr ⟨p, hp, rfl⟩)
    have v0 := A.ok.v0 p hp
    have v1 := A.ok.v1 p hp
    refine ⟨pl_tup.mpr ⟨by show 2 ≤ 12; decide, fun e he => ?_⟩, ?_⟩
    · simp only [List.mem_cons, List.not_mem_nil, or_false] at he
      rcases he with rfl | rfl
      · exact N.pl
      · show decide (p.2.natAbs ≤ 1000000000000000000 + 0) = true
        exact decide_eq_true (by omega)
    · have w1 := N.wt
      rw [wt, wts, wts, wts, wt.eq_def (.int p.2)]
      dsimp only
      omega
  have ll : h.prs.length ≤ 12 := by unfold Tb.prs; rw [List.length_map]; exact hl
  refine ⟨pl_tup.mpr ⟨ll, fun d m => (pp d m).1⟩, ?_⟩
  have w2 := wts_all (b := 100) h.prs fun d m => (pp d m).2
  have m2 := Nat.mul_le_mul_left 103 ll
  rw [wt.eq_def (.tup _)]
  dsimp only
  omega
theorem rp07 (A : Cn h) (hl : h.length ≤ 12) (h0 : 0 ≤ sumT h) (hs : sumT h ≤ 12000000000000000000) : ∃ t, (∀ st : DS, gReprV [.lst (toldL h)] st = .ok (.str t) st) ∧ (∀ st : DS, gReprV [.lst (toldR h)] st = .ok (.str t) st) ∧ OkS t := by
  obtain ⟨k1, k2⟩ := strsK_ok A hl
  obtain ⟨p1, p2⟩ := prs_pl A hl
  obtain ⟨ps, e, g1, g2, g3⟩ := wr_all (f := wrV 7) (ds := toldL h) fun d hd => by
    unfold toldL at hd
    simp only [List.mem_cons, List.not_mem_nil, or_false] at hd
    rcases hd with rfl | rfl | rfl | rfl | rfl
    · exact wr_ok (by decide) k1 (by decide)
    · exact wr_ok (by decide) p1 (by decide)
    · exact wr_int7 (by omega)
    · exact wr_int7 (by omega)
    · exact wr_ok (s := 8) (l := 12) (k := 0) (n := 1) (by decide) rfl (by decide)
  have wb : wts (toldL h) ≤ 5000 := by
    unfold toldL
    rw [wts, wts, wts, wts, wts, wts, wt.eq_def (.int _), wt.eq_def (.int _), wt.eq_def (.bl _)]
    dsimp only
    omega
  have sh : ∀ (L : List Dt), mapO (wrV 7) L = some ps → ∀ st : DS, gReprV [.lst L] st = .ok (.str (PyData.list ps).shown) st := fun L eL st => by
    have e8 : wrV 8 (.lst L) = some (.list ps) := by
      show (mapO (wrV 7) L).map PyData.list = _
      rw [eL]; rfl
    have hz : (PyData.list ps).shown.length ≤ 10000000 := by
      have := PyData.shown_le 30 (by decide) (.list ps) (by simp only [PyData.leavesShort]; exact g1)
      have hw : (PyData.list ps).weight ≤ 20000 := by simp only [PyData.weight]; omega
      omega
    show (opt (reprV [.lst L]) : M Dt) st = _
    unfold reprV
    rw [show repD [.lst L] = none from rfl]
    dsimp only
    rw [if_pos (show contD (.lst L) = true from rfl)]
    unfold reprW2
    rw [e8]
    dsimp only
    rw [if_pos hz]
    rfl
  refine ⟨(PyData.list ps).shown, sh _ e, sh _ ?_, okS_shown _ (by simp only [okD]; exact g3)⟩
  rw [← e]
  rfl
theorem sum_held (h : TbOk c) : sumT c.held = sumT c := by
  have h1 := sum_keys (a := c.held) (L := c.ks) (held_nd h) h.nd (fun z hz => by
    obtain ⟨p, hp, rfl⟩ := List.mem_map.mp hz
    exact held_sub hp)
  have h2 := sum_keys (a := c) (L := c.ks) h.nd h.nd (fun z hz => hz)
  rw [← h1, ← h2]
  exact congrArg List.sum (List.map_congr_left fun z _ => held_getA h z)
theorem sum_le : ∀ {a : Tb}, (∀ p ∈ a, 0 ≤ p.2 ∧ p.2 ≤ 1000000000000000000) → 0 ≤ sumT a ∧ sumT a ≤ 1000000000000000000 * (a.length : Int)
  | [], _ => ⟨by decide, by decide⟩
  | p :: a, h => by
    have h1 := sum_le (a := a) fun q m => h q (List.mem_cons_of_mem _ m)
    have h2 := h p List.mem_cons_self
    have e : sumT (p :: a) = p.2 + sumT a := List.sum_cons
    rw [e, List.length_cons]
    omega
theorem itd_3 (h : TbOk c) (hl : c.length ≤ 12) : p_itd07_3 ⟨i07 c.held c (.shr (.frt c.held.prs)) (.shr (.lst (toldL c.held))) x5 x6, w⟩ = .nx ⟨i07 c.held c (.shr (.frt c.held.prs)) (.shr (.lst (toldL c.held))) x5 x6, w⟩ := by
  have A := held_cn h
  have hl2 := held_len c
  have sb := sum_le (a := c) fun p hp => ⟨h.v0 p hp, h.v1 p hp⟩
  have sh := sum_held h
  obtain ⟨t, t1, t2, ok⟩ := rp07 A (by omega) (by omega) (by omega)
  have lc := lcK_ok (v := 8) (sl := i07 c.held c (.shr (.frt c.held.prs)) (.shr (.lst (toldL c.held))) x5 x6) (s := .emp) (w := w) (ds := c.held.prs) (g := fun _ => true) (h := fun d => match d with | .tup (k :: _) => k | _ => .non) (it := d1 (dVar 3) iterF) (tt := mYes) (te := mB2 (dVar 8) (dC (.int 0)) (getU owGet07)) rfl rfl rfl (by unfold Tb.prs; rw [List.length_map]; omega) (fun _ _ => rfl) (fun d hd _ => by
    obtain ⟨p, _, rfl⟩ := List.mem_map.mp hd
    rw [e_mB2, show (dVar 8 : M Dt) ⟨(i07 c.held c (.shr (.frt c.held.prs)) (.shr (.lst (toldL c.held))) x5 x6).set 8 (.shr (.tup [.str p.1, .int p.2])), w⟩ = .ok (.tup [.str p.1, .int p.2]) ⟨(i07 c.held c (.shr (.frt c.held.prs)) (.shr (.lst (toldL c.held))) x5 x6).set 8 (.shr (.tup [.str p.1, .int p.2])), w⟩ from rfl, e_bind]
    rfl)
  have e1 : (c.held.prs.filter fun _ => true).map (fun d => match d with | .tup (k :: _) => k | _ => Dt.non) = strsK c.held := by
    rw [List.filter_eq_self.mpr fun _ _ => rfl]
    unfold Tb.prs strsK
    rw [List.map_map]
    rfl
  rw [e1] at lc
  have v3 : (dVar 3 : M Dt) ⟨i07 c.held c (.shr (.frt c.held.prs)) (.shr (.lst (toldL c.held))) x5 x6, w⟩ = .ok (.frt c.held.prs) ⟨i07 c.held c (.shr (.frt c.held.prs)) (.shr (.lst (toldL c.held))) x5 x6, w⟩ := rfl
  have v4 : (dVar 4 : M Dt) ⟨i07 c.held c (.shr (.frt c.held.prs)) (.shr (.lst (toldL c.held))) x5 x6, w⟩ = .ok (.lst (toldL c.held)) ⟨i07 c.held c (.shr (.frt c.held.prs)) (.shr (.lst (toldL c.held))) x5 x6, w⟩ := rfl
  have v2 : (dVar 2 : M Dt) ⟨i07 c.held c (.shr (.frt c.held.prs)) (.shr (.lst (toldL c.held))) x5 x6, w⟩ = .ok (.dic c.d) ⟨i07 c.held c (.shr (.frt c.held.prs)) (.shr (.lst (toldL c.held))) x5 x6, w⟩ := rfl
  have sm : (opt (sumV (.dic c.d)) : M Dt) ⟨i07 c.held c (.shr (.frt c.held.prs)) (.shr (.lst (toldL c.held))) x5 x6, w⟩ = .ok (.int (sumT c.held)) ⟨i07 c.held c (.shr (.frt c.held.prs)) (.shr (.lst (toldL c.held))) x5 x6, w⟩ := by
    rw [sumV_tb, sh]
    rfl
  have ln : lenUF owLen07 [.frt c.held.prs] ⟨i07 c.held c (.shr (.frt c.held.prs)) (.shr (.lst (toldL c.held))) x5 x6, w⟩ = .ok (.int (c.held.length : Nat)) ⟨i07 c.held c (.shr (.frt c.held.prs)) (.shr (.lst (toldL c.held))) x5 x6, w⟩ := by
    show Out.ok (Dt.int (c.held.prs.length : Nat)) _ = _
    unfold Tb.prs
    rw [List.length_map]
  have at0 : (aTup aNil : M Dt) ⟨i07 c.held c (.shr (.frt c.held.prs)) (.shr (.lst (toldL c.held))) x5 x6, w⟩ = .ok (.tup []) ⟨i07 c.held c (.shr (.frt c.held.prs)) (.shr (.lst (toldL c.held))) x5 x6, w⟩ := rfl
  have ne : neU (.frt c.held.prs) (.tup []) ⟨i07 c.held c (.shr (.frt c.held.prs)) (.shr (.lst (toldL c.held))) x5 x6, w⟩ = .ok (.bl (!c.held.isEmpty)) ⟨i07 c.held c (.shr (.frt c.held.prs)) (.shr (.lst (toldL c.held))) x5 x6, w⟩ := by
    have e : eqB (.frt c.held.prs) (.tup []) = some c.held.isEmpty := by
      unfold eqB
      rw [show pyD (.frt c.held.prs) = some (.tuple (c.held.map prP)) by unfold pyD; rw [pyDs_prs]; rfl, show pyD (.tup []) = some (.tuple []) by rfl]
      dsimp only
      have s1 : SeqAt.shaped (.tuple (c.held.map prP)) = true := by
        unfold SeqAt.shaped
        have e1 : PyData.canLay0 (.tuple (c.held.map prP)) = true := by unfold PyData.canLay0; exact lay_prs A.lay
        have e2 : PyData.depth (.tuple (c.held.map prP)) ≤ 64 := by
          unfold PyData.depth
          have := depth_prs c.held
          omega
        rw [e1, decide_eq_true e2]; rfl
      rw [s1, show SeqAt.shaped (.tuple []) = true by rfl]
      have e : PyData.eqv (.tuple (c.held.map prP)) (.tuple []) = c.held.isEmpty := by
        unfold PyData.eqv
        cases c.held <;> rfl
      rw [e]; rfl
    show (opt ((eqB (.frt c.held.prs) (.tup [])).map fun b => Dt.bl (!b)) : M Dt) _ = _
    rw [e]
    rfl
  have tf : (opt (tupFL [.lst (strsK c.held)]) : M Dt) ⟨i07 c.held c (.shr (.frt c.held.prs)) (.shr (.lst (toldL c.held))) x5 x6, w⟩ = .ok (.frt (strsK c.held)) ⟨i07 c.held c (.shr (.frt c.held.prs)) (.shr (.lst (toldL c.held))) x5 x6, w⟩ := rfl
  have mk : (opt (mkLst (toldR c.held)) : M Dt) ⟨i07 c.held c (.shr (.frt c.held.prs)) (.shr (.lst (toldL c.held))) x5 x6, w⟩ = .ok (.lst (toldR c.held)) ⟨i07 c.held c (.shr (.frt c.held.prs)) (.shr (.lst (toldL c.held))) x5 x6, w⟩ := rfl
  unfold toldR at mk t2
  have cc : (d1 (mB2 (d1 (aCons (dVar 4) aNil) gReprV) (d1 (aCons (aLst (aCons (d1 (aCons (mLc [8] (d1 (dVar 3) iterF) (tName 8) mYes (mB2 (dVar 8) (dC (.int 0)) (getU owGet07))) aNil) (fun ds => opt (tupFL ds))) (aCons (dVar 3) (aCons (d1 (dVar 2) fun x => opt (sumV x)) (aCons (d1 (aCons (dVar 3) aNil) (lenUF owLen07)) (aCons (mB2 (dVar 3) (aTup aNil) neU) aNil)))))) aNil) gReprV) neU) toB : M Bool) ⟨i07 c.held c (.shr (.frt c.held.prs)) (.shr (.lst (toldL c.held))) x5 x6, w⟩ = .ok false ⟨i07 c.held c (.shr (.frt c.held.prs)) (.shr (.lst (toldL c.held))) x5 x6, w⟩ := by
    rw [e_d1, e_mB2, e_d1, e_aCons, v4, e_bind, e_aNil, e_bind, e_bind, t1, e_bind, e_d1, e_aCons, e_aLst, e_aCons, e_d1, e_aCons, lc, e_bind, e_aNil, e_bind, e_bind, tf, e_bind, e_aCons, v3, e_bind, e_aCons, e_d1, v2, e_bind, sm, e_bind, e_aCons, e_d1, e_aCons, v3, e_bind, e_aNil, e_bind, e_bind, ln, e_bind, e_aCons, e_mB2, v3, e_bind, at0, e_bind, ne, e_bind, e_aNil, e_bind, e_bind, e_bind, e_bind, e_bind, e_bind, mk, e_bind, e_aNil, e_bind, e_bind, t2, e_bind, ne_str ok, e_bind, e_toB]
  unfold p_itd07_3
  rw [e_sIf, cc, e_toS, if_neg Bool.false_ne_true]
  rfl
theorem prsD_tb : ∀ a : Tb, prsD a.prs = some a.d
  | [] => rfl
  | p :: a => by
    show (prsD (Tb.prs a)).map ((Dt.str p.1, Dt.int p.2) :: ·) = _
    rw [prsD_tb a]
    rfl
theorem dicF_tb (nd : a.ks.Nodup) : (opt (dicFD [.frt a.prs]) : M Dt) st = .ok (.dic a.d) st := by
  show (opt ((prsD a.prs).map fun ps => Dt.dic (mergeD [] ps)) : M Dt) st = _
  rw [prsD_tb]
  have := mergeD_tb a [] (by rw [List.nil_append]; exact nd)
  rw [List.nil_append] at this
  show Out.ok (Dt.dic (mergeD [] a.d)) st = _
  rw [show mergeD [] a.d = a.d from this]
theorem rp_int (hi : i.natAbs ≤ 1000000000000000000) : ∃ t, (∀ st : DS, gReprV [.int i] st = .ok (.str t) st) ∧ OkS t :=
  repr_ok (s := 8) (l := 3) (k := 0) (n := 1) (by show decide (i.natAbs ≤ 1000000000000000000 + 0) = true; exact decide_eq_true hi) (by decide) (by decide) (by rw [wt.eq_def]; dsimp only; omega) (by decide)
theorem ne_bl7 {a b : Bool} {st : DS} : neU (.bl a) (.bl b) st = .ok (.bl (a != b)) st := by cases a <;> cases b <;> rfl
theorem itd_4t (h : TbOk c) (t : Tx07 d) : ∃ y6 : Slot, (sSeq p_itd07_4_1 p_itd07_4_2) ⟨i07 c.held c (.shr (.frt c.held.prs)) x4 (.shr d) x6, w⟩ = .nx ⟨i07 c.held c (.shr (.frt c.held.prs)) x4 (.shr d) y6, w⟩ := by
  have A := held_cn h
  refine ⟨.shr (.int (getB07 c.held d)), ?_⟩
  have v5 : ∀ y6 : Slot, (dVar 5 : M Dt) ⟨i07 c.held c (.shr (.frt c.held.prs)) x4 (.shr d) y6, w⟩ = .ok d ⟨i07 c.held c (.shr (.frt c.held.prs)) x4 (.shr d) y6, w⟩ := fun _ => rfl
  have s1 : p_itd07_4_1 ⟨i07 c.held c (.shr (.frt c.held.prs)) x4 (.shr d) x6, w⟩ = .nx ⟨i07 c.held c (.shr (.frt c.held.prs)) x4 (.shr d) (.shr (.int (getB07 c.held d))), w⟩ := by
    unfold p_itd07_4_1
    rcases t with ⟨z, rfl⟩ | t
    · have e1 : (d1 (d1 (aCons (dVar 5) (aCons (dC (.ty "str")) aNil)) (gIsiF isB)) toB : M Bool) ⟨i07 c.held c (.shr (.frt c.held.prs)) x4 (.shr (.str z)) x6, w⟩ = .ok true ⟨i07 c.held c (.shr (.frt c.held.prs)) x4 (.shr (.str z)) x6, w⟩ := rfl
      have e2 : (d1 (aCons (dVar 3) aNil) fun ds => opt (dicFD ds) : M Dt) ⟨i07 c.held c (.shr (.frt c.held.prs)) x4 (.shr (.str z)) x6, w⟩ = .ok (.dic c.held.d) ⟨i07 c.held c (.shr (.frt c.held.prs)) x4 (.shr (.str z)) x6, w⟩ := by
        rw [e_d1, e_aCons, show (dVar 3 : M Dt) ⟨i07 c.held c (.shr (.frt c.held.prs)) x4 (.shr (.str z)) x6, w⟩ = .ok (.frt c.held.prs) ⟨i07 c.held c (.shr (.frt c.held.prs)) x4 (.shr (.str z)) x6, w⟩ from rfl, e_bind, e_aNil, e_bind, e_bind]
        exact dicF_tb A.nd
      rw [e_sSet, e_mIf, e1, e_bind, if_pos rfl, e_mMe e2 (by rfl), e_aCons, v5, e_bind, e_aCons, e_dC, e_bind, e_aNil, e_bind, e_bind, e_bind, get_shr]
      rfl
    · have e1 : (d1 (d1 (aCons (dVar 5) (aCons (dC (.ty "str")) aNil)) (gIsiF isB)) toB : M Bool) ⟨i07 c.held c (.shr (.frt c.held.prs)) x4 (.shr d) x6, w⟩ = .ok false ⟨i07 c.held c (.shr (.frt c.held.prs)) x4 (.shr d) x6, w⟩ := by
        rw [e_d1, e_d1, e_aCons, v5, e_bind, e_aCons, e_dC, e_bind, e_aNil, e_bind, e_bind, e_bind, t, e_bind, e_toB]
      rw [e_sSet, e_mIf, e1, e_bind, if_neg Bool.false_ne_true, getB07_no (nstr07 t)]
      rfl
  have gb : 0 ≤ getB07 c.held d ∧ getB07 c.held d ≤ 1000000000000000000 := by
    cases d with
    | str z => exact ⟨A.nn z, Tb.get_val (P := fun v => v ≤ 1000000000000000000) (by decide) fun p hp => A.ok.v1 p hp⟩
    | _ => exact ⟨Int.le_refl 0, by show (0 : Int) ≤ 1000000000000000000; decide⟩
  obtain ⟨tx, e3, ok⟩ := rp_int (i := getB07 c.held d) (by omega)
  have s2 : p_itd07_4_2 ⟨i07 c.held c (.shr (.frt c.held.prs)) x4 (.shr d) (.shr (.int (getB07 c.held d))), w⟩ = .nx ⟨i07 c.held c (.shr (.frt c.held.prs)) x4 (.shr d) (.shr (.int (getB07 c.held d))), w⟩ := by
    unfold p_itd07_4_2
    have v1 : (dVar 1 : M Dt) ⟨i07 c.held c (.shr (.frt c.held.prs)) x4 (.shr d) (.shr (.int (getB07 c.held d))), w⟩ = .ok c.held.stock ⟨i07 c.held c (.shr (.frt c.held.prs)) x4 (.shr d) (.shr (.int (getB07 c.held d))), w⟩ := rfl
    have v6 : (dVar 6 : M Dt) ⟨i07 c.held c (.shr (.frt c.held.prs)) x4 (.shr d) (.shr (.int (getB07 c.held d))), w⟩ = .ok (.int (getB07 c.held d)) ⟨i07 c.held c (.shr (.frt c.held.prs)) x4 (.shr d) (.shr (.int (getB07 c.held d))), w⟩ := rfl
    have same : inB07 c.held d = decide (0 < getB07 c.held d) := by
      cases d with
      | str z =>
        rw [Bool.eq_iff_iff]
        show decide (z ∈ c.held.ks) = true ↔ decide (0 < c.held.get z) = true
        rw [decide_eq_true_eq, decide_eq_true_eq]
        exact A.in_iff
      | _ => rfl
    have c1 : (d1 (mB2 (d1 (aCons (mB2 (dVar 1) (dVar 5) (getU owGet07)) aNil) gReprV) (d1 (aCons (dVar 6) aNil) gReprV) neU) toB : M Bool) ⟨i07 c.held c (.shr (.frt c.held.prs)) x4 (.shr d) (.shr (.int (getB07 c.held d))), w⟩ = .ok false ⟨i07 c.held c (.shr (.frt c.held.prs)) x4 (.shr d) (.shr (.int (getB07 c.held d))), w⟩ := by
      rw [e_d1, e_mB2, e_d1, e_aCons, e_mB2, v1, e_bind, v5, e_bind, getU07 t, e_bind, e_aNil, e_bind, e_bind, e3, e_bind, e_d1, e_aCons, v6, e_bind, e_aNil, e_bind, e_bind, e3, e_bind, ne_str ok, e_bind, e_toB]
    have c2 : (d1 (mB2 (mB2 (dVar 5) (dVar 1) (inU owCon07)) (mB2 (dVar 6) (dC (.int 0)) gtU) neU) toB : M Bool) ⟨i07 c.held c (.shr (.frt c.held.prs)) x4 (.shr d) (.shr (.int (getB07 c.held d))), w⟩ = .ok false ⟨i07 c.held c (.shr (.frt c.held.prs)) x4 (.shr d) (.shr (.int (getB07 c.held d))), w⟩ := by
      rw [e_d1, e_mB2, e_mB2, v5, e_bind, v1, e_bind, in07 t, e_bind, e_mB2, v6, e_bind, e_dC, e_bind, u_gt, e_bind, same, ne_bl7, e_bind, e_toB]
      simp
    rw [e_sIf, e_mOr, c1, e_bind, if_neg Bool.false_ne_true, c2, e_toS, if_neg Bool.false_ne_true]
    rfl
  rw [e_sSeq, s1, e_sbind]
  exact s2
theorem tx_odd (h : d ∈ oddL) : Tx07 d := by
  simp only [oddL, odd1, odd2, odd3, List.cons_append, List.nil_append, List.mem_cons, List.not_mem_nil, or_false] at h
  rcases h with rfl | rfl | rfl | rfl | rfl | rfl | rfl | rfl | rfl | rfl | rfl | rfl | rfl | rfl | rfl | rfl | rfl | rfl | rfl | rfl | rfl | rfl | rfl | rfl | rfl | rfl | rfl | rfl | rfl <;> first | exact .inl ⟨_, rfl⟩ | exact .inr fun st => rfl
theorem itd07_ok (h : TbOk c) (hl : c.length ≤ 12) (hT : T.Ok n) (hn : n + 10 ≤ 2 ^ 40) : ∃ T' : Tape, r_itd07 [.loc 0, c.held.stock, .dic c.d] (T.d :: r) = .ok (.bl true) (T'.d :: r) ∧ T'.Ok (n + 2) := by
  have hl2 := held_len c
  obtain ⟨o1, T1, e1, h1, ok1⟩ := odd_in (r := r) hT (by omega)
  obtain ⟨o2, T2, e2, h2, ok2⟩ := odd_in (r := r) ok1 (by omega)
  refine ⟨T2, ?_, ok2⟩
  show (b_itd07 ⟨i07 c.held c .emp .emp .emp .emp, T.d :: r⟩).toR = _
  unfold b_itd07
  rw [e_sSeq, itd_1 h.nd (by omega), e_sbind, e_sSeq, itd_2 (by omega), e_sbind, e_sSeq, itd_3 h hl, e_sbind]
  have kl : (c.ks.map Dt.str).length = c.length := by rw [List.length_map, ks_len]
  have it : (d1 (mB2 (d1 (aCons (dVar 2) aNil) gList) (aLst (aCons (d1 (aCons (dVar 0) aNil) (callM r_odd)) (aCons (d1 (aCons (dVar 0) aNil) (callM r_odd)) (aCons (dVar 3) (aCons (dC .non) (aCons (aLst (aCons (dC (.str "a")) aNil)) aNil)))))) (addU ow0)) iterF : M (List Dt)) ⟨i07 c.held c (.shr (.frt c.held.prs)) (.shr (.lst (toldL c.held))) .emp .emp, T.d :: r⟩ = .ok (c.ks.map Dt.str ++ [o1, o2, .frt c.held.prs, .non, .lst [.str "a"]]) ⟨i07 c.held c (.shr (.frt c.held.prs)) (.shr (.lst (toldL c.held))) .emp .emp, T2.d :: r⟩ := by
    have v0 : ∀ T : Tape, (dVar 0 : M Dt) ⟨i07 c.held c (.shr (.frt c.held.prs)) (.shr (.lst (toldL c.held))) .emp .emp, T.d :: r⟩ = .ok (.loc 0) ⟨i07 c.held c (.shr (.frt c.held.prs)) (.shr (.lst (toldL c.held))) .emp .emp, T.d :: r⟩ := fun _ => rfl
    have v2 : (dVar 2 : M Dt) ⟨i07 c.held c (.shr (.frt c.held.prs)) (.shr (.lst (toldL c.held))) .emp .emp, T.d :: r⟩ = .ok (.dic c.d) ⟨i07 c.held c (.shr (.frt c.held.prs)) (.shr (.lst (toldL c.held))) .emp .emp, T.d :: r⟩ := rfl
    have gl : gList [.dic c.d] ⟨i07 c.held c (.shr (.frt c.held.prs)) (.shr (.lst (toldL c.held))) .emp .emp, T.d :: r⟩ = .ok (.lst (c.ks.map Dt.str)) ⟨i07 c.held c (.shr (.frt c.held.prs)) (.shr (.lst (toldL c.held))) .emp .emp, T.d :: r⟩ := by
      show (opt ((lstD [.dic c.d]).or (keysD [.dic c.d])) : M Dt) _ = _
      have : keysD [.dic c.d] = some (.lst (c.ks.map Dt.str)) := by
        show (if c.d.all (fun kv => isKey kv.1) then some (Dt.lst (c.d.map (·.1))) else none) = _
        rw [if_pos c.keys]
        unfold Tb.d Tb.ks
        rw [List.map_map, List.map_map]
        rfl
      rw [this]
      rfl
    have o1e : (d1 (aCons (dVar 0) aNil) (callM r_odd) : M Dt) ⟨i07 c.held c (.shr (.frt c.held.prs)) (.shr (.lst (toldL c.held))) .emp .emp, T.d :: r⟩ = .ok o1 ⟨i07 c.held c (.shr (.frt c.held.prs)) (.shr (.lst (toldL c.held))) .emp .emp, T1.d :: r⟩ := by
      rw [e_d1, e_aCons, v0, e_bind, e_aNil, e_bind, e_bind]
      exact kc e1 _
    have o2e : (d1 (aCons (dVar 0) aNil) (callM r_odd) : M Dt) ⟨i07 c.held c (.shr (.frt c.held.prs)) (.shr (.lst (toldL c.held))) .emp .emp, T1.d :: r⟩ = .ok o2 ⟨i07 c.held c (.shr (.frt c.held.prs)) (.shr (.lst (toldL c.held))) .emp .emp, T2.d :: r⟩ := by
      rw [e_d1, e_aCons, v0, e_bind, e_aNil, e_bind, e_bind]
      exact kc e2 _
    have v3 : (dVar 3 : M Dt) ⟨i07 c.held c (.shr (.frt c.held.prs)) (.shr (.lst (toldL c.held))) .emp .emp, T2.d :: r⟩ = .ok (.frt c.held.prs) ⟨i07 c.held c (.shr (.frt c.held.prs)) (.shr (.lst (toldL c.held))) .emp .emp, T2.d :: r⟩ := rfl
    have la : (aLst (aCons (dC (.str "a")) aNil) : M Dt) ⟨i07 c.held c (.shr (.frt c.held.prs)) (.shr (.lst (toldL c.held))) .emp .emp, T2.d :: r⟩ = .ok (.lst [.str "a"]) ⟨i07 c.held c (.shr (.frt c.held.prs)) (.shr (.lst (toldL c.held))) .emp .emp, T2.d :: r⟩ := rfl
    have lk : (opt (mkLst [o1, o2, .frt c.held.prs, .non, .lst [.str "a"]]) : M Dt) ⟨i07 c.held c (.shr (.frt c.held.prs)) (.shr (.lst (toldL c.held))) .emp .emp, T2.d :: r⟩ = .ok (.lst [o1, o2, .frt c.held.prs, .non, .lst [.str "a"]]) ⟨i07 c.held c (.shr (.frt c.held.prs)) (.shr (.lst (toldL c.held))) .emp .emp, T2.d :: r⟩ := rfl
    rw [e_d1, e_mB2, e_d1, e_aCons, v2, e_bind, e_aNil, e_bind, e_bind, gl, e_bind, e_aLst, e_aCons, o1e, e_bind, e_aCons, o2e, e_bind, e_aCons, v3, e_bind, e_aCons, e_dC, e_bind, e_aCons, la, e_bind, e_aNil, e_bind, e_bind, e_bind, e_bind, e_bind, e_bind, lk, e_bind, u_cat (by rw [List.length_append, kl]; show c.length + 5 ≤ _; omega), e_bind]
    rfl
  have tx : ∀ d ∈ c.ks.map Dt.str ++ [o1, o2, .frt c.held.prs, .non, .lst [.str "a"]], Tx07 d := fun d m => by
    rcases List.mem_append.mp m with q | q
    · obtain ⟨z, _, rfl⟩ := List.mem_map.mp q
      exact .inl ⟨z, rfl⟩
    · simp only [List.mem_cons, List.not_mem_nil, or_false] at q
      rcases q with rfl | rfl | rfl | rfl | rfl
      · exact tx_odd h1
      · exact tx_odd h2
      · exact .inr fun st => rfl
      · exact .inr fun st => rfl
      · exact .inr fun st => rfl
  obtain ⟨st', e4, y5, y6, rfl⟩ := sFor_ok (tg := tName 5) (body := (sSeq p_itd07_4_1 p_itd07_4_2)) (ds := c.ks.map Dt.str ++ [o1, o2, .frt c.held.prs, .non, .lst [.str "a"]]) (st := ⟨i07 c.held c (.shr (.frt c.held.prs)) (.shr (.lst (toldL c.held))) .emp .emp, T.d :: r⟩) (st0 := ⟨i07 c.held c (.shr (.frt c.held.prs)) (.shr (.lst (toldL c.held))) .emp .emp, T2.d :: r⟩)
    (fun k st => ∃ y5 y6 : Slot, st = ⟨i07 c.held c (.shr (.frt c.held.prs)) (.shr (.lst (toldL c.held))) y5 y6, T2.d :: r⟩) it ⟨.emp, .emp, rfl⟩ (by
      rintro k d st hk ⟨y5, y6, rfl⟩
      obtain ⟨z6, e⟩ := itd_4t (x4 := .shr (.lst (toldL c.held))) (x6 := y6) (w := T2.d :: r) h (tx d (List.mem_of_getElem? hk))
      exact ⟨_, _, rfl, e, .shr d, z6, rfl⟩)
  rw [e_sSeq]
  unfold p_itd07_4
  rw [e4]
  rfl
end
end
end B
end
section
set_option maxRecDepth 100000
set_option maxHeartbeats 1000000
namespace B
open PySem L2
noncomputable section
section
variable {x0 x2 x3 x4 x5 x6 x7 x8 x9 x10 x11 x12 x13 x14 x15 x16 x17 : Slot} {T : Tape} {n : Nat} {zs : List Str} {D E : Tb} {w r : Wd} {sl : List Slot}
abbrev f07 (x0 x2 x3 x4 x5 x6 x7 x8 x9 x10 x11 x12 x13 x14 x15 x16 x17 : Slot) : List Slot := [x0, .shr (.loc 0), x2, x3, x4, x5, x6, x7, x8, x9, x10, x11, x12, x13, x14, x15, x16, x17, .emp]
abbrev nmS (zs : List Str) : Slot := .shr (.lst (zs.map Dt.str))
structure Nm07 (zs : List Str) : Prop where
  nd : zs.Nodup
  ok : ∀ z ∈ zs, Nm8 z
  ln : zs.length ≤ 12
theorem h07_1 (h : T.Ok n) (hn : n + 200 ≤ 2 ^ 40) : ∃ (zs : List Str) (T' : Tape), p_k07_law_2_1 ⟨f07 x0 x2 x3 x4 x5 x6 x7 x8 x9 x10 x11 x12 x13 x14 x15 x16 x17, [T.d]⟩ = .nx ⟨f07 x0 x2 x3 (nmS zs) x5 x6 x7 x8 x9 x10 x11 x12 x13 x14 x15 x16 x17, [Tape.d T']⟩ ∧ Nm07 zs ∧ T'.Ok (n + 14) := by
  obtain ⟨a, T1, e1, a0, a1, ok1⟩ := draw_ok (r := []) h (by omega) (m := 6) (by decide) (by decide)
  obtain ⟨b, T2, e2, b0, b1, ok2⟩ := draw_ok (r := []) ok1 (by omega) (m := 6) (by decide) (by decide)
  obtain ⟨d, T3, e3, hd, ok3⟩ := pick_ok (r := []) (xs := [.int a, .int b, .int 12]) ok2 (by omega) (by simp) (by show 3 ≤ 2 ^ 40; decide)
  obtain ⟨m, rfl, hm⟩ : ∃ m : Nat, d = .int (m : Int) ∧ m ≤ 12 := by
    simp only [List.mem_cons, List.not_mem_nil, or_false] at hd
    rcases hd with rfl | rfl | rfl
    · exact ⟨a.toNat, by rw [Int.toNat_of_nonneg a0], by omega⟩
    · exact ⟨b.toNat, by rw [Int.toNat_of_nonneg b0], by omega⟩
    · exact ⟨12, rfl, by decide⟩
  obtain ⟨stem, first, step, way, T4, e4, N, ok4⟩ := names_ok (r := []) (m := m) ok3 (by omega) (by omega) (fun T' => clos_tape T')
  refine ⟨(List.range m).map fun k => tx (nmAt stem first step way k), T4, ?_, ⟨nmAt_nd N (by omega), fun z hz => ?_, by rw [List.length_map, List.length_range]; exact hm⟩, ok4.mono (by omega)⟩
  · have e : (List.range m).map (fun k => Dt.str (tx (nmAt stem first step way k))) = ((List.range m).map fun k => tx (nmAt stem first step way k)).map Dt.str := by
      rw [List.map_map]; rfl
    rw [e] at e4
    unfold p_k07_law_2_1
    simp only [e_d1, e_bind, e_mB2, e_dC, e_dVar, e_aNil, e_aCons, e_aTup, e_aLst, e_mkTup, e_mkLst, e_optS, e_toB, e_mAnd, e_mOr, e_mNot, e_mIf, e_toS, e_sbind, e_sbindR, e_sSeq, e_sNext, e_sIf, e_sSet, e_sOwn, e_sRet, e_sExpr, e_sAsg, e_tName, e_tTup, e_tNil, e_tCons, e_tSub, e_toR, e_toRn, u_lt, u_le, u_gt, u_ge, u_add, u_sub, u_lenL, u_lenT, g_intI, List.getElem?_cons_zero, List.getElem?_cons_succ, List.set_cons_zero, List.set_cons_succ, List.length_cons, List.length_nil, List.map_cons, List.map_nil, List.replicate, List.cons_append, List.nil_append, Option.bind_some, Nat.zero_add, Nat.reduceAdd, Nat.reduceSub, Nat.reduceLeDiff]
    rw [kc e1]
    simp only [e_d1, e_bind, e_mB2, e_dC, e_dVar, e_aNil, e_aCons, e_aTup, e_aLst, e_mkTup, e_mkLst, e_optS, e_toB, e_mAnd, e_mOr, e_mNot, e_mIf, e_toS, e_sbind, e_sbindR, e_sSeq, e_sNext, e_sIf, e_sSet, e_sOwn, e_sRet, e_sExpr, e_sAsg, e_tName, e_tTup, e_tNil, e_tCons, e_tSub, e_toR, e_toRn, u_lt, u_le, u_gt, u_ge, u_add, u_sub, u_lenL, u_lenT, g_intI, List.getElem?_cons_zero, List.getElem?_cons_succ, List.set_cons_zero, List.set_cons_succ, List.length_cons, List.length_nil, List.map_cons, List.map_nil, List.replicate, List.cons_append, List.nil_append, Option.bind_some, Nat.zero_add, Nat.reduceAdd, Nat.reduceSub, Nat.reduceLeDiff]
    rw [kc e2]
    simp only [e_d1, e_bind, e_mB2, e_dC, e_dVar, e_aNil, e_aCons, e_aTup, e_aLst, e_mkTup, e_mkLst, e_optS, e_toB, e_mAnd, e_mOr, e_mNot, e_mIf, e_toS, e_sbind, e_sbindR, e_sSeq, e_sNext, e_sIf, e_sSet, e_sOwn, e_sRet, e_sExpr, e_sAsg, e_tName, e_tTup, e_tNil, e_tCons, e_tSub, e_toR, e_toRn, u_lt, u_le, u_gt, u_ge, u_add, u_sub, u_lenL, u_lenT, g_intI, List.getElem?_cons_zero, List.getElem?_cons_succ, List.set_cons_zero, List.set_cons_succ, List.length_cons, List.length_nil, List.map_cons, List.map_nil, List.replicate, List.cons_append, List.nil_append, Option.bind_some, Nat.zero_add, Nat.reduceAdd, Nat.reduceSub, Nat.reduceLeDiff]
    rw [kc e3]
    simp only [e_d1, e_bind, e_mB2, e_dC, e_dVar, e_aNil, e_aCons, e_aTup, e_aLst, e_mkTup, e_mkLst, e_optS, e_toB, e_mAnd, e_mOr, e_mNot, e_mIf, e_toS, e_sbind, e_sbindR, e_sSeq, e_sNext, e_sIf, e_sSet, e_sOwn, e_sRet, e_sExpr, e_sAsg, e_tName, e_tTup, e_tNil, e_tCons, e_tSub, e_toR, e_toRn, u_lt, u_le, u_gt, u_ge, u_add, u_sub, u_lenL, u_lenT, g_intI, List.getElem?_cons_zero, List.getElem?_cons_succ, List.set_cons_zero, List.set_cons_succ, List.length_cons, List.length_nil, List.map_cons, List.map_nil, List.replicate, List.cons_append, List.nil_append, Option.bind_some, Nat.zero_add, Nat.reduceAdd, Nat.reduceSub, Nat.reduceLeDiff]
    rw [kc e4]
    simp only [e_d1, e_bind, e_mB2, e_dC, e_dVar, e_aNil, e_aCons, e_aTup, e_aLst, e_mkTup, e_mkLst, e_optS, e_toB, e_mAnd, e_mOr, e_mNot, e_mIf, e_toS, e_sbind, e_sbindR, e_sSeq, e_sNext, e_sIf, e_sSet, e_sOwn, e_sRet, e_sExpr, e_sAsg, e_tName, e_tTup, e_tNil, e_tCons, e_tSub, e_toR, e_toRn, u_lt, u_le, u_gt, u_ge, u_add, u_sub, u_lenL, u_lenT, g_intI, List.getElem?_cons_zero, List.getElem?_cons_succ, List.set_cons_zero, List.set_cons_succ, List.length_cons, List.length_nil, List.map_cons, List.map_nil, List.replicate, List.cons_append, List.nil_append, Option.bind_some, Nat.zero_add, Nat.reduceAdd, Nat.reduceSub, Nat.reduceLeDiff]
  · obtain ⟨k, _, rfl⟩ := List.mem_map.mp hz
    exact ⟨_, rfl, nmAt_ok N k⟩
theorem h07_2 (N : Nm07 zs) (hx : shrOf (some x17) = x17) (h : T.Ok n) (hn : n + 1000 ≤ 2 ^ 40) : ∃ (D : Tb) (T' : Tape), p_k07_law_2_2 ⟨f07 x0 x2 x3 (nmS zs) x5 x6 x7 x8 x9 x10 x11 x12 x13 x14 x15 x16 x17, [T.d]⟩ = .nx ⟨f07 x0 x2 x3 (nmS zs) (.shr (.dic D.d)) x6 x7 x8 x9 x10 x11 x12 x13 x14 x15 x16 x17, [Tape.d T']⟩ ∧ D.ks = zs ∧ TbOk D ∧ T'.Ok (n + 120) := by
  have hl := N.ln
  obtain ⟨D, T3, e3, k1, k2, ok3⟩ := lcT (v := 17) (sl := f07 x0 x2 x3 (nmS zs) x5 x6 x7 x8 x9 x10 x11 x12 x13 x14 x15 x16 x17) (s := x17) (w0 := [T.d]) (T := T) (c := 10) (xs := zs) (it := d1 (dVar 4) iterD) (te := (aTup (aCons (dVar 17) (aCons (d1 (aCons (dVar 1) (aCons (mB2 (dC (.int 10)) (dC (.int 18)) powU) aNil)) (callM r_number)) aNil)))) (P := fun _ i => 0 ≤ i ∧ i ≤ 1000000000000000000)
    rfl hx rfl (by omega) h (fun k hk T m ok hm => by
      obtain ⟨v, T', e4, v0, v1, ok4⟩ := number_ok (r := []) ok (by omega) (m := 1000000000000000000) (by decide)
      refine ⟨v, T', ?_, ⟨v0, v1⟩, ok4⟩
      have v17 : ∀ st : DS, (dVar 17 : M Dt) ⟨(f07 x0 x2 x3 (nmS zs) x5 x6 x7 x8 x9 x10 x11 x12 x13 x14 x15 x16 x17).set 17 (.shr (.str k)), st.w⟩ = .ok (.str k) ⟨(f07 x0 x2 x3 (nmS zs) x5 x6 x7 x8 x9 x10 x11 x12 x13 x14 x15 x16 x17).set 17 (.shr (.str k)), st.w⟩ := fun _ => rfl
      simp only [e_d1, e_bind, e_mB2, e_dC, e_dVar, e_aNil, e_aCons, e_aTup, e_aLst, e_mkTup, e_mkLst, e_optS, e_toB, e_mAnd, e_mOr, e_mNot, e_mIf, e_toS, e_sbind, e_sbindR, e_sSeq, e_sNext, e_sIf, e_sSet, e_sOwn, e_sRet, e_sExpr, e_sAsg, e_tName, e_tTup, e_tNil, e_tCons, e_tSub, e_toR, e_toRn, u_lt, u_le, u_gt, u_ge, u_add, u_sub, u_lenL, u_lenT, g_intI, List.getElem?_cons_zero, List.getElem?_cons_succ, List.set_cons_zero, List.set_cons_succ, List.length_cons, List.length_nil, List.map_cons, List.map_nil, List.replicate, List.cons_append, List.nil_append, Option.bind_some, Nat.zero_add, Nat.reduceAdd, Nat.reduceSub, Nat.reduceLeDiff, p18]
      rw [kc e4]
      simp only [e_d1, e_bind, e_mB2, e_dC, e_dVar, e_aNil, e_aCons, e_aTup, e_aLst, e_mkTup, e_mkLst, e_optS, e_toB, e_mAnd, e_mOr, e_mNot, e_mIf, e_toS, e_sbind, e_sbindR, e_sSeq, e_sNext, e_sIf, e_sSet, e_sOwn, e_sRet, e_sExpr, e_sAsg, e_tName, e_tTup, e_tNil, e_tCons, e_tSub, e_toR, e_toRn, u_lt, u_le, u_gt, u_ge, u_add, u_sub, u_lenL, u_lenT, g_intI, List.getElem?_cons_zero, List.getElem?_cons_succ, List.set_cons_zero, List.set_cons_succ, List.length_cons, List.length_nil, List.map_cons, List.map_nil, List.replicate, List.cons_append, List.nil_append, Option.bind_some, Nat.zero_add, Nat.reduceAdd, Nat.reduceSub, Nat.reduceLeDiff])
  have nd : (([] ++ D : List (Str × Int)).map (·.1)).Nodup := by
    show D.ks.Nodup
    rw [k1]; exact N.nd
  refine ⟨D, T3, ?_, k1, ⟨fun p hp => N.ok _ (by rw [← k1]; exact List.mem_map.mpr ⟨p, hp, rfl⟩), fun p hp => (k2 p hp).1, fun p hp => (k2 p hp).2, by show D.ks.Nodup; rw [k1]; exact N.nd, by rw [← ks_len, k1]; omega⟩, ok3.mono (by omega)⟩
  unfold p_k07_law_2_2
  rw [e_sSet, e_d1, e_aCons, e3, e_bind, e_aNil, e_bind, e_bind, gd_prs, mrgT_new D [] nd, List.nil_append]
  rfl
theorem held_perm (hD : TbOk D) (hE : TbOk E) (hk : ∀ k, k ∈ E.ks ↔ k ∈ D.ks) (he : ∀ p ∈ E, p.2 = D.get p.1) : E.held = D.held :=
  same_held hE hD fun k => by
    by_cases q : k ∈ E.ks
    · exact he _ (Tb.get_mem q)
    · rw [Tb.get_out q, Tb.get_out fun z => q ((hk k).mpr z)]
theorem h07_3 (N : Nm07 zs) (hD : TbOk D) (kD : D.ks = zs) (hx : shrOf (some x17) = x17) (h : T.Ok n) (hn : n + 1000 ≤ 2 ^ 40) : ∃ (E : Tb) (T' : Tape), p_k07_law_2_3 ⟨f07 x0 x2 x3 (nmS zs) (.shr (.dic D.d)) x6 x7 x8 x9 x10 x11 x12 x13 x14 x15 x16 x17, [T.d]⟩ = .nx ⟨f07 x0 x2 x3 (nmS zs) (.shr (.dic D.d)) (.shr (.loc 1)) x7 x8 x9 x10 x11 x12 x13 x14 x15 x16 x17, [Tape.d T', .dic E.d]⟩ ∧ TbOk E ∧ E.held = D.held ∧ T'.Ok (n + 20) := by
  have hl := N.ln
  obtain ⟨ys, T1, e1, p1, ok1⟩ := shuffled_ok h (by omega) (xs := zs.map Dt.str) (noLoc_strs zs) (by rw [List.length_map]; omega)
  obtain ⟨us, rfl⟩ : ∃ us : List Str, ys = us.map Dt.str := ⟨ys.map unstr, by
    rw [List.map_map]
    refine (List.map_id ys).symm.trans (List.map_congr_left fun d hd => ?_)
    obtain ⟨z, _, rfl⟩ := List.mem_map.mp (p1.mem_iff.mp hd)
    rfl⟩
  have inj : Function.Injective Dt.str := fun a b e => by cases e; rfl
  have hul : us.length = zs.length := by have := p1.length_eq; rw [List.length_map, List.length_map] at this; exact this
  have mem : ∀ k, k ∈ us ↔ k ∈ zs := fun k => by
    have m1 : ∀ l : List Str, Dt.str k ∈ l.map Dt.str ↔ k ∈ l := fun l => ⟨fun q => by
      obtain ⟨z, hz, e⟩ := List.mem_map.mp q
      cases e
      exact hz, fun q => List.mem_map.mpr ⟨k, q, rfl⟩⟩
    rw [← m1 us, ← m1 zs]
    exact p1.mem_iff
  have und : us.Nodup := by
    have : (us.map Dt.str).Nodup := p1.nodup_iff.mpr (List.pairwise_map.mpr (N.nd.imp fun ne e => ne (inj e)))
    exact (List.pairwise_map.mp this).imp fun ne e => ne (congrArg _ e)
  obtain ⟨E, T3, e3, k1, k2, ok3⟩ := lcT (v := 17) (sl := f07 x0 x2 x3 (nmS zs) (.shr (.dic D.d)) x6 x7 x8 x9 x10 x11 x12 x13 x14 x15 x16 x17) (s := x17) (w0 := [T.d]) (T := T1) (c := 0) (xs := us) (it := d1 (d1 (aCons (dVar 1) (aCons (dVar 4) aNil)) (callM r_shuffled)) iterD) (te := (aTup (aCons (dVar 17) (aCons (mB2 (dVar 5) (dVar 17) (getU owGet07)) aNil)))) (P := fun k i => i = D.get k)
    rfl hx (by
      simp only [e_d1, e_bind, e_mB2, e_dC, e_dVar, e_aNil, e_aCons, e_aTup, e_aLst, e_mkTup, e_mkLst, e_optS, e_toB, e_mAnd, e_mOr, e_mNot, e_mIf, e_toS, e_sbind, e_sbindR, e_sSeq, e_sNext, e_sIf, e_sSet, e_sOwn, e_sRet, e_sExpr, e_sAsg, e_tName, e_tTup, e_tNil, e_tCons, e_tSub, e_toR, e_toRn, u_lt, u_le, u_gt, u_ge, u_add, u_sub, u_lenL, u_lenT, g_intI, List.getElem?_cons_zero, List.getElem?_cons_succ, List.set_cons_zero, List.set_cons_succ, List.length_cons, List.length_nil, List.map_cons, List.map_nil, List.replicate, List.cons_append, List.nil_append, Option.bind_some, Nat.zero_add, Nat.reduceAdd, Nat.reduceSub, Nat.reduceLeDiff]
      rw [kc e1]
      simp only [e_d1, e_bind, e_mB2, e_dC, e_dVar, e_aNil, e_aCons, e_aTup, e_aLst, e_mkTup, e_mkLst, e_optS, e_toB, e_mAnd, e_mOr, e_mNot, e_mIf, e_toS, e_sbind, e_sbindR, e_sSeq, e_sNext, e_sIf, e_sSet, e_sOwn, e_sRet, e_sExpr, e_sAsg, e_tName, e_tTup, e_tNil, e_tCons, e_tSub, e_toR, e_toRn, u_lt, u_le, u_gt, u_ge, u_add, u_sub, u_lenL, u_lenT, g_intI, List.getElem?_cons_zero, List.getElem?_cons_succ, List.set_cons_zero, List.set_cons_succ, List.length_cons, List.length_nil, List.map_cons, List.map_nil, List.replicate, List.cons_append, List.nil_append, Option.bind_some, Nat.zero_add, Nat.reduceAdd, Nat.reduceSub, Nat.reduceLeDiff]
      rfl) (by omega) ok1 (fun k hk T m ok hm => by
      refine ⟨D.get k, T, ?_, rfl, ok⟩
      have hk2 : k ∈ D.ks := by rw [kD]; exact (mem k).mp hk
      have v17 : (dVar 17 : M Dt) ⟨(f07 x0 x2 x3 (nmS zs) (.shr (.dic D.d)) x6 x7 x8 x9 x10 x11 x12 x13 x14 x15 x16 x17).set 17 (.shr (.str k)), [T.d]⟩ = .ok (.str k) ⟨(f07 x0 x2 x3 (nmS zs) (.shr (.dic D.d)) x6 x7 x8 x9 x10 x11 x12 x13 x14 x15 x16 x17).set 17 (.shr (.str k)), [T.d]⟩ := rfl
      have v5 : (dVar 5 : M Dt) ⟨(f07 x0 x2 x3 (nmS zs) (.shr (.dic D.d)) x6 x7 x8 x9 x10 x11 x12 x13 x14 x15 x16 x17).set 17 (.shr (.str k)), [T.d]⟩ = .ok (.dic D.d) ⟨(f07 x0 x2 x3 (nmS zs) (.shr (.dic D.d)) x6 x7 x8 x9 x10 x11 x12 x13 x14 x15 x16 x17).set 17 (.shr (.str k)), [T.d]⟩ := rfl
      rw [e_aTup, e_aCons, v17, e_bind, e_aCons, e_mB2, v5, e_bind, v17, e_bind, getU07D hk2]
      rfl)
  have nd : (([] ++ E : List (Str × Int)).map (·.1)).Nodup := by
    show E.ks.Nodup
    rw [k1]; exact und
  have kk : ∀ k, k ∈ E.ks ↔ k ∈ D.ks := fun k => by rw [k1, kD]; exact mem k
  have hE : TbOk E := ⟨fun p hp => N.ok _ (by rw [← mem, ← k1]; exact List.mem_map.mpr ⟨p, hp, rfl⟩), fun p hp => by rw [k2 p hp]; exact Tb.get_val (P := fun v => 0 ≤ v) (by decide) hD.v0, fun p hp => by rw [k2 p hp]; exact Tb.get_val (P := fun v => v ≤ 1000000000000000000) (by decide) hD.v1, by show E.ks.Nodup; rw [k1]; exact und, by rw [← ks_len, k1]; omega⟩
  refine ⟨E, T3, ?_, hE, held_perm hD hE kk k2, ok3.mono (by omega)⟩
  unfold p_k07_law_2_3
  rw [e_sSet, e_toLoc, e_d1, e_aCons, e3, e_bind, e_aNil, e_bind, e_bind, gd_prs, mrgT_new E [] nd, List.nil_append]
  rfl
theorem clos_07 {d : Dt} (hd : NoLoc d) : clos 2 [T.d, d] = true := by
  show (clo 2 T.d && (clo 2 d && true)) = true
  rw [clo_tape T 2, hd 2]
  rfl
theorem h07_4 (hE : TbOk E) (e : E.held = D.held) : p_k07_law_2_4 ⟨f07 x0 x2 x3 x4 x5 (.shr (.loc 1)) x7 x8 x9 x10 x11 x12 x13 x14 x15 x16 x17, [T.d, .dic E.d]⟩ = .nx ⟨f07 x0 x2 x3 x4 x5 (.shr (.loc 1)) (.shr D.held.stock) x8 x9 x10 x11 x12 x13 x14 x15 x16 x17, [T.d, .dic E.d]⟩ := by
  unfold p_k07_law_2_4
  have k := of07_loc (w := [T.d, .dic E.d]) (n := 1) hE (clos_07 (noLoc_tb E)) rfl
  rw [e] at k
  have v6 : (dVar 6 : M Dt) ⟨f07 x0 x2 x3 x4 x5 (.shr (.loc 1)) x7 x8 x9 x10 x11 x12 x13 x14 x15 x16 x17, [T.d, .dic E.d]⟩ = .ok (.loc 1) ⟨f07 x0 x2 x3 x4 x5 (.shr (.loc 1)) x7 x8 x9 x10 x11 x12 x13 x14 x15 x16 x17, [T.d, .dic E.d]⟩ := rfl
  rw [e_sSet, e_d1, e_aCons, v6, e_bind, e_aNil, e_bind, e_bind, kc k]
  rfl
theorem h07_5 : sExpr (mMe "dict" (dVar 6) aNil gClrD) ⟨f07 x0 x2 x3 x4 x5 (.shr (.loc 1)) x7 x8 x9 x10 x11 x12 x13 x14 x15 x16 x17, [T.d, .dic E.d]⟩ = .nx ⟨f07 x0 x2 x3 x4 x5 (.shr (.loc 1)) x7 x8 x9 x10 x11 x12 x13 x14 x15 x16 x17, [T.d, .dic []]⟩ := by
  have e : (mMe "dict" (dVar 6) aNil gClrD : M Dt) ⟨f07 x0 x2 x3 x4 x5 (.shr (.loc 1)) x7 x8 x9 x10 x11 x12 x13 x14 x15 x16 x17, [T.d, .dic E.d]⟩ = .ok .non ⟨f07 x0 x2 x3 x4 x5 (.shr (.loc 1)) x7 x8 x9 x10 x11 x12 x13 x14 x15 x16 x17, [T.d, .dic []]⟩ := by
    show (if E.d.all (fun kv => isKey kv.1) then _ else _ : Out Dt) = _
    rw [if_pos E.keys]
    rfl
  show ((mMe "dict" (dVar 6) aNil gClrD : M Dt) _).toS _ = _
  rw [e]
  rfl
end
end
end B
end
section
set_option maxRecDepth 100000
set_option maxHeartbeats 1000000
namespace B
open PySem L2
noncomputable section
section
variable {x0 x2 x3 x4 x5 x6 x7 x8 x9 x10 x11 x12 x13 x14 x15 x16 x17 : Slot} {T : Tape} {n : Nat} {zs : List Str} {D E C : Tb} {w r : Wd} {sl : List Slot} {K : List Tb} {x y z : Int}
theorem neV_int {i : Int} {st : DS} : neV owEq07 (.int i) (.int i) st = .ok (.bl false) st := by
  have e : eqB (.int i) (.int i) = some (i == i) := by rfl
  show (opt ((eqB (.int i) (.int i)).map fun b => Dt.bl (!b)) : M Dt) st = _
  rw [e, beq_self_eq_true]
  rfl
theorem h07_6 (hD : TbOk D) (hl : D.length ≤ 12) (hT : T.Ok n) (hn : n + 10 ≤ 2 ^ 40) : ∃ T' : Tape, p_k07_law_2_6 ⟨f07 x0 x2 x3 x4 (.shr (.dic D.d)) x6 (.shr D.held.stock) x8 x9 x10 x11 x12 x13 x14 x15 x16 x17, T.d :: r⟩ = .nx ⟨f07 x0 x2 x3 x4 (.shr (.dic D.d)) x6 (.shr D.held.stock) x8 x9 x10 x11 x12 x13 x14 x15 x16 x17, Tape.d T' :: r⟩ ∧ T'.Ok (n + 2) := by
  obtain ⟨T1, e1, ok1⟩ := itd07_ok (r := r) hD hl hT hn
  refine ⟨T1, ?_, ok1⟩
  have cc : (mOr (mNot (d1 (d1 (aCons (dVar 1) (aCons (dVar 7) (aCons (dVar 5) aNil))) (callM r_itd07)) truN)) (d1 (mB2 (d1 (dC (.cls "Stock")) (getCc ckMost07)) (mB2 (dC (.int 10)) (dC (.int 18)) powU) (neV owEq07)) toB) : M Bool) ⟨f07 x0 x2 x3 x4 (.shr (.dic D.d)) x6 (.shr D.held.stock) x8 x9 x10 x11 x12 x13 x14 x15 x16 x17, T.d :: r⟩ = .ok false ⟨f07 x0 x2 x3 x4 (.shr (.dic D.d)) x6 (.shr D.held.stock) x8 x9 x10 x11 x12 x13 x14 x15 x16 x17, T1.d :: r⟩ := by
    have a : (d1 (d1 (aCons (dVar 1) (aCons (dVar 7) (aCons (dVar 5) aNil))) (callM r_itd07)) truN : M Bool) ⟨f07 x0 x2 x3 x4 (.shr (.dic D.d)) x6 (.shr D.held.stock) x8 x9 x10 x11 x12 x13 x14 x15 x16 x17, T.d :: r⟩ = .ok true ⟨f07 x0 x2 x3 x4 (.shr (.dic D.d)) x6 (.shr D.held.stock) x8 x9 x10 x11 x12 x13 x14 x15 x16 x17, T1.d :: r⟩ := by
      have v1 : (aCons (dVar 1) (aCons (dVar 7) (aCons (dVar 5) aNil)) : M (List Dt)) ⟨f07 x0 x2 x3 x4 (.shr (.dic D.d)) x6 (.shr D.held.stock) x8 x9 x10 x11 x12 x13 x14 x15 x16 x17, T.d :: r⟩ = .ok [.loc 0, D.held.stock, .dic D.d] ⟨f07 x0 x2 x3 x4 (.shr (.dic D.d)) x6 (.shr D.held.stock) x8 x9 x10 x11 x12 x13 x14 x15 x16 x17, T.d :: r⟩ := rfl
      rw [e_d1, e_d1, v1, e_bind, kc e1, e_bind]
      rfl
    have b : (d1 (dC (.cls "Stock")) (getCc ckMost07) : M Dt) ⟨f07 x0 x2 x3 x4 (.shr (.dic D.d)) x6 (.shr D.held.stock) x8 x9 x10 x11 x12 x13 x14 x15 x16 x17, T1.d :: r⟩ = .ok (.int 1000000000000000000) ⟨f07 x0 x2 x3 x4 (.shr (.dic D.d)) x6 (.shr D.held.stock) x8 x9 x10 x11 x12 x13 x14 x15 x16 x17, T1.d :: r⟩ := rfl
    rw [e_mOr, e_mNot, a, e_bind, e_bind]
    show (if (!true) = true then _ else _ : Out Bool) = _
    rw [if_neg (by decide), e_d1, e_mB2, b, e_bind, e_mB2, e_dC, e_bind, e_dC, e_bind, p18, e_bind, neV_int, e_bind, e_toB]
  unfold p_k07_law_2_6
  rw [e_sIf, cc, e_toS, if_neg Bool.false_ne_true]
  rfl
theorem h07_7 (hD : TbOk D) (hT : T.Ok n) (hn : n + 10 ≤ 2 ^ 40) : ∃ T' : Tape, p_k07_law_2_7 ⟨f07 x0 x2 x3 x4 (.shr (.dic D.d)) x6 (.shr C.stock) x8 x9 x10 x11 x12 x13 x14 x15 x16 x17, T.d :: r⟩ = .nx ⟨f07 x0 x2 x3 x4 (.shr (.dic D.d)) x6 (.shr C.stock) x8 x9 x10 x11 x12 x13 x14 x15 x16 x17, Tape.d T' :: r⟩ ∧ T'.Ok (n + 1) := by
  obtain ⟨o, T1, e1, ho, ok1⟩ := odd_in (r := r) hT (by omega)
  refine ⟨T1, ?_, ok1⟩
  have v7 : ∀ T : Tape, (dVar 7 : M Dt) ⟨f07 x0 x2 x3 x4 (.shr (.dic D.d)) x6 (.shr C.stock) x8 x9 x10 x11 x12 x13 x14 x15 x16 x17, T.d :: r⟩ = .ok C.stock ⟨f07 x0 x2 x3 x4 (.shr (.dic D.d)) x6 (.shr C.stock) x8 x9 x10 x11 x12 x13 x14 x15 x16 x17, T.d :: r⟩ := fun _ => rfl
  have v5 : ∀ T : Tape, (dVar 5 : M Dt) ⟨f07 x0 x2 x3 x4 (.shr (.dic D.d)) x6 (.shr C.stock) x8 x9 x10 x11 x12 x13 x14 x15 x16 x17, T.d :: r⟩ = .ok (.dic D.d) ⟨f07 x0 x2 x3 x4 (.shr (.dic D.d)) x6 (.shr C.stock) x8 x9 x10 x11 x12 x13 x14 x15 x16 x17, T.d :: r⟩ := fun _ => rfl
  have v1 : (aCons (dVar 1) aNil : M (List Dt)) ⟨f07 x0 x2 x3 x4 (.shr (.dic D.d)) x6 (.shr C.stock) x8 x9 x10 x11 x12 x13 x14 x15 x16 x17, T.d :: r⟩ = .ok [.loc 0] ⟨f07 x0 x2 x3 x4 (.shr (.dic D.d)) x6 (.shr C.stock) x8 x9 x10 x11 x12 x13 x14 x15 x16 x17, T.d :: r⟩ := rfl
  unfold p_k07_law_2_7
  rw [e_sIf, e_mOr, e_d1, e_mB2, v7, e_bind, e_d1, v1, e_bind, kc e1, e_bind, eqT_odd ho, e_bind, e_toB, e_bind, if_neg Bool.false_ne_true, e_d1, e_mB2, v7, e_bind, v5, e_bind, eqT_tb, e_bind, e_toB, e_toS, if_neg Bool.false_ne_true]
  rfl
theorem h07_8 (N : Nm07 zs) (kD : D.ks = zs) (hx : shrOf (some x17) = x17) : p_k07_law_2_8 ⟨f07 x0 x2 x3 (nmS zs) (.shr (.dic D.d)) x6 x7 x8 x9 x10 x11 x12 x13 x14 x15 x16 x17, w⟩ = .nx ⟨f07 x0 x2 x3 (nmS zs) (.shr (.dic D.d)) x6 x7 (.shr (.lst D.held.prs)) x9 x10 x11 x12 x13 x14 x15 x16 x17, w⟩ := by
  have hl : D.length ≤ 12 := by rw [← ks_len, kD]; exact N.ln
  have lc := pos_comp (D := D) (v := 17) (i := 5) (s := x17) (sl := f07 x0 x2 x3 (nmS zs) (.shr (.dic D.d)) x6 x7 x8 x9 x10 x11 x12 x13 x14 x15 x16 x17) (w := w) (it := d1 (dVar 4) iterD) rfl hx (by decide) rfl (by rw [kD]; rfl) (by omega)
  unfold p_k07_law_2_8
  rw [e_sSet, e_d1, e_aCons, lc, e_bind, e_aNil, e_bind, e_bind, srt_pos (by rw [kD]; exact N.nd) (by omega)]
  rfl
abbrev kn07 (h : Tb) : Dt := .tup [h.stock, .lst h.prs]
theorem h07_9 (hK : K.length ≤ 100) : p_k07_law_2_9 ⟨f07 x0 (.shr (.lst (K.map kn07))) x3 x4 x5 x6 (.shr C.stock) (.shr (.lst C.prs)) x9 x10 x11 x12 x13 x14 x15 x16 x17, w⟩ = .nx ⟨f07 x0 (.shr (.lst ((K ++ [C]).map kn07))) x3 x4 x5 x6 (.shr C.stock) (.shr (.lst C.prs)) x9 x10 x11 x12 x13 x14 x15 x16 x17, w⟩ := by
  have e : (aLst (aCons (aTup (aCons (dVar 7) (aCons (dVar 8) aNil))) aNil) : M Dt) ⟨f07 x0 (.shr (.lst (K.map kn07))) x3 x4 x5 x6 (.shr C.stock) (.shr (.lst C.prs)) x9 x10 x11 x12 x13 x14 x15 x16 x17, w⟩ = .ok (.lst [kn07 C]) ⟨f07 x0 (.shr (.lst (K.map kn07))) x3 x4 x5 x6 (.shr C.stock) (.shr (.lst C.prs)) x9 x10 x11 x12 x13 x14 x15 x16 x17, w⟩ := rfl
  have v2 : (dVar 2 : M Dt) ⟨f07 x0 (.shr (.lst (K.map kn07))) x3 x4 x5 x6 (.shr C.stock) (.shr (.lst C.prs)) x9 x10 x11 x12 x13 x14 x15 x16 x17, w⟩ = .ok (.lst (K.map kn07)) ⟨f07 x0 (.shr (.lst (K.map kn07))) x3 x4 x5 x6 (.shr C.stock) (.shr (.lst C.prs)) x9 x10 x11 x12 x13 x14 x15 x16 x17, w⟩ := rfl
  unfold p_k07_law_2_9
  rw [e_sSet, e_mB2, v2, e_bind, e, e_bind, u_cat (by rw [List.length_append, List.length_map]; show K.length + 1 ≤ _; omega), List.map_append]
  rfl
theorem h07_10 (hC : Cn C) (hK : ∀ h ∈ K, Cn h) (c9 : Cl x9) (c10 : Cl x10) : ∃ y9 y10 : Slot, p_k07_law_2_10 ⟨f07 x0 (.shr (.lst (K.map kn07))) x3 x4 x5 x6 (.shr C.stock) (.shr (.lst C.prs)) x9 x10 x11 x12 x13 x14 x15 x16 x17, w⟩ = .nx ⟨f07 x0 (.shr (.lst (K.map kn07))) x3 x4 x5 x6 (.shr C.stock) (.shr (.lst C.prs)) y9 y10 x11 x12 x13 x14 x15 x16 x17, w⟩ ∧ Cl y9 ∧ Cl y10 := by
  obtain ⟨st', e1, y9, y10, rfl, c9', c10'⟩ := sFor_ok (it := d1 (dVar 2) iterD) (tg := tTupT 2 (tCons (tName 9) (tCons (tName 10) tNil))) (body := p_k07_law_2_10_1) (ds := K.map kn07) (st := ⟨f07 x0 (.shr (.lst (K.map kn07))) x3 x4 x5 x6 (.shr C.stock) (.shr (.lst C.prs)) x9 x10 x11 x12 x13 x14 x15 x16 x17, w⟩) (st0 := ⟨f07 x0 (.shr (.lst (K.map kn07))) x3 x4 x5 x6 (.shr C.stock) (.shr (.lst C.prs)) x9 x10 x11 x12 x13 x14 x15 x16 x17, w⟩)
    (fun k st => ∃ y9 y10 : Slot, st = ⟨f07 x0 (.shr (.lst (K.map kn07))) x3 x4 x5 x6 (.shr C.stock) (.shr (.lst C.prs)) y9 y10 x11 x12 x13 x14 x15 x16 x17, w⟩ ∧ Cl y9 ∧ Cl y10) rfl ⟨_, _, rfl, c9, c10⟩ (by
      rintro k d st hk ⟨y9, y10, rfl, _, _⟩
      obtain ⟨h, hm, rfl⟩ := List.mem_map.mp (List.mem_of_getElem? hk)
      have A := hK h hm
      refine ⟨⟨f07 x0 (.shr (.lst (K.map kn07))) x3 x4 x5 x6 (.shr C.stock) (.shr (.lst C.prs)) (.shr h.stock) (.shr (.lst h.prs)) x11 x12 x13 x14 x15 x16 x17, w⟩, _, rfl, ?_, .shr h.stock, .shr (.lst h.prs), rfl, .shr (noLoc_stock h), .shr (noLoc_lst (noLoc_prs h))⟩
      unfold p_k07_law_2_10_1
      obtain ⟨S, hS⟩ : ∃ S, S = f07 x0 (.shr (.lst (K.map kn07))) x3 x4 x5 x6 (.shr C.stock) (.shr (.lst C.prs)) (.shr h.stock) (.shr (.lst h.prs)) x11 x12 x13 x14 x15 x16 x17 := ⟨_, rfl⟩
      have v7 : (dVar 7 : M Dt) ⟨S, w⟩ = .ok C.stock ⟨S, w⟩ := by rw [hS]; rfl
      have v8 : (dVar 8 : M Dt) ⟨S, w⟩ = .ok (.lst C.prs) ⟨S, w⟩ := by rw [hS]; rfl
      have v9 : (dVar 9 : M Dt) ⟨S, w⟩ = .ok h.stock ⟨S, w⟩ := by rw [hS]; rfl
      have v10 : (dVar 10 : M Dt) ⟨S, w⟩ = .ok (.lst h.prs) ⟨S, w⟩ := by rw [hS]; rfl
      rw [← hS, e_sIf, e_mOr, e_d1, e_mB2, e_mB2, v9, e_bind, v7, e_bind, eqv_stk A hC, e_bind, e_mB2, v10, e_bind, v8, e_bind, eq_prs A hC, e_bind, nev_bl, bne_self_eq_false, e_bind, e_toB, e_bind, if_neg Bool.false_ne_true, e_d1, e_mB2, e_mB2, v9, e_bind, v7, e_bind, nev_stk A hC, e_bind, e_mB2, v10, e_bind, v8, e_bind, ne_prsV A hC, e_bind, nev_bl, bne_self_eq_false, e_bind, e_toB, e_toS, if_neg Bool.false_ne_true]
      rfl)
  exact ⟨y9, y10, e1, c9', c10'⟩
theorem h07_11 (h : T.Ok n) (hn : n + 200 ≤ 2 ^ 40) : ∃ (x y z : Int) (T' : Tape), p_k07_law_2_11 ⟨f07 x0 x2 x3 x4 x5 x6 x7 x8 x9 x10 x11 x12 x13 x14 x15 x16 x17, T.d :: r⟩ = .nx ⟨f07 x0 x2 x3 x4 x5 x6 x7 x8 x9 x10 (.shr (.int x)) (.shr (.int y)) (.shr (.int z)) x14 x15 x16 x17, Tape.d T' :: r⟩ ∧ (0 ≤ x ∧ x ≤ 1000000000000000000) ∧ (0 ≤ y ∧ y ≤ 1000000000000000000) ∧ (0 ≤ z ∧ z ≤ 1000000000000000000) ∧ T'.Ok (n + 30) := by
  obtain ⟨ys, T1, e1, p1, ok1⟩ := lcD (v := 18) (s := .emp) (sl := f07 x0 x2 x3 x4 x5 x6 x7 x8 x9 x10 x11 x12 x13 x14 x15 x16 x17) (w0 := T.d :: r) (r := r) (c := 10) (ds := (List.range 3).map fun k => Dt.int (k : Nat)) (it := d1 (aCons (dC (.int 3)) aNil) rng1) (te := d1 (aCons (dVar 1) (aCons (mB2 (dC (.int 10)) (dC (.int 18)) powU) aNil)) (callM r_number)) (R := fun _ d => ∃ i : Int, d = .int i ∧ 0 ≤ i ∧ i ≤ 1000000000000000000) rfl rfl (rng1_ok (n := 3) (by decide)) (by decide) h (fun d _ T m ok hm => by
    have hm : m ≤ n + 10 * 3 := hm
    obtain ⟨v, T', e4, v0, v1, ok4⟩ := number_ok (r := r) ok (by omega) (m := 1000000000000000000) (by decide)
    refine ⟨.int v, T', ?_, ⟨v, rfl, v0, v1⟩, ok4⟩
    have v1 : (dVar 1 : M Dt) ⟨(f07 x0 x2 x3 x4 x5 x6 x7 x8 x9 x10 x11 x12 x13 x14 x15 x16 x17).set 18 (.shr d), T.d :: r⟩ = .ok (.loc 0) ⟨(f07 x0 x2 x3 x4 x5 x6 x7 x8 x9 x10 x11 x12 x13 x14 x15 x16 x17).set 18 (.shr d), T.d :: r⟩ := rfl
    rw [e_d1, e_aCons, v1, e_bind, e_aCons, e_mB2, e_dC, e_bind, e_dC, e_bind, p18, e_bind, e_aNil, e_bind, e_bind, e_bind]
    exact kc e4 _)
  obtain ⟨x, y, z, rfl, hx, hy, hz⟩ : ∃ x y z : Int, ys = [.int x, .int y, .int z] ∧ (0 ≤ x ∧ x ≤ 1000000000000000000) ∧ (0 ≤ y ∧ y ≤ 1000000000000000000) ∧ (0 ≤ z ∧ z ≤ 1000000000000000000) := by
    have p2 : Paired (fun _ d => ∃ i : Int, d = .int i ∧ 0 ≤ i ∧ i ≤ 1000000000000000000) [Dt.int (0 : Nat), .int (1 : Nat), .int (2 : Nat)] ys := p1
    cases p2 with
    | cons a t => cases t with
      | cons b t => cases t with
        | cons c t =>
          cases t
          obtain ⟨x, rfl, hx⟩ := a
          obtain ⟨y, rfl, hy⟩ := b
          obtain ⟨z, rfl, hz⟩ := c
          exact ⟨x, y, z, rfl, hx, hy, hz⟩
  refine ⟨x, y, z, T1, ?_, hx, hy, hz, ok1⟩
  unfold p_k07_law_2_11
  rw [e_sAsg, e1]
  rfl
abbrev q07_1 (x : Int) : Tb := [("a", x)]
abbrev q07_2 (x y : Int) : Tb := [("a", x), ("b", y)]
abbrev q07_3 (x y z : Int) : Tb := [("a", x), ("c", z), ("xyzwuvts", y)]
abbrev q07 (x y z : Int) : List Tb := [[], q07_1 x, q07_2 x y, q07_3 x y z]
theorem h07_12 : p_k07_law_2_12 ⟨f07 x0 x2 x3 x4 x5 x6 x7 x8 x9 x10 (.shr (.int x)) (.shr (.int y)) (.shr (.int z)) x14 x15 x16 x17, w⟩ = .nx ⟨f07 x0 x2 x3 x4 x5 x6 x7 x8 x9 x10 (.shr (.int x)) (.shr (.int y)) (.shr (.int z)) (.shr (.lst ((q07 x y z).map fun E => .dic E.d))) x15 x16 x17, w⟩ := by
  unfold p_k07_law_2_12
  rfl
theorem nm7_a : Nm8 "a" := ⟨[97], rfl, by decide, by decide, by decide, by decide⟩
theorem nm7_b : Nm8 "b" := ⟨[98], rfl, by decide, by decide, by decide, by decide⟩
theorem nm7_c : Nm8 "c" := ⟨[99], rfl, by decide, by decide, by decide, by decide⟩
theorem nm7_x : Nm8 "xyzwuvts" := ⟨[120, 121, 122, 119, 117, 118, 116, 115], rfl, by decide, by decide, by decide, by decide⟩
end
end
end B
end
section
set_option maxRecDepth 100000
set_option maxHeartbeats 1000000
namespace B
open PySem L2
noncomputable section
section
variable {x0 x2 x3 x4 x5 x6 x7 x8 x9 x10 x11 x12 x13 x14 x15 x16 x17 : Slot} {T : Tape} {n : Nat} {zs : List Str} {D E C : Tb} {w r : Wd} {sl : List Slot} {K : List Tb} {x y z : Int}
abbrev B18 (x : Int) : Prop := 0 ≤ x ∧ x ≤ 1000000000000000000
theorem tb1_ok (hx : B18 x) : TbOk (q07_1 x) := singleD_ok nm7_a hx.1 hx.2
theorem tb2_ok {a b : Str} {x y : Int} (ha : Nm8 a) (hb : Nm8 b) (ne : a ≠ b) (hx : B18 x) (hy : B18 y) : TbOk [(a, x), (b, y)] := by
  refine ⟨fun p hp => ?_, fun p hp => ?_, fun p hp => ?_, ?_, by show 2 < _; decide⟩
  · simp only [List.mem_cons, List.not_mem_nil, or_false] at hp
    rcases hp with rfl | rfl
    · exact ha
    · exact hb
  · simp only [List.mem_cons, List.not_mem_nil, or_false] at hp
    rcases hp with rfl | rfl
    · exact hx.1
    · exact hy.1
  · simp only [List.mem_cons, List.not_mem_nil, or_false] at hp
    rcases hp with rfl | rfl
    · exact hx.2
    · exact hy.2
  · show [a, b].Nodup
    simp [ne]
theorem tb3_ok {a b c : Str} {x y z : Int} (ha : Nm8 a) (hb : Nm8 b) (hc : Nm8 c) (n1 : a ≠ b) (n2 : a ≠ c) (n3 : b ≠ c) (hx : B18 x) (hy : B18 y) (hz : B18 z) : TbOk [(a, x), (b, y), (c, z)] := by
  refine ⟨fun p hp => ?_, fun p hp => ?_, fun p hp => ?_, ?_, by show 3 < _; decide⟩
  · simp only [List.mem_cons, List.not_mem_nil, or_false] at hp
    rcases hp with rfl | rfl | rfl
    · exact ha
    · exact hb
    · exact hc
  · simp only [List.mem_cons, List.not_mem_nil, or_false] at hp
    rcases hp with rfl | rfl | rfl
    · exact hx.1
    · exact hy.1
    · exact hz.1
  · simp only [List.mem_cons, List.not_mem_nil, or_false] at hp
    rcases hp with rfl | rfl | rfl
    · exact hx.2
    · exact hy.2
    · exact hz.2
  · show [a, b, c].Nodup
    simp [n1, n2, n3]
theorem tb0_ok : TbOk [] := ⟨fun _ hp => (nomatch hp), fun _ hp => (nomatch hp), fun _ hp => (nomatch hp), List.nodup_nil, by decide⟩
theorem held0 : Tb.held [] = [] := List.eq_nil_of_length_eq_zero (Nat.le_zero.mp (held_len []))
theorem nab : ("a" : Str) ≠ "b" := by decide +kernel
theorem nac : ("a" : Str) ≠ "c" := by decide +kernel
theorem nax : ("a" : Str) ≠ "xyzwuvts" := by decide +kernel
theorem ncx : ("c" : Str) ≠ "xyzwuvts" := by decide +kernel
theorem q07_ok (hx : B18 x) (hy : B18 y) (hz : B18 z) : ∀ E ∈ q07 x y z, TbOk E ∧ E.length ≤ 12 := fun E m => by
  simp only [q07, List.mem_cons, List.not_mem_nil, or_false] at m
  rcases m with rfl | rfl | rfl | rfl
  · exact ⟨tb0_ok, by decide⟩
  · exact ⟨tb1_ok hx, by show 1 ≤ 12; decide⟩
  · exact ⟨tb2_ok nm7_a nm7_b nab hx hy, by show 2 ≤ 12; decide⟩
  · exact ⟨tb3_ok nm7_a nm7_c nm7_x nac nax ncx hx hz hy, by show 3 ≤ 12; decide⟩
theorem mk7_ok {kvs : Tb} (h : TbOk kvs) (hc : clos w.length w = true) : initM "Stock" r_init [.dic kvs.d] ⟨sl, w⟩ = .ok kvs.held.stock ⟨sl, w⟩ := by
  unfold initM
  dsimp only
  rw [init_ok h]
  dsimp only
  rw [at_end rfl]
  show (if _ then _ else _ : Out Dt) = _
  rw [if_pos ⟨by rw [List.length_append]; rfl, by rw [clos_app, hc, clos, show clo w.length kvs.held.stock = true from noLoc_stock _ _]; rfl⟩]
  rw [List.take_left' rfl]
  rfl
theorem lby07 (hx : B18 x) (hy : B18 y) (hz : B18 z) (hc : clos w.length w = true) : r_lby07 [.int x, .int y, .int z] w = .ok (.lst ((q07 x y z).map fun E => E.held.stock)) w := by
  show (b_lby07 ⟨[.shr (.int x), .shr (.int y), .shr (.int z)], w⟩).toR = _
  have k1 : initKs "Stock" r_init ["a"] [.int x] ⟨[.shr (.int x), .shr (.int y), .shr (.int z)], w⟩ = .ok (Tb.held (q07_1 x)).stock ⟨[.shr (.int x), .shr (.int y), .shr (.int z)], w⟩ := mk7_ok (tb1_ok hx) hc
  have k2 : initKs "Stock" r_init ["b", "a"] [.int y, .int x] ⟨[.shr (.int x), .shr (.int y), .shr (.int z)], w⟩ = .ok (Tb.held (q07_2 x y)).stock ⟨[.shr (.int x), .shr (.int y), .shr (.int z)], w⟩ := by
    have h1 := tb2_ok nm7_b nm7_a nab.symm hy hx
    have h2 := tb2_ok nm7_a nm7_b nab hx hy
    have e := mk7_ok (sl := [.shr (.int x), .shr (.int y), .shr (.int z)]) h1 hc
    rw [held_perm h2 h1 (fun k => by show k ∈ [("b" : Str), "a"] ↔ k ∈ [("a" : Str), "b"]; simp only [List.mem_cons, List.not_mem_nil, or_false]; exact or_comm) (fun p hp => by
      simp only [List.mem_cons, List.not_mem_nil, or_false] at hp
      rcases hp with rfl | rfl
      · rw [Tb.get_cons, if_neg nab, Tb.get_cons, if_pos rfl]
      · rw [Tb.get_cons, if_pos rfl])] at e
    exact e
  have k3 : initKs "Stock" r_init ["c", "xyzwuvts", "a"] [.int z, .int y, .int x] ⟨[.shr (.int x), .shr (.int y), .shr (.int z)], w⟩ = .ok (Tb.held (q07_3 x y z)).stock ⟨[.shr (.int x), .shr (.int y), .shr (.int z)], w⟩ := by
    have h1 := tb3_ok nm7_c nm7_x nm7_a ncx nac.symm nax.symm hz hy hx
    have h2 := tb3_ok nm7_a nm7_c nm7_x nac nax ncx hx hz hy
    have e := mk7_ok (sl := [.shr (.int x), .shr (.int y), .shr (.int z)]) h1 hc
    rw [held_perm h2 h1 (fun k => by
      show k ∈ [("c" : Str), "xyzwuvts", "a"] ↔ k ∈ [("a" : Str), "c", "xyzwuvts"]
      simp only [List.mem_cons, List.not_mem_nil, or_false]
      constructor
      · rintro (q | q | q)
        · exact .inr (.inl q)
        · exact .inr (.inr q)
        · exact .inl q
      · rintro (q | q | q)
        · exact .inr (.inr q)
        · exact .inl q
        · exact .inr (.inl q)) (fun p hp => by
      simp only [List.mem_cons, List.not_mem_nil, or_false] at hp
      rcases hp with rfl | rfl | rfl
      · rw [Tb.get_cons, if_neg nac, Tb.get_cons, if_pos rfl]
      · rw [Tb.get_cons, if_neg nax, Tb.get_cons, if_neg ncx, Tb.get_cons, if_pos rfl]
      · rw [Tb.get_cons, if_pos rfl])] at e
    exact e
  have v0 : (dVar 0 : M Dt) ⟨[.shr (.int x), .shr (.int y), .shr (.int z)], w⟩ = .ok (.int x) ⟨[.shr (.int x), .shr (.int y), .shr (.int z)], w⟩ := rfl
  have v1 : (dVar 1 : M Dt) ⟨[.shr (.int x), .shr (.int y), .shr (.int z)], w⟩ = .ok (.int y) ⟨[.shr (.int x), .shr (.int y), .shr (.int z)], w⟩ := rfl
  have v2 : (dVar 2 : M Dt) ⟨[.shr (.int x), .shr (.int y), .shr (.int z)], w⟩ = .ok (.int z) ⟨[.shr (.int x), .shr (.int y), .shr (.int z)], w⟩ := rfl
  unfold b_lby07 p_lby07_1
  rw [e_sRet, e_aLst, e_aCons, e_d1, e_dC, e_bind, mk0_ok hc, e_bind, e_aCons, e_d1, e_aCons, v0, e_bind, e_aNil, e_bind, e_bind, k1, e_bind, e_aCons, e_d1, e_aCons, v1, e_bind, e_aCons, v0, e_bind, e_aNil, e_bind, e_bind, e_bind, k2, e_bind, e_aCons, e_d1, e_aCons, v2, e_bind, e_aCons, v1, e_bind, e_aCons, v0, e_bind, e_aNil, e_bind, e_bind, e_bind, e_bind, k3, e_bind, e_aNil, e_bind, e_bind, e_bind, e_bind, e_bind]
  have e : (q07 x y z).map (fun E => E.held.stock) = [Tb.stock [], (Tb.held (q07_1 x)).stock, (Tb.held (q07_2 x y)).stock, (Tb.held (q07_3 x y z)).stock] := by
    show [(Tb.held []).stock, _, _, _] = _
    rw [held0]
  rw [e]
  rfl
abbrev pr07 (E : Tb) : Dt := .tup [E.held.stock, .dic E.d]
theorem h07_13 (hx : B18 x) (hy : B18 y) (hz : B18 z) (hr : ∀ d ∈ r, NoLoc d) (c15 : Cl x15) (c16 : Cl x16) (hT : T.Ok n) (hn : n + 100 ≤ 2 ^ 40) :
    ∃ (y15 y16 : Slot) (T' : Tape), p_k07_law_2_13 ⟨f07 x0 x2 x3 x4 x5 x6 x7 x8 x9 x10 (.shr (.int x)) (.shr (.int y)) (.shr (.int z)) (.shr (.lst ((q07 x y z).map fun E => .dic E.d))) x15 x16 x17, T.d :: r⟩ = .nx ⟨f07 x0 x2 x3 x4 x5 x6 x7 x8 x9 x10 (.shr (.int x)) (.shr (.int y)) (.shr (.int z)) (.shr (.lst ((q07 x y z).map fun E => .dic E.d))) y15 y16 x17, Tape.d T' :: r⟩ ∧ Cl y15 ∧ Cl y16 ∧ T'.Ok (n + 8) := by
  have hc : ∀ T : Tape, clos (Tape.d T :: r).length (T.d :: r) = true := fun T => clos_of (fun e m => by
    rcases List.mem_cons.mp m with rfl | m
    · exact clo_tape T
    · exact hr e m) _
  have it : (d1 (aCons (d1 (aCons (dVar 11) (aCons (dVar 12) (aCons (dVar 13) aNil))) (callM r_lby07)) (aCons (dVar 14) aNil)) zipDA : M (List Dt)) ⟨f07 x0 x2 x3 x4 x5 x6 x7 x8 x9 x10 (.shr (.int x)) (.shr (.int y)) (.shr (.int z)) (.shr (.lst ((q07 x y z).map fun E => .dic E.d))) x15 x16 x17, T.d :: r⟩ = .ok ((q07 x y z).map pr07) ⟨f07 x0 x2 x3 x4 x5 x6 x7 x8 x9 x10 (.shr (.int x)) (.shr (.int y)) (.shr (.int z)) (.shr (.lst ((q07 x y z).map fun E => .dic E.d))) x15 x16 x17, T.d :: r⟩ := by
    have v : (aCons (dVar 11) (aCons (dVar 12) (aCons (dVar 13) aNil)) : M (List Dt)) ⟨f07 x0 x2 x3 x4 x5 x6 x7 x8 x9 x10 (.shr (.int x)) (.shr (.int y)) (.shr (.int z)) (.shr (.lst ((q07 x y z).map fun E => .dic E.d))) x15 x16 x17, T.d :: r⟩ = .ok [.int x, .int y, .int z] ⟨f07 x0 x2 x3 x4 x5 x6 x7 x8 x9 x10 (.shr (.int x)) (.shr (.int y)) (.shr (.int z)) (.shr (.lst ((q07 x y z).map fun E => .dic E.d))) x15 x16 x17, T.d :: r⟩ := rfl
    rw [e_d1, e_aCons, e_d1, v, e_bind, kc (lby07 hx hy hz (hc T)), e_bind]
    rfl
  obtain ⟨st', e1, y15, y16, T', rfl, c1, c2, ok⟩ := sFor_ok (tg := tTupT 2 (tCons (tName 15) (tCons (tName 16) tNil))) (body := p_k07_law_2_13_1) (ds := (q07 x y z).map pr07)
    (fun k st => ∃ (y15 y16 : Slot) (T' : Tape), st = ⟨f07 x0 x2 x3 x4 x5 x6 x7 x8 x9 x10 (.shr (.int x)) (.shr (.int y)) (.shr (.int z)) (.shr (.lst ((q07 x y z).map fun E => .dic E.d))) y15 y16 x17, T'.d :: r⟩ ∧ Cl y15 ∧ Cl y16 ∧ T'.Ok (n + 2 * k)) it ⟨_, _, T, rfl, c15, c16, hT⟩ (by
      rintro k d st hk ⟨y15, y16, T1, rfl, _, _, ok1⟩
      have k4 : k < 4 := (List.getElem?_eq_some_iff.mp hk).1
      obtain ⟨E, hm, rfl⟩ := List.mem_map.mp (List.mem_of_getElem? hk)
      obtain ⟨hE, hl⟩ := q07_ok hx hy hz E hm
      obtain ⟨T2, e2, ok2⟩ := itd07_ok (r := r) hE hl ok1 (by omega)
      obtain ⟨S, hS⟩ : ∃ S, S = f07 x0 x2 x3 x4 x5 x6 x7 x8 x9 x10 (.shr (.int x)) (.shr (.int y)) (.shr (.int z)) (.shr (.lst ((q07 x y z).map fun E => .dic E.d))) (.shr E.held.stock) (.shr (.dic E.d)) x17 := ⟨_, rfl⟩
      refine ⟨⟨S, T1.d :: r⟩, ⟨S, T2.d :: r⟩, by rw [hS]; rfl, ?_, .shr E.held.stock, .shr (.dic E.d), T2, by rw [hS], .shr (noLoc_stock _), .shr (noLoc_tb _), ok2.mono (by omega)⟩
      have v : ∀ T : Tape, (aCons (dVar 1) (aCons (dVar 15) (aCons (dVar 16) aNil)) : M (List Dt)) ⟨S, T.d :: r⟩ = .ok [.loc 0, E.held.stock, .dic E.d] ⟨S, T.d :: r⟩ := fun T => by rw [hS]; rfl
      have v15 : ∀ T : Tape, (dVar 15 : M Dt) ⟨S, T.d :: r⟩ = .ok E.held.stock ⟨S, T.d :: r⟩ := fun T => by rw [hS]; rfl
      have v16 : ∀ T : Tape, (aCons (dVar 16) aNil : M (List Dt)) ⟨S, T.d :: r⟩ = .ok [.dic E.d] ⟨S, T.d :: r⟩ := fun T => by rw [hS]; rfl
      have a : (d1 (d1 (aCons (dVar 1) (aCons (dVar 15) (aCons (dVar 16) aNil))) (callM r_itd07)) truN : M Bool) ⟨S, T1.d :: r⟩ = .ok true ⟨S, T2.d :: r⟩ := by
        rw [e_d1, e_d1, v, e_bind, kc e2, e_bind]
        rfl
      have A := held_cn hE
      unfold p_k07_law_2_13_1
      rw [e_sIf, e_mOr, e_mNot, a, e_bind, e_bind]
      show ((if (!true) = true then _ else _ : Out Bool)).toS _ = _
      rw [if_neg (by decide), e_d1, e_mB2, v15, e_bind, e_d1, v16, e_bind, kc (of07_ok hE (hc T2)), e_bind, nev_stk A A, decide_eq_true rfl, e_bind, e_toB, e_toS]
      rfl)
  exact ⟨y15, y16, T', e1, c1, c2, ok⟩
theorem h07_14 (N : Nm07 zs) (hD : TbOk D) (kD : D.ks = zs) (hr : ∀ d ∈ w, NoLoc d) (c17 : Cl x17) (s17 : shrOf (some x17) = x17) :
    ∃ (y17 : Slot), (sFor [] (d1 (dVar 4) iterD) (tName 17) p_k07_law_2_14_1) ⟨f07 x0 x2 x3 (nmS zs) (.shr (.dic D.d)) x6 x7 x8 x9 x10 x11 x12 x13 x14 x15 x16 x17, w⟩ = .nx ⟨f07 x0 x2 x3 (nmS zs) (.shr (.dic D.d)) x6 x7 x8 x9 x10 x11 x12 x13 x14 x15 x16 y17, w⟩ ∧ Cl y17 ∧ shrOf (some y17) = y17 := by
  have hc : clos w.length w = true := clos_of hr _
  obtain ⟨st', e1, y17, rfl, c1, s1⟩ := sFor_ok (it := d1 (dVar 4) iterD) (tg := tName 17) (body := p_k07_law_2_14_1) (ds := zs.map Dt.str) (st := ⟨f07 x0 x2 x3 (nmS zs) (.shr (.dic D.d)) x6 x7 x8 x9 x10 x11 x12 x13 x14 x15 x16 x17, w⟩) (st0 := ⟨f07 x0 x2 x3 (nmS zs) (.shr (.dic D.d)) x6 x7 x8 x9 x10 x11 x12 x13 x14 x15 x16 x17, w⟩)
    (fun k st => ∃ (y17 : Slot), st = ⟨f07 x0 x2 x3 (nmS zs) (.shr (.dic D.d)) x6 x7 x8 x9 x10 x11 x12 x13 x14 x15 x16 y17, w⟩ ∧ Cl y17 ∧ shrOf (some y17) = y17) rfl ⟨_, rfl, c17, s17⟩ (by
      rintro k d st hk ⟨y17, rfl, _, _⟩
      obtain ⟨k, hm, rfl⟩ := List.mem_map.mp (List.mem_of_getElem? hk)
      have nk := N.ok k hm
      have kk : k ∈ D.ks := by rw [kD]; exact hm
      have v0 : 0 ≤ D.get k := Tb.get_val (P := fun v => 0 ≤ v) (by decide) hD.v0
      have v1 : D.get k ≤ 1000000000000000000 := Tb.get_val (P := fun v => v ≤ 1000000000000000000) (by decide) hD.v1
      have hE := singleD_ok nk v0 v1
      have h1 := singleD_ok nk (v := 1) (by decide) (by decide)
      have A := held_cn hE
      obtain ⟨S, hS⟩ : ∃ S, S = f07 x0 x2 x3 (nmS zs) (.shr (.dic D.d)) x6 x7 x8 x9 x10 x11 x12 x13 x14 x15 x16 (.shr (.str k)) := ⟨_, rfl⟩
      refine ⟨⟨S, w⟩, ⟨S, w⟩, by rw [hS]; rfl, ?_, .shr (.str k), by rw [hS], .shr (noLoc_str k), rfl⟩
      have v17 : (dVar 17 : M Dt) ⟨S, w⟩ = .ok (.str k) ⟨S, w⟩ := by rw [hS]; rfl
      have v5 : (dVar 5 : M Dt) ⟨S, w⟩ = .ok (.dic D.d) ⟨S, w⟩ := by rw [hS]; rfl
      have g : (mB2 (dVar 5) (dVar 17) (getU owGet07) : M Dt) ⟨S, w⟩ = .ok (.int (D.get k)) ⟨S, w⟩ := by
        rw [e_mB2, v5, e_bind, v17, e_bind, getU07D kk]
      have a1 : (d1 (aCons (dVar 17) (aCons (mB2 (dVar 5) (dVar 17) (getU owGet07)) aNil)) (callM r_single) : M Dt) ⟨S, w⟩ = .ok (Tb.held [(k, D.get k)]).stock ⟨S, w⟩ := by
        rw [e_d1, e_aCons, v17, e_bind, e_aCons, g, e_bind, e_aNil, e_bind, e_bind, e_bind]
        exact kc (single_ok nk v0 v1 hc) _
      have dd : (mDic (prCons (dVar 17) (mB2 (dVar 5) (dVar 17) (getU owGet07)) prNil) : M Dt) ⟨S, w⟩ = .ok (.dic (Tb.d [(k, D.get k)])) ⟨S, w⟩ := by
        rw [e_mDic (ps := [(.str k, .int (D.get k))]) (s1 := ⟨S, w⟩) (by rw [e_prCons, v17, e_bind, g, e_bind]; rfl)]
        rfl
      have a2 : (d1 (aCons (mDic (prCons (dVar 17) (mB2 (dVar 5) (dVar 17) (getU owGet07)) prNil)) aNil) fun ds => callM r_of07 (.cls "Stock" :: ds) : M Dt) ⟨S, w⟩ = .ok (Tb.held [(k, D.get k)]).stock ⟨S, w⟩ := by
        rw [e_d1, e_aCons, dd, e_bind, e_aNil, e_bind, e_bind]
        exact kc (of07_ok hE hc) _
      have a3 : (d1 (aCons (dVar 17) aNil) (callM (dflt r_single [.int 1])) : M Dt) ⟨S, w⟩ = .ok (singleT k 1).stock ⟨S, w⟩ := by
        rw [e_d1, e_aCons, v17, e_bind, e_aNil, e_bind, e_bind]
        exact kc (m := dflt r_single [.int 1]) (ds := [.str k]) (show r_single [.str k, .int 1] w = _ from single_ok nk (by decide) (by decide) hc) _
      have g1 : getB07 (singleT k 1) (.str k) = 1 := by
        show (Tb.held [(k, 1)]).get k = 1
        rw [held_getA h1, Tb.get_cons, if_pos rfl]
      unfold p_k07_law_2_14_1
      rw [e_sIf, e_mOr, e_d1, e_mB2, a1, e_bind, a2, e_bind, nev_stk A A, decide_eq_true rfl, e_bind, e_toB, e_bind]
      show ((if (!true) = true then _ else _ : Out Bool)).toS _ = _
      rw [if_neg (by decide), e_d1, e_mB2, e_mB2, a3, e_bind, v17, e_bind, getU07 (.inl ⟨k, rfl⟩), e_bind, g1, e_dC, e_bind, neV_int, e_bind, e_toB, e_toS, if_neg Bool.false_ne_true]
      rfl)
  exact ⟨y17, e1, c1, s1⟩
theorem e_sCut7 {is : List Nat} {f : MS} {sl sl1 : List Slot} {w w1 w2 : Wd} (h : f ⟨sl, w⟩ = .nx ⟨sl1, w1⟩) (hl : w.length ≤ w1.length) (hw : w1.take w.length = w2) (hc : clos w.length w2 = true) (hs : (forgetW is sl1).all (sloC w.length) = true) : sCut is f ⟨sl, w⟩ = .nx ⟨forgetW is sl1, w2⟩ := by
  unfold sCut
  rw [h]
  show (match cutW w.length is ⟨sl1, w1⟩ with | some st2 => SOut.nx st2 | none => SOut.stuck) = _
  unfold cutW
  rw [if_pos ⟨hl, by rw [hw]; exact hc, hs⟩]
  dsimp only
  rw [hw]
abbrev Cs07 (x0 x2 x3 x4 x5 x6 x7 x8 x9 x10 x11 x12 x13 x14 x15 x16 x17 : Slot) : Prop := AllCl (f07 x0 x2 x3 x4 x5 x6 x7 x8 x9 x10 x11 x12 x13 x14 x15 x16 x17)
abbrev knS (K : List Tb) : Slot := .shr (.lst (K.map kn07))
theorem noLoc_kn (K : List Tb) : NoLoc (.lst (K.map kn07)) := noLoc_lst fun d m => by
  obtain ⟨h, _, rfl⟩ := List.mem_map.mp m
  exact noLoc_tup fun e m => by
    simp only [List.mem_cons, List.not_mem_nil, or_false] at m
    rcases m with rfl | rfl
    · exact noLoc_stock h
    · exact noLoc_lst (noLoc_prs h)
theorem turn07 (C : Cs07 x0 (knS K) x3 x4 x5 .emp x7 x8 x9 x10 x11 x12 x13 x14 x15 x16 x17) (s17 : shrOf (some x17) = x17) (hK : ∀ h ∈ K, Cn h) (kl : K.length ≤ 50) (h : T.Ok n) (hn : n + 3000 ≤ 2 ^ 40) :
    ∃ (K' : List Tb) (y4 y5 y7 y8 y9 y10 y11 y12 y13 y14 y15 y16 y17 : Slot) (T' : Tape), sCut [6] p_k07_law_2_b ⟨f07 x0 (knS K) x3 x4 x5 .emp x7 x8 x9 x10 x11 x12 x13 x14 x15 x16 x17, [T.d]⟩ = .nx ⟨f07 x0 (knS K') x3 y4 y5 .emp y7 y8 y9 y10 y11 y12 y13 y14 y15 y16 y17, [Tape.d T']⟩ ∧
      Cs07 x0 (knS K') x3 y4 y5 .emp y7 y8 y9 y10 y11 y12 y13 y14 y15 y16 y17 ∧ shrOf (some y17) = y17 ∧ (∀ h ∈ K', Cn h) ∧ K'.length = K.length + 1 ∧ T'.Ok (n + 1000) := by
  obtain ⟨zs, T1, e1, N, ok1⟩ := h07_1 (x0 := x0) (x2 := knS K) (x3 := x3) (x4 := x4) (x5 := x5) (x6 := .emp) (x7 := x7) (x8 := x8) (x9 := x9) (x10 := x10) (x11 := x11) (x12 := x12) (x13 := x13) (x14 := x14) (x15 := x15) (x16 := x16) (x17 := x17) h (by omega)
  obtain ⟨D, T2, e2, kD, hD, ok2⟩ := h07_2 (x0 := x0) (x2 := knS K) (x3 := x3) (x5 := x5) (x6 := .emp) (x7 := x7) (x8 := x8) (x9 := x9) (x10 := x10) (x11 := x11) (x12 := x12) (x13 := x13) (x14 := x14) (x15 := x15) (x16 := x16) N s17 ok1 (by omega)
  obtain ⟨E, T3, e3, hE, hh, ok3⟩ := h07_3 (x0 := x0) (x2 := knS K) (x3 := x3) (x6 := .emp) (x7 := x7) (x8 := x8) (x9 := x9) (x10 := x10) (x11 := x11) (x12 := x12) (x13 := x13) (x14 := x14) (x15 := x15) (x16 := x16) N hD kD s17 ok2 (by omega)
  have A := held_cn hD
  have hl : D.length ≤ 12 := by rw [← ks_len, kD]; exact N.ln
  have e4 := h07_4 (x0 := x0) (x2 := knS K) (x3 := x3) (x4 := nmS zs) (x5 := .shr (.dic D.d)) (x7 := x7) (x8 := x8) (x9 := x9) (x10 := x10) (x11 := x11) (x12 := x12) (x13 := x13) (x14 := x14) (x15 := x15) (x16 := x16) (x17 := x17) (T := T3) hE hh
  have e5 := h07_5 (x0 := x0) (x2 := knS K) (x3 := x3) (x4 := nmS zs) (x5 := .shr (.dic D.d)) (x7 := .shr D.held.stock) (x8 := x8) (x9 := x9) (x10 := x10) (x11 := x11) (x12 := x12) (x13 := x13) (x14 := x14) (x15 := x15) (x16 := x16) (x17 := x17) (T := T3) (E := E)
  obtain ⟨T4, e6, ok4⟩ := h07_6 (x0 := x0) (x2 := knS K) (x3 := x3) (x4 := nmS zs) (x6 := .shr (.loc 1)) (x8 := x8) (x9 := x9) (x10 := x10) (x11 := x11) (x12 := x12) (x13 := x13) (x14 := x14) (x15 := x15) (x16 := x16) (x17 := x17) (r := [.dic []]) hD hl ok3 (by omega)
  obtain ⟨T5, e7, ok5⟩ := h07_7 (x0 := x0) (x2 := knS K) (x3 := x3) (x4 := nmS zs) (x6 := .shr (.loc 1)) (x8 := x8) (x9 := x9) (x10 := x10) (x11 := x11) (x12 := x12) (x13 := x13) (x14 := x14) (x15 := x15) (x16 := x16) (x17 := x17) (C := D.held) (r := [.dic []]) hD ok4 (by omega)
  have e8 := h07_8 (x0 := x0) (x2 := knS K) (x3 := x3) (x6 := .shr (.loc 1)) (x7 := .shr D.held.stock) (x8 := x8) (x9 := x9) (x10 := x10) (x11 := x11) (x12 := x12) (x13 := x13) (x14 := x14) (x15 := x15) (x16 := x16) (w := [T5.d, .dic []]) N kD s17
  have e9 := h07_9 (x0 := x0) (x3 := x3) (x4 := nmS zs) (x5 := .shr (.dic D.d)) (x6 := .shr (.loc 1)) (x9 := x9) (x10 := x10) (x11 := x11) (x12 := x12) (x13 := x13) (x14 := x14) (x15 := x15) (x16 := x16) (x17 := x17) (w := [T5.d, .dic []]) (C := D.held) (K := K) (by omega)
  have hK2 : ∀ h ∈ K ++ [D.held], Cn h := fun h m => by
    rcases List.mem_append.mp m with q | q
    · exact hK h q
    · rw [List.mem_singleton.mp q]; exact A
  obtain ⟨y9, y10, e10, c9, c10⟩ := h07_10 (x0 := x0) (x3 := x3) (x4 := nmS zs) (x5 := .shr (.dic D.d)) (x6 := .shr (.loc 1)) (x9 := x9) (x10 := x10) (x11 := x11) (x12 := x12) (x13 := x13) (x14 := x14) (x15 := x15) (x16 := x16) (x17 := x17) (w := [T5.d, .dic []]) (C := D.held) (K := K ++ [D.held]) A hK2 (C x9 (by simp [f07])) (C x10 (by simp [f07]))
  obtain ⟨x, y, z, T6, e11, hx, hy, hz, ok6⟩ := h07_11 (x0 := x0) (x2 := knS (K ++ [D.held])) (x3 := x3) (x4 := nmS zs) (x5 := .shr (.dic D.d)) (x6 := .shr (.loc 1)) (x7 := .shr D.held.stock) (x8 := .shr (.lst D.held.prs)) (x9 := y9) (x10 := y10) (x11 := x11) (x12 := x12) (x13 := x13) (x14 := x14) (x15 := x15) (x16 := x16) (x17 := x17) (r := [.dic []]) ok5 (by omega)
  have e12 := h07_12 (x0 := x0) (x2 := knS (K ++ [D.held])) (x3 := x3) (x4 := nmS zs) (x5 := .shr (.dic D.d)) (x6 := .shr (.loc 1)) (x7 := .shr D.held.stock) (x8 := .shr (.lst D.held.prs)) (x9 := y9) (x10 := y10) (x14 := x14) (x15 := x15) (x16 := x16) (x17 := x17) (w := [T6.d, .dic []]) (x := x) (y := y) (z := z)
  obtain ⟨y15, y16, T7, e13, c15, c16, ok7⟩ := h07_13 (x0 := x0) (x2 := knS (K ++ [D.held])) (x3 := x3) (x4 := nmS zs) (x5 := .shr (.dic D.d)) (x6 := .shr (.loc 1)) (x7 := .shr D.held.stock) (x8 := .shr (.lst D.held.prs)) (x9 := y9) (x10 := y10) (x15 := x15) (x16 := x16) (x17 := x17) (r := [.dic []]) hx hy hz (fun d m => by rw [List.mem_singleton.mp m]; exact noLoc_tb []) (C x15 (by simp [f07])) (C x16 (by simp [f07])) ok6 (by omega)
  have hw7 : ∀ e ∈ [T7.d, Dt.dic []], NoLoc e := fun e m => by
    rcases List.mem_cons.mp m with rfl | m
    · exact clo_tape T7
    · rw [List.mem_singleton.mp m]; exact noLoc_tb []
  obtain ⟨y17, e14, c17, s17'⟩ := h07_14 (x0 := x0) (x2 := knS (K ++ [D.held])) (x3 := x3) (x6 := .shr (.loc 1)) (x7 := .shr D.held.stock) (x8 := .shr (.lst D.held.prs)) (x9 := y9) (x10 := y10) (x11 := .shr (.int x)) (x12 := .shr (.int y)) (x13 := .shr (.int z)) (x14 := .shr (.lst ((q07 x y z).map fun E => .dic E.d))) (x15 := y15) (x16 := y16) (w := [T7.d, .dic []]) N hD kD hw7 (C x17 (by simp [f07])) s17
  have ndq : NoLoc (.lst ((q07 x y z).map fun E => Dt.dic E.d)) := noLoc_lst fun d m => by
    obtain ⟨E, _, rfl⟩ := List.mem_map.mp m
    exact noLoc_tb E
  have C' : Cs07 x0 (knS (K ++ [D.held])) x3 (nmS zs) (.shr (.dic D.d)) .emp (.shr D.held.stock) (.shr (.lst D.held.prs)) y9 y10 (.shr (.int x)) (.shr (.int y)) (.shr (.int z)) (.shr (.lst ((q07 x y z).map fun E => .dic E.d))) y15 y16 y17 :=
    (((((((((((((C.set (i := 2) (.shr (noLoc_kn _))).set (i := 4) (.shr (noLoc_lst (noLoc_strs zs)))).set (i := 5) (.shr (noLoc_tb D))).set (i := 7) (.shr (noLoc_stock _))).set (i := 8) (.shr (noLoc_lst (noLoc_prs _)))).set (i := 9) c9).set (i := 10) c10).set (i := 11) (.shr (noLoc_int x))).set (i := 12) (.shr (noLoc_int y))).set (i := 13) (.shr (noLoc_int z))).set (i := 14) (.shr ndq)).set (i := 15) c15).set (i := 16) c16).set (i := 17) c17
  have cut := C'.all (m := 1) (by decide)
  obtain ⟨S, hS⟩ : ∃ S, S = f07 x0 (knS (K ++ [D.held])) x3 (nmS zs) (.shr (.dic D.d)) (.shr (.loc 1)) (.shr D.held.stock) (.shr (.lst D.held.prs)) y9 y10 (.shr (.int x)) (.shr (.int y)) (.shr (.int z)) (.shr (.lst ((q07 x y z).map fun E => .dic E.d))) y15 y16 y17 := ⟨_, rfl⟩
  have eF : forgetW [6] S = f07 x0 (knS (K ++ [D.held])) x3 (nmS zs) (.shr (.dic D.d)) .emp (.shr D.held.stock) (.shr (.lst D.held.prs)) y9 y10 (.shr (.int x)) (.shr (.int y)) (.shr (.int z)) (.shr (.lst ((q07 x y z).map fun E => .dic E.d))) y15 y16 y17 := by rw [hS]; rfl
  have eb : p_k07_law_2_b ⟨f07 x0 (knS K) x3 x4 x5 .emp x7 x8 x9 x10 x11 x12 x13 x14 x15 x16 x17, [T.d]⟩ = .nx ⟨S, [T7.d, .dic []]⟩ := by
    unfold p_k07_law_2_b
    rw [e_sSeq, e1, e_sbind, e_sSeq, e2, e_sbind, e_sSeq, e3, e_sbind, e_sSeq, e4, e_sbind, e_sSeq, e5, e_sbind, e_sSeq, e6, e_sbind, e_sSeq, e7, e_sbind, e_sSeq, e8, e_sbind, e_sSeq, e9, e_sbind, e_sSeq, e10, e_sbind, e_sSeq, e11, e_sbind, e_sSeq, e12, e_sbind, e_sSeq, e13, e_sbind, hS]
    exact e14
  have ec := e_sCut7 (is := [6]) (w := [T.d]) (w1 := [T7.d, .dic []]) (w2 := [T7.d]) eb (by show 1 ≤ 2; decide) rfl (clos_tape T7) (by rw [eF]; exact cut)
  rw [eF] at ec
  exact ⟨K ++ [D.held], _, _, _, _, _, _, _, _, _, _, _, _, _, T7, ec, C', s17', hK2, by rw [List.length_append]; rfl, ok7.mono (by omega)⟩
theorem k07_all (ns : List Int) (h : ns.length ≤ 63) : ∃ w, r_k07_law [.set (ns.map Dt.int)] [] = .ok (.bl true) w := by
  obtain ⟨T, e0, ok0⟩ := begin_ok h
  have cS : Cl (.shr (.set (ns.map Dt.int))) := .shr (noLoc_set (noLoc_ints ns))
  have C0 : Cs07 (.shr (.set (ns.map Dt.int))) (knS []) .emp .emp .emp .emp .emp .emp .emp .emp .emp .emp .emp .emp .emp .emp .emp := fun s m => by
    simp only [f07, List.mem_cons, List.not_mem_nil, or_false] at m
    rcases m with rfl | rfl | rfl | rfl | rfl | rfl | rfl | rfl | rfl | rfl | rfl | rfl | rfl | rfl | rfl | rfl | rfl | rfl | rfl
    all_goals first | exact .emp | exact cS | exact .tape | exact .shr (noLoc_kn [])
  obtain ⟨st', e1, K', y3, y4, y5, y7, y8, y9, y10, y11, y12, y13, y14, y15, y16, y17, T', rfl, _⟩ := sFor_ok (tg := tName 3) (body := sCut [6] p_k07_law_2_b) (it := (d1 (aCons (dC (.int 6)) aNil) rng1)) (ds := (List.range 6).map fun k => Dt.int (k : Nat)) (st := ⟨f07 (.shr (.set (ns.map Dt.int))) (knS []) .emp .emp .emp .emp .emp .emp .emp .emp .emp .emp .emp .emp .emp .emp .emp, [T.d]⟩) (st0 := ⟨f07 (.shr (.set (ns.map Dt.int))) (knS []) .emp .emp .emp .emp .emp .emp .emp .emp .emp .emp .emp .emp .emp .emp .emp, [T.d]⟩)
    (fun k st => ∃ (K' : List Tb) (y3 y4 y5 y7 y8 y9 y10 y11 y12 y13 y14 y15 y16 y17 : Slot) (T' : Tape), st = ⟨f07 (.shr (.set (ns.map Dt.int))) (knS K') y3 y4 y5 .emp y7 y8 y9 y10 y11 y12 y13 y14 y15 y16 y17, [T'.d]⟩ ∧ Cs07 (.shr (.set (ns.map Dt.int))) (knS K') y3 y4 y5 .emp y7 y8 y9 y10 y11 y12 y13 y14 y15 y16 y17 ∧ shrOf (some y17) = y17 ∧ (∀ h ∈ K', Cn h) ∧ K'.length = k ∧ T'.Ok (1000 * k)) (rng1_ok (n := 6) (by decide)) ⟨[], _, _, _, _, _, _, _, _, _, _, _, _, _, _, T, rfl, C0, rfl, (fun h m => by cases m), rfl, ok0⟩ (by
      rintro k d st hk ⟨K', y3, y4, y5, y7, y8, y9, y10, y11, y12, y13, y14, y15, y16, y17, T', rfl, C, s17, hK, kl, ok⟩
      have hk8 : k < 6 := by
        have := (List.getElem?_eq_some_iff.mp hk).1
        rw [List.length_map, List.length_range] at this; exact this
      obtain rfl : d = .int (k : Nat) := by
        rw [List.getElem?_map, List.getElem?_range hk8] at hk
        cases hk
        rfl
      obtain ⟨K2, z4, z5, z7, z8, z9, z10, z11, z12, z13, z14, z15, z16, z17, T1, e1, C1, s1, hK1, kl1, ok1⟩ := turn07 (x0 := .shr (.set (ns.map Dt.int))) (x3 := .shr (.int (k : Nat))) (x4 := y4) (x5 := y5) (x7 := y7) (x8 := y8) (x9 := y9) (x10 := y10) (x11 := y11) (x12 := y12) (x13 := y13) (x14 := y14) (x15 := y15) (x16 := y16) (x17 := y17) (AllCl.set (i := 3) C (.shr (noLoc_int _))) s17 hK (by omega) ok (by omega)
      exact ⟨_, _, rfl, e1, K2, _, _, _, _, _, _, _, _, _, _, _, _, _, _, T1, rfl, C1, s1, hK1, by omega, ok1.mono (by omega)⟩)
  refine ⟨[T'.d], ?_⟩
  show (b_k07_law ⟨[.shr (.set (ns.map Dt.int)), .emp, .emp, .emp, .emp, .emp, .emp, .emp, .emp, .emp, .emp, .emp, .emp, .emp, .emp, .emp, .emp, .emp, .emp], []⟩).toR = _
  have s1 : p_k07_law_1 ⟨[.shr (.set (ns.map Dt.int)), .emp, .emp, .emp, .emp, .emp, .emp, .emp, .emp, .emp, .emp, .emp, .emp, .emp, .emp, .emp, .emp, .emp, .emp], []⟩ = .nx ⟨f07 (.shr (.set (ns.map Dt.int))) (knS []) .emp .emp .emp .emp .emp .emp .emp .emp .emp .emp .emp .emp .emp .emp .emp, [T.d]⟩ := by
    unfold p_k07_law_1
    simp only [e_d1, e_bind, e_mB2, e_dC, e_dVar, e_aNil, e_aCons, e_aTup, e_aLst, e_mkTup, e_mkLst, e_optS, e_toB, e_mAnd, e_mOr, e_mNot, e_mIf, e_toS, e_sbind, e_sbindR, e_sSeq, e_sNext, e_sIf, e_sSet, e_sOwn, e_sRet, e_sExpr, e_sAsg, e_tName, e_tTup, e_tNil, e_tCons, e_tSub, e_toR, e_toRn, u_lt, u_le, u_gt, u_ge, u_add, u_sub, u_lenL, u_lenT, g_intI, List.getElem?_cons_zero, List.getElem?_cons_succ, List.set_cons_zero, List.set_cons_succ, List.length_cons, List.length_nil, List.map_cons, List.map_nil, List.replicate, List.cons_append, List.nil_append, Option.bind_some, Nat.zero_add, Nat.reduceAdd, Nat.reduceSub, Nat.reduceLeDiff]
    rw [kc e0]
    simp only [e_d1, e_bind, e_mB2, e_dC, e_dVar, e_aNil, e_aCons, e_aTup, e_aLst, e_mkTup, e_mkLst, e_optS, e_toB, e_mAnd, e_mOr, e_mNot, e_mIf, e_toS, e_sbind, e_sbindR, e_sSeq, e_sNext, e_sIf, e_sSet, e_sOwn, e_sRet, e_sExpr, e_sAsg, e_tName, e_tTup, e_tNil, e_tCons, e_tSub, e_toR, e_toRn, u_lt, u_le, u_gt, u_ge, u_add, u_sub, u_lenL, u_lenT, g_intI, List.getElem?_cons_zero, List.getElem?_cons_succ, List.set_cons_zero, List.set_cons_succ, List.length_cons, List.length_nil, List.map_cons, List.map_nil, List.replicate, List.cons_append, List.nil_append, Option.bind_some, Nat.zero_add, Nat.reduceAdd, Nat.reduceSub, Nat.reduceLeDiff]
    rfl
  unfold b_k07_law
  rw [e_sSeq, s1, e_sbind, e_sSeq]
  unfold p_k07_law_2
  rw [e1, e_sbind]
  rfl
end
end
end B
end
section
set_option maxRecDepth 100000
set_option maxHeartbeats 4000000
namespace K07
open PySem L2 B
theorem t_isT07 : isT = B.isT07 := rfl
theorem t_at_held : at_held = B.at_held := rfl
theorem t_at_order : at_order = B.at_order := rfl
theorem t_ckMost07 : ck_MOST = B.ckMost07 := rfl
theorem e_begin : r__law_begin = B.r_begin := rfl
theorem e_draw : r__law_draw = B.r_draw := rfl
theorem e_pick : r__law_pick = B.r_pick := rfl
theorem e_names : r__law_names = B.r_names := rfl
theorem e_number : r__law_number = B.r_number := rfl
theorem e_shuffled : r__law_shuffled = B.r_shuffled := rfl
theorem e_con07 : r_Stock___contains__ = B.r_con07 := by
  unfold r_Stock___contains__ B.r_con07 b_Stock___contains__ B.b_con07 p_Stock___contains___1 B.p_con07_1
  first | (simp only [t_isT07, t_at_held, t_at_order, t_ckMost07, e_begin, e_draw, e_pick, e_names, e_number, e_shuffled]; done) | (simp only [t_isT07, t_at_held, t_at_order, t_ckMost07, e_begin, e_draw, e_pick, e_names, e_number, e_shuffled]; rfl) | rfl
theorem t_owCon07 : ow_contains = B.owCon07 := by
  unfold ow_contains B.owCon07
  first | (simp only [t_isT07, t_at_held, t_at_order, t_ckMost07, e_begin, e_draw, e_pick, e_names, e_number, e_shuffled, e_con07]; done) | (simp only [t_isT07, t_at_held, t_at_order, t_ckMost07, e_begin, e_draw, e_pick, e_names, e_number, e_shuffled, e_con07]; rfl) | rfl
theorem e_get07 : r_Stock___getitem__ = B.r_get07 := by
  unfold r_Stock___getitem__ B.r_get07 b_Stock___getitem__ B.b_get07 p_Stock___getitem___1 B.p_get07_1
  first | (simp only [t_isT07, t_at_held, t_at_order, t_ckMost07, e_begin, e_draw, e_pick, e_names, e_number, e_shuffled, e_con07, t_owCon07]; done) | (simp only [t_isT07, t_at_held, t_at_order, t_ckMost07, e_begin, e_draw, e_pick, e_names, e_number, e_shuffled, e_con07, t_owCon07]; rfl) | rfl
theorem t_owGet07 : ow_getitem = B.owGet07 := by
  unfold ow_getitem B.owGet07
  first | (simp only [t_isT07, t_at_held, t_at_order, t_ckMost07, e_begin, e_draw, e_pick, e_names, e_number, e_shuffled, e_con07, t_owCon07, e_get07]; done) | (simp only [t_isT07, t_at_held, t_at_order, t_ckMost07, e_begin, e_draw, e_pick, e_names, e_number, e_shuffled, e_con07, t_owCon07, e_get07]; rfl) | rfl
theorem e_is_integer : r_is_integer = B.r_is_integer := rfl
theorem e_is_between : r_is_between = B.r_is_between := rfl
theorem e_is_amount : r_is_amount = B.r_is_amount := rfl
theorem e_is_name : r_is_name = B.r_is_name := rfl
theorem e_init : r_Stock___init__ = B.r_init := rfl
theorem t_mkT : mkT = B.mkT := by
  unfold mkT B.mkT
  first | (simp only [t_isT07, t_at_held, t_at_order, t_ckMost07, e_begin, e_draw, e_pick, e_names, e_number, e_shuffled, e_con07, t_owCon07, e_get07, t_owGet07, e_is_integer, e_is_between, e_is_amount, e_is_name, e_init]; done) | (simp only [t_isT07, t_at_held, t_at_order, t_ckMost07, e_begin, e_draw, e_pick, e_names, e_number, e_shuffled, e_con07, t_owCon07, e_get07, t_owGet07, e_is_integer, e_is_between, e_is_amount, e_is_name, e_init]; rfl) | rfl
theorem e_of07 : r_Stock_of = B.r_of07 := by
  unfold r_Stock_of B.r_of07 b_Stock_of B.b_of07 p_Stock_of_3 p_Stock_of_2 p_Stock_of_1 B.p_of07_3 B.p_of07_2 B.p_of07_1
  first | (simp only [t_isT07, t_at_held, t_at_order, t_ckMost07, e_begin, e_draw, e_pick, e_names, e_number, e_shuffled, e_con07, t_owCon07, e_get07, t_owGet07, e_is_integer, e_is_between, e_is_amount, e_is_name, e_init, t_mkT]; done) | (simp only [t_isT07, t_at_held, t_at_order, t_ckMost07, e_begin, e_draw, e_pick, e_names, e_number, e_shuffled, e_con07, t_owCon07, e_get07, t_owGet07, e_is_integer, e_is_between, e_is_amount, e_is_name, e_init, t_mkT]; rfl) | rfl
theorem e_eq07 : r_Stock___eq__ = B.r_eq07 := by
  unfold r_Stock___eq__ B.r_eq07 b_Stock___eq__ B.b_eq07 p_Stock___eq___1 B.p_eq07_1
  first | (simp only [t_isT07, t_at_held, t_at_order, t_ckMost07, e_begin, e_draw, e_pick, e_names, e_number, e_shuffled, e_con07, t_owCon07, e_get07, t_owGet07, e_is_integer, e_is_between, e_is_amount, e_is_name, e_init, t_mkT, e_of07]; done) | (simp only [t_isT07, t_at_held, t_at_order, t_ckMost07, e_begin, e_draw, e_pick, e_names, e_number, e_shuffled, e_con07, t_owCon07, e_get07, t_owGet07, e_is_integer, e_is_between, e_is_amount, e_is_name, e_init, t_mkT, e_of07]; rfl) | rfl
theorem t_owEq07 : ow_eq = B.owEq07 := by
  unfold ow_eq B.owEq07
  first | (simp only [t_isT07, t_at_held, t_at_order, t_ckMost07, e_begin, e_draw, e_pick, e_names, e_number, e_shuffled, e_con07, t_owCon07, e_get07, t_owGet07, e_is_integer, e_is_between, e_is_amount, e_is_name, e_init, t_mkT, e_of07, e_eq07]; done) | (simp only [t_isT07, t_at_held, t_at_order, t_ckMost07, e_begin, e_draw, e_pick, e_names, e_number, e_shuffled, e_con07, t_owCon07, e_get07, t_owGet07, e_is_integer, e_is_between, e_is_amount, e_is_name, e_init, t_mkT, e_of07, e_eq07]; rfl) | rfl
theorem e_kinds : r_Stock_kinds = B.r_kinds := rfl
theorem t_at_kinds : at_kinds = B.at_kinds := by
  unfold at_kinds B.at_kinds
  first | (simp only [t_isT07, t_at_held, t_at_order, t_ckMost07, e_begin, e_draw, e_pick, e_names, e_number, e_shuffled, e_con07, t_owCon07, e_get07, t_owGet07, e_is_integer, e_is_between, e_is_amount, e_is_name, e_init, t_mkT, e_of07, e_eq07, t_owEq07, e_kinds]; done) | (simp only [t_isT07, t_at_held, t_at_order, t_ckMost07, e_begin, e_draw, e_pick, e_names, e_number, e_shuffled, e_con07, t_owCon07, e_get07, t_owGet07, e_is_integer, e_is_between, e_is_amount, e_is_name, e_init, t_mkT, e_of07, e_eq07, t_owEq07, e_kinds]; rfl) | rfl
theorem e_entries : r_Stock_entries = B.r_entries := rfl
theorem t_at_entries : at_entries = B.at_entries := by
  unfold at_entries B.at_entries
  first | (simp only [t_isT07, t_at_held, t_at_order, t_ckMost07, e_begin, e_draw, e_pick, e_names, e_number, e_shuffled, e_con07, t_owCon07, e_get07, t_owGet07, e_is_integer, e_is_between, e_is_amount, e_is_name, e_init, t_mkT, e_of07, e_eq07, t_owEq07, e_kinds, t_at_kinds, e_entries]; done) | (simp only [t_isT07, t_at_held, t_at_order, t_ckMost07, e_begin, e_draw, e_pick, e_names, e_number, e_shuffled, e_con07, t_owCon07, e_get07, t_owGet07, e_is_integer, e_is_between, e_is_amount, e_is_name, e_init, t_mkT, e_of07, e_eq07, t_owEq07, e_kinds, t_at_kinds, e_entries]; rfl) | rfl
theorem e_total : r_Stock_total = B.r_total := rfl
theorem t_at_total : at_total = B.at_total := by
  unfold at_total B.at_total
  first | (simp only [t_isT07, t_at_held, t_at_order, t_ckMost07, e_begin, e_draw, e_pick, e_names, e_number, e_shuffled, e_con07, t_owCon07, e_get07, t_owGet07, e_is_integer, e_is_between, e_is_amount, e_is_name, e_init, t_mkT, e_of07, e_eq07, t_owEq07, e_kinds, t_at_kinds, e_entries, t_at_entries, e_total]; done) | (simp only [t_isT07, t_at_held, t_at_order, t_ckMost07, e_begin, e_draw, e_pick, e_names, e_number, e_shuffled, e_con07, t_owCon07, e_get07, t_owGet07, e_is_integer, e_is_between, e_is_amount, e_is_name, e_init, t_mkT, e_of07, e_eq07, t_owEq07, e_kinds, t_at_kinds, e_entries, t_at_entries, e_total]; rfl) | rfl
theorem e_slen17 : r_Stock___len__ = B.r_slen17 := by
  unfold r_Stock___len__ B.r_slen17 b_Stock___len__ B.b_slen17 p_Stock___len___1 B.p_slen17_1
  first | (simp only [t_isT07, t_at_held, t_at_order, t_ckMost07, e_begin, e_draw, e_pick, e_names, e_number, e_shuffled, e_con07, t_owCon07, e_get07, t_owGet07, e_is_integer, e_is_between, e_is_amount, e_is_name, e_init, t_mkT, e_of07, e_eq07, t_owEq07, e_kinds, t_at_kinds, e_entries, t_at_entries, e_total, t_at_total]; done) | (simp only [t_isT07, t_at_held, t_at_order, t_ckMost07, e_begin, e_draw, e_pick, e_names, e_number, e_shuffled, e_con07, t_owCon07, e_get07, t_owGet07, e_is_integer, e_is_between, e_is_amount, e_is_name, e_init, t_mkT, e_of07, e_eq07, t_owEq07, e_kinds, t_at_kinds, e_entries, t_at_entries, e_total, t_at_total]; rfl) | rfl
theorem t_owLen07 : ow_len = B.owLen07 := by
  unfold ow_len B.owLen07
  first | (simp only [t_isT07, t_at_held, t_at_order, t_ckMost07, e_begin, e_draw, e_pick, e_names, e_number, e_shuffled, e_con07, t_owCon07, e_get07, t_owGet07, e_is_integer, e_is_between, e_is_amount, e_is_name, e_init, t_mkT, e_of07, e_eq07, t_owEq07, e_kinds, t_at_kinds, e_entries, t_at_entries, e_total, t_at_total, e_slen17]; done) | (simp only [t_isT07, t_at_held, t_at_order, t_ckMost07, e_begin, e_draw, e_pick, e_names, e_number, e_shuffled, e_con07, t_owCon07, e_get07, t_owGet07, e_is_integer, e_is_between, e_is_amount, e_is_name, e_init, t_mkT, e_of07, e_eq07, t_owEq07, e_kinds, t_at_kinds, e_entries, t_at_entries, e_total, t_at_total, e_slen17]; rfl) | rfl
theorem e_boolS : r_Stock___bool__ = B.r_boolS := by
  unfold r_Stock___bool__ B.r_boolS b_Stock___bool__ B.b_boolS p_Stock___bool___1 
  first | (simp only [t_isT07, t_at_held, t_at_order, t_ckMost07, e_begin, e_draw, e_pick, e_names, e_number, e_shuffled, e_con07, t_owCon07, e_get07, t_owGet07, e_is_integer, e_is_between, e_is_amount, e_is_name, e_init, t_mkT, e_of07, e_eq07, t_owEq07, e_kinds, t_at_kinds, e_entries, t_at_entries, e_total, t_at_total, e_slen17, t_owLen07]; done) | (simp only [t_isT07, t_at_held, t_at_order, t_ckMost07, e_begin, e_draw, e_pick, e_names, e_number, e_shuffled, e_con07, t_owCon07, e_get07, t_owGet07, e_is_integer, e_is_between, e_is_amount, e_is_name, e_init, t_mkT, e_of07, e_eq07, t_owEq07, e_kinds, t_at_kinds, e_entries, t_at_entries, e_total, t_at_total, e_slen17, t_owLen07]; rfl) | rfl
theorem t_ow_bool : ow_bool = B.ow_bool := by
  unfold ow_bool B.ow_bool
  first | (simp only [t_isT07, t_at_held, t_at_order, t_ckMost07, e_begin, e_draw, e_pick, e_names, e_number, e_shuffled, e_con07, t_owCon07, e_get07, t_owGet07, e_is_integer, e_is_between, e_is_amount, e_is_name, e_init, t_mkT, e_of07, e_eq07, t_owEq07, e_kinds, t_at_kinds, e_entries, t_at_entries, e_total, t_at_total, e_slen17, t_owLen07, e_boolS]; done) | (simp only [t_isT07, t_at_held, t_at_order, t_ckMost07, e_begin, e_draw, e_pick, e_names, e_number, e_shuffled, e_con07, t_owCon07, e_get07, t_owGet07, e_is_integer, e_is_between, e_is_amount, e_is_name, e_init, t_mkT, e_of07, e_eq07, t_owEq07, e_kinds, t_at_kinds, e_entries, t_at_entries, e_total, t_at_total, e_slen17, t_owLen07, e_boolS]; rfl) | rfl
theorem e_odd : r__law_odd = B.r_odd := rfl
theorem e_itd07 : r__law_is_told = B.r_itd07 := by
  unfold r__law_is_told B.r_itd07 b__law_is_told B.b_itd07 p__law_is_told_4 p__law_is_told_4_2 p__law_is_told_4_1 p__law_is_told_3 p__law_is_told_2 p__law_is_told_1 B.p_itd07_4 B.p_itd07_4_2 B.p_itd07_4_1 B.p_itd07_3 B.p_itd07_2 B.p_itd07_1
  first | (simp only [t_isT07, t_at_held, t_at_order, t_ckMost07, e_begin, e_draw, e_pick, e_names, e_number, e_shuffled, e_con07, t_owCon07, e_get07, t_owGet07, e_is_integer, e_is_between, e_is_amount, e_is_name, e_init, t_mkT, e_of07, e_eq07, t_owEq07, e_kinds, t_at_kinds, e_entries, t_at_entries, e_total, t_at_total, e_slen17, t_owLen07, e_boolS, t_ow_bool, e_odd]; done) | (simp only [t_isT07, t_at_held, t_at_order, t_ckMost07, e_begin, e_draw, e_pick, e_names, e_number, e_shuffled, e_con07, t_owCon07, e_get07, t_owGet07, e_is_integer, e_is_between, e_is_amount, e_is_name, e_init, t_mkT, e_of07, e_eq07, t_owEq07, e_kinds, t_at_kinds, e_entries, t_at_entries, e_total, t_at_total, e_slen17, t_owLen07, e_boolS, t_ow_bool, e_odd]; rfl) | rfl
theorem e_lby07 : r__law_by_names = B.r_lby07 := by
  unfold r__law_by_names B.r_lby07 b__law_by_names B.b_lby07 p__law_by_names_1 B.p_lby07_1
  first | (simp only [t_isT07, t_at_held, t_at_order, t_ckMost07, e_begin, e_draw, e_pick, e_names, e_number, e_shuffled, e_con07, t_owCon07, e_get07, t_owGet07, e_is_integer, e_is_between, e_is_amount, e_is_name, e_init, t_mkT, e_of07, e_eq07, t_owEq07, e_kinds, t_at_kinds, e_entries, t_at_entries, e_total, t_at_total, e_slen17, t_owLen07, e_boolS, t_ow_bool, e_odd, e_itd07]; done) | (simp only [t_isT07, t_at_held, t_at_order, t_ckMost07, e_begin, e_draw, e_pick, e_names, e_number, e_shuffled, e_con07, t_owCon07, e_get07, t_owGet07, e_is_integer, e_is_between, e_is_amount, e_is_name, e_init, t_mkT, e_of07, e_eq07, t_owEq07, e_kinds, t_at_kinds, e_entries, t_at_entries, e_total, t_at_total, e_slen17, t_owLen07, e_boolS, t_ow_bool, e_odd, e_itd07]; rfl) | rfl
theorem e_single : r_Stock_single = B.r_single := by
  unfold r_Stock_single B.r_single b_Stock_single B.b_single p_Stock_single_4 p_Stock_single_2 p_Stock_single_1 
  first | (simp only [t_isT07, t_at_held, t_at_order, t_ckMost07, e_begin, e_draw, e_pick, e_names, e_number, e_shuffled, e_con07, t_owCon07, e_get07, t_owGet07, e_is_integer, e_is_between, e_is_amount, e_is_name, e_init, t_mkT, e_of07, e_eq07, t_owEq07, e_kinds, t_at_kinds, e_entries, t_at_entries, e_total, t_at_total, e_slen17, t_owLen07, e_boolS, t_ow_bool, e_odd, e_itd07, e_lby07]; done) | (simp only [t_isT07, t_at_held, t_at_order, t_ckMost07, e_begin, e_draw, e_pick, e_names, e_number, e_shuffled, e_con07, t_owCon07, e_get07, t_owGet07, e_is_integer, e_is_between, e_is_amount, e_is_name, e_init, t_mkT, e_of07, e_eq07, t_owEq07, e_kinds, t_at_kinds, e_entries, t_at_entries, e_total, t_at_total, e_slen17, t_owLen07, e_boolS, t_ow_bool, e_odd, e_itd07, e_lby07]; rfl) | rfl
theorem law_eq : b_law = B.b_k07_law := by
  unfold b_law B.b_k07_law p_law_2 p_law_2_b p_law_2_14_1 p_law_2_13 p_law_2_13_1 p_law_2_12 p_law_2_11 p_law_2_10 p_law_2_10_1 p_law_2_9 p_law_2_8 p_law_2_7 p_law_2_6 p_law_2_4 p_law_2_3 p_law_2_2 p_law_2_1 p_law_1 B.p_k07_law_2 B.p_k07_law_2_b B.p_k07_law_2_14_1 B.p_k07_law_2_13 B.p_k07_law_2_13_1 B.p_k07_law_2_12 B.p_k07_law_2_11 B.p_k07_law_2_10 B.p_k07_law_2_10_1 B.p_k07_law_2_9 B.p_k07_law_2_8 B.p_k07_law_2_7 B.p_k07_law_2_6 B.p_k07_law_2_4 B.p_k07_law_2_3 B.p_k07_law_2_2 B.p_k07_law_2_1 B.p_k07_law_1
  first | (simp only [t_isT07, t_at_held, t_at_order, t_ckMost07, e_begin, e_draw, e_pick, e_names, e_number, e_shuffled, e_con07, t_owCon07, e_get07, t_owGet07, e_is_integer, e_is_between, e_is_amount, e_is_name, e_init, t_mkT, e_of07, e_eq07, t_owEq07, e_kinds, t_at_kinds, e_entries, t_at_entries, e_total, t_at_total, e_slen17, t_owLen07, e_boolS, t_ow_bool, e_odd, e_itd07, e_lby07, e_single]; done) | (simp only [t_isT07, t_at_held, t_at_order, t_ckMost07, e_begin, e_draw, e_pick, e_names, e_number, e_shuffled, e_con07, t_owCon07, e_get07, t_owGet07, e_is_integer, e_is_between, e_is_amount, e_is_name, e_init, t_mkT, e_of07, e_eq07, t_owEq07, e_kinds, t_at_kinds, e_entries, t_at_entries, e_total, t_at_total, e_slen17, t_owLen07, e_boolS, t_ow_bool, e_odd, e_itd07, e_lby07, e_single]; rfl) | rfl
end K07
end
section
set_option maxRecDepth 100000
set_option maxHeartbeats 4000000
namespace K07
open PySem L2 B
theorem pure (ns : List Int) (h : ns.length ≤ 63) : ∃ w, r_law [.set (ns.map Dt.int)] [] = .ok (.bl true) w := by
  unfold r_law
  rw [law_eq]
  exact B.k07_all ns h
end K07
end
set_option maxRecDepth 100000
set_option maxHeartbeats 4000000
namespace K07
open PySem L2 ClX B
open PyProof.Rows
theorem all_mk {l : PySem.W.OpenLaw} {w : World} {K : PySem.W.Frag} {h : Heap} {mg : Str → Option Value} {fa : Addr} (pure : ∀ ns : List Int, ns.length ≤ 63 → ∃ w, r_law [.set (ns.map Dt.int)] [] = .ok (.bl true) w) (X : K.In h) (G : h.Ns mainGlobals mg) (hfa : mg "law" = some (.ref fa))
    {a_Stock : Addr} {a__law_begin : Addr} {a__law_draw : Addr} {a__law_pick : Addr} {a__law_names : Addr} {a__law_number : Addr} {a__law_shuffled : Addr} {a_Stock___contains__ : Addr} {a_Stock___getitem__ : Addr} {a_is_integer : Addr} {a_is_between : Addr} {a_is_amount : Addr} {a_is_name : Addr} {a_Stock___init__ : Addr} {a_Stock_of : Addr} {a_Stock___eq__ : Addr} {a_Stock_kinds : Addr} {a_Stock_entries : Addr} {a_Stock_total : Addr} {a_Stock___len__ : Addr} {a_Stock___bool__ : Addr} {a__law_odd : Addr} {a__law_is_told : Addr} {a__law_by_names : Addr} {a_Stock_single : Addr} {fb : Addr}
        {oc__law_begin kV__law_begin dc__law_begin pm__law_begin cd__law_begin ct__law_begin : Value} {od__law_begin an__law_begin : Option Addr} {sl__law_begin : Array (Option Value)}
    {oc__law_draw kV__law_draw dc__law_draw pm__law_draw cd__law_draw ct__law_draw : Value} {od__law_draw an__law_draw : Option Addr} {sl__law_draw : Array (Option Value)}
    {oc__law_pick kV__law_pick dc__law_pick pm__law_pick cd__law_pick ct__law_pick : Value} {od__law_pick an__law_pick : Option Addr} {sl__law_pick : Array (Option Value)}
    {oc__law_names kV__law_names dc__law_names pm__law_names cd__law_names ct__law_names : Value} {od__law_names an__law_names : Option Addr} {sl__law_names : Array (Option Value)}
    {oc__law_number kV__law_number dc__law_number pm__law_number cd__law_number ct__law_number : Value} {od__law_number an__law_number : Option Addr} {sl__law_number : Array (Option Value)}
    {oc__law_shuffled kV__law_shuffled dc__law_shuffled pm__law_shuffled cd__law_shuffled ct__law_shuffled : Value} {od__law_shuffled an__law_shuffled : Option Addr} {sl__law_shuffled : Array (Option Value)}
    {oc_Stock___contains__ kV_Stock___contains__ dc_Stock___contains__ pm_Stock___contains__ cd_Stock___contains__ ct_Stock___contains__ : Value} {od_Stock___contains__ an_Stock___contains__ : Option Addr} {sl_Stock___contains__ : Array (Option Value)}
    {oc_Stock___getitem__ kV_Stock___getitem__ dc_Stock___getitem__ pm_Stock___getitem__ cd_Stock___getitem__ ct_Stock___getitem__ : Value} {od_Stock___getitem__ an_Stock___getitem__ : Option Addr} {sl_Stock___getitem__ : Array (Option Value)}
    {oc_is_integer kV_is_integer dc_is_integer pm_is_integer cd_is_integer ct_is_integer : Value} {od_is_integer an_is_integer : Option Addr} {sl_is_integer : Array (Option Value)}
    {oc_is_between kV_is_between dc_is_between pm_is_between cd_is_between ct_is_between : Value} {od_is_between an_is_between : Option Addr} {sl_is_between : Array (Option Value)}
    {oc_is_amount kV_is_amount dc_is_amount pm_is_amount cd_is_amount ct_is_amount : Value} {od_is_amount an_is_amount : Option Addr} {sl_is_amount : Array (Option Value)}
    {oc_is_name kV_is_name dc_is_name pm_is_name cd_is_name ct_is_name : Value} {od_is_name an_is_name : Option Addr} {sl_is_name : Array (Option Value)}
    {oc_Stock___init__ kV_Stock___init__ dc_Stock___init__ pm_Stock___init__ cd_Stock___init__ ct_Stock___init__ : Value} {od_Stock___init__ an_Stock___init__ : Option Addr} {sl_Stock___init__ : Array (Option Value)}
    {pc_Stock_of : Addr} {rs_Stock_of : List Value}
    {oc_Stock_of kV_Stock_of dc_Stock_of pm_Stock_of cd_Stock_of ct_Stock_of : Value} {od_Stock_of an_Stock_of : Option Addr} {sl_Stock_of : Array (Option Value)}
    {oc_Stock___eq__ kV_Stock___eq__ dc_Stock___eq__ pm_Stock___eq__ cd_Stock___eq__ ct_Stock___eq__ : Value} {od_Stock___eq__ an_Stock___eq__ : Option Addr} {sl_Stock___eq__ : Array (Option Value)}
    {pp_Stock_kinds : Addr} {rs_Stock_kinds : List Value}
    {oc_Stock_kinds kV_Stock_kinds dc_Stock_kinds pm_Stock_kinds cd_Stock_kinds ct_Stock_kinds : Value} {od_Stock_kinds an_Stock_kinds : Option Addr} {sl_Stock_kinds : Array (Option Value)}
    {pp_Stock_entries : Addr} {rs_Stock_entries : List Value}
    {oc_Stock_entries kV_Stock_entries dc_Stock_entries pm_Stock_entries cd_Stock_entries ct_Stock_entries : Value} {od_Stock_entries an_Stock_entries : Option Addr} {sl_Stock_entries : Array (Option Value)}
    {pp_Stock_total : Addr} {rs_Stock_total : List Value}
    {oc_Stock_total kV_Stock_total dc_Stock_total pm_Stock_total cd_Stock_total ct_Stock_total : Value} {od_Stock_total an_Stock_total : Option Addr} {sl_Stock_total : Array (Option Value)}
    {oc_Stock___len__ kV_Stock___len__ dc_Stock___len__ pm_Stock___len__ cd_Stock___len__ ct_Stock___len__ : Value} {od_Stock___len__ an_Stock___len__ : Option Addr} {sl_Stock___len__ : Array (Option Value)}
    {oc_Stock___bool__ kV_Stock___bool__ dc_Stock___bool__ pm_Stock___bool__ cd_Stock___bool__ ct_Stock___bool__ : Value} {od_Stock___bool__ an_Stock___bool__ : Option Addr} {sl_Stock___bool__ : Array (Option Value)}
    {oc__law_odd kV__law_odd dc__law_odd pm__law_odd cd__law_odd ct__law_odd : Value} {od__law_odd an__law_odd : Option Addr} {sl__law_odd : Array (Option Value)}
    {oc__law_is_told kV__law_is_told dc__law_is_told pm__law_is_told cd__law_is_told ct__law_is_told : Value} {od__law_is_told an__law_is_told : Option Addr} {sl__law_is_told : Array (Option Value)}
    {oc__law_by_names kV__law_by_names dc__law_by_names pm__law_by_names cd__law_by_names ct__law_by_names : Value} {od__law_by_names an__law_by_names : Option Addr} {sl__law_by_names : Array (Option Value)}
    {pc_Stock_single : Addr} {rs_Stock_single : List Value}
    {oc_Stock_single kV_Stock_single dc_Stock_single pm_Stock_single cd_Stock_single ct_Stock_single : Value} {od_Stock_single an_Stock_single : Option Addr} {sl_Stock_single : Array (Option Value)}
    {td_Stock_single : Addr} {tdo_Stock_single : Option Addr} {tdn_Stock_single : Nat} {tds_Stock_single : Array (Option Value)} {tdt_Stock_single_0 : Tok}
    {oc_law kV_law dc_law pm_law cd_law ct_law : Value} {od_law an_law : Option Addr} {sl_law : Array (Option Value)}
    {tv_Stock_MOST : Tok}
    {tk_LETTERS : Tok}
    {tk_MOST_BARRELS : Tok}
    {tk_MOST_LETTERS : Tok}
    {ta_RESERVED : Addr} {tn_RESERVED : Nat} {to_RESERVED : Option Addr} {ts_RESERVED : Array (Option Value)} {tk_RESERVED_0 : Tok} {tk_RESERVED_1 : Tok} {tk_RESERVED_2 : Tok}
    (x1 : PySem.W.nsIn K mainGlobals "Stock" = some (some (.ref a_Stock)))
    (x2 : PySem.W.plainGet K a_Stock Str.empty = true)
    (x3 : PySem.W.hasDictIn K a_Stock = true)
    (x4 : PySem.W.plainOver K a_Stock = true)
    (x5 : PySem.W.findIn K (.ref a_Stock) "__setattr__" = some (some (.builtin "object.__setattr__")))
    (x6 : PySem.W.keepIn K (.ref a_Stock) = true)
    (x7 : PySem.W.readsIn K a_Stock (.type "type") = true)
    (x8 : PySem.W.specialIn K (.ref a_Stock) "__getattribute__" = some (some (.builtin "type.__getattribute__")))
    (x9 : PySem.W.selfFirst K a_Stock = true)
    (x10 : PySem.W.nsIn K mainGlobals "_law_begin" = some (some (.ref a__law_begin)))
    (x11 : K.lookup a__law_begin = some ⟨oc__law_begin, od__law_begin, .func (PySem.W.fnOf "_law_begin" "_law_begin" (defArgs s__law_begin) (defBody s__law_begin) (defScope s__law_begin) .none kV__law_begin dc__law_begin pm__law_begin an__law_begin cd__law_begin ct__law_begin), sl__law_begin⟩)
    (x12 : PySem.W.codeIn K cd__law_begin "_law_begin" = true)
    (x13 : PySem.W.keepIn K (.ref a__law_begin) = true)
    (x14 : PySem.W.nsIn K mainGlobals "_law_draw" = some (some (.ref a__law_draw)))
    (x15 : K.lookup a__law_draw = some ⟨oc__law_draw, od__law_draw, .func (PySem.W.fnOf "_law_draw" "_law_draw" (defArgs s__law_draw) (defBody s__law_draw) (defScope s__law_draw) .none kV__law_draw dc__law_draw pm__law_draw an__law_draw cd__law_draw ct__law_draw), sl__law_draw⟩)
    (x16 : PySem.W.codeIn K cd__law_draw "_law_draw" = true)
    (x17 : PySem.W.keepIn K (.ref a__law_draw) = true)
    (x18 : PySem.W.nsIn K mainGlobals "_law_pick" = some (some (.ref a__law_pick)))
    (x19 : K.lookup a__law_pick = some ⟨oc__law_pick, od__law_pick, .func (PySem.W.fnOf "_law_pick" "_law_pick" (defArgs s__law_pick) (defBody s__law_pick) (defScope s__law_pick) .none kV__law_pick dc__law_pick pm__law_pick an__law_pick cd__law_pick ct__law_pick), sl__law_pick⟩)
    (x20 : PySem.W.codeIn K cd__law_pick "_law_pick" = true)
    (x21 : PySem.W.keepIn K (.ref a__law_pick) = true)
    (x22 : PySem.W.nsIn K mainGlobals "_law_names" = some (some (.ref a__law_names)))
    (x23 : K.lookup a__law_names = some ⟨oc__law_names, od__law_names, .func (PySem.W.fnOf "_law_names" "_law_names" (defArgs s__law_names) (defBody s__law_names) (defScope s__law_names) .none kV__law_names dc__law_names pm__law_names an__law_names cd__law_names ct__law_names), sl__law_names⟩)
    (x24 : PySem.W.codeIn K cd__law_names "_law_names" = true)
    (x25 : PySem.W.keepIn K (.ref a__law_names) = true)
    (x26 : PySem.W.nsIn K mainGlobals "_law_number" = some (some (.ref a__law_number)))
    (x27 : K.lookup a__law_number = some ⟨oc__law_number, od__law_number, .func (PySem.W.fnOf "_law_number" "_law_number" (defArgs s__law_number) (defBody s__law_number) (defScope s__law_number) .none kV__law_number dc__law_number pm__law_number an__law_number cd__law_number ct__law_number), sl__law_number⟩)
    (x28 : PySem.W.codeIn K cd__law_number "_law_number" = true)
    (x29 : PySem.W.keepIn K (.ref a__law_number) = true)
    (x30 : PySem.W.nsIn K mainGlobals "_law_shuffled" = some (some (.ref a__law_shuffled)))
    (x31 : K.lookup a__law_shuffled = some ⟨oc__law_shuffled, od__law_shuffled, .func (PySem.W.fnOf "_law_shuffled" "_law_shuffled" (defArgs s__law_shuffled) (defBody s__law_shuffled) (defScope s__law_shuffled) .none kV__law_shuffled dc__law_shuffled pm__law_shuffled an__law_shuffled cd__law_shuffled ct__law_shuffled), sl__law_shuffled⟩)
    (x32 : PySem.W.codeIn K cd__law_shuffled "_law_shuffled" = true)
    (x33 : PySem.W.keepIn K (.ref a__law_shuffled) = true)
    (x34 : PySem.W.findIn K (.ref a_Stock) "__contains__" = some (some (.ref a_Stock___contains__)))
    (x35 : PySem.W.isFn K (.ref a_Stock___contains__) = true)
    (x36 : PySem.W.fnIn K a_Stock___contains__ = true)
    (x37 : K.lookup a_Stock___contains__ = some ⟨oc_Stock___contains__, od_Stock___contains__, .func (PySem.W.fnOf "__contains__" "Stock.__contains__" (defArgs s_Stock___contains__) (defBody s_Stock___contains__) (defScope s_Stock___contains__) .none kV_Stock___contains__ dc_Stock___contains__ pm_Stock___contains__ an_Stock___contains__ cd_Stock___contains__ ct_Stock___contains__), sl_Stock___contains__⟩)
    (x38 : PySem.W.codeIn K cd_Stock___contains__ "Stock.__contains__" = true)
    (x39 : PySem.W.keepIn K (.ref a_Stock___contains__) = true)
    (x40 : PySem.W.findIn K (.ref a_Stock) "__getitem__" = some (some (.ref a_Stock___getitem__)))
    (x41 : PySem.W.isFn K (.ref a_Stock___getitem__) = true)
    (x42 : PySem.W.fnIn K a_Stock___getitem__ = true)
    (x43 : K.lookup a_Stock___getitem__ = some ⟨oc_Stock___getitem__, od_Stock___getitem__, .func (PySem.W.fnOf "__getitem__" "Stock.__getitem__" (defArgs s_Stock___getitem__) (defBody s_Stock___getitem__) (defScope s_Stock___getitem__) .none kV_Stock___getitem__ dc_Stock___getitem__ pm_Stock___getitem__ an_Stock___getitem__ cd_Stock___getitem__ ct_Stock___getitem__), sl_Stock___getitem__⟩)
    (x44 : PySem.W.codeIn K cd_Stock___getitem__ "Stock.__getitem__" = true)
    (x45 : PySem.W.keepIn K (.ref a_Stock___getitem__) = true)
    (x46 : PySem.W.nsIn K mainGlobals "is_integer" = some (some (.ref a_is_integer)))
    (x47 : K.lookup a_is_integer = some ⟨oc_is_integer, od_is_integer, .func (PySem.W.fnOf "is_integer" "is_integer" (defArgs s_is_integer) (defBody s_is_integer) (defScope s_is_integer) .none kV_is_integer dc_is_integer pm_is_integer an_is_integer cd_is_integer ct_is_integer), sl_is_integer⟩)
    (x48 : PySem.W.codeIn K cd_is_integer "is_integer" = true)
    (x49 : PySem.W.keepIn K (.ref a_is_integer) = true)
    (x50 : PySem.W.nsIn K mainGlobals "is_between" = some (some (.ref a_is_between)))
    (x51 : K.lookup a_is_between = some ⟨oc_is_between, od_is_between, .func (PySem.W.fnOf "is_between" "is_between" (defArgs s_is_between) (defBody s_is_between) (defScope s_is_between) .none kV_is_between dc_is_between pm_is_between an_is_between cd_is_between ct_is_between), sl_is_between⟩)
    (x52 : PySem.W.codeIn K cd_is_between "is_between" = true)
    (x53 : PySem.W.keepIn K (.ref a_is_between) = true)
    (x54 : PySem.W.nsIn K mainGlobals "is_amount" = some (some (.ref a_is_amount)))
    (x55 : K.lookup a_is_amount = some ⟨oc_is_amount, od_is_amount, .func (PySem.W.fnOf "is_amount" "is_amount" (defArgs s_is_amount) (defBody s_is_amount) (defScope s_is_amount) .none kV_is_amount dc_is_amount pm_is_amount an_is_amount cd_is_amount ct_is_amount), sl_is_amount⟩)
    (x56 : PySem.W.codeIn K cd_is_amount "is_amount" = true)
    (x57 : PySem.W.keepIn K (.ref a_is_amount) = true)
    (x58 : PySem.W.nsIn K mainGlobals "is_name" = some (some (.ref a_is_name)))
    (x59 : K.lookup a_is_name = some ⟨oc_is_name, od_is_name, .func (PySem.W.fnOf "is_name" "is_name" (defArgs s_is_name) (defBody s_is_name) (defScope s_is_name) .none kV_is_name dc_is_name pm_is_name an_is_name cd_is_name ct_is_name), sl_is_name⟩)
    (x60 : PySem.W.codeIn K cd_is_name "is_name" = true)
    (x61 : PySem.W.keepIn K (.ref a_is_name) = true)
    (x62 : PySem.W.findIn K (.ref a_Stock) "__init__" = some (some (.ref a_Stock___init__)))
    (x63 : PySem.W.isFn K (.ref a_Stock___init__) = true)
    (x64 : PySem.W.makesIn K a_Stock = true)
    (x65 : K.lookup a_Stock___init__ = some ⟨oc_Stock___init__, od_Stock___init__, .func (PySem.W.fnOf "__init__" "Stock.__init__" (defArgs s_Stock___init__) (defBody s_Stock___init__) (defScope s_Stock___init__) .none kV_Stock___init__ dc_Stock___init__ pm_Stock___init__ an_Stock___init__ cd_Stock___init__ ct_Stock___init__), sl_Stock___init__⟩)
    (x66 : PySem.W.codeIn K cd_Stock___init__ "Stock.__init__" = true)
    (x67 : PySem.W.findCls K (.ref a_Stock) (.type "type") "of" = some (.get (.builtin "classmethod.__get__") (.ref pc_Stock_of) .none (.ref a_Stock)))
    (x68 : PySem.W.recIn K pc_Stock_of "classmethod" = some (.ref a_Stock_of :: rs_Stock_of))
    (x69 : PySem.W.fnIn K a_Stock_of = true)
    (x70 : K.lookup a_Stock_of = some ⟨oc_Stock_of, od_Stock_of, .func (PySem.W.fnOf "of" "Stock.of" (defArgs s_Stock_of) (defBody s_Stock_of) (defScope s_Stock_of) .none kV_Stock_of dc_Stock_of pm_Stock_of an_Stock_of cd_Stock_of ct_Stock_of), sl_Stock_of⟩)
    (x71 : PySem.W.codeIn K cd_Stock_of "Stock.of" = true)
    (x72 : PySem.W.keepIn K (.ref a_Stock_of) = true)
    (x73 : PySem.W.findIn K (.ref a_Stock) "__eq__" = some (some (.ref a_Stock___eq__)))
    (x74 : PySem.W.isFn K (.ref a_Stock___eq__) = true)
    (x75 : PySem.W.fnIn K a_Stock___eq__ = true)
    (x76 : K.lookup a_Stock___eq__ = some ⟨oc_Stock___eq__, od_Stock___eq__, .func (PySem.W.fnOf "__eq__" "Stock.__eq__" (defArgs s_Stock___eq__) (defBody s_Stock___eq__) (defScope s_Stock___eq__) .none kV_Stock___eq__ dc_Stock___eq__ pm_Stock___eq__ an_Stock___eq__ cd_Stock___eq__ ct_Stock___eq__), sl_Stock___eq__⟩)
    (x77 : PySem.W.codeIn K cd_Stock___eq__ "Stock.__eq__" = true)
    (x78 : PySem.W.keepIn K (.ref a_Stock___eq__) = true)
    (x79 : PySem.W.findIn K (.ref a_Stock) "kinds" = some (some (.ref pp_Stock_kinds)))
    (x80 : PySem.W.specialIn K (.ref pp_Stock_kinds) "__get__" = some (some (.builtin "property.__get__")))
    (x81 : PySem.W.takesIn K (.ref pp_Stock_kinds) = some true)
    (x82 : PySem.W.recIn K pp_Stock_kinds "property" = some (.ref a_Stock_kinds :: rs_Stock_kinds))
    (x83 : K.lookup a_Stock_kinds = some ⟨oc_Stock_kinds, od_Stock_kinds, .func (PySem.W.fnOf "kinds" "Stock.kinds" (defArgs s_Stock_kinds) (defBody s_Stock_kinds) (defScope s_Stock_kinds) .none kV_Stock_kinds dc_Stock_kinds pm_Stock_kinds an_Stock_kinds cd_Stock_kinds ct_Stock_kinds), sl_Stock_kinds⟩)
    (x84 : PySem.W.codeIn K cd_Stock_kinds "Stock.kinds" = true)
    (x85 : PySem.W.keepIn K (.ref a_Stock_kinds) = true)
    (x86 : PySem.W.findIn K (.ref a_Stock) "entries" = some (some (.ref pp_Stock_entries)))
    (x87 : PySem.W.specialIn K (.ref pp_Stock_entries) "__get__" = some (some (.builtin "property.__get__")))
    (x88 : PySem.W.takesIn K (.ref pp_Stock_entries) = some true)
    (x89 : PySem.W.recIn K pp_Stock_entries "property" = some (.ref a_Stock_entries :: rs_Stock_entries))
    (x90 : K.lookup a_Stock_entries = some ⟨oc_Stock_entries, od_Stock_entries, .func (PySem.W.fnOf "entries" "Stock.entries" (defArgs s_Stock_entries) (defBody s_Stock_entries) (defScope s_Stock_entries) .none kV_Stock_entries dc_Stock_entries pm_Stock_entries an_Stock_entries cd_Stock_entries ct_Stock_entries), sl_Stock_entries⟩)
    (x91 : PySem.W.codeIn K cd_Stock_entries "Stock.entries" = true)
    (x92 : PySem.W.keepIn K (.ref a_Stock_entries) = true)
    (x93 : PySem.W.findIn K (.ref a_Stock) "total" = some (some (.ref pp_Stock_total)))
    (x94 : PySem.W.specialIn K (.ref pp_Stock_total) "__get__" = some (some (.builtin "property.__get__")))
    (x95 : PySem.W.takesIn K (.ref pp_Stock_total) = some true)
    (x96 : PySem.W.recIn K pp_Stock_total "property" = some (.ref a_Stock_total :: rs_Stock_total))
    (x97 : K.lookup a_Stock_total = some ⟨oc_Stock_total, od_Stock_total, .func (PySem.W.fnOf "total" "Stock.total" (defArgs s_Stock_total) (defBody s_Stock_total) (defScope s_Stock_total) .none kV_Stock_total dc_Stock_total pm_Stock_total an_Stock_total cd_Stock_total ct_Stock_total), sl_Stock_total⟩)
    (x98 : PySem.W.codeIn K cd_Stock_total "Stock.total" = true)
    (x99 : PySem.W.keepIn K (.ref a_Stock_total) = true)
    (x100 : PySem.W.findIn K (.ref a_Stock) "__len__" = some (some (.ref a_Stock___len__)))
    (x101 : PySem.W.isFn K (.ref a_Stock___len__) = true)
    (x102 : PySem.W.fnIn K a_Stock___len__ = true)
    (x103 : K.lookup a_Stock___len__ = some ⟨oc_Stock___len__, od_Stock___len__, .func (PySem.W.fnOf "__len__" "Stock.__len__" (defArgs s_Stock___len__) (defBody s_Stock___len__) (defScope s_Stock___len__) .none kV_Stock___len__ dc_Stock___len__ pm_Stock___len__ an_Stock___len__ cd_Stock___len__ ct_Stock___len__), sl_Stock___len__⟩)
    (x104 : PySem.W.codeIn K cd_Stock___len__ "Stock.__len__" = true)
    (x105 : PySem.W.keepIn K (.ref a_Stock___len__) = true)
    (x106 : PySem.W.findIn K (.ref a_Stock) "__bool__" = some (some (.ref a_Stock___bool__)))
    (x107 : PySem.W.isFn K (.ref a_Stock___bool__) = true)
    (x108 : PySem.W.fnIn K a_Stock___bool__ = true)
    (x109 : K.lookup a_Stock___bool__ = some ⟨oc_Stock___bool__, od_Stock___bool__, .func (PySem.W.fnOf "__bool__" "Stock.__bool__" (defArgs s_Stock___bool__) (defBody s_Stock___bool__) (defScope s_Stock___bool__) .none kV_Stock___bool__ dc_Stock___bool__ pm_Stock___bool__ an_Stock___bool__ cd_Stock___bool__ ct_Stock___bool__), sl_Stock___bool__⟩)
    (x110 : PySem.W.codeIn K cd_Stock___bool__ "Stock.__bool__" = true)
    (x111 : PySem.W.keepIn K (.ref a_Stock___bool__) = true)
    (x112 : PySem.W.nsIn K mainGlobals "_law_odd" = some (some (.ref a__law_odd)))
    (x113 : K.lookup a__law_odd = some ⟨oc__law_odd, od__law_odd, .func (PySem.W.fnOf "_law_odd" "_law_odd" (defArgs s__law_odd) (defBody s__law_odd) (defScope s__law_odd) .none kV__law_odd dc__law_odd pm__law_odd an__law_odd cd__law_odd ct__law_odd), sl__law_odd⟩)
    (x114 : PySem.W.codeIn K cd__law_odd "_law_odd" = true)
    (x115 : PySem.W.keepIn K (.ref a__law_odd) = true)
    (x116 : PySem.W.nsIn K mainGlobals "_law_is_told" = some (some (.ref a__law_is_told)))
    (x117 : K.lookup a__law_is_told = some ⟨oc__law_is_told, od__law_is_told, .func (PySem.W.fnOf "_law_is_told" "_law_is_told" (defArgs s__law_is_told) (defBody s__law_is_told) (defScope s__law_is_told) .none kV__law_is_told dc__law_is_told pm__law_is_told an__law_is_told cd__law_is_told ct__law_is_told), sl__law_is_told⟩)
    (x118 : PySem.W.codeIn K cd__law_is_told "_law_is_told" = true)
    (x119 : PySem.W.keepIn K (.ref a__law_is_told) = true)
    (x120 : PySem.W.nsIn K mainGlobals "_law_by_names" = some (some (.ref a__law_by_names)))
    (x121 : K.lookup a__law_by_names = some ⟨oc__law_by_names, od__law_by_names, .func (PySem.W.fnOf "_law_by_names" "_law_by_names" (defArgs s__law_by_names) (defBody s__law_by_names) (defScope s__law_by_names) .none kV__law_by_names dc__law_by_names pm__law_by_names an__law_by_names cd__law_by_names ct__law_by_names), sl__law_by_names⟩)
    (x122 : PySem.W.codeIn K cd__law_by_names "_law_by_names" = true)
    (x123 : PySem.W.keepIn K (.ref a__law_by_names) = true)
    (x124 : PySem.W.findCls K (.ref a_Stock) (.type "type") "single" = some (.get (.builtin "staticmethod.__get__") (.ref pc_Stock_single) .none (.ref a_Stock)))
    (x125 : PySem.W.recIn K pc_Stock_single "staticmethod" = some (.ref a_Stock_single :: rs_Stock_single))
    (x126 : PySem.W.keepIn K (.ref a_Stock_single) = true)
    (x127 : K.lookup a_Stock_single = some ⟨oc_Stock_single, od_Stock_single, .func (PySem.W.fnOf "single" "Stock.single" (defArgs s_Stock_single) (defBody s_Stock_single) (defScope s_Stock_single) (.ref td_Stock_single) kV_Stock_single dc_Stock_single pm_Stock_single an_Stock_single cd_Stock_single ct_Stock_single), sl_Stock_single⟩)
    (x128 : PySem.W.codeIn K cd_Stock_single "Stock.single" = true)
    (x129 : PySem.W.keepIn K (.ref a_Stock_single) = true)
    (x130 : K.lookup td_Stock_single = some ⟨.type "tuple", tdo_Stock_single, .seq #[.int 1 tdt_Stock_single_0] tdn_Stock_single, tds_Stock_single⟩)
    (x131 : PySem.W.nsIn K mainGlobals "law" = some (some (.ref fb)))
    (x132 : K.lookup fb = some ⟨oc_law, od_law, .func (PySem.W.fnOf "law" "law" (defArgs s_law) (defBody s_law) (defScope s_law) .none kV_law dc_law pm_law an_law cd_law ct_law), sl_law⟩)
    (x133 : PySem.W.codeIn K cd_law "law" = true)
    (x134 : PySem.W.keepIn K (.ref fb) = true)
    (x135 : PySem.W.findIn K (.ref a_Stock) "held" = some none)
    (x136 : PySem.W.findIn K (.ref a_Stock) "order" = some none)
    (x137 : PySem.W.findCls K (.ref a_Stock) (.type "type") "MOST" = some (.val (.int 1000000000000000000 tv_Stock_MOST)))
    (x138 : PySem.W.findIn K (.ref a_Stock) "__ne__" = some (some (.builtin "object.__ne__")))
    (x139 : PySem.W.subIn K (.ref a_Stock) (.type "object") = some true)
    (x140 : PySem.W.subIn K (.type "NoneType") (.ref a_Stock) = some false)
    (x141 : PySem.W.subIn K (.type "bool") (.ref a_Stock) = some false)
    (x142 : PySem.W.subIn K (.type "int") (.ref a_Stock) = some false)
    (x143 : PySem.W.subIn K (.type "str") (.ref a_Stock) = some false)
    (x144 : PySem.W.subIn K (.type "dict") (.ref a_Stock) = some false)
    (x145 : PySem.W.subIn K (.type "list") (.ref a_Stock) = some false)
    (x146 : PySem.W.subIn K (.type "tuple") (.ref a_Stock) = some false)
    (x147 : PySem.W.findIn K (.ref a_Stock) "__class__" = some (some (.builtin "object.__class__")))
    (x148 : PySem.W.specialIn K (.builtin "object.__class__") "__get__" = some (some (.builtin "getset_descriptor.__get__")))
    (x149 : PySem.W.takesIn K (.builtin "object.__class__") = some true)
    (x150 : PySem.W.mroIn K a_Stock (.type "object") = some true)
    (x151 : PySem.W.hasDictIn K a_Stock = true)
    (x152 : PySem.W.typeIn K (.ref a_Stock) = some (.type "type"))
    (x153 : PySem.W.nsIn K mainGlobals "all" = some none)
    (x154 : PySem.W.nsIn K mainGlobals "bool" = some none)
    (x155 : PySem.W.nsIn K mainGlobals "dict" = some none)
    (x156 : PySem.W.nsIn K mainGlobals "int" = some none)
    (x157 : PySem.W.nsIn K mainGlobals "isinstance" = some none)
    (x158 : PySem.W.nsIn K mainGlobals "len" = some none)
    (x159 : PySem.W.nsIn K mainGlobals "list" = some none)
    (x160 : PySem.W.nsIn K mainGlobals "range" = some none)
    (x161 : PySem.W.nsIn K mainGlobals "repr" = some none)
    (x162 : PySem.W.nsIn K mainGlobals "sorted" = some none)
    (x163 : PySem.W.nsIn K mainGlobals "str" = some none)
    (x164 : PySem.W.nsIn K mainGlobals "sum" = some none)
    (x165 : PySem.W.nsIn K mainGlobals "tuple" = some none)
    (x166 : PySem.W.nsIn K mainGlobals "zip" = some none)
    (x167 : PySem.W.nsIn K mainGlobals "LETTERS" = some (some (.str "abcdefghijklmnopqrstuvwxyz" tk_LETTERS)))
    (x168 : PySem.W.nsIn K mainGlobals "MOST_BARRELS" = some (some (.int 1000000000000000000 tk_MOST_BARRELS)))
    (x169 : PySem.W.nsIn K mainGlobals "MOST_LETTERS" = some (some (.int 8 tk_MOST_LETTERS)))
    (x170 : PySem.W.nsIn K mainGlobals "RESERVED" = some (some (.ref ta_RESERVED)))
    (x171 : K.lookup ta_RESERVED = some ⟨.type "tuple", to_RESERVED, .seq #[.str "self" tk_RESERVED_0, .str "table" tk_RESERVED_1, .str "guards" tk_RESERVED_2] tn_RESERVED, ts_RESERVED⟩)
    : ∃ fd : FuncData, (∀ (s : Shared) (v : Value), BindsTo s fd ⟨[v], []⟩ [("_law_script", v)]) ∧ ∀ base : Heap, K.In base → base.Ns mainGlobals mg → FnOkG l.prog w K mg base (L2.CX l.prog w) 7 fa fd ["_law_script"] (B.spLaw K) := by
  have e := hfa.symm.trans (PySem.W.mg_of X G x131)
  cases e
  let T : Tx K mg := {
    g_Stock := PySem.W.mg_of X G x1,
    cls_Stock := ⟨x2, x3, x4, x5⟩,
    kp_Stock := x6,
    cr_Stock := ⟨x7, x8⟩,
    mc_Stock := .type "type",
    sf_Stock := x9,
    g__law_begin := PySem.W.mg_of X G x10,
    a__law_begin := a__law_begin,
    d__law_begin := ⟨_, fun_mk (st := s__law_begin) x11 x12 x13, (fun_mk (st := s__law_begin) x11 x12 x13).binds fun _ _ _ _ _ _ us hl => match us, hl with | [_], _ => rfl⟩,
    g__law_draw := PySem.W.mg_of X G x14,
    a__law_draw := a__law_draw,
    d__law_draw := ⟨_, fun_mk (st := s__law_draw) x15 x16 x17, (fun_mk (st := s__law_draw) x15 x16 x17).binds fun _ _ _ _ _ _ us hl => match us, hl with | [_, _], _ => rfl⟩,
    g__law_pick := PySem.W.mg_of X G x18,
    a__law_pick := a__law_pick,
    d__law_pick := ⟨_, fun_mk (st := s__law_pick) x19 x20 x21, (fun_mk (st := s__law_pick) x19 x20 x21).binds fun _ _ _ _ _ _ us hl => match us, hl with | [_, _], _ => rfl⟩,
    g__law_names := PySem.W.mg_of X G x22,
    a__law_names := a__law_names,
    d__law_names := ⟨_, fun_mk (st := s__law_names) x23 x24 x25, (fun_mk (st := s__law_names) x23 x24 x25).binds fun _ _ _ _ _ _ us hl => match us, hl with | [_, _], _ => rfl⟩,
    g__law_number := PySem.W.mg_of X G x26,
    a__law_number := a__law_number,
    d__law_number := ⟨_, fun_mk (st := s__law_number) x27 x28 x29, (fun_mk (st := s__law_number) x27 x28 x29).binds fun _ _ _ _ _ _ us hl => match us, hl with | [_, _], _ => rfl⟩,
    g__law_shuffled := PySem.W.mg_of X G x30,
    a__law_shuffled := a__law_shuffled,
    d__law_shuffled := ⟨_, fun_mk (st := s__law_shuffled) x31 x32 x33, (fun_mk (st := s__law_shuffled) x31 x32 x33).binds fun _ _ _ _ _ _ us hl => match us, hl with | [_, _], _ => rfl⟩,
    at_Stock___contains__ := ⟨x34, x35, x36⟩,
    a_Stock___contains__ := a_Stock___contains__,
    d_Stock___contains__ := ⟨_, fun_mk (st := s_Stock___contains__) x37 x38 x39, (fun_mk (st := s_Stock___contains__) x37 x38 x39).binds fun _ _ _ _ _ _ us hl => match us, hl with | [_, _], _ => rfl⟩,
    at_Stock___getitem__ := ⟨x40, x41, x42⟩,
    a_Stock___getitem__ := a_Stock___getitem__,
    d_Stock___getitem__ := ⟨_, fun_mk (st := s_Stock___getitem__) x43 x44 x45, (fun_mk (st := s_Stock___getitem__) x43 x44 x45).binds fun _ _ _ _ _ _ us hl => match us, hl with | [_, _], _ => rfl⟩,
    g_is_integer := PySem.W.mg_of X G x46,
    a_is_integer := a_is_integer,
    d_is_integer := ⟨_, fun_mk (st := s_is_integer) x47 x48 x49, (fun_mk (st := s_is_integer) x47 x48 x49).binds fun _ _ _ _ _ _ us hl => match us, hl with | [_], _ => rfl⟩,
    g_is_between := PySem.W.mg_of X G x50,
    a_is_between := a_is_between,
    d_is_between := ⟨_, fun_mk (st := s_is_between) x51 x52 x53, (fun_mk (st := s_is_between) x51 x52 x53).binds fun _ _ _ _ _ _ us hl => match us, hl with | [_, _, _], _ => rfl⟩,
    g_is_amount := PySem.W.mg_of X G x54,
    a_is_amount := a_is_amount,
    d_is_amount := ⟨_, fun_mk (st := s_is_amount) x55 x56 x57, (fun_mk (st := s_is_amount) x55 x56 x57).binds fun _ _ _ _ _ _ us hl => match us, hl with | [_], _ => rfl⟩,
    g_is_name := PySem.W.mg_of X G x58,
    a_is_name := a_is_name,
    d_is_name := ⟨_, fun_mk (st := s_is_name) x59 x60 x61, (fun_mk (st := s_is_name) x59 x60 x61).binds fun _ _ _ _ _ _ us hl => match us, hl with | [_], _ => rfl⟩,
    mk_Stock := ⟨x64, x62, x63, x6⟩,
    a_Stock___init__ := a_Stock___init__,
    d_Stock___init__ := ⟨⟨_, _, _, _, _, _, _, _, _, x65, x66⟩, ⟨_, _, rfl, rfl, rfl, rfl, rfl, rfl, rfl⟩⟩,
    cm_Stock_of := ⟨x67, ⟨_, x68⟩, x69⟩,
    pc_Stock_of := pc_Stock_of,
    a_Stock_of := a_Stock_of,
    d_Stock_of := ⟨_, fun_mk (st := s_Stock_of) x70 x71 x72, (fun_mk (st := s_Stock_of) x70 x71 x72).binds fun _ _ _ _ _ _ us hl => match us, hl with | [_, _], _ => rfl⟩,
    at_Stock___eq__ := ⟨x73, x74, x75⟩,
    a_Stock___eq__ := a_Stock___eq__,
    d_Stock___eq__ := ⟨_, fun_mk (st := s_Stock___eq__) x76 x77 x78, (fun_mk (st := s_Stock___eq__) x76 x77 x78).binds fun _ _ _ _ _ _ us hl => match us, hl with | [_, _], _ => rfl⟩,
    p_Stock_kinds := ⟨_, x79, x80, x81, ⟨_, x82⟩⟩,
    a_Stock_kinds := a_Stock_kinds,
    d_Stock_kinds := ⟨_, fun_mk (st := s_Stock_kinds) x83 x84 x85, (fun_mk (st := s_Stock_kinds) x83 x84 x85).binds fun _ _ _ _ _ _ us hl => match us, hl with | [_], _ => rfl⟩,
    p_Stock_entries := ⟨_, x86, x87, x88, ⟨_, x89⟩⟩,
    a_Stock_entries := a_Stock_entries,
    d_Stock_entries := ⟨_, fun_mk (st := s_Stock_entries) x90 x91 x92, (fun_mk (st := s_Stock_entries) x90 x91 x92).binds fun _ _ _ _ _ _ us hl => match us, hl with | [_], _ => rfl⟩,
    p_Stock_total := ⟨_, x93, x94, x95, ⟨_, x96⟩⟩,
    a_Stock_total := a_Stock_total,
    d_Stock_total := ⟨_, fun_mk (st := s_Stock_total) x97 x98 x99, (fun_mk (st := s_Stock_total) x97 x98 x99).binds fun _ _ _ _ _ _ us hl => match us, hl with | [_], _ => rfl⟩,
    at_Stock___len__ := ⟨x100, x101, x102⟩,
    a_Stock___len__ := a_Stock___len__,
    d_Stock___len__ := ⟨_, fun_mk (st := s_Stock___len__) x103 x104 x105, (fun_mk (st := s_Stock___len__) x103 x104 x105).binds fun _ _ _ _ _ _ us hl => match us, hl with | [_], _ => rfl⟩,
    at_Stock___bool__ := ⟨x106, x107, x108⟩,
    a_Stock___bool__ := a_Stock___bool__,
    d_Stock___bool__ := ⟨_, fun_mk (st := s_Stock___bool__) x109 x110 x111, (fun_mk (st := s_Stock___bool__) x109 x110 x111).binds fun _ _ _ _ _ _ us hl => match us, hl with | [_], _ => rfl⟩,
    g__law_odd := PySem.W.mg_of X G x112,
    a__law_odd := a__law_odd,
    d__law_odd := ⟨_, fun_mk (st := s__law_odd) x113 x114 x115, (fun_mk (st := s__law_odd) x113 x114 x115).binds fun _ _ _ _ _ _ us hl => match us, hl with | [_], _ => rfl⟩,
    g__law_is_told := PySem.W.mg_of X G x116,
    a__law_is_told := a__law_is_told,
    d__law_is_told := ⟨_, fun_mk (st := s__law_is_told) x117 x118 x119, (fun_mk (st := s__law_is_told) x117 x118 x119).binds fun _ _ _ _ _ _ us hl => match us, hl with | [_, _, _], _ => rfl⟩,
    g__law_by_names := PySem.W.mg_of X G x120,
    a__law_by_names := a__law_by_names,
    d__law_by_names := ⟨_, fun_mk (st := s__law_by_names) x121 x122 x123, (fun_mk (st := s__law_by_names) x121 x122 x123).binds fun _ _ _ _ _ _ us hl => match us, hl with | [_, _, _], _ => rfl⟩,
    sm_Stock_single := ⟨⟨_, _, x124, x125⟩, x126⟩,
    a_Stock_single := a_Stock_single,
    d_Stock_single := Dd.mk_all ⟨⟨_, _, _, _, _, _, _, _, _, _, rfl, x127, x128, .inr ⟨by simp, _, _, [.int 1 tdt_Stock_single_0], _, rfl, x130, rfl, (.cons ⟨_, rfl⟩ .nil)⟩, .inl rfl⟩, x129⟩ rfl 1 rfl (by decide) fun T kV doc pm an cdv ct us its hu hi => match us, hu, its, hi with | [_, _], _, [_], _ => ⟨_, rfl, rfl⟩,
    a_law := fa,
    d_law := ⟨_, fun_mk (st := s_law) x132 x133 x134, (fun_mk (st := s_law) x132 x133 x134).binds fun _ _ _ _ _ _ us hl => match us, hl with | [_], _ => rfl⟩,
    g_law := hfa,
    na_Stock_held := x135,
    na_Stock_order := x136,
    cv_Stock_MOST := ⟨_, ⟨x137, ⟨_, rfl⟩⟩⟩,
    ne1_Stock := x138,
    ne2_Stock := x139,
    eo_Stock_NoneType := x140,
    eo_Stock_bool := x141,
    eo_Stock_int := x142,
    eo_Stock_str := x143,
    eo_Stock_dict := x144,
    eo_Stock_list := x145,
    eo_Stock_tuple := x146,
    is1_Stock := ⟨⟨x2, x3, x4, x5⟩, x147, x148, x149, x150⟩,
    is2_Stock := B.kit_self _ _,
    is3_Stock := x151,
    is4_Stock := x152,
    z_all := PySem.W.mg_none_of X G x153,
    z_bool := PySem.W.mg_none_of X G x154,
    z_dict := PySem.W.mg_none_of X G x155,
    z_int := PySem.W.mg_none_of X G x156,
    z_isinstance := PySem.W.mg_none_of X G x157,
    z_len := PySem.W.mg_none_of X G x158,
    z_list := PySem.W.mg_none_of X G x159,
    z_range := PySem.W.mg_none_of X G x160,
    z_repr := PySem.W.mg_none_of X G x161,
    z_sorted := PySem.W.mg_none_of X G x162,
    z_str := PySem.W.mg_none_of X G x163,
    z_sum := PySem.W.mg_none_of X G x164,
    z_tuple := PySem.W.mg_none_of X G x165,
    z_zip := PySem.W.mg_none_of X G x166,
    kon_LETTERS := kon_str (PySem.W.mg_of X G x167),
    kon_MOST_BARRELS := kon_int (PySem.W.mg_of X G x168),
    kon_MOST_LETTERS := kon_int (PySem.W.mg_of X G x169),
    kon_RESERVED := kon_strs (xs := ["self", "table", "guards"]) (PySem.W.mg_of X G x170) x171 (.cons ⟨_, rfl⟩ (.cons ⟨_, rfl⟩ (.cons ⟨_, rfl⟩ .nil))) (by show 3 ≤ sizeLine; decide),
    a_Stock := a_Stock }
  exact ⟨PySem.W.fnOf "law" "law" (defArgs s_law) (defBody s_law) (defScope s_law) .none kV_law dc_law pm_law an_law cd_law ct_law, fun s v => .of_eq rfl, fun base _ _ => (ok_law (P := l.prog) (w := w) (base := base) T (fun_mk (st := s_law) x132 x133 x134)).imp (law_sp (G := T.G) rfl pure)⟩
end K07
open PySem PySem.W PyProof.Rows in
set_option maxRecDepth 100000 in
set_option maxHeartbeats 0 in
theorem PySem.Challenge.cw_leastbrews_k07_stocks_made_holds : PySem.Challenge.rw_leastbrews_k07_stocks_made.Holds := by
  w_on; o_law; k_head; (case hw => w_witness2)
  k_fill
  refine B.walk_ofG (n := 63) (k := 7) (x := "_law_script") (CX := fun w => L2.CX PySem.Challenge.pw_leastbrews_k07_stocks_made w) (sp := fun w => B.spLaw _) rfl (by decide) rfl ⟨⟨rfl, by decide, by decide⟩, rfl⟩ (fun w h Y => PySem.W.kIn_of Y) ?F (fun _ _ a ns hl _ hS => ⟨a, ns, rfl, hS, hl, fun _ => rfl⟩) ?Z
  case Z => exact fun w H s e s' z => B.cx_none z
  case F =>
    intro w mg fa h KX G hmg
    refine' K07.all_mk (l := PySem.Challenge.rw_leastbrews_k07_stocks_made) K07.pure KX G hmg ?x1 ?x2 ?x3 ?x4 ?x5 ?x6 ?x7 ?x8 ?x9 ?x10 ?x11 ?x12 ?x13 ?x14 ?x15 ?x16 ?x17 ?x18 ?x19 ?x20 ?x21 ?x22 ?x23 ?x24 ?x25 ?x26 ?x27 ?x28 ?x29 ?x30 ?x31 ?x32 ?x33 ?x34 ?x35 ?x36 ?x37 ?x38 ?x39 ?x40 ?x41 ?x42 ?x43 ?x44 ?x45 ?x46 ?x47 ?x48 ?x49 ?x50 ?x51 ?x52 ?x53 ?x54 ?x55 ?x56 ?x57 ?x58 ?x59 ?x60 ?x61 ?x62 ?x63 ?x64 ?x65 ?x66 ?x67 ?x68 ?x69 ?x70 ?x71 ?x72 ?x73 ?x74 ?x75 ?x76 ?x77 ?x78 ?x79 ?x80 ?x81 ?x82 ?x83 ?x84 ?x85 ?x86 ?x87 ?x88 ?x89 ?x90 ?x91 ?x92 ?x93 ?x94 ?x95 ?x96 ?x97 ?x98 ?x99 ?x100 ?x101 ?x102 ?x103 ?x104 ?x105 ?x106 ?x107 ?x108 ?x109 ?x110 ?x111 ?x112 ?x113 ?x114 ?x115 ?x116 ?x117 ?x118 ?x119 ?x120 ?x121 ?x122 ?x123 ?x124 ?x125 ?x126 ?x127 ?x128 ?x129 ?x130 ?x131 ?x132 ?x133 ?x134 ?x135 ?x136 ?x137 ?x138 ?x139 ?x140 ?x141 ?x142 ?x143 ?x144 ?x145 ?x146 ?x147 ?x148 ?x149 ?x150 ?x151 ?x152 ?x153 ?x154 ?x155 ?x156 ?x157 ?x158 ?x159 ?x160 ?x161 ?x162 ?x163 ?x164 ?x165 ?x166 ?x167 ?x168 ?x169 ?x170 ?x171
    (case x1 => k_is)
    (case x2 => k_is)
    (case x3 => k_is)
    (case x4 => k_is)
    (case x5 => k_is)
    (case x6 => k_is)
    (case x7 => k_is)
    (case x8 => k_is)
    (case x9 => k_is)
    (case x10 => k_is)
    (case x11 => k_is)
    (case x12 => k_is)
    (case x13 => k_is)
    (case x14 => k_is)
    (case x15 => k_is)
    (case x16 => k_is)
    (case x17 => k_is)
    (case x18 => k_is)
    (case x19 => k_is)
    (case x20 => k_is)
    (case x21 => k_is)
    (case x22 => k_is)
    (case x23 => k_is)
    (case x24 => k_is)
    (case x25 => k_is)
    (case x26 => k_is)
    (case x27 => k_is)
    (case x28 => k_is)
    (case x29 => k_is)
    (case x30 => k_is)
    (case x31 => k_is)
    (case x32 => k_is)
    (case x33 => k_is)
    (case x34 => k_is)
    (case x35 => k_is)
    (case x36 => k_is)
    (case x37 => k_is)
    (case x38 => k_is)
    (case x39 => k_is)
    (case x40 => k_is)
    (case x41 => k_is)
    (case x42 => k_is)
    (case x43 => k_is)
    (case x44 => k_is)
    (case x45 => k_is)
    (case x46 => k_is)
    (case x47 => k_is)
    (case x48 => k_is)
    (case x49 => k_is)
    (case x50 => k_is)
    (case x51 => k_is)
    (case x52 => k_is)
    (case x53 => k_is)
    (case x54 => k_is)
    (case x55 => k_is)
    (case x56 => k_is)
    (case x57 => k_is)
    (case x58 => k_is)
    (case x59 => k_is)
    (case x60 => k_is)
    (case x61 => k_is)
    (case x62 => k_is)
    (case x63 => k_is)
    (case x64 => k_is)
    (case x65 => k_is)
    (case x66 => k_is)
    (case x67 => k_is)
    (case x68 => k_is)
    (case x69 => k_is)
    (case x70 => k_is)
    (case x71 => k_is)
    (case x72 => k_is)
    (case x73 => k_is)
    (case x74 => k_is)
    (case x75 => k_is)
    (case x76 => k_is)
    (case x77 => k_is)
    (case x78 => k_is)
    (case x79 => k_is)
    (case x80 => k_is)
    (case x81 => k_is)
    (case x82 => k_is)
    (case x83 => k_is)
    (case x84 => k_is)
    (case x85 => k_is)
    (case x86 => k_is)
    (case x87 => k_is)
    (case x88 => k_is)
    (case x89 => k_is)
    (case x90 => k_is)
    (case x91 => k_is)
    (case x92 => k_is)
    (case x93 => k_is)
    (case x94 => k_is)
    (case x95 => k_is)
    (case x96 => k_is)
    (case x97 => k_is)
    (case x98 => k_is)
    (case x99 => k_is)
    (case x100 => k_is)
    (case x101 => k_is)
    (case x102 => k_is)
    (case x103 => k_is)
    (case x104 => k_is)
    (case x105 => k_is)
    (case x106 => k_is)
    (case x107 => k_is)
    (case x108 => k_is)
    (case x109 => k_is)
    (case x110 => k_is)
    (case x111 => k_is)
    (case x112 => k_is)
    (case x113 => k_is)
    (case x114 => k_is)
    (case x115 => k_is)
    (case x116 => k_is)
    (case x117 => k_is)
    (case x118 => k_is)
    (case x119 => k_is)
    (case x120 => k_is)
    (case x121 => k_is)
    (case x122 => k_is)
    (case x123 => k_is)
    (case x124 => k_is)
    (case x125 => k_is)
    (case x126 => k_is)
    (case x127 => k_is)
    (case x128 => k_is)
    (case x129 => k_is)
    (case x130 => k_is)
    (case x131 => k_is)
    (case x132 => k_is)
    (case x133 => k_is)
    (case x134 => k_is)
    (case x135 => k_is)
    (case x136 => k_is)
    (case x137 => k_is)
    (case x138 => k_is)
    (case x139 => k_is)
    (case x140 => k_is)
    (case x141 => k_is)
    (case x142 => k_is)
    (case x143 => k_is)
    (case x144 => k_is)
    (case x145 => k_is)
    (case x146 => k_is)
    (case x147 => k_is)
    (case x148 => k_is)
    (case x149 => k_is)
    (case x150 => k_is)
    (case x151 => k_is)
    (case x152 => k_is)
    (case x153 => k_is)
    (case x154 => k_is)
    (case x155 => k_is)
    (case x156 => k_is)
    (case x157 => k_is)
    (case x158 => k_is)
    (case x159 => k_is)
    (case x160 => k_is)
    (case x161 => k_is)
    (case x162 => k_is)
    (case x163 => k_is)
    (case x164 => k_is)
    (case x165 => k_is)
    (case x166 => k_is)
    (case x167 => k_is)
    (case x168 => k_is)
    (case x169 => k_is)
    (case x170 => k_is)
    (case x171 => k_is)

