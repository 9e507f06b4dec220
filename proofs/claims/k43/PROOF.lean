import PyProof.Rows.All
import Wide.All
import OpenK.AllK
import Wide.FinOn
import HandS.ForMost
import HandS.ForExc
import HandS.ForSpec
import KE.KeyNested
import HandS.Lambda
import HandS.NoneIn
import HandS.CallSlots
import HandS.Defaults
import HandS.Wide
import HandS.IsInst
import PyProof.Rows.InDataRows
import HandS.TupAny
import HandS.Flow
import HandS.HeadHook4
import HandS.HeadWalk
import HandS.Head2
import HandS.Star
import HandS.WordsExc
import KE.KOpsOwn
import HandS.Sort
import PyProof.ListRange
import HandS.ExcInit
import HandS.ExcField
import HandS.ExcIs
import HandS.TryOnly
import HandS.TryMany
import KE.KExcIs
import HandS.Style
import HandS.MakeKwOnly
import PyProof.CollectIter
import PyProof.WalksMore
import HandS.ExcValue
import KE.GoesMore
import KE.GoesEnum
import HandS.More
import HandS.RaiseMore
import PyProof.ExcBaseAll.ValueError
import HandS.Rev
import HandS.Zip
import HandS.SortInts
import HandS.Conv
import HandS.DictComp
import KE.GoesZip
import KE.LtData
import HandS.TupMul
import PyProof.Rows.Range3
import PyProof.Conv_bool
import KE.DataFind
import HandS.Nested
import HandS.HotCalls
import KE.KTupSum
import PyProof.DictDisplay
import HandS.GenList
import PyProof.Rows.TupIter
import HandS.SetBool
import HandS.Strs
import PyProof.SetRoads
import HandS.Property
import HandS.FStr
import KE.KCallOwn
import KE.BitLaws
import PySem.Challenge.RW_steppedtests_k43_ratios_built
set_option Elab.async false
set_option linter.all false
set_option maxRecDepth 100000
set_option maxHeartbeats 2000000
/-! A layer of pure values and a small store over the hand layer: every def is turned into a function of values. -/
namespace DD
open PySem PySem.Spec PyProof.Rows L2
/-- a value: what never changes is held as it is; what changes stands in the store -/
inductive W where
  | non | bl (b : Bool) | int (i : Int) | str (x : Str)
  | ref (i : Nat)
  | tup (l : List W) | lst (l : List W) | scr (l : List W)
  | dic (ks : List Key) (l : List W)
  | dn (ks l : List W)
  | obj (c : Nat) (ns : List Str) (l : List W)
  | cls (c : Nat) | ty (n : String)
  | lam
  | exn (c : Nat) (ns : List Str) (l : List W)
/-- an object of the store -/
inductive O where
  | dead
  | lst (l : List W)
  | dic (ks : List Key) (l : List W)
  | dn (ks l : List W)
  | ins (c : Nat) (ns : List Str) (l : List W)
abbrev Sto := List O
mutual
def lowW (n : Nat) : W → Bool
  | .ref i => decide (i < n)
  | .tup l => lowL n l
  | .lst l => lowL n l
  | .scr l => lowL n l
  | .dic _ l => lowL n l
  | .dn ks l => lowL n ks && lowL n l
  | .obj _ _ l => lowL n l
  | .exn _ _ l => lowL n l
  | _ => true
def lowL (n : Nat) : List W → Bool
  | [] => true
  | w :: l => lowW n w && lowL n l
end
def lowO (n : Nat) : O → Bool
  | .dead => true
  | .lst l => lowL n l
  | .dic _ l => lowL n l
  | .dn ks l => lowL n ks && lowL n l
  | .ins _ _ l => lowL n l
/-- where the store's things lie; and things in the making, that nothing may lean on -/
structure Rh where
  f : Nat → Addr
  z : Addr → Prop
instance : CoeFun Rh (fun _ => Nat → Addr) := ⟨Rh.f⟩
/-- the live addresses -/
def Lv (S : Sto) (r : Rh) (a : Addr) : Prop := (∃ i o, S[i]? = some o ∧ o ≠ .dead ∧ r i = a) ∨ r.z a
/-- a lambda that has been handed on: its function object, what is tracked, what is known to be at which address, what it has caught -/
structure LI where
  f : Addr
  own : List (Addr × HO)
  keep : List (Addr × Obj)
  ws : List W
  vs : List V
/-- an object as it stands -/
def PinO (p : Addr × Obj) : HO := .frz p.2 (.ext fun h => h.get? p.1 = some p.2)
/-- where one stands: the written part and the classes -/
structure Gx where
  K : PySem.W.Frag
  cm : Nat → Addr
  w : World
  /-- the tables of the defs that make lambdas: where, and the lambdas' name -/
  T : List (Addr × Str) := []
  /-- the lambda that has been handed on -/
  lm : Option Addr := none
  /-- what is told of it -/
  li : Option LI := none
/-- an error's object as it stands -/
def ExV (a : Addr) (oe : Obj) : HO := .ext fun h => h.get? a = some oe
/-- what may be held by a value or the store -/
def Kd : HO → Prop
  | .tbl _ => False
  | .frz _ (.ext _) => False
  | _ => True
/-- no table -/
def Nt : HO → Prop
  | .tbl _ => False
  | _ => True
theorem Kd.nt {u : HO} (h : Kd u) : Nt u := by
  cases u <;> first | exact trivial | exact h
/-! ### dicts whose keys are tuples, nested -/
mutual
/-- a value as a key -/
def nkW : W → Option NestedKey
  | .non => some .none
  | .bl b => some (.num (if b then 1 else 0))
  | .int i => some (.num i)
  | .str x => some (.text x)
  | .tup l => (nkL l).map .tup
  | _ => none
def nkL : List W → Option (List NestedKey)
  | [] => some []
  | w :: l => match nkW w, nkL l with
    | some k, some ks => some (k :: ks)
    | _, _ => none
end
/-- a row of such a dict: the key, where it lies, the value -/
abbrev Row := NestedKey × Addr × V
def rowE (w : World) (x : NestedKey × Addr × Value) : DictEntry := ⟨x.1.hash w, .ref x.2.1, x.2.2⟩
abbrev RowsR : List Row → List (NestedKey × Addr × Value) → Prop := Paired fun p q => p.1 = q.1 ∧ p.2.1 = q.2.1 ∧ RelV p.2.2 q.2.2
def DnAt (w : World) (a : Addr) (rows : List Row) (ob : Obj) (h : Heap) : Prop := h.get? a = some ob ∧ rows.length ≤ sizeLine ∧ (a == sysModules) = false ∧ ∃ xs : List (NestedKey × Addr × Value), RowsR rows xs ∧ (∀ x ∈ xs, x.1.depth ≤ 8) ∧
  ∃ es ep, ob.ExactDict ∧ ob.data = .dict es ep ∧ es.toList = xs.map (rowE w) ∧ (xs.map (·.1)).Nodup
def DnO (w : World) (a : Addr) (rows : List Row) (ob : Obj) : HO := .ext (DnAt w a rows ob)
/-- the keys of the rows, as values -/
def NkOk (ks : List W) (rows : List Row) : Prop := ks.map nkW = rows.map fun x => some x.1
section
variable (G : Gx) (H : Hp) (S : Sto) (r : Rh)
/-- a thing at a that no store reaches -/
def Own (a : Addr) (u : HO) : Prop := H a = some u ∧ ¬ Lv S r a
def TupAt (a : Addr) (vs : List V) : Prop := Own H S r a (.tup vs) ∨ ∃ (o : Obj) (its : Array Value) (n : Nat), G.K.lookup a = some o ∧ o.cls = .type "tuple" ∧ o.data = .seq its n ∧ its.size ≤ sizeLine ∧ Vals vs its.toList
def ScrAt (a : Addr) (vs : List V) : Prop := (∃ o, Own H S r a (.frz o (.lst vs))) ∨ Own H S r a (.lst vs) ∨ ∃ (o : Obj) (its : Array Value) (n : Nat), G.K.lookup a = some o ∧ o.cls = .type "list" ∧ o.dict = none ∧ o.data = .seq its n ∧ its.size ≤ sizeLine ∧ Vals vs its.toList
mutual
inductive RW : W → V → Prop
  | non : RW .non .non
  | bl (b : Bool) : RW (.bl b) (.bl b)
  | int (i : Int) : RW (.int i) (.int i)
  | str (x : Str) : RW (.str x) (.str x)
  | ref {i : Nat} : i < S.length → RW (.ref i) (.ref (r i))
  | tup {a : Addr} {ws : List W} {vs : List V} : TupAt G H S r a vs → RWs ws vs → RW (.tup ws) (.ref a)
  | lst {a : Addr} {ws : List W} {vs : List V} : Own H S r a (.lst vs) → RWs ws vs → RW (.lst ws) (.ref a)
  | scr {a : Addr} {ws : List W} {vs : List V} : ScrAt G H S r a vs → RWs ws vs → RW (.scr ws) (.ref a)
  | dic {a : Addr} {ks : List Key} {ws : List W} {vs : List V} : Own H S r a (.dK (ks.zip vs)) → ks.length = ws.length → RWs ws vs → RW (.dic ks ws) (.ref a)
  | dn {a : Addr} {rows : List Row} {ob : Obj} {ks ws : List W} : Own H S r a (DnO G.w a rows ob) → NkOk ks rows → RWs ks (rows.map fun x => .ref x.2.1) → RWs ws (rows.map fun x => x.2.2) → RW (.dn ks ws) (.ref a)
  | obj {a dx : Addr} {c : Nat} {ns : List Str} {ws : List W} {vs : List V} : Own H S r a (.ins (G.cm c) dx (ns.zip vs)) → ns.length = ws.length → RWs ws vs → RW (.obj c ns ws) (.ref a)
  | cls (c : Nat) : RW (.cls c) (.ref (G.cm c))
  | ty (n : String) : RW (.ty n) (.ty n)
  | lam {f : Addr} : G.lm = some f → RW .lam (.ref f)
  | exn {a : Addr} {oe : Obj} {c : Nat} {ns : List Str} {ws : List W} {vs : List V} : Own H S r a (ExV a oe) → oe.cls = .ref (G.cm c) → (∃ fs, oe.data = .fields fs) → (ns = [] ∧ ws = [] ∧ oe.dict = none ∨ ∃ dx, oe.dict = some dx ∧ Own H S r dx (.xd (ns.zip vs)) ∧ ns.length = ws.length) → RWs ws vs → RW (.exn c ns ws) (.ref a)
inductive RWs : List W → List V → Prop
  | nil : RWs [] []
  | cons {w : W} {ws : List W} {v : V} {vs : List V} : RW w v → RWs ws vs → RWs (w :: ws) (v :: vs)
end
/-- an object of the store at a and what stands for it -/
inductive RO (a : Addr) : O → HO → Prop
  | lst {ws : List W} {vs : List V} : RWs G H S r ws vs → RO a (.lst ws) (.lst vs)
  | dic {ks : List Key} {ws : List W} {vs : List V} : ks.length = ws.length → RWs G H S r ws vs → RO a (.dic ks ws) (.dK (ks.zip vs))
  | dn {rows : List Row} {ob : Obj} {ks ws : List W} : NkOk ks rows → RWs G H S r ks (rows.map fun x => .ref x.2.1) → RWs G H S r ws (rows.map fun x => x.2.2) → RO a (.dn ks ws) (DnO G.w a rows ob)
  | ins {c : Nat} {dx : Addr} {ns : List Str} {ws : List W} {vs : List V} : ns.length = ws.length → RWs G H S r ws vs → RO a (.ins c ns ws) (.ins (G.cm c) dx (ns.zip vs))
/-- a code table: the code objects that it tells bear the name q -/
def TabR (P : Addr) (q : Str) : Prop := ∃ ps : Array Value, Own H S r P (.tbl ps) ∧ PySem.TriplesOk ps.toList ∧ ∀ (pos : Pos) (cv : Value), PySem.codeAmong pos ps.toList = some cv → ∃ c, cv = .ref c ∧ Own H S r c (LamX.CodeO c q)
/-- the lambda that has been handed on stands -/
def LamR (li : LI) : Prop := (∀ p ∈ li.keep, Own H S r p.1 (PinO p)) ∧ (∀ p ∈ li.own, Kd p.2 ∧ Own H S r p.1 p.2) ∧ RWs G H S r li.ws li.vs ∧ ∀ n, lowL n li.ws = true
/-- the store stands -/
structure Rl : Prop where
  at_ : ∀ i o, S[i]? = some o → o ≠ .dead → ∃ ho, H (r i) = some ho ∧ RO G H S r (r i) o ho
  inj : ∀ i j o u, S[i]? = some o → o ≠ .dead → S[j]? = some u → u ≠ .dead → r i = r j → i = j
  zs : ∀ a, r.z a → ∃ o, H a = some o
  dz : ∀ i o, S[i]? = some o → o ≠ .dead → ¬ r.z (r i)
  tab : ∀ p ∈ G.T, TabR H S r p.1 p.2
  lam : ∀ li, G.li = some li → LamR G H S r li
end
/-- from one state to a later one -/
structure Ev (H : Hp) (S : Sto) (r : Rh) (H' : Hp) (S' : Sto) (r' : Rh) : Prop where
  len : S.length ≤ S'.length
  rho : ∀ i, i < S.length → r' i = r i
  keep : ∀ a o, Nt o → H a = some o → ¬ Lv S r a → H' a = some o
  tbs : ∀ a ps, H a = some (.tbl ps) → ¬ Lv S r a → ∃ more, H' a = some (.tbl (ps ++ more))
  live : ∀ a, Lv S' r' a → Lv S r a ∨ H a = none
  zz : r'.z = r.z
  kz : ∀ a o, H a = some o → r.z a → H' a = some o
theorem Ev.refl {H : Hp} {S : Sto} {r : Rh} : Ev H S r H S r := ⟨Nat.le_refl _, fun _ _ => rfl, fun _ _ _ e _ => e, fun _ _ e _ => ⟨#[], by simpa using e⟩, fun _ l => .inl l, rfl, fun _ _ e _ => e⟩
theorem Ev.trans {H H1 H2 : Hp} {S S1 S2 : Sto} {r r1 r2 : Rh} (a : Ev H S r H1 S1 r1) (b : Ev H1 S1 r1 H2 S2 r2) : Ev H S r H2 S2 r2 where
  len := Nat.le_trans a.len b.len
  rho := fun i hi => (b.rho i (Nat.lt_of_lt_of_le hi a.len)).trans (a.rho i hi)
  keep := fun c o nt e n => b.keep c o nt (a.keep c o nt e n) fun l => (a.live c l).elim n fun z => by rw [e] at z; cases z
  tbs := fun c ps e n => by
    obtain ⟨m1, e1⟩ := a.tbs c ps e n
    obtain ⟨m2, e2⟩ := b.tbs c _ e1 fun l => (a.live c l).elim n fun z => by rw [e] at z; cases z
    exact ⟨m1 ++ m2, by rw [← Array.append_assoc]; exact e2⟩
  live := fun c l => by
    rcases b.live c l with l | z
    · exact a.live c l
    · by_cases l1 : Lv S r c
      · exact .inl l1
      · cases e : H c with
        | none => exact .inr rfl
        | some o =>
          by_cases nt : Nt o
          · have := a.keep c o nt e l1
            rw [z] at this; cases this
          · cases o with
            | tbl ps =>
              obtain ⟨more, this⟩ := a.tbs c ps e l1
              rw [z] at this; cases this
            | _ => exact absurd trivial nt
  zz := b.zz.trans a.zz
  kz := fun c o e z => b.kz c o (a.kz c o e z) (by rw [a.zz]; exact z)
section
variable {G : Gx} {H H' : Hp} {S S' : Sto} {r r' : Rh}
theorem Own.ev {a : Addr} {u : HO} (o : Own H S r a u) (e : Ev H S r H' S' r') (nt : Nt u := by exact trivial) : Own H' S' r' a u :=
  ⟨e.keep a u nt o.1 o.2, fun l => (e.live a l).elim o.2 fun z => by rw [o.1] at z; cases z⟩
theorem TupAt.ev {a : Addr} {vs : List V} (t : TupAt G H S r a vs) (e : Ev H S r H' S' r') : TupAt G H' S' r' a vs := by
  rcases t with t | t
  · exact .inl (t.ev e)
  · exact .inr t
theorem ScrAt.ev {a : Addr} {vs : List V} (t : ScrAt G H S r a vs) (e : Ev H S r H' S' r') : ScrAt G H' S' r' a vs := by
  rcases t with ⟨o, t⟩ | t | t
  · exact .inl ⟨o, t.ev e⟩
  · exact .inr (.inl (t.ev e))
  · exact .inr (.inr t)
theorem TupAt.sq {a : Addr} {vs : List V} (t : TupAt G H S r a vs) : SqT G.K H a vs := by
  rcases t with t | t
  · exact .inl (.inl t.1)
  · exact .inr t
theorem ScrAt.sq {a : Addr} {vs : List V} (t : ScrAt G H S r a vs) : SqL G.K H a vs := by
  rcases t with ⟨o, t⟩ | t | t
  · exact .inl (.inr ⟨o, t.1⟩)
  · exact .inl (.inl t.1)
  · exact .inr t
/-- what a later state must keep for values to stay -/
structure Mp (H : Hp) (S : Sto) (r : Rh) (H' : Hp) (S' : Sto) (r' : Rh) : Prop where
  own : ∀ a u, Own H S r a u → (k : Kd u := by exact trivial) → Own H' S' r' a u
  rho : ∀ i, i < S.length → r' i = r i
  len : S.length ≤ S'.length
theorem Ev.mp (e : Ev H S r H' S' r') : Mp H S r H' S' r' := ⟨fun a u o k => o.ev e k.nt, e.rho, e.len⟩
theorem Mp.trans {H2 : Hp} {S2 : Sto} {r2 : Rh} (a : Mp H S r H' S' r') (b : Mp H' S' r' H2 S2 r2) : Mp H S r H2 S2 r2 :=
  ⟨fun c u o k => b.own c u (a.own c u o k) k, fun i hi => (b.rho i (Nat.lt_of_lt_of_le hi a.len)).trans (a.rho i hi), Nat.le_trans a.len b.len⟩
theorem TupAt.mp {a : Addr} {vs : List V} (t : TupAt G H S r a vs) (e : Mp H S r H' S' r') : TupAt G H' S' r' a vs := by
  rcases t with t | t
  · exact .inl (e.own _ _ t)
  · exact .inr t
theorem ScrAt.mp {a : Addr} {vs : List V} (t : ScrAt G H S r a vs) (e : Mp H S r H' S' r') : ScrAt G H' S' r' a vs := by
  rcases t with ⟨o, t⟩ | t | t
  · exact .inl ⟨o, e.own _ _ t⟩
  · exact .inr (.inl (e.own _ _ t))
  · exact .inr (.inr t)
mutual
theorem RW.mp {w : W} {v : V} (e : Mp H S r H' S' r') : RW G H S r w v → RW G H' S' r' w v
  | .non => .non
  | .bl b => .bl b
  | .int i => .int i
  | .str x => .str x
  | .ref (i := i) h => by
    rw [← e.rho i h]
    exact .ref (Nat.lt_of_lt_of_le h e.len)
  | .tup h q => .tup (h.mp e) (RWs.mp e q)
  | .lst h q => .lst (e.own _ _ h) (RWs.mp e q)
  | .scr h q => .scr (h.mp e) (RWs.mp e q)
  | .dic h l q => .dic (e.own _ _ h) l (RWs.mp e q)
  | .dn h l q q2 => .dn (e.own _ _ h) l (RWs.mp e q) (RWs.mp e q2)
  | .obj h l q => .obj (e.own _ _ h) l (RWs.mp e q)
  | .cls c => .cls c
  | .ty n => .ty n
  | .lam h => .lam h
  | .exn h1 h2 h3 h4 q => .exn (e.own _ _ h1) h2 h3 (h4.imp id fun ⟨dx, e1, o, l⟩ => ⟨dx, e1, e.own _ _ o, l⟩) (RWs.mp e q)
theorem RWs.mp {w : List W} {v : List V} (e : Mp H S r H' S' r') : RWs G H S r w v → RWs G H' S' r' w v
  | .nil => .nil
  | .cons a b => .cons (RW.mp e a) (RWs.mp e b)
end
theorem RW.ev {w : W} {v : V} (q : RW G H S r w v) (e : Ev H S r H' S' r') : RW G H' S' r' w v := q.mp e.mp
theorem RWs.ev {w : List W} {v : List V} (q : RWs G H S r w v) (e : Ev H S r H' S' r') : RWs G H' S' r' w v := q.mp e.mp
theorem RWs.length : ∀ {ws : List W} {vs : List V}, RWs G H S r ws vs → ws.length = vs.length
  | _, _, .nil => rfl
  | _, _, .cons _ t => congrArg Nat.succ t.length
theorem RWs.get : ∀ {ws : List W} {vs : List V} {i : Nat} {w : W}, RWs G H S r ws vs → ws[i]? = some w → ∃ v, vs[i]? = some v ∧ RW G H S r w v
  | _, _, _, _, .nil, e => by simp at e
  | _, _, 0, _, .cons a _, e => by simp at e; subst e; exact ⟨_, rfl, a⟩
  | _, _, i + 1, w, .cons _ t, e => by
    obtain ⟨v, h1, h2⟩ := RWs.get (i := i) (w := w) t (by simpa using e)
    exact ⟨v, by simpa using h1, h2⟩
theorem RWs.append : ∀ {ws us : List W} {vs xs : List V}, RWs G H S r ws vs → RWs G H S r us xs → RWs G H S r (ws ++ us) (vs ++ xs)
  | _, _, _, _, .nil, q => q
  | _, _, _, _, .cons a t, q => .cons a (t.append q)
theorem RWs.take : ∀ {ws : List W} {vs : List V} (n : Nat), RWs G H S r ws vs → RWs G H S r (ws.take n) (vs.take n)
  | _, _, 0, _ => .nil
  | _, _, _ + 1, .nil => .nil
  | _, _, n + 1, .cons a t => .cons a (t.take n)
theorem RWs.drop : ∀ {ws : List W} {vs : List V} (n : Nat), RWs G H S r ws vs → RWs G H S r (ws.drop n) (vs.drop n)
  | _, _, 0, q => q
  | _, _, _ + 1, .nil => .nil
  | _, _, n + 1, .cons _ t => t.drop n
theorem RWs.set {w : W} {v : V} (q : RW G H S r w v) : ∀ {ws : List W} {vs : List V} (i : Nat), RWs G H S r ws vs → RWs G H S r (ws.set i w) (vs.set i v)
  | _, _, _, .nil => .nil
  | _, _, 0, .cons _ t => .cons q t
  | _, _, i + 1, .cons a t => .cons a (t.set q i)
theorem RWs.snoc {ws : List W} {vs : List V} {w : W} {v : V} (q : RWs G H S r ws vs) (a : RW G H S r w v) : RWs G H S r (ws ++ [w]) (vs ++ [v]) := q.append (.cons a .nil)
/-- a fresh thing that no store holds -/
theorem Ev.fresh {p : Addr} {o : HO} (x : H p = none) (rl : Rl G H S r) : Ev H S r (upd H p o) S r where
  len := Nat.le_refl _
  rho := fun _ _ => rfl
  keep := fun a u _ e _ => by rw [upd_ne (ne_of_none e x)]; exact e
  tbs := fun a ps e _ => ⟨#[], by rw [upd_ne (ne_of_none e x)]; simpa using e⟩
  live := fun _ l => .inl l
  zz := rfl
  kz := fun a u e _ => by rw [upd_ne (ne_of_none e x)]; exact e
theorem Rl.notLv {p : Addr} (rl : Rl G H S r) (x : H p = none) : ¬ Lv S r p := by
  rintro (⟨i, o, e, d, z⟩ | z)
  · obtain ⟨ho, h1, _⟩ := rl.at_ i o e d
    rw [z, x] at h1; cases h1
  · obtain ⟨o, h⟩ := rl.zs p z
    rw [x] at h; cases h
theorem RO.mp {a : Addr} {o : O} {ho : HO} (q : RO G H S r a o ho) (e : Mp H S r H' S' r') : RO G H' S' r' a o ho := by
  cases q with
  | lst q => exact .lst (q.mp e)
  | dic l q => exact .dic l (q.mp e)
  | dn l q q2 => exact .dn l (q.mp e) (q2.mp e)
  | ins l q => exact .ins l (q.mp e)
theorem RO.ev {a : Addr} {o : O} {ho : HO} (q : RO G H S r a o ho) (e : Ev H S r H' S' r') : RO G H' S' r' a o ho := q.mp e.mp
theorem TabR.mo {P : Addr} {q : Str} (t : TabR H S r P q) (m : ∀ a u, Own H S r a u → Own H' S' r' a u) : TabR H' S' r' P q := by
  obtain ⟨ps, h1, h2, h3⟩ := t
  exact ⟨ps, m _ _ h1, h2, fun pos cv hc => let ⟨c, e1, o⟩ := h3 pos cv hc; ⟨c, e1, m _ _ o⟩⟩
theorem LamR.mo {li : LI} (t : LamR G H S r li) (m : ∀ a u, Own H S r a u → Own H' S' r' a u) (h1 : ∀ i, i < S.length → r' i = r i) (h2 : S.length ≤ S'.length) : LamR G H' S' r' li :=
  ⟨fun p hp => m _ _ (t.1 p hp), fun p hp => ⟨(t.2.1 p hp).1, m _ _ (t.2.1 p hp).2⟩, t.2.2.1.mp ⟨fun a u ow _ => m a u ow, h1, h2⟩, t.2.2.2⟩
theorem Own.up {p a : Addr} {o u : HO} (x : H p = none) (ow : Own H S r a u) : Own (upd H p o) S r a u := ⟨by rw [upd_ne (ne_of_none ow.1 x)]; exact ow.1, ow.2⟩
theorem Rl.fresh {p : Addr} {o : HO} (x : H p = none) (rl : Rl G H S r) : Rl G (upd H p o) S r where
  at_ := fun i u e d => by
    obtain ⟨ho, h1, h2⟩ := rl.at_ i u e d
    exact ⟨ho, by rw [upd_ne (ne_of_none h1 x)]; exact h1, h2.ev (Ev.fresh x rl)⟩
  inj := rl.inj
  zs := fun a z => by
    obtain ⟨u, h⟩ := rl.zs a z
    exact ⟨u, by rw [upd_ne (ne_of_none h x)]; exact h⟩
  dz := rl.dz
  tab := fun p hp => (rl.tab p hp).mo fun _ _ ow => ow.up x
  lam := fun li e => (rl.lam li e).mo (fun _ _ ow => ow.up x) (fun _ _ => rfl) (Nat.le_refl _)
theorem Own.new {p : Addr} {o : HO} (x : H p = none) (rl : Rl G H S r) : Own (upd H p o) S r p o := ⟨upd_same, rl.notLv x⟩
/-- a new thing of the store -/
def put (r : Rh) (n : Nat) (p : Addr) : Rh := ⟨fun i => if i = n then p else r i, r.z⟩
theorem put_same {n : Nat} {p : Addr} : put r n p n = p := if_pos rfl
theorem put_ne {n i : Nat} {p : Addr} (h : i ≠ n) : put r n p i = r i := if_neg h
theorem lv_snoc {p a : Addr} {o : O} (l : Lv (S ++ [o]) (put r S.length p) a) : Lv S r a ∨ a = p := by
  rcases l with ⟨i, u, e, d, z⟩ | z
  case inr => exact .inl (.inr z)
  by_cases hi : i < S.length
  · rw [List.getElem?_append_left hi] at e
    rw [put_ne (Nat.ne_of_lt hi)] at z
    exact .inl (.inl ⟨i, u, e, d, z⟩)
  · have := (List.getElem?_eq_some_iff.mp e).1
    simp only [List.length_append, List.length_cons, List.length_nil] at this
    have hi : i = S.length := by omega
    subst hi
    rw [put_same] at z
    exact .inr z.symm
theorem Ev.snoc {p : Addr} {o : O} {ho : HO} (x : H p = none) : Ev H S r (upd H p ho) (S ++ [o]) (put r S.length p) where
  len := by rw [List.length_append]; exact Nat.le_add_right _ _
  rho := fun i hi => put_ne (Nat.ne_of_lt hi)
  keep := fun a u _ e _ => by rw [upd_ne (ne_of_none e x)]; exact e
  tbs := fun a ps e _ => ⟨#[], by rw [upd_ne (ne_of_none e x)]; simpa using e⟩
  live := fun a l => by
    rcases lv_snoc l with l | rfl
    · exact .inl l
    · exact .inr x
  zz := rfl
  kz := fun a u e _ => by rw [upd_ne (ne_of_none e x)]; exact e
theorem Own.snoc {p a : Addr} {o : O} {ho u : HO} (x : H p = none) (ow : Own H S r a u) : Own (upd H p ho) (S ++ [o]) (put r S.length p) a u :=
  ⟨by rw [upd_ne (ne_of_none ow.1 x)]; exact ow.1, fun l => (lv_snoc l).elim ow.2 fun e => by have q := ow.1; rw [e, x] at q; cases q⟩
theorem Rl.snoc {p : Addr} {o : O} {ho : HO} (x : H p = none) (rl : Rl G H S r) (n : RO G H S r p o ho) : Rl G (upd H p ho) (S ++ [o]) (put r S.length p) where
  at_ := fun i u e d => by
    by_cases hi : i < S.length
    · rw [List.getElem?_append_left hi] at e
      obtain ⟨hu, h1, h2⟩ := rl.at_ i u e d
      exact ⟨hu, by rw [put_ne (Nat.ne_of_lt hi), upd_ne (ne_of_none h1 x)]; exact h1, by rw [put_ne (Nat.ne_of_lt hi)]; exact h2.ev (Ev.snoc x)⟩
    · have := (List.getElem?_eq_some_iff.mp e).1
      simp only [List.length_append, List.length_cons, List.length_nil] at this
      have hi : i = S.length := by omega
      subst hi
      have e : u = o := by simpa using e.symm
      subst e
      exact ⟨ho, by rw [put_same]; exact upd_same, by rw [put_same]; exact n.ev (Ev.snoc x)⟩
  inj := fun i j o1 o2 e1 d1 e2 d2 z => by
    have key : ∀ (k : Nat) (u : O), (S ++ [o])[k]? = some u → u ≠ .dead → (k < S.length ∧ S[k]? = some u) ∨ k = S.length := fun k u e d => by
      by_cases hk : k < S.length
      · rw [List.getElem?_append_left hk] at e; exact .inl ⟨hk, e⟩
      · have := (List.getElem?_eq_some_iff.mp e).1
        simp only [List.length_append, List.length_cons, List.length_nil] at this
        exact .inr (by omega)
    rcases key i o1 e1 d1 with ⟨hi, a1⟩ | hi
    · rcases key j o2 e2 d2 with ⟨hj, a2⟩ | hj
      · rw [put_ne (Nat.ne_of_lt hi), put_ne (Nat.ne_of_lt hj)] at z
        exact rl.inj i j o1 o2 a1 d1 a2 d2 z
      · subst hj
        rw [put_ne (Nat.ne_of_lt hi), put_same] at z
        obtain ⟨hu, h1, _⟩ := rl.at_ i o1 a1 d1
        rw [z, x] at h1; cases h1
    · rcases key j o2 e2 d2 with ⟨hj, a2⟩ | hj
      · subst hi
        rw [put_ne (Nat.ne_of_lt hj), put_same] at z
        obtain ⟨hu, h1, _⟩ := rl.at_ j o2 a2 d2
        rw [← z, x] at h1; cases h1
      · omega
  zs := fun a z => by
    obtain ⟨u, h⟩ := rl.zs a z
    exact ⟨u, by rw [upd_ne (ne_of_none h x)]; exact h⟩
  dz := fun i u e d => by
    by_cases hi : i < S.length
    · rw [List.getElem?_append_left hi] at e
      rw [put_ne (Nat.ne_of_lt hi)]
      exact rl.dz i u e d
    · have := (List.getElem?_eq_some_iff.mp e).1
      simp only [List.length_append, List.length_cons, List.length_nil] at this
      have hi : i = S.length := by omega
      subst hi
      rw [put_same]
      intro z
      obtain ⟨u, h⟩ := rl.zs p z
      rw [x] at h; cases h
  tab := fun q hq => (rl.tab q hq).mo fun _ _ ow => ow.snoc x
  lam := fun li e => (rl.lam li e).mo (fun _ _ ow => ow.snoc x) (fun i hi => put_ne (Nat.ne_of_lt hi)) (by rw [List.length_append]; exact Nat.le_add_right _ _)
/-- a thing of the store changes -/
theorem lv_set {i : Nat} {o u : O} {a : Addr} (e : S[i]? = some u) (d : u ≠ .dead) (l : Lv (S.set i o) r a) : Lv S r a := by
  rcases l with ⟨j, x, e1, d1, z⟩ | z
  case inr => exact .inr z
  by_cases hj : i = j
  · subst hj
    exact .inl ⟨i, u, e, d, z⟩
  · rw [List.getElem?_set_ne hj] at e1
    exact .inl ⟨j, x, e1, d1, z⟩
theorem Ev.set {i : Nat} {o u : O} {ho : HO} (rl : Rl G H S r) (e : S[i]? = some u) (d : u ≠ .dead) : Ev H S r (upd H (r i) ho) (S.set i o) r where
  len := by rw [List.length_set]; exact Nat.le_refl _
  rho := fun _ _ => rfl
  keep := fun a x _ h n => by rw [upd_ne fun z => n (.inl ⟨i, u, e, d, z.symm⟩)]; exact h
  tbs := fun a ps h n => ⟨#[], by rw [upd_ne fun z => n (.inl ⟨i, u, e, d, z.symm⟩)]; simpa using h⟩
  live := fun a l => .inl (lv_set e d l)
  zz := rfl
  kz := fun a x h z => by rw [upd_ne fun q => rl.dz i u e d (by rw [← q]; exact z)]; exact h
theorem Own.set {i : Nat} {a : Addr} {o u : O} {ho v : HO} (e : S[i]? = some u) (d : u ≠ .dead) (ow : Own H S r a v) : Own (upd H (r i) ho) (S.set i o) r a v :=
  ⟨by rw [upd_ne fun z => ow.2 (.inl ⟨i, u, e, d, z.symm⟩)]; exact ow.1, fun l => ow.2 (lv_set e d l)⟩
theorem Rl.set {i : Nat} {o u : O} {ho : HO} (rl : Rl G H S r) (e : S[i]? = some u) (d : u ≠ .dead) (n : RO G H S r (r i) o ho) : Rl G (upd H (r i) ho) (S.set i o) r where
  at_ := fun j x e1 d1 => by
    by_cases hj : i = j
    · subst hj
      have hl : i < S.length := (List.getElem?_eq_some_iff.mp e).1
      rw [List.getElem?_set_self hl] at e1
      cases e1
      exact ⟨ho, upd_same, n.ev (Ev.set rl e d)⟩
    · rw [List.getElem?_set_ne hj] at e1
      obtain ⟨hx, h1, h2⟩ := rl.at_ j x e1 d1
      exact ⟨hx, by rw [upd_ne fun z => hj (rl.inj i j u x e d e1 d1 z.symm)]; exact h1, h2.ev (Ev.set rl e d)⟩
  inj := fun j k o1 o2 e1 d1 e2 d2 z => by
    have key : ∀ (k : Nat) (y : O), (S.set i o)[k]? = some y → y ≠ .dead → ∃ y', S[k]? = some y' ∧ y' ≠ .dead := fun k y q dq => by
      by_cases hk : i = k
      · subst hk; exact ⟨u, e, d⟩
      · rw [List.getElem?_set_ne hk] at q; exact ⟨y, q, dq⟩
    obtain ⟨y1, a1, b1⟩ := key j o1 e1 d1
    obtain ⟨y2, a2, b2⟩ := key k o2 e2 d2
    exact rl.inj j k y1 y2 a1 b1 a2 b2 z
  zs := fun a z => by
    obtain ⟨u, h⟩ := rl.zs a z
    by_cases q : a = r i
    · subst q; exact ⟨_, upd_same⟩
    · exact ⟨u, by rw [upd_ne q]; exact h⟩
  dz := fun k y q dq => by
    by_cases hk : i = k
    · subst hk; exact rl.dz i u e d
    · rw [List.getElem?_set_ne hk] at q; exact rl.dz k y q dq
  tab := fun q hq => (rl.tab q hq).mo fun _ _ ow => ow.set e d
  lam := fun li h => (rl.lam li h).mo (fun _ _ ow => ow.set e d) (fun _ _ => rfl) (by rw [List.length_set]; exact Nat.le_refl _)
end
/-! ### cutting the store, and freezing -/
section
variable {G : Gx} {H H' : Hp} {S S' : Sto} {r r' : Rh}
mutual
theorem RW.low {w : W} {v : V} : RW G H S r w v → lowW S.length w = true
  | .non => by simp [lowW]
  | .bl b => by simp [lowW]
  | .int i => by simp [lowW]
  | .str x => by simp [lowW]
  | .ref h => by simp [lowW, h]
  | .tup _ q => by simp only [lowW]; exact RWs.low q
  | .lst _ q => by simp only [lowW]; exact RWs.low q
  | .scr _ q => by simp only [lowW]; exact RWs.low q
  | .dic _ _ q => by simp only [lowW]; exact RWs.low q
  | .dn _ _ q q2 => by simp only [lowW, Bool.and_eq_true]; exact ⟨RWs.low q, RWs.low q2⟩
  | .obj _ _ q => by simp only [lowW]; exact RWs.low q
  | .cls c => by simp [lowW]
  | .ty n => by simp [lowW]
  | .lam _ => by simp [lowW]
  | .exn _ _ _ _ q => by simp only [lowW]; exact RWs.low q
theorem RWs.low {w : List W} {v : List V} : RWs G H S r w v → lowL S.length w = true
  | .nil => by simp [lowL]
  | .cons a b => by simp only [lowL, Bool.and_eq_true]; exact ⟨RW.low a, RWs.low b⟩
end
theorem Lv.cut {n : Nat} {a : Addr} (l : Lv (S.take n) r a) : Lv S r a := by
  rcases l with ⟨i, o, e, d, z⟩ | z
  case inr => exact .inr z
  rw [List.getElem?_take] at e
  split at e
  · exact .inl ⟨i, o, e, d, z⟩
  · cases e
theorem Own.cut {n : Nat} {a : Addr} {u : HO} (o : Own H S r a u) : Own H (S.take n) r a u := ⟨o.1, fun l => o.2 l.cut⟩
theorem TupAt.cut {n : Nat} {a : Addr} {vs : List V} (o : TupAt G H S r a vs) : TupAt G H (S.take n) r a vs := o.elim (fun o => .inl o.cut) .inr
theorem ScrAt.cut {n : Nat} {a : Addr} {vs : List V} (o : ScrAt G H S r a vs) : ScrAt G H (S.take n) r a vs := o.elim (fun ⟨z, o⟩ => .inl ⟨z, o.cut⟩) fun o => o.elim (fun o => .inr (.inl o.cut)) fun o => .inr (.inr o)
mutual
theorem RW.cut {n : Nat} {w : W} {v : V} (hn : n ≤ S.length) : RW G H S r w v → lowW n w = true → RW G H (S.take n) r w v
  | .non, _ => .non
  | .bl b, _ => .bl b
  | .int i, _ => .int i
  | .str x, _ => .str x
  | .ref h, l => .ref (by rw [List.length_take]; simp only [lowW, decide_eq_true_eq] at l; omega)
  | .tup h q, l => .tup h.cut (RWs.cut hn q (by simpa only [lowW] using l))
  | .lst h q, l => .lst h.cut (RWs.cut hn q (by simpa only [lowW] using l))
  | .scr h q, l => .scr h.cut (RWs.cut hn q (by simpa only [lowW] using l))
  | .dic h e q, l => .dic h.cut e (RWs.cut hn q (by simpa only [lowW] using l))
  | .dn h e q q2, l => by
    simp only [lowW, Bool.and_eq_true] at l
    exact .dn h.cut e (RWs.cut hn q l.1) (RWs.cut hn q2 l.2)
  | .obj h e q, l => .obj h.cut e (RWs.cut hn q (by simpa only [lowW] using l))
  | .cls c, _ => .cls c
  | .ty n, _ => .ty n
  | .lam h, _ => .lam h
  | .exn h1 h2 h3 h4 q, l => .exn h1.cut h2 h3 (h4.imp id fun ⟨dx, e1, o, l⟩ => ⟨dx, e1, o.cut, l⟩) (RWs.cut hn q (by simpa only [lowW] using l))
theorem RWs.cut {n : Nat} {w : List W} {v : List V} (hn : n ≤ S.length) : RWs G H S r w v → lowL n w = true → RWs G H (S.take n) r w v
  | .nil, _ => .nil
  | .cons a b, l => by
    simp only [lowL, Bool.and_eq_true] at l
    exact .cons (RW.cut hn a l.1) (RWs.cut hn b l.2)
end
theorem RO.cut {n : Nat} {a : Addr} {o : O} {ho : HO} (hn : n ≤ S.length) (q : RO G H S r a o ho) (l : lowO n o = true) : RO G H (S.take n) r a o ho := by
  cases q with
  | lst q => exact .lst (q.cut hn l)
  | dic e q => exact .dic e (q.cut hn l)
  | dn e q q2 =>
    simp only [lowO, Bool.and_eq_true] at l
    exact .dn e (q.cut hn l.1) (q2.cut hn l.2)
  | ins e q => exact .ins e (q.cut hn l)
theorem Rl.cut {n : Nat} (rl : Rl G H S r) (hn : n ≤ S.length) (l : ∀ i o, i < n → S[i]? = some o → lowO n o = true) : Rl G H (S.take n) r where
  at_ := fun i o e d => by
    rw [List.getElem?_take] at e
    split at e
    · rename_i hi
      obtain ⟨ho, h1, h2⟩ := rl.at_ i o e d
      exact ⟨ho, h1, h2.cut hn (l i o hi e)⟩
    · cases e
  inj := fun i j o u e1 d1 e2 d2 z => by
    rw [List.getElem?_take] at e1 e2
    split at e1
    · split at e2
      · exact rl.inj i j o u e1 d1 e2 d2 z
      · cases e2
    · cases e1
  zs := rl.zs
  dz := fun i o e d => by
    rw [List.getElem?_take] at e
    split at e
    · exact rl.dz i o e d
    · cases e
  tab := fun q hq => (rl.tab q hq).mo fun _ _ ow => ow.cut
  lam := fun li h => let t := rl.lam li h; ⟨fun p hp => (t.1 p hp).cut, fun p hp => ⟨(t.2.1 p hp).1, (t.2.1 p hp).2.cut⟩, t.2.2.1.cut hn (t.2.2.2 n), t.2.2.2⟩
theorem Ev.cut {n : Nat} (e : Ev H S r H' S' r') (h1 : S.length ≤ n) (h2 : n ≤ S'.length) : Ev H S r H' (S'.take n) r' where
  len := by rw [List.length_take]; omega
  rho := e.rho
  keep := e.keep
  tbs := e.tbs
  live := fun a l => e.live a l.cut
  zz := e.zz
  kz := e.kz
theorem RO.low {a : Addr} {o : O} {ho : HO} (q : RO G H S r a o ho) : lowO S.length o = true := by
  cases q with
  | lst q => exact q.low
  | dic e q => exact q.low
  | dn e q q2 => simp only [lowO, Bool.and_eq_true]; exact ⟨q.low, q2.low⟩
  | ins e q => exact q.low
theorem Rl.low {i : Nat} {o : O} (rl : Rl G H S r) (e : S[i]? = some o) : lowO S.length o = true := by
  by_cases d : o = .dead
  · subst d; rfl
  · obtain ⟨ho, _, h2⟩ := rl.at_ i o e d
    exact h2.low
/-- a thing of the store is from now on held as a value -/
theorem lv_dead {i : Nat} {a : Addr} (l : Lv (S.set i .dead) r a) : Lv S r a ∧ ((∃ j o, j ≠ i ∧ S[j]? = some o ∧ o ≠ .dead ∧ r j = a) ∨ r.z a) := by
  rcases l with ⟨j, x, e1, d1, z⟩ | z
  case inr => exact ⟨.inr z, .inr z⟩
  by_cases hj : i = j
  · subst hj
    have hl : i < (S.set i O.dead).length := (List.getElem?_eq_some_iff.mp e1).1
    rw [List.length_set] at hl
    rw [List.getElem?_set_self hl] at e1
    cases e1
    exact absurd rfl d1
  · rw [List.getElem?_set_ne hj] at e1
    exact ⟨.inl ⟨j, x, e1, d1, z⟩, .inl ⟨j, x, fun q => hj q.symm, e1, d1, z⟩⟩
theorem Ev.kill {i : Nat} : Ev H S r H (S.set i .dead) r where
  len := by rw [List.length_set]; exact Nat.le_refl _
  rho := fun _ _ => rfl
  keep := fun a x _ h n => h
  tbs := fun a ps h _ => ⟨#[], by simpa using h⟩
  live := fun a l => .inl (lv_dead l).1
  zz := rfl
  kz := fun a x h _ => h
theorem Own.kill {i : Nat} {a : Addr} {u : HO} (ow : Own H S r a u) : Own H (S.set i .dead) r a u := ⟨ow.1, fun l => ow.2 (lv_dead l).1⟩
theorem Rl.kill {i : Nat} (rl : Rl G H S r) : Rl G H (S.set i .dead) r where
  at_ := fun j x e1 d1 => by
    by_cases hj : i = j
    · subst hj
      have hl : i < (S.set i O.dead).length := (List.getElem?_eq_some_iff.mp e1).1
      rw [List.length_set] at hl
      rw [List.getElem?_set_self hl] at e1
      cases e1
      exact absurd rfl d1
    · rw [List.getElem?_set_ne hj] at e1
      obtain ⟨hx, h1, h2⟩ := rl.at_ j x e1 d1
      exact ⟨hx, h1, h2.ev Ev.kill⟩
  inj := fun j k o1 o2 e1 d1 e2 d2 z => by
    have key : ∀ (k : Nat) (y : O), (S.set i .dead)[k]? = some y → y ≠ .dead → S[k]? = some y := fun k y q dq => by
      by_cases hk : i = k
      · subst hk
        have hl : i < (S.set i O.dead).length := (List.getElem?_eq_some_iff.mp q).1
        rw [List.length_set] at hl
        rw [List.getElem?_set_self hl] at q
        cases q
        exact absurd rfl dq
      · rw [List.getElem?_set_ne hk] at q; exact q
    exact rl.inj j k o1 o2 (key j o1 e1 d1) d1 (key k o2 e2 d2) d2 z
  zs := rl.zs
  dz := fun k y q dq => by
    by_cases hk : i = k
    · subst hk
      have hl : i < (S.set i O.dead).length := (List.getElem?_eq_some_iff.mp q).1
      rw [List.length_set] at hl
      rw [List.getElem?_set_self hl] at q
      cases q
      exact absurd rfl dq
    · rw [List.getElem?_set_ne hk] at q; exact rl.dz k y q dq
  tab := fun q hq => (rl.tab q hq).mo fun _ _ ow => ow.kill
  lam := fun li h => (rl.lam li h).mo (fun _ _ ow => ow.kill) (fun _ _ => rfl) (by rw [List.length_set]; exact Nat.le_refl _)
theorem Rl.own {i : Nat} {o : O} {ho : HO} (rl : Rl G H S r) (e : S[i]? = some o) (d : o ≠ .dead) (h : H (r i) = some ho) : Own H (S.set i .dead) r (r i) ho :=
  ⟨h, fun l => by
    obtain ⟨_, ⟨j, x, hj, e1, d1, z⟩ | z⟩ := lv_dead l
    · exact hj (rl.inj j i x o e1 d1 e d z)
    · exact rl.dz i o e d z⟩
/-! ### things in the making -/
def Rh.add (r : Rh) (D : Addr) : Rh := ⟨r.f, fun a => r.z a ∨ a = D⟩
theorem Rl.add {D : Addr} {o : HO} (rl : Rl G H S r) (x : H D = none) : Rl G (upd H D o) S (r.add D) := by
  have mo : ∀ a u, Own H S r a u → Own (upd H D o) S (r.add D) a u := fun a u ow => ⟨by rw [upd_ne (ne_of_none ow.1 x)]; exact ow.1, by
    rintro (⟨i, o, e, d, z⟩ | z | z)
    · exact ow.2 (.inl ⟨i, o, e, d, z⟩)
    · exact ow.2 (.inr z)
    · exact ne_of_none ow.1 x z⟩
  have m : Mp H S r (upd H D o) S (r.add D) := ⟨fun a u ow _ => mo a u ow, fun _ _ => rfl, Nat.le_refl _⟩
  refine ⟨fun i u e d => ?_, rl.inj, fun a z => ?_, fun i u e d => ?_, fun q hq => (rl.tab q hq).mo mo, fun li h => (rl.lam li h).mo mo (fun _ _ => rfl) (Nat.le_refl _)⟩
  · obtain ⟨ho, h1, h2⟩ := rl.at_ i u e d
    exact ⟨ho, by rw [show (r.add D) i = r i from rfl, upd_ne (ne_of_none h1 x)]; exact h1, h2.mp m⟩
  · by_cases q : a = D
    · subst q; exact ⟨_, upd_same⟩
    · rcases z with z | z
      · obtain ⟨u, h⟩ := rl.zs a z
        exact ⟨u, by rw [upd_ne q]; exact h⟩
      · exact absurd z q
  · rintro (z | z)
    · exact rl.dz i u e d z
    · obtain ⟨ho, h1, h2⟩ := rl.at_ i u e d
      rw [show r.f i = D from z, x] at h1; cases h1
end
end DD
namespace DD
open PySem PySem.Spec PyProof.Rows L2
abbrev Lo := List (Option W)
/-- what an expression comes to -/
inductive R (α : Type) where
  | ok (a : α) (S : Sto)
  | er (c : Nat) (ns : List Str) (ws : List W) (S : Sto)
  | no
def R.bind {α β : Type} (x : R α) (f : α → Sto → R β) : R β :=
  match x with
  | .ok a S => f a S
  | .er c ns ws S => .er c ns ws S
  | .no => .no
@[simp] theorem R.bind_ok {α β : Type} (a : α) (S : Sto) (f : α → Sto → R β) : (R.ok a S).bind f = f a S := rfl
@[simp] theorem R.bind_er {α β : Type} (c : Nat) (ns : List Str) (ws : List W) (S : Sto) (f : α → Sto → R β) : (R.er c ns ws S : R α).bind f = .er c ns ws S := rfl
@[simp] theorem R.bind_no {α β : Type} (f : α → Sto → R β) : (R.no : R α).bind f = .no := rfl
/-- what a statement comes to -/
inductive F where
  | nx (t : Lo) (S : Sto) | rt (w : W) (S : Sto) | bk (t : Lo) (S : Sto) | ct (t : Lo) (S : Sto)
  | er (c : Nat) (ns : List Str) (ws : List W) (t : Lo) (S : Sto)
  | no
abbrev DX := Lo → Sto → R W
abbrev DT := Lo → Sto → R Bool
abbrev DA := Lo → Sto → R (List W)
abbrev DS := Lo → Sto → F
abbrev DG := W → Lo → Sto → R Lo
section
variable (G : Gx) (xv : Nat → Value)
/-- the slots -/
inductive RLo (H : Hp) (S : Sto) (r : Rh) : Lo → L2.St → Prop
  | nil : RLo H S r [] []
  | non {o : Option V} {t : Lo} {s : L2.St} : RLo H S r t s → RLo H S r (none :: t) (o :: s)
  | som {w : W} {v : V} {t : Lo} {s : L2.St} : RW G H S r w v → RLo H S r t s → RLo H S r (some w :: t) (some v :: s)
/-- an exception's own dict -/
def Xd (H : Hp) (S : Sto) (r : Rh) (d : Option Addr) (ns : List Str) (ws : List W) : Prop :=
  (ns = [] ∧ ws = [] ∧ d = none) ∨ ∃ a vs, d = some a ∧ Own H S r a (.xd (ns.zip vs)) ∧ ns.length = ws.length ∧ RWs G H S r ws vs
end
section
variable (G : Gx) (xv : Nat → Value) (Wx : WX)
/-- how an expression's end is wanted -/
def OutE {α β : Type} (rel : Hp → Sto → Rh → α → β → Prop) (s : L2.St) (H : Hp) (S : Sto) (r : Rh) (x : R α) (Q : β → Hp → Prop) : Prop :=
  match x with
  | .ok w S' => ∀ r' H' v, Ev H S r H' S' r' → Rl G H' S' r' → rel H' S' r' w v → Q v H'
  | .er c ns ws S' => ∀ r' H' d, Ev H S r H' S' r' → Rl G H' S' r' → Xd G H' S' r' d ns ws → Wx (xv c) d s H'
  | .no => False
def toX {α β : Type} (rel : Hp → Sto → Rh → α → β → Prop) (d : Lo → Sto → R α) : L2.St → Hp → (β → Hp → Prop) → Prop := fun s H Q =>
  ∃ r t S, RLo G H S r t s ∧ Rl G H S r ∧ OutE G xv Wx rel s H S r (d t S) Q
abbrev toE (d : DX) : TE := toX G xv Wx (fun H S r w v => RW G H S r w v) d
abbrev toT (d : DT) : TT := toX G xv Wx (fun _ _ _ (w : Bool) v => w = v) d
abbrev toA (d : DA) : TA := toX G xv Wx (fun H S r w v => RWs G H S r w v) d
/-- how a statement's end is wanted -/
def OutS (H : Hp) (S : Sto) (r : Rh) (x : F) (D : Ends) : Prop :=
  match x with
  | .nx t S' => ∀ r' H' s, Ev H S r H' S' r' → Rl G H' S' r' → RLo G H' S' r' t s → D.nx s H'
  | .bk t S' => ∀ r' H' s, Ev H S r H' S' r' → Rl G H' S' r' → RLo G H' S' r' t s → D.bk s H'
  | .ct t S' => ∀ r' H' s, Ev H S r H' S' r' → Rl G H' S' r' → RLo G H' S' r' t s → D.ct s H'
  | .rt w S' => ∀ r' H' v, Ev H S r H' S' r' → Rl G H' S' r' → RW G H' S' r' w v → D.rt v H'
  | .er c ns ws t S' => ∀ r' H' s d, Ev H S r H' S' r' → Rl G H' S' r' → RLo G H' S' r' t s → Xd G H' S' r' d ns ws → Wx (xv c) d s H'
  | .no => False
def toS (d : DS) : TS := fun D s H => ∃ r t S, RLo G H S r t s ∧ Rl G H S r ∧ OutS G xv Wx H S r (d t S) D
def toG (d : DG) : TG := fun v s H Q => ∃ r t S w, RLo G H S r t s ∧ Rl G H S r ∧ RW G H S r w v ∧ OutE G xv (fun _ _ _ _ => False) (fun H' S' r' t' s' => RLo G H' S' r' t' s') s H S r (d w t S) Q
end
/-- what stands around a piece of a def -/
structure Cok (G : Gx) (X : Cx) (Wx : WX) : Prop where
  kk : X.K = G.K
  ww : X.w = G.w
  tk : Takes X Wx
  po : PassesOwn (model X.prog X.w) X.A X.env X.xe
  calm : X.calm = true
  nd : X.N.Nodup
section
variable {G : Gx} {xv : Nat → Value} {Wx : WX} {X : Cx} {H H' : Hp} {S S' : Sto} {r r' : Rh}
theorem RLo.mp : ∀ {t : Lo} {s : L2.St}, RLo G H S r t s → Mp H S r H' S' r' → RLo G H' S' r' t s
  | _, _, .nil, _ => .nil
  | _, _, .non q, e => .non (q.mp e)
  | _, _, .som a q, e => .som (a.mp e) (q.mp e)
theorem RLo.ev {t : Lo} {s : L2.St} (q : RLo G H S r t s) (e : Ev H S r H' S' r') : RLo G H' S' r' t s := q.mp e.mp
theorem RLo.get : ∀ {t : Lo} {s : L2.St} {i : Nat} {w : W}, RLo G H S r t s → t[i]? = some (some w) → ∃ v, s[i]? = some (some v) ∧ RW G H S r w v
  | _, _, _, _, .nil, e => by simp at e
  | _, _, 0, _, .non _, e => by simp at e
  | _, _, 0, _, .som a _, e => by simp at e; subst e; exact ⟨_, rfl, a⟩
  | _, _, i + 1, w, .non q, e => by
    obtain ⟨v, h1, h2⟩ := RLo.get (i := i) (w := w) q (by simpa using e)
    exact ⟨v, by simpa using h1, h2⟩
  | _, _, i + 1, w, .som _ q, e => by
    obtain ⟨v, h1, h2⟩ := RLo.get (i := i) (w := w) q (by simpa using e)
    exact ⟨v, by simpa using h1, h2⟩
theorem RLo.set {w : W} {v : V} (a : RW G H S r w v) : ∀ {t : Lo} {s : L2.St} (i : Nat), RLo G H S r t s → RLo G H S r (t.set i (some w)) (s.set i (some v))
  | _, _, _, .nil => .nil
  | _, _, 0, .non q => .som a q
  | _, _, 0, .som _ q => .som a q
  | _, _, i + 1, .non q => .non (q.set a i)
  | _, _, i + 1, .som b q => .som b (q.set a i)
theorem RLo.vals : ∀ {ws : List W} {vs : List V} (n : Nat), RWs G H S r ws vs → RLo G H S r (ws.map some ++ List.replicate n none) (vs.map some ++ List.replicate n none)
  | _, _, 0, .nil => .nil
  | _, _, n + 1, .nil => .non (RLo.vals n .nil)
  | _, _, n, .cons a q => .som a (RLo.vals n q)
theorem Xd.ev {d : Option Addr} {ns : List Str} {ws : List W} (x : Xd G H S r d ns ws) (e : Ev H S r H' S' r') : Xd G H' S' r' d ns ws := by
  rcases x with x | ⟨a, vs, h1, h2, h3, h4⟩
  · exact .inl x
  · exact .inr ⟨a, vs, h1, h2.ev e, h3, h4.ev e⟩
/-- the end of a part is the end of the whole -/
theorem OutE.from {α β : Type} {rel : Hp → Sto → Rh → α → β → Prop} {s : L2.St} {x : R α} {Q : β → Hp → Prop} (e : Ev H S r H' S' r') (o : OutE G xv Wx rel s H S r x Q) : OutE G xv Wx rel s H' S' r' x Q := by
  cases x with
  | ok a S1 => exact fun r1 H1 v e1 l q => o r1 H1 v (e.trans e1) l q
  | er c ns ws S1 => exact fun r1 H1 d e1 l q => o r1 H1 d (e.trans e1) l q
  | no => exact o
theorem OutS.from {x : F} {D : Ends} (e : Ev H S r H' S' r') (o : OutS G xv Wx H S r x D) : OutS G xv Wx H' S' r' x D := by
  cases x with
  | nx t S1 => exact fun r1 H1 v e1 l q => o r1 H1 v (e.trans e1) l q
  | bk t S1 => exact fun r1 H1 v e1 l q => o r1 H1 v (e.trans e1) l q
  | ct t S1 => exact fun r1 H1 v e1 l q => o r1 H1 v (e.trans e1) l q
  | rt t S1 => exact fun r1 H1 v e1 l q => o r1 H1 v (e.trans e1) l q
  | er c ns ws t S1 => exact fun r1 H1 s d e1 l q x => o r1 H1 s d (e.trans e1) l q x
  | no => exact o
/-- a part, then the rest -/
theorem toX.bind {α β γ δ : Type} {rel : Hp → Sto → Rh → α → β → Prop} {rel' : Hp → Sto → Rh → γ → δ → Prop} {d : Lo → Sto → R α} {f : α → Sto → R γ} {t : Lo} {s : L2.St} {Q : β → Hp → Prop} {Q' : δ → Hp → Prop}
    (l : RLo G H S r t s) (rl : Rl G H S r) (o : OutE G xv Wx rel' s H S r ((d t S).bind f) Q')
    (h : ∀ a S' r' H' b, d t S = .ok a S' → Ev H S r H' S' r' → Rl G H' S' r' → RLo G H' S' r' t s → rel H' S' r' a b → OutE G xv Wx rel' s H' S' r' (f a S') Q' → Q b H') : toX G xv Wx rel d s H Q := by
  refine ⟨r, t, S, l, rl, ?_⟩
  cases e : d t S with
  | ok a S1 =>
    rw [e, R.bind_ok] at o
    exact fun r1 H1 v e1 l1 q => h a S1 r1 H1 v e e1 l1 (l.ev e1) q (o.from e1)
  | er c ns ws S1 =>
    rw [e] at o
    exact o
  | no =>
    rw [e] at o
    exact o
theorem PEi {e : Expr} {t t' : TE} (h : PE X e t) (i : ∀ s H Q, t' s H Q → t s H Q) : PE X e t' := ⟨fun pins s σ H Q I q => h.run pins s σ H Q I (i _ _ _ q)⟩
theorem PTi {e : Expr} {t t' : TT} (h : PT X e t) (i : ∀ s H Q, t' s H Q → t s H Q) : PT X e t' := ⟨fun pins s σ H Q I q => h.run pins s σ H Q I (i _ _ _ q)⟩
theorem PWi {e : Expr} {t t' : TT} (h : PW X e t) (i : ∀ s H Q, t' s H Q → t s H Q) : PW X e t' := ⟨fun w pins s σ H Q I q => h.run w pins s σ H Q I (i _ _ _ q)⟩
theorem PAi {e : List Expr} {t t' : TA} (h : PA X e t) (i : ∀ s H Q, t' s H Q → t s H Q) : PA X e t' := ⟨fun w pins s σ H Q I q => h.run w pins s σ H Q I (i _ _ _ q)⟩
theorem PSi {e : Stmt} {t t' : TS} (h : PS X e t) (i : ∀ D s H, t' D s H → t D s H) : PS X e t' := ⟨fun pins s σ H Q I q => h.run pins s σ H Q I (i _ _ _ q)⟩
theorem PSsi {e : List Stmt} {t t' : TS} (h : PSs X e t) (i : ∀ D s H, t' D s H → t D s H) : PSs X e t' := ⟨fun pins s σ H Q I q => h.run pins s σ H Q I (i _ _ _ q)⟩
/-! ### expressions -/
def dVar (i : Nat) : DX := fun t S => match t[i]? with
  | some (some w) => .ok w S
  | _ => .no
def dC (w : W) : DX := fun _ S => .ok w S
theorem de_var {x : Str} {pos : Pos} (i : Nat) (hN : X.N[i]? = some x := by rfl) (hv : Vis X.env.scope x := by first | exact Or.inl rfl | exact Or.inr (Or.inl rfl) | exact Or.inr (Or.inr rfl)) (hd : (x == ("__debug__" : Str)) = false := by decide) (hcd : (x == ("__classdict__" : Str)) = false := by decide) :
    PE X (.Name x pos) (toE G xv Wx (dVar i)) := PEi (pe_var (i := i) hN hv hd hcd) fun s H Q ⟨r, t, S, l, rl, o⟩ => by
  unfold dVar at o
  cases e : t[i]? with
  | none => rw [e] at o; exact o.elim
  | some w =>
    cases w with
    | none => rw [e] at o; exact o.elim
    | some w =>
      rw [e] at o
      obtain ⟨v, h1, h2⟩ := l.get e
      exact ⟨v, h1, o r H v .refl rl h2⟩
theorem toC {w : W} {v : V} (h : ∀ H S r, RW G H S r w v) : ∀ s H Q, toE G xv Wx (dC w) s H Q → tC v s H Q := fun s H Q ⟨r, t, S, l, rl, o⟩ => o r H v .refl rl (h H S r)
theorem de_int {i j pos} : PE X (.Constant (.int i) j pos) (toE G xv Wx (dC (.int i))) := PEi pe_int (toC fun _ _ _ => .int i)
theorem de_bl {i j pos} : PE X (.Constant (.bool i) j pos) (toE G xv Wx (dC (.bl i))) := PEi pe_bl (toC fun _ _ _ => .bl i)
theorem de_str {i j pos} : PE X (.Constant (.str i) j pos) (toE G xv Wx (dC (.str i))) := PEi pe_str (toC fun _ _ _ => .str i)
theorem de_gcls {x : Str} {c : Nat} {pos : Pos} (hm : X.mg x = some (.ref (G.cm c))) (hg : Gl X x := by rfl) (hd : (x == ("__debug__" : Str)) = false := by decide) : PE X (.Name x pos) (toE G xv Wx (dC (.cls c))) :=
  PEi (pe_glob (v := .ref (G.cm c)) hg hm rfl hd) (toC fun _ _ _ => .cls c)
/-- two places -/
abbrev D2 := W → W → Sto → R W
def toR2 (G : Gx) (xv : Nat → Value) (f : D2) : R2 := fun x y H Q => ∃ r S a b, Rl G H S r ∧ RW G H S r a x ∧ RW G H S r b y ∧ OutE G xv (fun _ _ _ _ => False) (fun H S r w v => RW G H S r w v) [] H S r (f a b S) Q
def dOp (f : D2) (da db : DX) : DX := fun t S => (da t S).bind fun a S1 => (db t S1).bind fun b S2 => match f a b S2 with
  | .ok w S3 => .ok w S3
  | _ => .no
theorem toOp {f : D2} {da db : DX} (s : L2.St) (H : Hp) (Q : VK) : toE G xv Wx (dOp f da db) s H Q → tOp (toR2 G xv f) (toE G xv Wx da) (toE G xv Wx db) s H Q := by
  rintro ⟨r, t, S, l, rl, o⟩
  refine toX.bind l rl o fun a S1 r1 H1 x _ e1 rl1 l1 qa o1 => ?_
  refine toX.bind l1 rl1 o1 fun b S2 r2 H2 y _ e2 rl2 l2 qb o2 => ?_
  refine ⟨r2, S2, a, b, rl2, qa.ev e2, qb, ?_⟩
  cases e : f a b S2 with
  | ok w S3 => rw [e] at o2; exact o2
  | er c ns ws S3 => rw [e] at o2; exact o2.elim
  | no => rw [e] at o2; exact o2.elim
theorem de_op {a b : Expr} {op : Operator} {f : D2} {da db : DX} {pos : Pos} (ho : OpR X (binaryOp op) (toR2 G xv f)) (ha : PE X a (toE G xv Wx da)) (hb : PE X b (toE G xv Wx db)) : PE X (.BinOp a op b pos) (toE G xv Wx (dOp f da db)) :=
  PEi (pe_op ho ha hb) toOp
theorem de_cmp {a b : Expr} {op : CmpOp} {f : D2} {da db : DX} {pos : Pos} (ho : OpR X (compareOp op) (toR2 G xv f)) (ha : PE X a (toE G xv Wx da)) (hb : PE X b (toE G xv Wx db)) (hm : behindInMarks op b = false := by first | exact nomark _ | rfl) : PE X (.Compare a [op] [b] pos) (toE G xv Wx (dOp f da db)) :=
  PEi (pe_cmpR ho ha hb hm) toOp
def dTest (d : DX) : DT := fun t S => match d t S with
  | .ok (.bl b) S1 => .ok b S1
  | .er c ns ws S1 => .er c ns ws S1
  | _ => .no
theorem toTest {d : DX} {te : TE} (h : ∀ s H Q, toE G xv Wx d s H Q → te s H Q) (s : L2.St) (H : Hp) (Q : Bool → Hp → Prop) : toT G xv Wx (dTest d) s H Q → tTest te s H Q := by
  rintro ⟨r, t, S, l, rl, o⟩
  refine h s H _ ⟨r, t, S, l, rl, ?_⟩
  unfold dTest at o
  cases e : d t S with
  | ok w S1 =>
    rw [e] at o
    cases w with
    | bl b =>
      intro r1 H1 v e1 rl1 q
      cases q
      exact ⟨b, rfl, o r1 H1 b e1 rl1 rfl⟩
    | _ => exact o.elim
  | er c ns ws S1 => rw [e] at o; exact o
  | no => rw [e] at o; exact o.elim
theorem dt_cmp {a b : Expr} {op : CmpOp} {f : D2} {da db : DX} {pos : Pos} (ho : OpR X (compareOp op) (toR2 G xv f)) (ha : PE X a (toE G xv Wx da)) (hb : PE X b (toE G xv Wx db)) (hm : behindInMarks op b = false := by first | exact nomark _ | rfl) : PT X (.Compare a [op] [b] pos) (toT G xv Wx (dTest (dOp f da db))) :=
  PTi (pt_cmpR ho ha hb hm) (toTest toOp)
/-- a chain of two comparisons -/
def dChain (f g : D2) (da db dc : DX) : DX := fun t S => (da t S).bind fun a S1 => (db t S1).bind fun b S2 => match f a b S2 with
  | .ok (.bl true) S3 => (dc t S3).bind fun c S4 => match g b c S4 with
    | .ok w S5 => .ok w S5
    | _ => .no
  | .ok (.bl false) S3 => .ok (.bl false) S3
  | _ => .no
/-- tests joined -/
def dtAnd (a b : DT) : DT := fun t S => (a t S).bind fun k S1 => if k = true then b t S1 else .ok false S1
def dtOr (a b : DT) : DT := fun t S => (a t S).bind fun k S1 => if k = true then .ok true S1 else b t S1
def dtNot (a : DT) : DT := fun t S => (a t S).bind fun k S1 => .ok (!k) S1
theorem dt_not {a : Expr} {d : DT} {pos : Pos} (ha : PT X a (toT G xv Wx d)) : PT X (.UnaryOp .Not a pos) (toT G xv Wx (dtNot d)) := PTi (pt_not ha) fun s H Q ⟨r, t, S, l, rl, o⟩ =>
  toX.bind l rl o fun k S1 r1 H1 b _ e1 rl1 l1 q o1 => by subst q; exact o1 r1 H1 (!k) .refl rl1 rfl
theorem dw_and1 {a : Expr} {d : DT} {pos : Pos} (ha : PT X a (toT G xv Wx d)) : PW X (.BoolOp .And [a] pos) (toT G xv Wx d) := pw_and1 ha
theorem dw_or1 {a : Expr} {d : DT} {pos : Pos} (ha : PT X a (toT G xv Wx d)) : PW X (.BoolOp .Or [a] pos) (toT G xv Wx d) := pw_or1 ha
theorem dw_and {a b : Expr} {rest : List Expr} {d e : DT} {pos : Pos} (ha : PT X a (toT G xv Wx d)) (hb : PW X (.BoolOp .And (b :: rest) pos) (toT G xv Wx e)) : PW X (.BoolOp .And (a :: b :: rest) pos) (toT G xv Wx (dtAnd d e)) := PWi (pw_and ha hb) fun s H Q ⟨r, t, S, l, rl, o⟩ =>
  toX.bind l rl o fun k S1 r1 H1 b _ e1 rl1 l1 q o1 => by
    subst q
    cases k with
    | true => exact ⟨r1, t, S1, l1, rl1, o1⟩
    | false => exact o1 r1 H1 false .refl rl1 rfl
theorem dw_or {a b : Expr} {rest : List Expr} {d e : DT} {pos : Pos} (ha : PT X a (toT G xv Wx d)) (hb : PW X (.BoolOp .Or (b :: rest) pos) (toT G xv Wx e)) : PW X (.BoolOp .Or (a :: b :: rest) pos) (toT G xv Wx (dtOr d e)) := PWi (pw_or ha hb) fun s H Q ⟨r, t, S, l, rl, o⟩ =>
  toX.bind l rl o fun k S1 r1 H1 b _ e1 rl1 l1 q o1 => by
    subst q
    cases k with
    | true => exact o1 r1 H1 true .refl rl1 rfl
    | false => exact ⟨r1, t, S1, l1, rl1, o1⟩
def dIf (c : DT) (a b : DX) : DX := fun t S => (c t S).bind fun k S1 => if k = true then a t S1 else b t S1
theorem de_if {c a b : Expr} {dc : DT} {da db : DX} {pos : Pos} (hc : PT X c (toT G xv Wx dc)) (ha : PE X a (toE G xv Wx da)) (hb : PE X b (toE G xv Wx db)) : PE X (.IfExp c a b pos) (toE G xv Wx (dIf dc da db)) := PEi (pe_ifExp hc ha hb) fun s H Q ⟨r, t, S, l, rl, o⟩ =>
  toX.bind l rl o fun k S1 r1 H1 b _ e1 rl1 l1 q o1 => by
    subst q
    cases k with
    | true => exact ⟨r1, t, S1, l1, rl1, o1⟩
    | false => exact ⟨r1, t, S1, l1, rl1, o1⟩
theorem de_one {op} {a : Expr} {d : DX} {pos : Pos} (ha : PE X a (toE G xv Wx d)) : PE X (.BoolOp op [a] pos) (toE G xv Wx d) := pe_one ha
/-! ### argument lists -/
def dNil : DA := fun _ S => .ok [] S
def dCons (a : DX) (b : DA) : DA := fun t S => (a t S).bind fun w S1 => (b t S1).bind fun ws S2 => .ok (w :: ws) S2
theorem da_nil : PA X [] (toA G xv Wx dNil) := PAi pa_nil fun s H Q ⟨r, t, S, l, rl, o⟩ => o r H [] .refl rl .nil
theorem da_cons {e : Expr} {es : List Expr} {d : DX} {ds : DA} (h1 : PE X e (toE G xv Wx d)) (h2 : PA X es (toA G xv Wx ds)) (he : starEach (e :: es) X.env = (false, eval e X.env) :: starEach es X.env := by rfl) : PA X (e :: es) (toA G xv Wx (dCons d ds)) :=
  PAi (pa_cons h1 h2 he) fun s H Q ⟨r, t, S, l, rl, o⟩ => toX.bind l rl o fun w S1 r1 H1 v _ e1 rl1 l1 q o1 => toX.bind l1 rl1 o1 fun ws S2 r2 H2 vs _ e2 rl2 l2 qs o2 => o2 r2 H2 _ .refl rl2 (.cons (q.ev e2) qs)
/-- a tuple is a value; a list that is never changed, too -/
def dTup (d : DA) : DX := fun t S => (d t S).bind fun ws S1 => if ws.length ≤ sizeLine then .ok (.tup ws) S1 else .no
def dLst (d : DA) : DX := fun t S => (d t S).bind fun ws S1 => if ws.length ≤ sizeLine then .ok (.lst ws) S1 else .no
/-- a list that will be changed -/
def dNewL (d : DA) : DX := fun t S => (d t S).bind fun ws S1 => if ws.length ≤ sizeLine then .ok (.ref S1.length) (S1 ++ [.lst ws]) else .no
theorem de_lst {es : List Expr} {d : DA} {pos : Pos} (h : PA X es (toA G xv Wx d)) : PE X (.List es pos) (toE G xv Wx (dLst d)) := PEi (pe_lst h) fun s H Q ⟨r, t, S, l, rl, o⟩ =>
  toX.bind l rl o fun ws S1 r1 H1 vs _ e1 rl1 l1 q o1 => by
    by_cases hl : ws.length ≤ sizeLine
    · rw [if_pos hl] at o1
      exact ⟨by rw [← q.length]; exact hl, fun p hp => o1 r1 _ _ (Ev.fresh hp rl1) (rl1.fresh hp) (.lst (Own.new hp rl1) (q.ev (Ev.fresh hp rl1)))⟩
    · rw [if_neg hl] at o1; exact o1.elim
theorem de_newL {es : List Expr} {d : DA} {pos : Pos} (h : PA X es (toA G xv Wx d)) : PE X (.List es pos) (toE G xv Wx (dNewL d)) := PEi (pe_lst h) fun s H Q ⟨r, t, S, l, rl, o⟩ =>
  toX.bind l rl o fun ws S1 r1 H1 vs _ e1 rl1 l1 q o1 => by
    by_cases hl : ws.length ≤ sizeLine
    · rw [if_pos hl] at o1
      refine ⟨by rw [← q.length]; exact hl, fun p hp => ?_⟩
      refine o1 _ _ _ (Ev.snoc hp) (rl1.snoc hp (.lst q)) ?_
      have := RW.ref (G := G) (H := upd H1 p (.lst vs)) (S := S1 ++ [.lst ws]) (r := put r1 S1.length p) (i := S1.length) (by simp)
      rw [put_same] at this
      exact this
    · rw [if_neg hl] at o1; exact o1.elim
/-- an expression's thing of the store is held as a value from here on -/
def dFrz (d : DX) : DX := fun t S => (d t S).bind fun w S1 => match w with
  | .ref i => match S1[i]? with
    | some (.lst ws) => .ok (.lst ws) (S1.set i .dead)
    | some (.dic ks ws) => .ok (.dic ks ws) (S1.set i .dead)
    | some (.dn ks ws) => .ok (.dn ks ws) (S1.set i .dead)
    | some (.ins c ns ws) => .ok (.obj c ns ws) (S1.set i .dead)
    | _ => .no
  | w => .ok w S1
theorem de_frz {e : Expr} {d : DX} (h : PE X e (toE G xv Wx d)) : PE X e (toE G xv Wx (dFrz d)) := PEi h fun s H Q ⟨r, t, S, l, rl, o⟩ =>
  toX.bind l rl o fun w S1 r1 H1 v _ e1 rl1 l1 q o1 => by
    cases w with
    | ref i =>
      cases q with
      | ref hi =>
        simp only [] at o1
        cases e : S1[i]? with
        | none => rw [e] at o1; exact o1.elim
        | some u =>
          rw [e] at o1
          cases u with
          | dead => exact o1.elim
          | lst ws =>
            obtain ⟨ho, h1, h2⟩ := rl1.at_ i _ e (fun z => by cases z)
            cases h2 with
            | lst q => exact o1 r1 H1 _ Ev.kill rl1.kill (.lst (rl1.own e (fun z => by cases z) h1) (q.ev Ev.kill))
          | dic ks ws =>
            obtain ⟨ho, h1, h2⟩ := rl1.at_ i _ e (fun z => by cases z)
            cases h2 with
            | dic z q => exact o1 r1 H1 _ Ev.kill rl1.kill (.dic (rl1.own e (fun z => by cases z) h1) z (q.ev Ev.kill))
          | dn ks ws =>
            obtain ⟨ho, h1, h2⟩ := rl1.at_ i _ e (fun z => by cases z)
            cases h2 with
            | dn z q q2 => exact o1 r1 H1 _ Ev.kill rl1.kill (.dn (rl1.own e (fun z => by cases z) h1) z (q.ev Ev.kill) (q2.ev Ev.kill))
          | ins c ns ws =>
            obtain ⟨ho, h1, h2⟩ := rl1.at_ i _ e (fun z => by cases z)
            cases h2 with
            | ins z q => exact o1 r1 H1 _ Ev.kill rl1.kill (.obj (rl1.own e (fun z => by cases z) h1) z (q.ev Ev.kill))
    | _ => exact o1 r1 H1 v .refl rl1 q
end
end DD
namespace DD
open PySem PySem.Spec PyProof.Rows L2
section
variable {G : Gx} {xv : Nat → Value} {Wx : WX} {X : Cx} {H H' : Hp} {S S' : Sto} {r r' : Rh}
/-! ### statements -/
def R.toF {α : Type} (x : R α) (t : Lo) (k : α → Sto → F) : F :=
  match x with
  | .ok a S => k a S
  | .er c ns ws S => .er c ns ws t S
  | .no => .no
@[simp] theorem R.toF_ok {α : Type} (a : α) (S : Sto) (t : Lo) (k : α → Sto → F) : (R.ok a S).toF t k = k a S := rfl
@[simp] theorem R.toF_er {α : Type} (c : Nat) (ns : List Str) (ws : List W) (S : Sto) (t : Lo) (k : α → Sto → F) : (R.er c ns ws S : R α).toF t k = .er c ns ws t S := rfl
@[simp] theorem R.toF_no {α : Type} (t : Lo) (k : α → Sto → F) : (R.no : R α).toF t k = .no := rfl
theorem toX.bindS {α β : Type} {rel : Hp → Sto → Rh → α → β → Prop} {d : Lo → Sto → R α} {k : α → Sto → F} {t : Lo} {s : L2.St} {Q : β → Hp → Prop} {D : Ends}
    (l : RLo G H S r t s) (rl : Rl G H S r) (o : OutS G xv Wx H S r ((d t S).toF t k) D)
    (h : ∀ a S' r' H' b, d t S = .ok a S' → Ev H S r H' S' r' → Rl G H' S' r' → RLo G H' S' r' t s → rel H' S' r' a b → OutS G xv Wx H' S' r' (k a S') D → Q b H') : toX G xv Wx rel d s H Q := by
  refine ⟨r, t, S, l, rl, ?_⟩
  cases e : d t S with
  | ok a S1 =>
    rw [e, R.toF_ok] at o
    exact fun r1 H1 v e1 l1 q => h a S1 r1 H1 v e e1 l1 (l.ev e1) q (o.from e1)
  | er c ns ws S1 =>
    rw [e] at o
    exact fun r1 H1 d e1 rl1 x => o r1 H1 s d e1 rl1 (l.ev e1) x
  | no =>
    rw [e] at o
    exact o
def F.andThen (x : F) (k : Lo → Sto → F) : F :=
  match x with
  | .nx t S => k t S
  | x => x
def dNext : DS := fun t S => .nx t S
def dSeq (a b : DS) : DS := fun t S => (a t S).andThen b
def dBreak : DS := fun t S => .bk t S
def dCont : DS := fun t S => .ct t S
def dDrop (d : DX) : DS := fun t S => (d t S).toF t fun _ S1 => .nx t S1
def dRet (d : DX) : DS := fun t S => (d t S).toF t fun w S1 => .rt w S1
def dIfS (c : DT) (a b : DS) : DS := fun t S => (c t S).toF t fun k S1 => if k = true then a t S1 else b t S1
theorem dss_nil : PSs X [] (toS G xv Wx dNext) := PSsi pss_nil fun D s H ⟨r, t, S, l, rl, o⟩ => o r H s .refl rl l
theorem dss_cons {st : Stmt} {rest : List Stmt} {a b : DS} (h1 : PS X st (toS G xv Wx a)) (h2 : PSs X rest (toS G xv Wx b)) : PSs X (st :: rest) (toS G xv Wx (dSeq a b)) := PSsi (pss_cons h1 h2) fun D s H ⟨r, t, S, l, rl, o⟩ => by
  refine ⟨r, t, S, l, rl, ?_⟩
  unfold dSeq at o
  cases e : a t S with
  | nx t1 S1 =>
    rw [e] at o
    exact fun r1 H1 s1 e1 rl1 l1 => ⟨r1, t1, S1, l1, rl1, OutS.from e1 o⟩
  | rt w S1 => rw [e] at o; exact o
  | bk t1 S1 => rw [e] at o; exact o
  | ct t1 S1 => rw [e] at o; exact o
  | er c ns ws t1 S1 => rw [e] at o; exact o
  | no => rw [e] at o; exact o
theorem dss_one {st : Stmt} {a : DS} (h1 : PS X st (toS G xv Wx a)) : PSs X [st] (toS G xv Wx a) := pss_one h1
theorem ds_break {pos : Pos} : PS X (.Break pos) (toS G xv Wx dBreak) := PSi ps_break fun D s H ⟨r, t, S, l, rl, o⟩ => o r H s .refl rl l
theorem ds_cont {pos : Pos} : PS X (.Continue pos) (toS G xv Wx dCont) := PSi ps_continue fun D s H ⟨r, t, S, l, rl, o⟩ => o r H s .refl rl l
theorem ds_ret {e : Expr} {d : DX} {pos : Pos} (he : PE X e (toE G xv Wx d)) : PS X (.Return (some e) pos) (toS G xv Wx (dRet d)) := PSi (ps_ret he) fun D s H ⟨r, t, S, l, rl, o⟩ =>
  toX.bindS l rl o fun w S1 r1 H1 v _ e1 rl1 l1 q o1 => o1 r1 H1 v .refl rl1 q
theorem ds_if {c : Expr} {a b : List Stmt} {dc : DT} {da db : DS} {pos : Pos} (hc : PT X c (toT G xv Wx dc)) (ha : PSs X a (toS G xv Wx da)) (hb : PSs X b (toS G xv Wx db)) : PS X (.If c a b pos) (toS G xv Wx (dIfS dc da db)) := PSi (ps_if hc ha hb) fun D s H ⟨r, t, S, l, rl, o⟩ =>
  toX.bindS l rl o fun k S1 r1 H1 v _ e1 rl1 l1 q o1 => by
    subst q
    cases k with
    | true => exact ⟨r1, t, S1, l1, rl1, o1⟩
    | false => exact ⟨r1, t, S1, l1, rl1, o1⟩
/-! ### targets -/
theorem PGi {e : Expr} {t t' : TG} (h : PG X e t) (i : ∀ v s H Q, t' v s H Q → t v s H Q) : PG X e t' := ⟨fun pins s σ H v u Q I rv q => h.run pins s σ H v u Q I rv (i _ _ _ _ q)⟩
abbrev DGs := List W → Lo → Sto → R Lo
def gN (i : Nat) : DG := fun w t S => .ok (t.set i (some w)) S
def gTp (n : Nat) (gs : DGs) : DG := fun w t S => match w with
  | .tup ws => if ws.length = n then gs ws t S else .no
  | _ => .no
theorem dg_name {i : Nat} {x : Str} {pos : Pos} (c : Cok G X Wx) (hi : X.N[i]? = some x := by rfl) (hx : Loc X.env.scope x := by first | exact Or.inl rfl | exact Or.inr rfl) (hf : X.fn x = true ∨ X.env.scope.names.lookup x = some .local := by first | exact .inl rfl | exact .inr rfl) : PG X (.Name x pos) (toG G xv (gN i)) :=
  PGi (pg_name c.nd hi hx hf) fun v s H Q ⟨r, t, S, w, l, rl, q, o⟩ => o r H _ .refl rl (l.set q i)
/-- target = value -/
def dAsg (d : DX) (g : DG) : DS := fun t S => (d t S).toF t fun w S1 => match g w t S1 with
  | .ok t' S2 => .nx t' S2
  | _ => .no
theorem outG {g : DG} {w : W} {t : Lo} {s : L2.St} {D : Ends} (o : OutS G xv Wx H S r (match g w t S with
  | .ok t' S2 => F.nx t' S2
  | _ => .no) D) : OutE G xv (fun _ _ _ _ => False) (fun H' S' r' t' s' => RLo G H' S' r' t' s') s H S r (g w t S) D.nx := by
  cases e : g w t S with
  | ok t' S2 => rw [e] at o; exact o
  | er c ns ws S2 => rw [e] at o; exact o.elim
  | no => rw [e] at o; exact o.elim
theorem ds_asg {tg e : Expr} {d : DX} {g : DG} {pos : Pos} (he : PE X e (toE G xv Wx d)) (hg : PG X tg (toG G xv g)) (hs : swapsWithSole [tg] e pos.line X.env = pure false := by rfl) (hw : swappedStores [tg] e X.env = pure none := by rfl)
    (h1 : (assignEach [tg] X.env).map (·.2) = [assign tg X.env] := by rfl) : PS X (.Assign [tg] e pos) (toS G xv Wx (dAsg d g)) := PSi (ps_asg he hg hs hw h1) fun D s H ⟨r, t, S, l, rl, o⟩ =>
  toX.bindS l rl o fun w S1 r1 H1 v _ e1 rl1 l1 q o1 => ⟨r1, t, S1, w, l1, rl1, q, outG o1⟩
theorem ds_set {i : Nat} {x : Str} {e : Expr} {d : DX} {pos pos' : Pos} (c : Cok G X Wx) (he : PE X e (toE G xv Wx d)) (hi : X.N[i]? = some x := by rfl) (hx : Loc X.env.scope x := by first | exact Or.inl rfl | exact Or.inr rfl) (hs : swapsWith e (some (.Name x pos')) pos.line X.env = pure false := by rfl) (hf : X.fn x = true ∨ X.env.scope.names.lookup x = some .local := by first | exact .inl rfl | exact .inr rfl) :
    PS X (.Assign [.Name x pos'] e pos) (toS G xv Wx (dAsg d (gN i))) := PSi (ps_set c.nd hi hx he hs hf) fun D s H ⟨r, t, S, l, rl, o⟩ =>
  toX.bindS l rl o fun w S1 r1 H1 v _ e1 rl1 l1 q o1 => o1 r1 H1 _ .refl rl1 (l1.set q i)
/-- a, b = x, y -/
def dPar (i j : Nat) (d : DA) : DS := fun t S => (d t S).toF t fun ws S1 => match ws with
  | [a, b] => .nx ((t.set i (some a)).set j (some b)) S1
  | _ => .no
theorem ds_par {i j : Nat} {x y : Str} {a b : Expr} {d : DA} {px py pt pos : Pos} {kt k2 pt2} (c : Cok G X Wx) (ha : PA X [a, b] (toA G xv Wx d)) (hi : X.N[i]? = some x := by rfl) (hj : X.N[j]? = some y := by rfl) (hij : i ≠ j := by decide)
    (hx : X.env.scope.names.lookup x = some .local := by rfl) (hy : X.env.scope.names.lookup y = some .local := by rfl)
    (hw : swappedStores [.Tuple [.Name x px, .Name y py] kt pt] (.Tuple [a, b] k2 pt2) X.env = pure (some [x, y]) := by rfl)
    (hs : swapsWithSole [.Tuple [.Name x px, .Name y py] kt pt] (.Tuple [a, b] k2 pt2) pos.line X.env = pure false := by rfl) : PS X (.Assign [.Tuple [.Name x px, .Name y py] kt pt] (.Tuple [a, b] k2 pt2) pos) (toS G xv Wx (dPar i j d)) := PSi (ps_par c.calm c.nd hi hj hij hx hy ha hw hs) fun D s H ⟨r, t, S, l, rl, o⟩ =>
  toX.bindS l rl o fun ws S1 r1 H1 vs _ e1 rl1 l1 q o1 => by
    cases q with
    | nil => exact o1.elim
    | cons a q =>
      cases q with
      | nil => exact o1.elim
      | cons b q =>
        cases q with
        | nil => exact ⟨_, _, rfl, o1 r1 H1 _ .refl rl1 ((l1.set a i).set b j)⟩
        | cons _ _ => exact o1.elim
/-! ### while -/
def wh (c : DT) (b : DS) : Nat → Lo → Sto → F
  | 0, _, _ => .no
  | n + 1, t, S => (c t S).toF t fun k S1 => if k = true then match b t S1 with
      | .nx t2 S2 => wh c b n t2 S2
      | .ct t2 S2 => wh c b n t2 S2
      | .bk t2 S2 => .nx t2 S2
      | x => x
    else .nx t S1
open Classical in
noncomputable def dWhile (c : DT) (b : DS) : DS := fun t S => if h : ∃ n, wh c b n t S ≠ .no then wh c b h.choose t S else .no
theorem ds_while {c : Expr} {body : List Stmt} {dc : DT} {db : DS} {pos : Pos} (k : Cok G X Wx) (hc : PT X c (toT G xv Wx dc)) (hb : PSs X body (toS G xv Wx db)) : PS X (.While c body [] pos) (toS G xv Wx (dWhile dc db)) := PSi (ps_while k.po hc hb) fun D s H ⟨r, t, S, l, rl, o⟩ => by
  unfold dWhile at o
  split at o
  case isFalse => exact o.elim
  case isTrue h =>
  generalize h.choose = n at o
  clear h
  refine ⟨fun m s1 H1 => ∃ r1 t1 S1, Rl G H1 S1 r1 ∧ RLo G H1 S1 r1 t1 s1 ∧ OutS G xv Wx H1 S1 r1 (wh dc db m t1 S1) D, ⟨n, r, t, S, rl, l, o⟩, ?_⟩
  rintro m s1 H1 ⟨r1, t1, S1, rl1, l1, o1⟩
  cases m with
  | zero => exact o1.elim
  | succ m =>
    refine toX.bindS l1 rl1 o1 fun b S2 r2 H2 v _ e2 rl2 l2 q o2 => ?_
    subst q
    cases b with
    | false => exact o2 r2 H2 s1 .refl rl2 l2
    | true =>
      rw [if_pos rfl]
      refine ⟨fun s3 H3 => ∃ r3 t3 S3, Rl G H3 S3 r3 ∧ RLo G H3 S3 r3 t3 s3 ∧ OutS G xv Wx H3 S3 r3 (wh dc db m t3 S3) D, fun s3 H3 h3 => ⟨m, Nat.lt_succ_self m, h3⟩, r2, t1, S2, l2, rl2, ?_⟩
      rw [if_pos rfl] at o2
      cases e : db t1 S2 with
      | nx t3 S3 => rw [e] at o2; exact fun r3 H3 s3 e3 rl3 l3 => ⟨r3, t3, S3, rl3, l3, OutS.from e3 o2⟩
      | ct t3 S3 => rw [e] at o2; exact fun r3 H3 s3 e3 rl3 l3 => ⟨r3, t3, S3, rl3, l3, OutS.from e3 o2⟩
      | bk t3 S3 => rw [e] at o2; exact o2
      | rt w S3 => rw [e] at o2; exact o2
      | er c ns ws t3 S3 => rw [e] at o2; exact o2
      | no => rw [e] at o2; exact o2
theorem wh_mono {c : DT} {b : DS} : ∀ {n m : Nat} {t : Lo} {S : Sto} {x : F}, wh c b n t S = x → x ≠ .no → n ≤ m → wh c b m t S = x
  | 0, _, _, _, _, e, h, _ => absurd e.symm h
  | n + 1, 0, _, _, _, _, _, h => absurd h (Nat.not_succ_le_zero n)
  | n + 1, m + 1, t, S, x, e, h, hm => by
    unfold wh at e ⊢
    cases e1 : c t S with
    | no => rw [e1] at e; exact e
    | er c ns ws S1 => rw [e1] at e; exact e
    | ok k S1 =>
      rw [e1] at e
      simp only [R.toF_ok] at e ⊢
      cases k with
      | false => exact e
      | true =>
        rw [if_pos rfl] at e ⊢
        cases e2 : b t S1 with
        | nx t2 S2 => rw [e2] at e; exact wh_mono (n := n) (m := m) e h (Nat.le_of_succ_le_succ hm)
        | ct t2 S2 => rw [e2] at e; exact wh_mono (n := n) (m := m) e h (Nat.le_of_succ_le_succ hm)
        | bk t2 S2 => rw [e2] at e; exact e
        | rt w S2 => rw [e2] at e; exact e
        | er c ns ws t2 S2 => rw [e2] at e; exact e
        | no => rw [e2] at e; exact e
/-- a while's end, by any number of turns -/
theorem dWhile_eq {c : DT} {b : DS} {n : Nat} {t : Lo} {S : Sto} {x : F} (e : wh c b n t S = x) (h : x ≠ .no) : dWhile c b t S = x := by
  unfold dWhile
  have ex : ∃ n, wh c b n t S ≠ .no := ⟨n, by rw [e]; exact h⟩
  rw [dif_pos ex]
  have hc := ex.choose_spec
  generalize ex.choose = m at hc
  rcases Nat.le_total n m with hm | hm
  · exact wh_mono e h hm
  · have := wh_mono (n := m) (m := n) (x := wh c b m t S) rfl hc hm
    rw [← this]; exact e
/-! ### for -/
/-- the walked thing yields the values ws, one after another, whatever happens meanwhile -/
structure ItOk (G : Gx) (H : Hp) (S : Sto) (r : Rh) (J : It) (ws : List W) : Prop where
  go : ∀ H1 S1 r1, Mp H S r H1 S1 r1 → Rl G H1 S1 r1 → ∀ i w, ws[i]? = some w → J.go i H1
  yld : ∀ H1 S1 r1, Mp H S r H1 S1 r1 → Rl G H1 S1 r1 → ∀ i w, ws[i]? = some w → ∀ x H2, J.yld i H1 x H2 → Ev H1 S1 r1 H2 S1 r1 ∧ Rl G H2 S1 r1 ∧ RW G H2 S1 r1 w x
  stop : ∀ H1 S1 r1, Mp H S r H1 S1 r1 → Rl G H1 S1 r1 → ∀ i, ws.length ≤ i → J.stop i H1
abbrev toI (G : Gx) (xv : Nat → Value) (Wx : WX) (d : DA) : TI := toX G xv Wx (fun H S r w J => ItOk G H S r J w) d
theorem PIi {tg e : Expr} {t t' : TI} (h : PI X tg e t) (i : ∀ s H Q, t' s H Q → t s H Q) : PI X tg e t' := ⟨fun pins s σ H Q I q => h.run pins s σ H Q I (i _ _ _ q)⟩
def forL (g : DG) (b : DS) : List W → Lo → Sto → F
  | [], t, S => .nx t S
  | w :: ws, t, S => match g w t S with
    | .ok t1 S1 => match b t1 S1 with
      | .nx t2 S2 => forL g b ws t2 S2
      | .ct t2 S2 => forL g b ws t2 S2
      | .bk t2 S2 => .nx t2 S2
      | x => x
    | _ => .no
def dFor (d : DA) (g : DG) (b : DS) : DS := fun t S => (d t S).toF t fun ws S1 => forL g b ws t S1
theorem ds_for {tg iter : Expr} {body : List Stmt} {d : DA} {g : DG} {db : DS} {pos : Pos} (k : Cok G X Wx) (hi : PI X tg iter (toI G xv Wx d)) (hg : PG X tg (toG G xv g)) (hb : PSs X body (toS G xv Wx db))
    (hs : ∀ x, foldedSetIterable iter X.env x = pure x := by intro _; rfl) : PS X (.For tg iter body [] pos) (toS G xv Wx (dFor d g db)) := PSi (ps_for k.po k.calm hi hg hb hs) fun D s H ⟨r, t, S, l, rl, o⟩ => by
  refine toX.bindS l rl o fun ws S1 r1 H1 J _ e1 rl1 l1 q o1 => ?_
  refine ⟨fun i m s2 H2 => ∃ r2 t2 S2, m + i = ws.length ∧ Ev H1 S1 r1 H2 S2 r2 ∧ Rl G H2 S2 r2 ∧ RLo G H2 S2 r2 t2 s2 ∧ OutS G xv Wx H2 S2 r2 (forL g db (ws.drop i) t2 S2) D, ⟨ws.length, r1, t, S1, rfl, .refl, rl1, l1, o1⟩, ?_⟩
  rintro i m s2 H2 ⟨r2, t2, S2, hm, e2, rl2, l2, o2⟩
  by_cases hi : i < ws.length
  · have hw : ws[i]? = some ws[i] := List.getElem?_eq_getElem hi
    rw [List.drop_eq_getElem_cons hi] at o2
    unfold forL at o2
    refine .inr ⟨q.go H2 S2 r2 e2.mp rl2 i _ hw, fun s3 H3 => ∃ r3 t3 S3, Ev H1 S1 r1 H3 S3 r3 ∧ Rl G H3 S3 r3 ∧ RLo G H3 S3 r3 t3 s3 ∧ OutS G xv Wx H3 S3 r3 (forL g db (ws.drop (i + 1)) t3 S3) D, fun s3 H3 ⟨r3, t3, S3, e3, rl3, l3, o3⟩ => ⟨m - 1, by omega, r3, t3, S3, by omega, e3, rl3, l3, o3⟩, fun x H3 hy => ?_⟩
    obtain ⟨e3, rl3, qx⟩ := q.yld H2 S2 r2 e2.mp rl2 i _ hw x H3 hy
    refine ⟨r2, t2, S2, ws[i], l2.ev e3, rl3, qx, ?_⟩
    have o3 := OutS.from e3 o2
    cases eg : g ws[i] t2 S2 with
    | er c ns us S4 => rw [eg] at o3; exact o3.elim
    | no => rw [eg] at o3; exact o3.elim
    | ok t4 S4 =>
      simp only [eg] at o3
      refine fun r4 H4 s4 e4 rl4 l4 => ⟨r4, t4, S4, l4, rl4, ?_⟩
      have o4 := OutS.from e4 o3
      cases eb : db t4 S4 with
      | nx t5 S5 => rw [eb] at o4; exact fun r5 H5 s5 e5 rl5 l5 => ⟨r5, t5, S5, ((e2.trans e3).trans e4).trans e5, rl5, l5, OutS.from e5 o4⟩
      | ct t5 S5 => rw [eb] at o4; exact fun r5 H5 s5 e5 rl5 l5 => ⟨r5, t5, S5, ((e2.trans e3).trans e4).trans e5, rl5, l5, OutS.from e5 o4⟩
      | bk t5 S5 => rw [eb] at o4; exact o4
      | rt w S5 => rw [eb] at o4; exact o4
      | er c ns us t5 S5 => rw [eb] at o4; exact o4
      | no => rw [eb] at o4; exact o4
  · have hl : ws.length ≤ i := Nat.le_of_not_lt hi
    rw [List.drop_eq_nil_of_le hl] at o2
    exact .inl ⟨q.stop H2 S2 r2 e2.mp rl2 i hl, o2 r2 H2 s2 .refl rl2 l2⟩
theorem itl {a : Addr} {ws : List W} {vs : List V} (hs : ∀ H1 S1 r1, Mp H S r H1 S1 r1 → SqL G.K H1 a vs) (q : RWs G H S r ws vs) : ItOk G H S r (Itl G.K a) ws where
  go := fun H1 S1 r1 e rl i w hw => by
    obtain ⟨v, h1, _⟩ := q.get hw
    exact ⟨vs, v, hs H1 S1 r1 e, h1⟩
  yld := fun H1 S1 r1 e rl i w hw x H2 hy => by
    obtain ⟨v, h1, h2⟩ := q.get hw
    obtain ⟨rfl, f⟩ := hy
    have := f vs (hs _ S1 r1 e)
    rw [h1] at this
    cases this
    exact ⟨.refl, rl, h2.mp e⟩
  stop := fun H1 S1 r1 e rl i hi => ⟨vs, hs H1 S1 r1 e, by rw [← q.length]; exact hi⟩
theorem itt {a : Addr} {ws : List W} {vs : List V} (ta : TupAt G H S r a vs) (q : RWs G H S r ws vs) : ItOk G H S r (Itt G.K a) ws where
  go := fun H1 S1 r1 e rl i w hw => by
    obtain ⟨v, h1, _⟩ := q.get hw
    exact ⟨vs, v, (ta.mp e).sq, h1⟩
  yld := fun H1 S1 r1 e rl i w hw x H2 hy => by
    obtain ⟨v, h1, h2⟩ := q.get hw
    obtain ⟨rfl, f⟩ := hy
    have := f vs (ta.mp e).sq
    rw [h1] at this
    cases this
    exact ⟨.refl, rl, h2.mp e⟩
  stop := fun H1 S1 r1 e rl i hi => ⟨vs, (ta.mp e).sq, by rw [← q.length]; exact hi⟩
end
end DD
namespace DD
open PySem PySem.Spec PyProof.Rows L2
section
variable {G : Gx} {xv : Nat → Value} {Wx : WX} {X : Cx} {H H' : Hp} {S S' : Sto} {r r' : Rh}
/-- no exception is let out -/
abbrev W0 : WX := fun _ _ _ _ => False
/-! ### comprehensions -/
def wipeW (t : Lo) : List Nat → Lo
  | [] => t
  | v :: vs => (wipeW t vs).set v none
theorem wipe_set {i : Nat} {v : Option V} : ∀ {vs : List Nat} {s : L2.St}, i ∈ vs → wipe (s.set i v) vs = wipe s vs
  | [], s, h => by simp at h
  | k :: vs, s, h => by
    unfold wipe
    by_cases hk : i = k
    · subst hk
      by_cases hi : i ∈ vs
      · rw [wipe_set hi]
      · have : ∀ (us : List Nat) (s : L2.St), i ∉ us → wipe (s.set i v) us = (wipe s us).set i v := by
          intro us
          induction us with
          | nil => intro s _; rfl
          | cons u us ih =>
            intro s hu
            simp only [List.mem_cons, not_or] at hu
            unfold wipe
            rw [ih s hu.2, List.set_comm _ _ hu.1]
        rw [this vs s hi, List.set_set]
    · rw [wipe_set ((List.mem_cons.mp h).resolve_left hk)]
/-- the places of a target that is a name or a flat tuple of names -/
inductive Tg where
  | nm (i : Nat) | tp (is : List Nat) | sq (is : List Nat)
def gNs : List Nat → TGs
  | [] => gNil
  | i :: is => gCons (gName i) (gNs is)
def Tg.toTG (K : PySem.W.Frag) : Tg → TG
  | .nm i => gName i
  | .tp is => gTup K is.length (gNs is)
  | .sq is => fun v s H Q => gTup K is.length (gNs is) v s H Q ∨ gUnl K is.length (gNs is) v s H Q
def Tg.places : Tg → List Nat
  | .nm i => [i]
  | .tp is => is
  | .sq is => is
def setAll : Lo → List Nat → List W → Lo
  | t, i :: is, w :: ws => setAll (t.set i (some w)) is ws
  | t, _, _ => t
def Tg.put : Tg → W → Lo → Option Lo
  | .nm i, w, t => some (t.set i (some w))
  | .tp is, .tup ws, t => if ws.length = is.length then some (setAll t is ws) else none
  | .tp _, _, _ => none
  | .sq is, .tup ws, t => if ws.length = is.length then some (setAll t is ws) else none
  | .sq is, .lst ws, t => if ws.length = is.length then some (setAll t is ws) else none
  | .sq _, _, _ => none
theorem gNs_ok {vs : List Nat} {Q : L2.St → Hp → Prop} : ∀ {is : List Nat} {ws : List W} {xs : List V} {t : Lo} {s : L2.St}, (∀ i ∈ is, i ∈ vs) → RWs G H S r ws xs → RLo G H S r t s → ws.length = is.length → (∀ s', RLo G H S r (setAll t is ws) s' → wipe s' vs = wipe s vs → Q s' H) → gNs is xs s H Q
  | [], [], _, t, s, _, .nil, l, _, h => ⟨rfl, h s l rfl⟩
  | i :: is, w :: ws, _, t, s, hi, .cons a q, l, hl, h => by
    refine ⟨_, _, rfl, ?_⟩
    refine gNs_ok (fun j hj => hi j (List.mem_cons_of_mem _ hj)) q (l.set a i) (by simpa using hl) fun s' l' hw => h s' l' ?_
    rw [hw, wipe_set (hi i (List.mem_cons_self ..))]
  | [], _ :: _, _, _, _, _, _, _, hl, _ => by simp at hl
  | _ :: _, [], _, _, _, _, _, _, hl, _ => by simp at hl
theorem Tg.ok {vs : List Nat} {Q : L2.St → Hp → Prop} {g : Tg} {w : W} {x : V} {t t' : Lo} {s : L2.St} (hi : ∀ i ∈ g.places, i ∈ vs) (q : RW G H S r w x) (l : RLo G H S r t s) (e : g.put w t = some t')
    (h : ∀ s', RLo G H S r t' s' → wipe s' vs = wipe s vs → Q s' H) : g.toTG G.K x s H Q := by
  cases g with
  | nm i =>
    cases e
    exact h _ (l.set q i) (wipe_set (hi i (List.mem_cons_self ..)))
  | tp is =>
    cases w with
    | tup ws =>
      cases q with
      | @tup a _ xs ta q =>
        simp only [Tg.put] at e
        split at e
        · rename_i hl
          cases e
          exact ⟨a, xs, rfl, ta.sq, by rw [← q.length]; exact hl, gNs_ok hi q l hl h⟩
        · cases e
    | _ => cases e
  | sq is =>
    cases w with
    | tup ws =>
      cases q with
      | @tup a _ xs ta q =>
        simp only [Tg.put] at e
        split at e
        · rename_i hl
          cases e
          exact .inl ⟨a, xs, rfl, ta.sq, by rw [← q.length]; exact hl, gNs_ok hi q l hl h⟩
        · cases e
    | lst ws =>
      cases q with
      | @lst a _ xs ow q =>
        simp only [Tg.put] at e
        split at e
        · rename_i hl
          cases e
          exact .inr ⟨a, xs, rfl, .inl (.inl ow.1), by rw [← q.length]; exact hl, gNs_ok hi q l hl h⟩
        · cases e
    | _ => cases e
def lcL (g : Tg) (tt : DT) (te : DX) (t0 : Lo) : List W → List W → Sto → R W
  | [], acc, S => .ok (.lst acc) S
  | w :: ws, acc, S => match g.put w t0 with
    | some t1 => match tt t1 S with
      | .ok true S2 => match te t1 S2 with
        | .ok x S3 => if acc.length < sizeLine then lcL g tt te t0 ws (acc ++ [x]) S3 else .no
        | _ => .no
      | .ok false S2 => lcL g tt te t0 ws acc S2
      | _ => .no
    | none => .no
def dLc (d : DA) (g : Tg) (tt : DT) (te : DX) (vs : List Nat) : DX := fun t S => (d t S).bind fun ws S1 => lcL g tt te (wipeW t vs) ws [] S1
def dYes : DT := fun _ S => .ok true S
/-! ### what is walked -/
def intsFrom (lo : Int) : Nat → List W
  | 0 => []
  | n + 1 => .int lo :: intsFrom (lo + 1) n
theorem intsFrom_length : ∀ (n : Nat) (lo : Int), (intsFrom lo n).length = n
  | 0, _ => rfl
  | n + 1, lo => congrArg Nat.succ (intsFrom_length n (lo + 1))
theorem intsFrom_get : ∀ (n : Nat) (lo : Int) (i : Nat) (w : W), (intsFrom lo n)[i]? = some w → i < n ∧ w = .int (lo + i)
  | 0, _, _, _, e => by simp [intsFrom] at e
  | n + 1, lo, 0, w, e => by
    simp [intsFrom] at e; subst e
    exact ⟨Nat.succ_pos n, by simp⟩
  | n + 1, lo, i + 1, w, e => by
    simp only [intsFrom, List.getElem?_cons_succ] at e
    obtain ⟨h1, h2⟩ := intsFrom_get n (lo + 1) i w e
    refine ⟨Nat.succ_lt_succ h1, ?_⟩
    rw [h2]
    congr 1
    omega
theorem itr {lo : Int} {n : Nat} : ItOk G H S r (Itr lo n) (intsFrom lo n) where
  go := fun H1 S1 r1 e rl i w hw => (intsFrom_get n lo i w hw).1
  yld := fun H1 S1 r1 e rl i w hw x H2 hy => by
    obtain ⟨rfl, rfl⟩ := hy
    obtain ⟨_, rfl⟩ := intsFrom_get n lo i w hw
    exact ⟨.refl, rl, .int _⟩
  stop := fun H1 S1 r1 e rl i hi => by rw [intsFrom_length] at hi; exact hi
def dRange1 (d : DA) : DA := fun t S => (d t S).bind fun ws S1 => match ws with
  | [.int j] => if -(2 ^ 62) ≤ j ∧ j < 2 ^ 62 then .ok (intsFrom 0 j.toNat) S1 else .no
  | _ => .no
theorem di_range1 {tg a : Expr} {d : DA} {p pos : Pos} (ha : PA X [a] (toA G xv Wx d)) (hm : X.mg "range" = none) (hg : Gl X "range" := by rfl) (hs : starEach [a] X.env = [(false, eval a X.env)] := by rfl) : PI X tg (.Call (.Name "range" p) [a] [] pos) (toI G xv Wx (dRange1 d)) :=
  PIi (pi_range1 hg hm ha hs) fun s H Q ⟨r, t, S, l, rl, o⟩ => toX.bind l rl o fun ws S1 r1 H1 vs _ e1 rl1 l1 q o1 => by
    cases q with
    | nil => exact o1.elim
    | cons a q =>
      cases q with
      | nil =>
        cases a with
        | int j =>
          simp only [] at o1
          split at o1
          · rename_i h
            exact ⟨j, rfl, h.1, h.2, o1 r1 H1 _ .refl rl1 itr⟩
          · exact o1.elim
        | _ => exact o1.elim
      | cons _ _ => cases a <;> exact o1.elim
end
end DD
namespace DD
open PySem PySem.Spec PyProof.Rows L2
abbrev Fn := List W → Sto → R W
section
variable {G : Gx} {xv : Nat → Value} {Wx : WX} {X : Cx} {H H' : Hp} {S S' : Sto} {r r' : Rh}
/-! ### cutting what a call has left behind -/
/-- what stood ahead has no hold on what is newer -/
def GcS (S S' : Sto) : Prop := S.length ≤ S'.length ∧ ∀ i, i < S.length → S'[i]? = S[i]? ∨ ∃ o, S'[i]? = some o ∧ lowO S.length o = true
open Classical in
noncomputable def gcR (S : Sto) (x : R W) : R W :=
  match x with
  | .ok w S' => if GcS S S' ∧ lowW S.length w = true then .ok w (S'.take S.length) else .no
  | .er c ns ws S' => if GcS S S' ∧ lowL S.length ws = true then .er c ns ws (S'.take S.length) else .no
  | .no => .no
theorem GcS.low (g : GcS S S') (rl : Rl G H S r) : ∀ i o, i < S.length → S'[i]? = some o → lowO S.length o = true := fun i o hi e => by
  rcases g.2 i hi with z | ⟨u, e1, l⟩
  · rw [e] at z
    exact rl.low z.symm
  · rw [e] at e1; cases e1; exact l
theorem Xd.cut {n : Nat} {d : Option Addr} {ns : List Str} {ws : List W} (x : Xd G H S r d ns ws) (hn : n ≤ S.length) (l : lowL n ws = true) : Xd G H (S.take n) r d ns ws := by
  rcases x with x | ⟨a, vs, h1, h2, h3, h4⟩
  · exact .inl x
  · exact .inr ⟨a, vs, h1, h2.cut, h3, h4.cut hn l⟩
theorem outGc {s : L2.St} {x : R W} {Q : VK} (rl : Rl G H S r) (o : OutE G xv Wx (fun H S r w v => RW G H S r w v) s H S r (gcR S x) Q) : OutE G xv Wx (fun H S r w v => RW G H S r w v) s H S r x Q := by
  cases x with
  | no => exact o
  | ok w S1 =>
    unfold gcR at o
    simp only [] at o
    split at o
    · rename_i g
      exact fun r1 H1 v e1 rl1 q => o r1 H1 v (e1.cut (Nat.le_refl _) g.1.1) (rl1.cut g.1.1 (g.1.low rl)) (q.cut g.1.1 g.2)
    · exact o.elim
  | er c ns ws S1 =>
    unfold gcR at o
    simp only [] at o
    split at o
    · rename_i g
      exact fun r1 H1 d e1 rl1 q => o r1 H1 d (e1.cut (Nat.le_refl _) g.1.1) (rl1.cut g.1.1 (g.1.low rl)) (q.cut g.1.1 g.2)
    · exact o.elim
noncomputable def dGc (d : DX) : DX := fun t S => gcR S (d t S)
theorem de_gc {e : Expr} {d : DX} (h : PE X e (toE G xv Wx d)) : PE X e (toE G xv Wx (dGc d)) := PEi h fun s H Q ⟨r, t, S, l, rl, o⟩ => ⟨r, t, S, l, rl, outGc rl o⟩
/-! ### defs -/
def dFn (n : Nat) (b : DS) : Fn := fun ws S => match b (ws.map some ++ List.replicate (n - ws.length) none) S with
  | .nx _ S1 => .ok .non S1
  | .rt w S1 => .ok w S1
  | .er c ns us _ S1 => .er c ns us S1
  | _ => .no
noncomputable def gcF (f : Fn) : Fn := fun ws S => gcR S (f ws S)
def spF (G : Gx) (xv : Nat → Value) (n : Nat) (fn : Fn) : Sp := fun vs H Q E => vs.length = n ∧ ∃ r S ws, RWs G H S r ws vs ∧ Rl G H S r ∧ OutE G xv (fun c d _ H => E c d H) (fun H S r w v => RW G H S r w v) [] H S r (fn ws S) Q
/-- a def as its callers see it -/
structure DefOk (P : Program) (w : World) (K : PySem.W.Frag) (mg : Str → Option Value) (base : Heap) (G : Gx) (xv : Nat → Value) (f : Addr) (k : Nat) (n : Nat) (fn : Fn) : Prop where
  ex : ∃ (fd : FuncData) (ps : List Str), ps.length = n ∧ FnOk P w K mg base (L2.CX P w) k f fd ps (spF G xv n fn) ∧ Binds K fd ps []
  kp : PySem.W.keepIn K (.ref f) = true
theorem DefOk.mono {P : Program} {w : World} {K : PySem.W.Frag} {mg : Str → Option Value} {base : Heap} {f : Addr} {j k n : Nat} {fn : Fn} (h : DefOk P w K mg base G xv f j n fn) (le : j ≤ k) : DefOk P w K mg base G xv f k n fn :=
  ⟨let ⟨fd, ps, a, b, c⟩ := h.ex; ⟨fd, ps, a, b.mono le, c⟩, h.kp⟩
theorem DefOk.gc {P : Program} {w : World} {K : PySem.W.Frag} {mg : Str → Option Value} {base : Heap} {f : Addr} {k n : Nat} {fn : Fn} (h : DefOk P w K mg base G xv f k n fn) : DefOk P w K mg base G xv f k n (gcF fn) :=
  ⟨let ⟨fd, ps, a, b, c⟩ := h.ex; ⟨fd, ps, a, b.imp fun vs H Q E ⟨l, r, S, ws, q, rl, o⟩ => ⟨l, r, S, ws, q, rl, outGc rl o⟩, c⟩, h.kp⟩
theorem outFn {b : DS} {n : Nat} {ws : List W} {Q : VK} {E : XK} (o : OutE G xv (fun c d _ H => E c d H) (fun H S r w v => RW G H S r w v) [] H S r (dFn n b ws S) Q) :
    OutS G xv (fun c d _ H => E c d H) H S r (b (ws.map some ++ List.replicate (n - ws.length) none) S) { nx := fun _ H' => Q .non H', rt := Q } := by
  unfold dFn at o
  generalize b (ws.map some ++ List.replicate (n - ws.length) none) S = x at o
  cases x with
  | nx t S1 => exact fun r1 H1 s e rl l => o r1 H1 _ e rl .non
  | rt w S1 => exact o
  | bk t S1 => exact o.elim
  | ct t S1 => exact o.elim
  | er c ns us t S1 => exact fun r1 H1 s d e rl l x => o r1 H1 d e rl x
  | no => exact o.elim
theorem fn_ok {P : Program} {w : World} {K : PySem.W.Frag} {mg : Str → Option Value} {base : Heap} {cm : Nat → Addr} {TB : List (Addr × Str)} {lm : Option Addr} {li : Option LI} {x qual : Str} {params : Arguments} {body : List Stmt} {scope : Scope} {dvs : List V} {kws : List (Str × V)} {f : Addr} {fd : FuncData} {N ps : List Str} {k : Nat} {d : DS}
    (F : FunD K x qual params body scope dvs kws f fd) (Sc : FnScope N ps scope)
    (hd : ∀ (cdv : Value) (A : Around) (outer : List Env) (s : Shared) (H : Hp) (E : XK), Room k (A.deeper (envOfC qual scope s.heap.objs.size f cdv)) → Cok ⟨K, cm, w, TB, lm, li⟩ (cxOf (L2.CX P w) P w K mg base N qual scope f cdv A outer s H E) (fun c d _ H => E c d H) →
      PSs (cxOf (L2.CX P w) P w K mg base N qual scope f cdv A outer s H E) body (toS ⟨K, cm, w, TB, lm, li⟩ xv (fun c d _ H => E c d H) d)) : FnOk P w K mg base (L2.CX P w) (k + 1) f fd ps (spF ⟨K, cm, w, TB, lm, li⟩ xv ps.length (dFn N.length d)) := by
  refine F.ok Sc (fun vs H Q E h => h.1) fun cdv A outer s H vs Q E hr ⟨l, r, S, ws, q, rl, o⟩ => ⟨_, hd cdv A outer s H E hr ⟨rfl, rfl, takes_of rfl rfl rfl rfl, passes_of rfl, rfl, Sc.nd⟩, r, _, S, ?_, rl, outFn o⟩
  have : ws.length = vs.length := q.length
  unfold L2.start
  rw [← this]
  exact RLo.vals _ q
theorem def_ok {P : Program} {w : World} {K : PySem.W.Frag} {mg : Str → Option Value} {base : Heap} {cm : Nat → Addr} {TB : List (Addr × Str)} {lm : Option Addr} {li : Option LI} {x qual : Str} {params : Arguments} {body : List Stmt} {scope : Scope} {kws : List (Str × V)} {f : Addr} {fd : FuncData} {N ps : List Str} {k : Nat} {d : DS}
    (F : FunD K x qual params body scope [] kws f fd) (Sc : FnScope N ps scope)
    (hb : ∀ (kV doc pm : Value) (an : Option Addr) (cdv ct : Value) (us : List Value), us.length = ps.length → bindArgs (PySem.W.fnOf x qual params body scope .none kV doc pm an cdv ct) ⟨us, []⟩ = pure (ps.zip us))
    (hd : ∀ (cdv : Value) (A : Around) (outer : List Env) (s : Shared) (H : Hp) (E : XK), Room k (A.deeper (envOfC qual scope s.heap.objs.size f cdv)) → Cok ⟨K, cm, w, TB, lm, li⟩ (cxOf (L2.CX P w) P w K mg base N qual scope f cdv A outer s H E) (fun c d _ H => E c d H) →
      PSs (cxOf (L2.CX P w) P w K mg base N qual scope f cdv A outer s H E) body (toS ⟨K, cm, w, TB, lm, li⟩ xv (fun c d _ H => E c d H) d)) : DefOk P w K mg base ⟨K, cm, w, TB, lm, li⟩ xv f (k + 1) ps.length (dFn N.length d) :=
  ⟨⟨fd, ps, rfl, fn_ok F Sc hd, F.bindsN hb⟩, F.kp⟩
/-! ### calls -/
def dCall (fn : Fn) (d : DA) : DX := fun t S => (d t S).bind fun ws S1 => fn ws S1
theorem spOut {s : L2.St} {fn : Fn} {n : Nat} {ws : List W} {vs : List V} {Q : VK} (hl : vs.length = n) (q : RWs G H S r ws vs) (rl : Rl G H S r) (o : OutE G xv Wx (fun H S r w v => RW G H S r w v) s H S r (fn ws S) Q) : spF G xv n fn vs H Q (WE Wx s) := by
  refine ⟨hl, r, S, ws, q, rl, ?_⟩
  cases e : fn ws S with
  | ok w S1 => rw [e] at o; exact o
  | er c ns us S1 => rw [e] at o; exact o
  | no => rw [e] at o; exact o.elim
theorem de_call {x : Str} {p pos : Pos} {e : Expr} {es : List Expr} {d : DA} {f : Addr} {k n : Nat} {fn : Fn} (c : Cok G X Wx) (h : DefOk X.prog X.w X.K X.mg X.base G xv f k n fn) (hm : X.mg x = some (.ref f)) (hr : Room k X.A) (ha : PA X (e :: es) (toA G xv Wx d)) (hn : (e :: es).length = n := by rfl) (hg : Gl X x := by rfl)
    (hdb : (x == ("__debug__" : Str)) = false := by decide) (he : starEach (e :: es) X.env = (false, eval e X.env) :: starEach es X.env := by rfl) (hpl : (backTo pos (starEach es X.env)).any (·.1) = false := by rfl)
    (hlen : ∀ t S ws S', d t S = .ok ws S' → ws.length = (e :: es).length) : PE X (.Call (.Name x p) (e :: es) [] pos) (toE G xv Wx (dCall fn d)) := by
  obtain ⟨⟨fd, ps, hl, F, b⟩, kp⟩ := h
  refine PEi (pe_callSD (dvs := []) F hr hg hm kp b .nil (fun σ => passAt c.tk σ) ha hdb he hpl) fun s H Q ⟨r, t, S, l, rl, o⟩ => ?_
  refine toX.bind l rl o fun ws S1 r1 H1 vs e1 ev rl1 l1 q o1 => ?_
  rw [List.append_nil]
  exact spOut (by rw [← q.length, hlen t S ws S1 e1, hn]) q rl1 o1
theorem dNil_len : ∀ t S ws S', dNil t S = .ok ws S' → ws.length = 0 := fun t S ws S' e => by cases e; rfl
theorem dCons_len {a : DX} {b : DA} {n : Nat} (h : ∀ t S ws S', b t S = .ok ws S' → ws.length = n) : ∀ t S ws S', dCons a b t S = .ok ws S' → ws.length = n + 1 := fun t S ws S' e => by
  unfold dCons at e
  cases e1 : a t S with
  | ok w S1 =>
    rw [e1] at e
    simp only [R.bind_ok] at e
    cases e2 : b t S1 with
    | ok us S2 =>
      rw [e2] at e
      simp only [R.bind_ok, R.ok.injEq] at e
      rw [← e.1]
      exact congrArg Nat.succ (h t S1 us S2 e2)
    | er c ns us S2 => rw [e2] at e; cases e
    | no => rw [e2] at e; cases e
  | er c ns us S1 => rw [e1] at e; cases e
  | no => rw [e1] at e; cases e
/-! ### instances -/
/-- C(..) -/
def dMake (c : Nat) (fn : Fn) (d : DA) : DX := fun t S => (d t S).bind fun ws S1 => match fn (.ref S1.length :: ws) (S1 ++ [.ins c [] []]) with
  | .ok .non S2 => .ok (.ref S1.length) S2
  | .er k ns us S2 => .er k ns us S2
  | _ => .no
theorem outMake {s : L2.St} {c : Nat} {fn : Fn} {n : Nat} {ws : List W} {vs : List V} {Q : VK} (hl : vs.length + 1 = n) (q : RWs G H S r ws vs) (rl : Rl G H S r)
    (o : OutE G xv Wx (fun H S r w v => RW G H S r w v) s H S r (match fn (.ref S.length :: ws) (S ++ [.ins c [] []]) with
      | .ok .non S2 => .ok (.ref S.length) S2
      | .er k ns us S2 => .er k ns us S2
      | _ => .no) Q) (x dx : Addr) (nx : H x = none) (nd : H dx = none) (ne : dx ≠ x) :
    spF G xv n fn (.ref x :: vs) (upd (upd H dx (.own x)) x (.ins (G.cm c) dx [])) (fun v H2 => v = .non ∧ Q (.ref x) H2) (WE Wx s) := by
  have nx' : upd H dx (.own x) x = none := by rw [upd_ne ne.symm]; exact nx
  have e1 : Ev H S r (upd H dx (.own x)) S r := Ev.fresh nd rl
  have rl1 := rl.fresh (o := .own x) nd
  have e2 : Ev (upd H dx (.own x)) S r (upd (upd H dx (.own x)) x (.ins (G.cm c) dx [])) (S ++ [.ins c [] []]) (put r S.length x) := Ev.snoc nx'
  have rl2 := rl1.snoc (o := .ins c [] []) (ho := .ins (G.cm c) dx []) nx' (.ins (ns := []) (ws := []) (vs := []) rfl .nil)
  have e := e1.trans e2
  have qx : RW G (upd (upd H dx (.own x)) x (.ins (G.cm c) dx [])) (S ++ [.ins c [] []]) (put r S.length x) (.ref S.length) (.ref x) := by
    have := RW.ref (G := G) (H := upd (upd H dx (.own x)) x (.ins (G.cm c) dx [])) (S := S ++ [.ins c [] []]) (r := put r S.length x) (i := S.length) (by simp)
    rw [put_same] at this
    exact this
  refine ⟨by rw [List.length_cons]; exact hl, _, _, _, .cons qx (q.ev e), rl2, ?_⟩
  cases ef : fn (.ref S.length :: ws) (S ++ [.ins c [] []]) with
  | no => rw [ef] at o; exact o.elim
  | er k ns us S2 => rw [ef] at o; exact fun r3 H3 d e3 rl3 x3 => o r3 H3 d (e.trans e3) rl3 x3
  | ok w S2 =>
    rw [ef] at o
    cases w with
    | non =>
      intro r3 H3 v e3 rl3 q3
      cases q3
      refine ⟨rfl, o r3 H3 _ (e.trans e3) rl3 ?_⟩
      exact qx.ev e3
    | _ => exact o.elim
/-! ### fields -/
def fget (ns : List Str) (ws : List W) (f : Str) : Option W := (ns.zip ws).lookup f
def fput (ns : List Str) (ws : List W) (f : Str) (w : W) : List Str × List W := match ns, ws with
  | n :: ns, u :: us => if n = f then (n :: ns, w :: us) else let p := fput ns us f w; (n :: p.1, u :: p.2)
  | _, _ => ([f], [w])
theorem fget_ok {f : Str} {w : W} : ∀ {ns : List Str} {ws : List W} {vs : List V}, RWs G H S r ws vs → fget ns ws f = some w → ∃ v, (ns.zip vs).lookup f = some v ∧ RW G H S r w v
  | [], _, _, _, e => by simp [fget] at e
  | _ :: _, _, _, .nil, e => by simp [fget] at e
  | n :: ns, _, _, .cons a q, e => by
    simp only [fget, List.zip_cons_cons, List.lookup_cons] at e ⊢
    by_cases h : (f == n) = true
    · simp only [h] at e ⊢
      cases e
      exact ⟨_, rfl, a⟩
    · have h : (f == n) = false := by simpa using h
      simp only [h] at e ⊢
      exact fget_ok q e
theorem fput_ok {f : Str} {w : W} {v : V} (a : RW G H S r w v) : ∀ {ns : List Str} {ws : List W} {vs : List V}, ns.length = ws.length → RWs G H S r ws vs → ∃ vs', putF f v (ns.zip vs) = (fput ns ws f w).1.zip vs' ∧ (fput ns ws f w).1.length = (fput ns ws f w).2.length ∧ RWs G H S r (fput ns ws f w).2 vs'
  | [], [], _, _, .nil => ⟨[v], by simp [fput, putF], by simp [fput], .cons a .nil⟩
  | n :: ns, u :: us, _, hl, .cons (v := x) (vs := xs) b q => by
    by_cases h : n = f
    · refine ⟨v :: xs, ?_, ?_, ?_⟩
      · simp [fput, h, putF]
      · simp [fput, h] at hl ⊢; exact hl
      · simp only [fput, h, if_pos]; exact .cons a q
    · obtain ⟨vs', h1, h2, h3⟩ := fput_ok (f := f) a (ns := ns) (ws := us) (vs := xs) (by simpa using hl) q
      refine ⟨x :: vs', ?_, ?_, ?_⟩
      · simp [fput, h, putF, h1]
      · simp [fput, h, h2]
      · simp only [fput, h, if_neg, not_false_eq_true]; exact .cons b h3
  | [], _ :: _, _, hl, _ => by simp at hl
  | _ :: _, [], _, hl, _ => by simp at hl
def fieldOf (cs : List Nat) (f : Str) (w : W) (S : Sto) : Option W :=
  match w with
  | .obj c ns ws => if cs.contains c = true then fget ns ws f else none
  | .ref i => match S[i]? with
    | some (.ins c ns ws) => if cs.contains c = true then fget ns ws f else none
    | _ => none
  | _ => none
/-- o.f, of instances of the classes cs -/
def dFld (cs : List Nat) (f : Str) (d : DX) : DX := fun t S => (d t S).bind fun w S1 => match fieldOf cs f w S1 with
  | some x => .ok x S1
  | none => .no
theorem de_fld {cs : List Nat} {f : Str} {e : Expr} {d : DX} {pos : Pos} (h : PE X e (toE G xv Wx d)) (hc : ∀ c ∈ cs, Cls X.K (G.cm c) ∧ NoAttr X.K (G.cm c) f) (hb : attributeBase e f X.env (eval e X.env) = eval e X.env := by rfl) : PE X (.Attribute e f pos) (toE G xv Wx (dFld cs f d)) := PEi (pe_fld h hb) fun s H Q ⟨r, t, S, l, rl, o⟩ =>
  toX.bind l rl o fun w S1 r1 H1 v _ e1 rl1 l1 q o1 => by
    cases w with
    | obj c ns ws =>
      simp only [fieldOf] at o1
      by_cases hm : cs.contains c = true
      · rw [if_pos hm] at o1
        cases ef : fget ns ws f with
        | none => rw [ef] at o1; exact o1.elim
        | some x =>
          rw [ef] at o1
          cases q with
          | obj ow hl q =>
            obtain ⟨v, h1, h2⟩ := fget_ok q ef
            have hc := hc c (by simpa using hm)
            exact ⟨_, _, _, _, v, rfl, ow.1, hc.1, hc.2, h1, o1 r1 H1 v .refl rl1 h2⟩
      · rw [if_neg hm] at o1; exact o1.elim
    | ref i =>
      simp only [fieldOf] at o1
      cases es : S1[i]? with
      | none => rw [es] at o1; exact o1.elim
      | some u =>
        rw [es] at o1
        cases u with
        | ins c ns ws =>
          simp only [] at o1
          by_cases hm : cs.contains c = true
          · rw [if_pos hm] at o1
            cases ef : fget ns ws f with
            | none => rw [ef] at o1; exact o1.elim
            | some x =>
              rw [ef] at o1
              obtain ⟨ho, h1, h2⟩ := rl1.at_ i _ es (fun z => by cases z)
              cases q with
              | ref hi =>
                cases h2 with
                | ins hl q =>
                  obtain ⟨v, h3, h4⟩ := fget_ok q ef
                  have hc := hc c (by simpa using hm)
                  exact ⟨_, _, _, _, v, rfl, h1, hc.1, hc.2, h3, o1 r1 H1 v .refl rl1 h4⟩
          · rw [if_neg hm] at o1; exact o1.elim
        | _ => exact o1.elim
    | _ => exact o1.elim
def dSetF (cs : List Nat) (f : Str) (o e : DX) : DS := fun t S => (e t S).toF t fun v S1 => (o t S1).toF t fun w S2 => match w with
  | .ref i => match S2[i]? with
    | some (.ins c ns ws) => if cs.contains c = true ∧ ns.length < 1000 then .nx t (S2.set i (.ins c (fput ns ws f v).1 (fput ns ws f v).2)) else .no
    | _ => .no
  | _ => .no
theorem ds_fld {cs : List Nat} {f : Str} {o e : Expr} {dob de : DX} {pos pos' : Pos} (ho : PE X o (toE G xv Wx dob)) (he : PE X e (toE G xv Wx de)) (hc : ∀ c ∈ cs, Cls X.K (G.cm c) ∧ NoAttr X.K (G.cm c) f) (hs : swapsWith e (some (.Attribute o f pos')) pos.line X.env = pure false := by rfl) :
    PS X (.Assign [.Attribute o f pos'] e pos) (toS G xv Wx (dSetF cs f dob de)) := PSi (ps_fld ho he hs) fun D s H ⟨r, t, S, l, rl, o⟩ =>
  toX.bindS l rl o fun v S1 r1 H1 x _ e1 rl1 l1 q o1 => toX.bindS l1 rl1 o1 fun w S2 r2 H2 y _ e2 rl2 l2 qw o2 => by
    cases w with
    | ref i =>
      simp only [] at o2
      cases es : S2[i]? with
      | none => rw [es] at o2; exact o2.elim
      | some u =>
        rw [es] at o2
        cases u with
        | ins c ns ws =>
          simp only [] at o2
          split at o2
          · rename_i hm
            obtain ⟨ho, h1, h2⟩ := rl2.at_ i _ es (fun z => by cases z)
            cases qw with
            | ref hi =>
              cases h2 with
              | @ins _ dx _ _ vs hl q' =>
                have hc := hc c (by simpa using hm.1)
                obtain ⟨vs', p1, p2, p3⟩ := fput_ok (f := f) (q.ev e2) hl q'
                refine ⟨_, _, dx, _, rfl, h1, hc.1, hc.2, by rw [List.length_zip]; omega, ?_⟩
                rw [p1]
                exact o2 r2 _ _ (Ev.set rl2 es (fun z => by cases z)) (rl2.set es (fun z => by cases z) (.ins p2 p3)) (l2.ev (Ev.set rl2 es (fun z => by cases z)))
          · exact o2.elim
        | _ => exact o2.elim
    | _ => exact o2.elim
end
end DD
namespace DD
open PySem PySem.Spec PyProof.Rows L2
section
variable {G : Gx} {xv : Nat → Value} {Wx : WX} {X : Cx} {H H' : Hp} {S S' : Sto} {r r' : Rh}
/-! ### ints -/
def intD (C : Int → Int → Bool) (g : Int → Int → W) : D2 := fun a b S => match a, b with
  | .int i, .int j => if C i j = true then .ok (g i j) S else .no
  | _, _ => .no
def orD (f g : D2) : D2 := fun a b S => match f a b S with
  | .no => g a b S
  | x => x
theorem op_or {sem : Value → Value → Sem Value} {f g : D2} (hf : OpR X sem (toR2 G xv f)) (hg : OpR X sem (toR2 G xv g)) : OpR X sem (toR2 G xv (orD f g)) := by
  intro pins s σ H x y v u Q I rx ry ⟨r, S, a, b, rl, qa, qb, o⟩
  unfold orD at o
  cases e : f a b S with
  | ok w S1 => rw [e] at o; exact hf pins s σ H x y v u Q I rx ry ⟨r, S, a, b, rl, qa, qb, by rw [e]; exact o⟩
  | er c ns ws S1 => rw [e] at o; exact hf pins s σ H x y v u Q I rx ry ⟨r, S, a, b, rl, qa, qb, by rw [e]; exact o⟩
  | no => rw [e] at o; exact hg pins s σ H x y v u Q I rx ry ⟨r, S, a, b, rl, qa, qb, o⟩
theorem op_intD {sem : Value → Value → Sem Value} {C : Int → Int → Bool} {g : Int → Int → W} {gv : Int → Int → V} (hg : ∀ H S r i j, RW G H S r (g i j) (gv i j)) (h : OpR X sem (rI (fun i j => C i j = true) gv)) : OpR X sem (toR2 G xv (intD C g)) := by
  intro pins s σ H x y v u Q I rx ry ⟨r, S, a, b, rl, qa, qb, o⟩
  cases a with
  | int i =>
    cases b with
    | int j =>
      cases qa
      cases qb
      simp only [intD] at o
      split at o
      · rename_i hc
        exact h pins s σ H _ _ v u Q I rx ry ⟨i, j, rfl, rfl, hc, o r H _ .refl rl (hg H S r i j)⟩
      · exact o.elim
    | _ => exact o.elim
  | _ => exact o.elim
theorem opC {sem : Value → Value → Sem Value} {C C' : Int → Int → Prop} {g : Int → Int → V} (h : OpR X sem (rI C g)) (hi : ∀ i j, C' i j → C i j) : OpR X sem (rI C' g) := by
  intro pins s σ H x y v u Q I rx ry ⟨i, j, e1, e2, c, q⟩
  exact h pins s σ H x y v u Q I rx ry ⟨i, j, e1, e2, hi i j c, q⟩
theorem opC0 {sem : Value → Value → Sem Value} {C' : Int → Int → Prop} {g : Int → Int → V} (h : OpR X sem (rI0 g)) : OpR X sem (rI C' g) := by
  intro pins s σ H x y v u Q I rx ry ⟨i, j, e1, e2, c, q⟩
  exact h pins s σ H x y v u Q I rx ry ⟨i, j, e1, e2, q⟩
theorem opV {sem : Value → Value → Sem Value} {C : Int → Int → Prop} {g g' : Int → Int → V} (h : OpR X sem (rI C g)) (e : ∀ i j, C i j → g' i j = g i j) : OpR X sem (rI C g') := by
  intro pins s σ H x y v u Q I rx ry ⟨i, j, e1, e2, c, q⟩
  exact h pins s σ H x y v u Q I rx ry ⟨i, j, e1, e2, c, by rw [← e i j c]; exact q⟩
theorem opU {sem : Value → Value → Sem Value} {C C' : Int → Int → Prop} {g : Int → Int → V} (h : OpR X sem (rI C g)) (h' : OpR X sem (rI C' g)) : OpR X sem (rI (fun i j => C i j ∨ C' i j) g) := by
  intro pins s σ H x y v u Q I rx ry ⟨i, j, e1, e2, c, q⟩
  rcases c with c | c
  · exact h pins s σ H x y v u Q I rx ry ⟨i, j, e1, e2, c, q⟩
  · exact h' pins s σ H x y v u Q I rx ry ⟨i, j, e1, e2, c, q⟩
def yes2 : Int → Int → Bool := fun _ _ => true
def iAdd : D2 := intD yes2 fun i j => .int (i + j)
def iSub : D2 := intD yes2 fun i j => .int (i - j)
def mulOk (i j : Int) : Bool := decide (-(2 ^ 64) < i ∧ i < 2 ^ 64) || decide (-(2 ^ 64) < j ∧ j < 2 ^ 64) || decide (i.natAbs.log2 + j.natAbs.log2 < 1000000)
def iMul : D2 := intD mulOk fun i j => .int (i * j)
def divOk (_ j : Int) : Bool := decide (j ≠ 0) && decide (j.natAbs.log2 < 9000)
def fdiv (i j : Int) : Int := if 0 < j then i / j else i.fdiv j
def fmod (i j : Int) : Int := if 0 < j then i % j else i.fmod j
def iDiv : D2 := intD divOk fun i j => .int (fdiv i j)
def iMod : D2 := intD (fun _ j => decide (j ≠ 0)) fun i j => .int (fmod i j)
def powOk (i j : Int) : Bool := decide (0 ≤ j) && decide (j ≤ 1000000) && decide (i.natAbs < 2 ^ 64)
def iPow : D2 := intD powOk fun i j => .int (i ^ j.toNat)
def iOr : D2 := intD yes2 fun i j => .int (Builtin.bitOr i j)
def iLt : D2 := intD yes2 fun i j => .bl (decide (i < j))
def iLe : D2 := intD yes2 fun i j => .bl (decide (i ≤ j))
def iGt : D2 := intD yes2 fun i j => .bl (decide (j < i))
def iGe : D2 := intD yes2 fun i j => .bl (decide (j ≤ i))
theorem o_add : OpR X (binaryOp .Add) (toR2 G xv iAdd) := op_intD (fun _ _ _ _ _ => .int _) (opC0 op_add)
theorem o_sub : OpR X (binaryOp .Sub) (toR2 G xv iSub) := op_intD (fun _ _ _ _ _ => .int _) (opC0 op_sub)
theorem o_mul : OpR X (binaryOp .Mult) (toR2 G xv iMul) := op_intD (fun _ _ _ _ _ => .int _) (opC (opU op_mul op_mulW) fun i j h => by
  simp only [mulOk, Bool.or_eq_true, decide_eq_true_eq] at h
  exact h)
theorem o_div : OpR X (binaryOp .FloorDiv) (toR2 G xv iDiv) := op_intD (fun _ _ _ _ _ => .int _) (gv := fun i j => .int (fdiv i j)) (opV (g := fun i j => .int (i.fdiv j)) (opI fun i j _ _ _ _ _ hc q => by
    simp only [divOk, Bool.and_eq_true, decide_eq_true_eq] at hc
    exact floordiv_int hc.1 q (.inl (PyProof.noPylong_of_log2 hc.2))) fun i j c => by
  unfold fdiv
  split
  · rw [Int.fdiv_eq_ediv_of_nonneg i (by omega)]
  · rfl)
theorem o_mod : OpR X (binaryOp .Mod) (toR2 G xv iMod) := op_intD (fun _ _ _ _ _ => .int _) (gv := fun i j => .int (fmod i j)) (opV (opC op_modN fun i j h => of_decide_eq_true h) fun i j c => by
  unfold fmod
  split
  · rw [Int.fmod_eq_emod_of_nonneg i (by omega)]
  · rfl)
theorem powC {i j : Int} (h : powOk i j = true) : CPow i j := by
  simp only [powOk, Bool.and_eq_true, decide_eq_true_eq] at h
  exact ⟨h.1.1, h.1.2, h.2⟩
theorem o_pow : OpR X (binaryOp .Pow) (toR2 G xv iPow) := op_intD (fun _ _ _ _ _ => .int _) (opC op_pow fun i j h => powC h)
theorem o_lt : OpR X (compareOp .Lt) (toR2 G xv iLt) := op_intD (fun _ _ _ _ _ => .bl _) (opC0 op_lt)
theorem o_gt : OpR X (compareOp .Gt) (toR2 G xv iGt) := op_intD (fun _ _ _ _ _ => .bl _) (opC0 op_gt)
theorem o_ge : OpR X (compareOp .GtE) (toR2 G xv iGe) := op_intD (fun _ _ _ _ _ => .bl _) (opC0 op_ge)
/-! ### reading lists and tuples, of the store or not -/
def seqL (S : Sto) : W → Option (List W)
  | .lst ws => some ws
  | .scr ws => some ws
  | .ref i => match S[i]? with
    | some (.lst ws) => some ws
    | _ => none
  | _ => none
def seqT : W → Option (List W)
  | .tup ws => some ws
  | _ => none
theorem seqL_ok {w : W} {v : V} {ws : List W} (rl : Rl G H S r) (q : RW G H S r w v) (e : seqL S w = some ws) : ∃ a vs, v = .ref a ∧ SqL G.K H a vs ∧ RWs G H S r ws vs := by
  cases w with
  | lst us =>
    cases e
    cases q with
    | lst ow q => exact ⟨_, _, rfl, .inl (.inl ow.1), q⟩
  | scr us =>
    cases e
    cases q with
    | scr ow q => exact ⟨_, _, rfl, ow.sq, q⟩
  | ref i =>
    simp only [seqL] at e
    cases e1 : S[i]? with
    | none => rw [e1] at e; cases e
    | some o =>
      rw [e1] at e
      cases o with
      | lst us =>
        cases e
        obtain ⟨ho, h1, h2⟩ := rl.at_ i _ e1 (fun z => by cases z)
        cases q with
        | ref hi =>
          cases h2 with
          | lst q => exact ⟨_, _, rfl, .inl (.inl h1), q⟩
      | _ => cases e
  | _ => cases e
theorem seqT_ok {w : W} {v : V} {ws : List W} (q : RW G H S r w v) (e : seqT w = some ws) : ∃ a vs, v = .ref a ∧ SqT G.K H a vs ∧ RWs G H S r ws vs := by
  cases w with
  | tup us =>
    cases e
    cases q with
    | tup ta q => exact ⟨_, _, rfl, ta.sq, q⟩
  | _ => cases e
theorem RWs.atI {ws : List W} {vs : List V} {i : Int} {w : W} (q : RWs G H S r ws vs) (e : L2.atI ws i = some w) : ∃ v, L2.atI vs i = some v ∧ RW G H S r w v := by
  unfold L2.atI at e ⊢
  rw [← q.length]
  cases e1 : ixN ws.length i with
  | none => rw [e1] at e; cases e
  | some j =>
    rw [e1] at e
    exact q.get e
/-! ### items -/
def ixD : D2 := fun a b S => match b with
  | .int i => match seqL S a with
    | some ws => match L2.atI ws i with
      | some w => .ok w S
      | none => .no
    | none => match seqT a with
      | some ws => match L2.atI ws i with
        | some w => .ok w S
        | none => .no
      | none => .no
  | _ => .no
theorem ixR_ixD (hk : X.K = G.K) : IxR X (toR2 G xv ixD) := by
  intro value slice pins s σ H x y v u Q I rx ry ⟨r, S, a, b, rl, qa, qb, o⟩ hs
  cases b with
  | int i =>
    cases qb
    simp only [ixD] at o
    cases e : seqL S a with
    | some ws =>
      rw [e] at o
      simp only [] at o
      obtain ⟨p, vs, rfl, hq, q⟩ := seqL_ok rl qa e
      cases e1 : L2.atI ws i with
      | none => rw [e1] at o; exact o.elim
      | some w =>
        rw [e1] at o
        obtain ⟨z, h1, h2⟩ := q.atI e1
        exact ix_list value slice pins s σ H _ _ v u Q I rx ry ⟨p, vs, i, z, rfl, rfl, by rw [hk]; exact hq, h1, o r H z .refl rl h2⟩ hs
    | none =>
      rw [e] at o
      simp only [] at o
      cases e2 : seqT a with
      | none => rw [e2] at o; exact o.elim
      | some ws =>
        rw [e2] at o
        simp only [] at o
        obtain ⟨p, vs, rfl, hq, q⟩ := seqT_ok qa e2
        cases e1 : L2.atI ws i with
        | none => rw [e1] at o; exact o.elim
        | some w =>
          rw [e1] at o
          obtain ⟨z, h1, h2⟩ := q.atI e1
          exact ix_tup value slice pins s σ H _ _ v u Q I rx ry ⟨p, vs, i, z, rfl, rfl, by rw [hk]; exact hq, h1, o r H z .refl rl h2⟩ hs
  | _ => exact o.elim
theorem de_ix {a b : Expr} {da db : DX} {pos : Pos} (c : Cok G X Wx) (ha : PE X a (toE G xv Wx da)) (hb : PE X b (toE G xv Wx db)) (hs : PlainIx b := by intro _ _; rfl) : PE X (.Subscript a b pos) (toE G xv Wx (dOp ixD da db)) :=
  PEi (pe_ix (ixR_ixD c.kk) ha hb hs) toOp
/-- xs[i] = e, of a list of the store -/
def gIx (da db : DX) : DG := fun w t S => match da t S with
  | .ok (.ref p) S1 => match db t S1 with
    | .ok (.int i) S2 => match S2[p]? with
      | some (.lst ws) => match ixN ws.length i with
        | some j => .ok t (S2.set p (.lst (ws.set j w)))
        | none => .no
      | _ => .no
    | _ => .no
  | _ => .no
theorem dg_ix {a b : Expr} {da db : DX} {pos : Pos} (ck : Cok G X Wx) (ha : PE X a (toE G xv Wx da)) (hb : PE X b (toE G xv Wx db)) (hs : ∀ v, assign (.Subscript a b pos) X.env v = (do
      let ov ← holding [v] (eval a X.env)
      let iv ← holding [v, ov] (eval b X.env)
      standAt pos
      holding [v, ov, iv] (setItem ov iv v)
      release [v, ov, iv] []) := by intro _; rfl) : PG X (.Subscript a b pos) (toG G xv (gIx da db)) :=
  PGi (pg_sub ha hb set_list hs) fun v s H Q ⟨r, t, S, w, l, rl, q, o⟩ => by
    refine ⟨r, t, S, l, rl, ?_⟩
    unfold gIx at o
    cases e : da t S with
    | no => rw [e] at o; exact o.elim
    | er c ns ws S1 => rw [e] at o; exact o.elim
    | ok p S1 =>
      rw [e] at o
      intro r1 H1 pv e1 rl1 qp
      cases p with
      | ref p =>
        cases qp with
        | ref hp =>
          refine ⟨r1, t, S1, l.ev e1, rl1, ?_⟩
          simp only [] at o
          cases eb : db t S1 with
          | no => rw [eb] at o; exact o.elim
          | er c ns ws S2 => rw [eb] at o; exact o.elim
          | ok i S2 =>
            rw [eb] at o
            intro r2 H2 iv e2 rl2 qi
            cases i with
            | int i =>
              cases qi
              simp only [] at o
              cases e3 : S2[p]? with
              | none => rw [e3] at o; exact o.elim
              | some u =>
                rw [e3] at o
                cases u with
                | lst ws =>
                  simp only [] at o
                  cases e4 : ixN ws.length i with
                  | none => rw [e4] at o; exact o.elim
                  | some j =>
                    rw [e4] at o
                    obtain ⟨ho, h1, h2⟩ := rl2.at_ p _ e3 (fun z => by cases z)
                    cases h2 with
                    | @lst _ vs qs =>
                      refine ⟨r1 p, vs, i, j, rfl, rfl, by rw [← e2.rho p hp]; exact h1, by rw [← qs.length]; exact e4, ?_⟩
                      have ev := (e1.trans e2).trans (Ev.set (o := .lst (ws.set j w)) (ho := .lst (vs.set j v)) rl2 e3 (fun z => by cases z))
                      rw [← e2.rho p hp]
                      exact o r2 _ s ev (rl2.set e3 (fun z => by cases z) (.lst (qs.set ((q.ev e1).ev e2) j))) (l.ev ev)
                | _ => exact o.elim
            | _ => exact o.elim
      | _ => exact o.elim
/-! ### data, compared -/
mutual
def eqW : W → W → Bool
  | .non, .non => true
  | .bl a, .bl b => a == b
  | .bl a, .int j => (if a then 1 else 0) == j
  | .int i, .bl b => i == (if b then 1 else 0)
  | .int i, .int j => i == j
  | .str x, .str y => x == y
  | .lst xs, .lst ys => eqWs xs ys
  | .lst xs, .scr ys => eqWs xs ys
  | .scr xs, .lst ys => eqWs xs ys
  | .scr xs, .scr ys => eqWs xs ys
  | .tup xs, .tup ys => eqWs xs ys
  | _, _ => false
def eqWs : List W → List W → Bool
  | [], [] => true
  | x :: xs, y :: ys => eqW x y && eqWs xs ys
  | _, _ => false
end
mutual
def toD : W → PyData
  | .bl b => .bool b
  | .int i => .int i
  | .str x => .str x
  | .tup l => .tuple (toDs l)
  | .lst l => .list (toDs l)
  | .scr l => .list (toDs l)
  | _ => .none
def toDs : List W → List PyData
  | [] => []
  | w :: l => toD w :: toDs l
end
/-- plain data of a depth of n at most -/
def dat : Nat → W → Bool
  | _, .non => true
  | _, .bl _ => true
  | _, .int _ => true
  | _, .str x => PyData.strOk x
  | n + 1, .tup l => l.all (dat n)
  | n + 1, .lst l => l.all (dat n)
  | n + 1, .scr l => l.all (dat n)
  | _, _ => false
theorem dat_lay : ∀ {n : Nat} {w : W}, dat n w = true → (toD w).canLay0 = true ∧ (toD w).depth ≤ n
  | _, .non, _ => by simp [toD, PyData.canLay0, PyData.depth]
  | _, .bl _, _ => by simp [toD, PyData.canLay0, PyData.depth]
  | _, .int _, _ => by simp [toD, PyData.canLay0, PyData.depth]
  | n, .str x, h => by
    have h : PyData.strOk x = true := by cases n <;> exact h
    simp [toD, PyData.canLay0, PyData.depth, h]
  | 0, .tup l, h => by simp [dat] at h
  | 0, .lst l, h => by simp [dat] at h
  | 0, .scr l, h => by simp [dat] at h
  | n + 1, .tup l, h => by
    have ⟨a, b⟩ := go n l h
    simp only [toD, PyData.canLay0, PyData.depth]
    exact ⟨a, by omega⟩
  | n + 1, .lst l, h => by
    have ⟨a, b⟩ := go n l h
    simp only [toD, PyData.canLay0, PyData.depth]
    exact ⟨a, by omega⟩
  | n + 1, .scr l, h => by
    have ⟨a, b⟩ := go n l h
    simp only [toD, PyData.canLay0, PyData.depth]
    exact ⟨a, by omega⟩
  | n, .ref _, h => by cases n <;> simp [dat] at h
  | n, .dic _ _, h => by cases n <;> simp [dat] at h
  | n, .dn _ _, h => by cases n <;> simp [dat] at h
  | n, .obj _ _ _, h => by cases n <;> simp [dat] at h
  | n, .cls _, h => by cases n <;> simp [dat] at h
  | n, .ty _, h => by cases n <;> simp [dat] at h
  | n, .lam, h => by cases n <;> simp [dat] at h
  | n, .exn _ _ _, h => by cases n <;> simp [dat] at h
where
  go (n : Nat) : ∀ (l : List W), l.all (dat n) = true → PyData.canLayAll0 (toDs l) = true ∧ PyData.depthAll (toDs l) ≤ n
    | [], _ => by simp [toDs, PyData.canLayAll0, PyData.depthAll]
    | w :: l, h => by
      simp only [List.all_cons, Bool.and_eq_true] at h
      have ⟨a, b⟩ := dat_lay h.1
      have ⟨c, d⟩ := go n l h.2
      simp only [toDs, PyData.canLayAll0, PyData.depthAll, a, c, Bool.and_self, true_and]
      exact Nat.max_le.mpr ⟨b, d⟩
theorem dat_shaped {n : Nat} {w : W} (h : dat n w = true) (hn : n ≤ 64) : SeqAt.shaped (toD w) = true := by
  have ⟨a, b⟩ := dat_lay h
  unfold SeqAt.shaped
  rw [a, Bool.true_and]
  exact decide_eq_true (by omega)
theorem dat_dp : ∀ {n : Nat} {w : W} {v : V}, dat n w = true → RW G H S r w v → Dp G.K H v (toD w)
  | _, .non, _, _, .non => by simp only [toD]; exact .non
  | _, .bl _, _, _, .bl b => by simp only [toD]; exact .bl b
  | _, .int _, _, _, .int b => by simp only [toD]; exact .int b
  | _, .str _, _, _, .str b => by simp only [toD]; exact .str b
  | n + 1, .tup l, _, h, .tup ta q => by simp only [toD]; exact .tup ta.sq (go n l _ h q)
  | n + 1, .lst l, _, h, .lst ow q => by simp only [toD]; exact .lst (.inl (.inl ow.1)) (go n l _ h q)
  | n + 1, .scr l, _, h, .scr ow q => by simp only [toD]; exact .lst ow.sq (go n l _ h q)
  | 0, .tup l, _, h, _ => by simp [dat] at h
  | 0, .lst l, _, h, _ => by simp [dat] at h
  | 0, .scr l, _, h, _ => by simp [dat] at h
  | n, .ref _, _, h, _ => by cases n <;> simp [dat] at h
  | n, .dic _ _, _, h, _ => by cases n <;> simp [dat] at h
  | n, .dn _ _, _, h, _ => by cases n <;> simp [dat] at h
  | n, .obj _ _ _, _, h, _ => by cases n <;> simp [dat] at h
  | n, .cls _, _, h, _ => by cases n <;> simp [dat] at h
  | n, .ty _, _, h, _ => by cases n <;> simp [dat] at h
  | n, .lam, _, h, _ => by cases n <;> simp [dat] at h
  | n, .exn _ _ _, _, h, _ => by cases n <;> simp [dat] at h
where
  go (n : Nat) : ∀ (l : List W) (vs : List V), l.all (dat n) = true → RWs G H S r l vs → DpAll G.K H vs (toDs l)
    | [], _, _, .nil => by simp only [toDs]; exact .nil
    | w :: l, _, h, .cons a q => by
      simp only [List.all_cons, Bool.and_eq_true] at h
      simp only [toDs]
      exact .cons (dat_dp h.1 a) (go n l _ h.2 q)
theorem eqvs_eqWs {n m : Nat} (ih : ∀ {a b : W}, dat n a = true → dat m b = true → PyData.eqv (toD a) (toD b) = eqW a b) : ∀ (l k : List W), l.all (dat n) = true → k.all (dat m) = true → PyData.eqvAll (toDs l) (toDs k) = eqWs l k
  | [], [], _, _ => by simp [toDs, PyData.eqvAll, eqWs]
  | [], _ :: _, _, _ => by simp [toDs, PyData.eqvAll, eqWs]
  | _ :: _, [], _, _ => by simp [toDs, PyData.eqvAll, eqWs]
  | a :: l, b :: k, h, g => by
    simp only [List.all_cons, Bool.and_eq_true] at h g
    simp only [toDs, PyData.eqvAll, eqWs, ih h.1 g.1, eqvs_eqWs ih l k h.2 g.2]
theorem eqv_eqW : ∀ {n m : Nat} {a b : W}, dat n a = true → dat m b = true → PyData.eqv (toD a) (toD b) = eqW a b := by
  intro n
  induction n with
  | zero =>
    intro m a b h g
    cases a <;> cases b <;> first | (simp [dat] at h; done) | (cases m <;> simp [dat] at g; done) | simp [toD, PyData.eqv, eqW]
  | succ n ih =>
    intro m a b h g
    cases m with
    | zero => cases a <;> cases b <;> first | (simp [dat] at h; done) | (simp [dat] at g; done) | simp [toD, PyData.eqv, eqW]
    | succ m =>
      cases a <;> cases b <;> first
        | (simp [dat] at h; done)
        | (simp [dat] at g; done)
        | (simp only [toD, PyData.eqv, eqW]; exact eqvs_eqWs (fun h g => ih h g) _ _ h g)
        | simp [toD, PyData.eqv, eqW]
/-- a list of the store as it stands -/
def lookS (S : Sto) : W → W
  | .ref i => match S[i]? with
    | some (.lst ws) => .lst ws
    | _ => .ref i
  | w => w
theorem look_dp {n : Nat} {w : W} {v : V} (rl : Rl G H S r) (h : dat n (lookS S w) = true) (q : RW G H S r w v) : Dp G.K H v (toD (lookS S w)) := by
  cases w with
  | ref i =>
    simp only [lookS] at h ⊢
    cases e1 : S[i]? with
    | none => simp only [e1] at h; cases n <;> simp [dat] at h
    | some o =>
      simp only [e1] at h ⊢
      cases o with
      | lst us =>
        obtain ⟨ho, h1, h2⟩ := rl.at_ i _ e1 (fun z => by cases z)
        cases q with
        | ref hi =>
          cases h2 with
          | lst q =>
            cases n with
            | zero => simp [dat] at h
            | succ n =>
              simp only [toD]
              exact .lst (.inl (.inl h1)) (dat_dp.go n us _ h q)
      | _ => cases n <;> simp [dat] at h
  | _ => exact dat_dp h q
/-- the depth of data that we compare -/
def dDep : Nat := 16
def eqD : D2 := fun a b S => if (dat dDep (lookS S a) && dat dDep (lookS S b)) = true then .ok (.bl (eqW (lookS S a) (lookS S b))) S else .no
def neD : D2 := fun a b S => if (dat dDep (lookS S a) && dat dDep (lookS S b)) = true then .ok (.bl (!eqW (lookS S a) (lookS S b))) S else .no
theorem o_eq (hk : X.K = G.K) (hu : X.A.units + 64 < cLine) : OpR X (compareOp .Eq) (toR2 G xv eqD) := by
  intro pins s σ H x y v u Q I rx ry ⟨r, S, a, b, rl, qa, qb, o⟩
  unfold eqD at o
  split at o
  · rename_i h
    rw [Bool.and_eq_true] at h
    refine op_eqD hu pins s σ H x y v u Q I rx ry ⟨_, _, by rw [hk]; exact look_dp rl h.1 qa, by rw [hk]; exact look_dp rl h.2 qb, dat_shaped h.1 (by decide), dat_shaped h.2 (by decide), ?_⟩
    rw [eqv_eqW h.1 h.2]
    exact o r H _ .refl rl (.bl _)
  · exact o.elim
theorem o_ne (hk : X.K = G.K) (hu : X.A.units + 64 < cLine) : OpR X (compareOp .NotEq) (toR2 G xv neD) := by
  intro pins s σ H x y v u Q I rx ry ⟨r, S, a, b, rl, qa, qb, o⟩
  unfold neD at o
  split at o
  · rename_i h
    rw [Bool.and_eq_true] at h
    refine op_neD hu pins s σ H x y v u Q I rx ry ⟨_, _, by rw [hk]; exact look_dp rl h.1 qa, by rw [hk]; exact look_dp rl h.2 qb, dat_shaped h.1 (by decide), dat_shaped h.2 (by decide), ?_⟩
    rw [eqv_eqW h.1 h.2]
    exact o r H _ .refl rl (.bl _)
  · exact o.elim
/-! ### in, not in -/
def inW (w : W) (ws : List W) : Bool := ws.any fun y => eqW y w
end
end DD
namespace DD
open PySem PySem.Spec PyProof.Rows L2
section
variable {G : Gx} {xv : Nat → Value} {Wx : WX} {X : Cx} {H H' : Hp} {S S' : Sto} {r r' : Rh}
/-! ### truth -/
def truW (S : Sto) : W → Option Bool
  | .non => some false
  | .bl b => some b
  | .int i => some (i != 0)
  | .str x => if x.length ≤ sizeLine then some ((x.length : Int) != 0) else none
  | .tup l => some (!l.isEmpty)
  | .lst l => some (!l.isEmpty)
  | .scr l => some (!l.isEmpty)
  | .dic ks l => some (!l.isEmpty)
  | .ref i => match S[i]? with
    | some (.lst l) => some (!l.isEmpty)
    | some (.dic ks l) => some (!l.isEmpty)
    | _ => none
  | _ => none
theorem RWs.isEmpty {ws : List W} {vs : List V} (q : RWs G H S r ws vs) : vs.isEmpty = ws.isEmpty := by cases q <;> rfl
theorem zip_isEmpty {ks : List Key} {ws : List W} {vs : List V} (hl : ks.length = ws.length) (q : RWs G H S r ws vs) : (ks.zip vs).isEmpty = ws.isEmpty := by
  cases q with
  | nil => simp
  | cons a b =>
    cases ks with
    | nil => simp at hl
    | cons k ks => rfl
theorem truW_ok {w : W} {v : V} {k : Bool} (rl : Rl G H S r) (q : RW G H S r w v) (e : truW S w = some k) : TruV G.K v H k := by
  cases q with
  | non => cases e; rfl
  | bl b => cases e; rfl
  | int i => cases e; rfl
  | str x =>
    simp only [truW] at e
    split at e
    · rename_i h; cases e; exact ⟨h, rfl⟩
    · cases e
  | tup ta q => cases e; exact .inr (.inl ⟨_, ta.sq, by rw [q.isEmpty]⟩)
  | lst ow q => cases e; exact .inl ⟨_, .inl (.inl ow.1), by rw [q.isEmpty]⟩
  | scr ow q => cases e; exact .inl ⟨_, ow.sq, by rw [q.isEmpty]⟩
  | dic ow hl q => cases e; exact .inr (.inr ⟨_, ow.1, by rw [zip_isEmpty hl q]⟩)
  | dn _ _ _ _ => cases e
  | @ref i hi =>
    simp only [truW] at e
    cases e1 : S[i]? with
    | none => rw [e1] at e; cases e
    | some o =>
      rw [e1] at e
      cases o with
      | lst us =>
        cases e
        obtain ⟨ho, h1, h2⟩ := rl.at_ i _ e1 (fun z => by cases z)
        cases h2 with
        | lst q => exact .inl ⟨_, .inl (.inl h1), by rw [q.isEmpty]⟩
      | dic ks us =>
        cases e
        obtain ⟨ho, h1, h2⟩ := rl.at_ i _ e1 (fun z => by cases z)
        cases h2 with
        | dic hl q => exact .inr (.inr ⟨_, h1, by rw [zip_isEmpty hl q]⟩)
      | _ => cases e
  | obj _ _ _ => cases e
  | cls _ => cases e
  | ty _ => cases e
  | lam _ => cases e
  | exn _ _ _ _ _ => cases e
def dTru (d : DX) : DT := fun t S => (d t S).bind fun w S1 => match truW S1 w with
  | some k => .ok k S1
  | none => .no
theorem dt_truth {a : Expr} {d : DX} (c : Cok G X Wx) (ha : PE X a (toE G xv Wx d)) (he : ∀ whole, isTrue a X.env whole = (do let v ← whole; standAt a.pos; holding [v] (truthy v)) := by intro _; rfl) : PT X a (toT G xv Wx (dTru d)) := PTi (pt_truth ha he) fun s H Q ⟨r, t, S, l, rl, o⟩ =>
  toX.bind l rl o fun w S1 r1 H1 v _ e1 rl1 l1 q o1 => by
    cases e : truW S1 w with
    | none => rw [e] at o1; exact o1.elim
    | some k =>
      rw [e] at o1
      exact ⟨k, by rw [c.kk]; exact truW_ok rl1 q e, o1 r1 H1 k .refl rl1 rfl⟩
/-- not x, by truth -/
def dNotT (d : DX) : DX := fun t S => (d t S).bind fun w S1 => match truW S1 w with
  | some k => .ok (.bl (!k)) S1
  | none => .no
/-- x and y, x or y, by truth -/
def dAndT (a b : DX) : DX := fun t S => (a t S).bind fun w S1 => match truW S1 w with
  | some true => b t S1
  | some false => .ok w S1
  | none => .no
def dOrT (a b : DX) : DX := fun t S => (a t S).bind fun w S1 => match truW S1 w with
  | some true => .ok w S1
  | some false => b t S1
  | none => .no
theorem de_andT {a b : Expr} {rest : List Expr} {d e : DX} {pos : Pos} (c : Cok G X Wx) (ha : PE X a (toE G xv Wx d)) (hb : PE X (.BoolOp .And (b :: rest) pos) (toE G xv Wx e)) : PE X (.BoolOp .And (a :: b :: rest) pos) (toE G xv Wx (dAndT d e)) := PEi (pe_andT ha hb) fun s H Q ⟨r, t, S, l, rl, o⟩ =>
  toX.bind l rl o fun w S1 r1 H1 v _ e1 rl1 l1 q o1 => by
    cases e : truW S1 w with
    | none => rw [e] at o1; exact o1.elim
    | some k =>
      rw [e] at o1
      refine ⟨k, by rw [c.kk]; exact truW_ok rl1 q e, ?_⟩
      cases k with
      | true => exact ⟨r1, t, S1, l1, rl1, o1⟩
      | false => exact o1 r1 H1 _ .refl rl1 q
/-! ### built-ins -/
def toC1 (G : Gx) (xv : Nat → Value) (f : Fn) : List V → Hp → VK → Prop := fun vs H Q => ∃ r S ws, Rl G H S r ∧ RWs G H S r ws vs ∧ OutE G xv W0 (fun H S r w v => RW G H S r w v) [] H S r (f ws S) Q
def dBi (f : Fn) (d : DA) : DX := fun t S => (d t S).bind fun ws S1 => match f ws S1 with
  | .ok w S2 => .ok w S2
  | _ => .no
theorem toBi {f : Fn} {d : DA} (s : L2.St) (H : Hp) (Q : VK) : toE G xv Wx (dBi f d) s H Q → tCB (toC1 G xv f) (toA G xv Wx d) s H Q := by
  rintro ⟨r, t, S, l, rl, o⟩
  refine toX.bind l rl o fun ws S1 r1 H1 vs _ e1 rl1 l1 q o1 => ⟨r1, S1, ws, rl1, q, ?_⟩
  cases e : f ws S1 with
  | ok w S2 => rw [e] at o1; exact o1
  | er c ns us S2 => rw [e] at o1; exact o1.elim
  | no => rw [e] at o1; exact o1.elim
theorem de_callB {x : Str} {id : String} {e : Expr} {es : List Expr} {f : Fn} {d : DA} {p pos : Pos} (hc : CallR X (.builtin id) (toC1 G xv f)) (hv : bootBuiltins x = some (.builtin id)) (hm : X.mg x = none) (ha : PA X (e :: es) (toA G xv Wx d)) (hg : Gl X x := by rfl) (hn : x ≠ "__name__" := by decide) (hdb : (x == ("__debug__" : Str)) = false := by decide)
    (he : starEach (e :: es) X.env = (false, eval e X.env) :: starEach es X.env := by rfl) (hpl : (backTo pos (starEach es X.env)).any (·.1) = false := by rfl) : PE X (.Call (.Name x p) (e :: es) [] pos) (toE G xv Wx (dBi f d)) :=
  PEi (pe_callB hc hg hm hv ha hn hdb he hpl) toBi
theorem de_callTy {x : Str} {T : String} {e : Expr} {es : List Expr} {f : Fn} {d : DA} {p pos : Pos} (hc : CallR X (.type T) (toC1 G xv f)) (hv : bootBuiltins x = some (.type T)) (hm : X.mg x = none) (ha : PA X (e :: es) (toA G xv Wx d)) (hg : Gl X x := by rfl) (hn : x ≠ "__name__" := by decide) (hdb : (x == ("__debug__" : Str)) = false := by decide)
    (he : starEach (e :: es) X.env = (false, eval e X.env) :: starEach es X.env := by rfl) (hpl : (backTo pos (starEach es X.env)).any (·.1) = false := by rfl) : PE X (.Call (.Name x p) (e :: es) [] pos) (toE G xv Wx (dBi f d)) :=
  PEi (pe_callTy hc hg hm hv ha hn hdb he hpl) toBi
/-- a built-in class as a value -/
theorem de_bty {x : Str} {T : String} {pos : Pos} (hv : bootBuiltins x = some (.type T)) (hm : X.mg x = none) (hg : Gl X x := by rfl) (hn : x ≠ "__name__" := by decide) (hd : (x == ("__debug__" : Str)) = false := by decide) : PE X (.Name x pos) (toE G xv Wx (dC (.ty T))) :=
  PEi (pe_bltn (v := .ty T) hg hm hv rfl hn hd) (toC fun _ _ _ => .ty T)
/-! len -/
def lenF : Fn := fun ws S => match ws with
  | [.str x] => if x.length ≤ sizeLine then .ok (.int x.length) S else .no
  | [w] => match seqL S w with
    | some l => .ok (.int l.length) S
    | none => match seqT w with
      | some l => .ok (.int l.length) S
      | none => .no
  | _ => .no
theorem c_len (hk : X.K = G.K) : CallR X (.builtin "len") (toC1 G xv lenF) := by
  intro pins s σ H xs us Q I rv ⟨r, S, ws, rl, q, o⟩
  cases q with
  | nil => exact o.elim
  | @cons w ws v vs a q =>
    cases q with
    | cons _ _ => cases w <;> exact o.elim
    | nil =>
      have seq : ∀ w', w = w' → (∀ x, w' ≠ .str x) → OutE G xv W0 (fun H S r w v => RW G H S r w v) [] H S r (match seqL S w with
          | some l => .ok (.int l.length) S
          | none => match seqT w with
            | some l => .ok (.int l.length) S
            | none => .no) Q → wpAny (model X.prog X.w) X.A (call (.builtin "len") us) (EP X pins σ Q) X.xe s := fun w' _ _ o => by
        cases e : seqL S w with
        | some l =>
          rw [e] at o
          obtain ⟨p, vs, rfl, hq, q⟩ := seqL_ok rl a e
          exact call_len_seq pins s σ H _ us Q I rv ⟨p, vs, rfl, .inl (by rw [hk]; exact hq), by rw [← q.length]; exact o r H _ .refl rl (.int _)⟩
        | none =>
          rw [e] at o
          simp only [] at o
          cases e2 : seqT w with
          | none => rw [e2] at o; exact o.elim
          | some l =>
            rw [e2] at o
            obtain ⟨p, vs, rfl, hq, q⟩ := seqT_ok a e2
            exact call_len_seq pins s σ H _ us Q I rv ⟨p, vs, rfl, .inr (by rw [hk]; exact hq), by rw [← q.length]; exact o r H _ .refl rl (.int _)⟩
      cases w with
      | str x =>
        cases a
        simp only [lenF] at o
        split at o
        · rename_i h
          exact call_len_str pins s σ H _ us Q I rv ⟨x, rfl, h, o r H _ .refl rl (.int _)⟩
        · exact o.elim
      | _ => exact seq _ rfl (fun x z => by cases z) o
/-! ints -/
def absF : Fn := fun ws S => match ws with
  | [.int i] => .ok (.int (if i < 0 then -i else i)) S
  | _ => .no
theorem c_abs : CallR X (.builtin "abs") (toC1 G xv absF) := by
  intro pins s σ H xs us Q I rv ⟨r, S, ws, rl, q, o⟩
  cases q with
  | nil => exact o.elim
  | @cons w ws v vs a q =>
    cases q with
    | cons _ _ => cases w <;> exact o.elim
    | nil =>
      cases w with
      | int i => cases a; exact call_abs pins s σ H _ us Q I rv ⟨i, rfl, o r H _ .refl rl (.int _)⟩
      | _ => exact o.elim
def intF : Fn := fun ws S => match ws with
  | [.int i] => .ok (.int i) S
  | [.bl k] => .ok (.int (if k then 1 else 0)) S
  | _ => .no
theorem c_int : CallR X (.type "int") (toC1 G xv intF) := by
  intro pins s σ H xs us Q I rv ⟨r, S, ws, rl, q, o⟩
  cases q with
  | nil => exact o.elim
  | @cons w ws v vs a q =>
    cases q with
    | cons _ _ => cases w <;> exact o.elim
    | nil =>
      cases w with
      | int i => cases a; exact call_int1 pins s σ H _ us Q I rv (.inl ⟨i, rfl, o r H _ .refl rl (.int _)⟩)
      | bl i => cases a; exact call_int1 pins s σ H _ us Q I rv (.inr ⟨i, rfl, o r H _ .refl rl (.int _)⟩)
      | _ => exact o.elim
def boolF : Fn := fun ws S => match ws with
  | [.int i] => .ok (.bl (i != 0)) S
  | [.bl k] => .ok (.bl k) S
  | _ => .no
theorem c_bool : CallR X (.type "bool") (toC1 G xv boolF) := by
  intro pins s σ H xs us Q I rv ⟨r, S, ws, rl, q, o⟩
  cases q with
  | nil => exact o.elim
  | @cons w ws v vs a q =>
    cases q with
    | cons _ _ => cases w <;> exact o.elim
    | nil =>
      cases w with
      | int i => cases a; exact call_bool1 pins s σ H _ us Q I rv (.inl ⟨i, rfl, o r H _ .refl rl (.bl _)⟩)
      | bl i => cases a; exact call_bool1 pins s σ H _ us Q I rv (.inr ⟨i, rfl, o r H _ .refl rl (.bl _)⟩)
      | _ => exact o.elim
def strF : Fn := fun ws S => match ws with
  | [.int i] => if i.natAbs.log2 < 1920 then .ok (.str (toString i)) S else .no
  | _ => .no
theorem c_str : CallR X (.type "str") (toC1 G xv strF) := by
  intro pins s σ H xs us Q I rv ⟨r, S, ws, rl, q, o⟩
  cases q with
  | nil => exact o.elim
  | @cons w ws v vs a q =>
    cases q with
    | cons _ _ => cases w <;> exact o.elim
    | nil =>
      cases w with
      | int i =>
        cases a
        simp only [strF] at o
        split at o
        · rename_i h; exact call_str_int pins s σ H _ us Q I rv ⟨i, rfl, h, o r H _ .refl rl (.str _)⟩
        · exact o.elim
      | _ => exact o.elim
def twoI (f : Int → Int → R W) : List W → R W
  | [.int i, .int j] => f i j
  | _ => .no
def max2F : Fn := fun ws S => twoI (fun i j => .ok (.int (if j > i then j else i)) S) ws
def min2F : Fn := fun ws S => twoI (fun i j => .ok (.int (if j < i then j else i)) S) ws
theorem two_ints {ws : List W} {vs : List V} {f : Int → Int → R W} {C : R W → Prop} (hno : ¬ C .no) (q : RWs G H S r ws vs) (o : C (twoI f ws)) : ∃ i j, ws = [.int i, .int j] ∧ vs = [.int i, .int j] ∧ C (f i j) := by
  cases q with
  | nil => exact absurd o hno
  | @cons w ws v vs a q =>
    cases q with
    | nil => cases w <;> exact absurd o hno
    | @cons w2 ws2 v2 vs2 b q =>
      cases q with
      | cons _ _ => cases w <;> first | exact absurd o hno | (cases w2 <;> exact absurd o hno)
      | nil =>
        cases w with
        | int i =>
          cases w2 with
          | int j => cases a; cases b; exact ⟨i, j, rfl, rfl, o⟩
          | _ => exact absurd o hno
        | _ => exact absurd o hno
theorem c_max2 (hc : X.calm = true) : CallR X (.builtin "max") (toC1 G xv max2F) := by
  intro pins s σ H xs us Q I rv ⟨r, S, ws, rl, q, o⟩
  obtain ⟨i, j, rfl, rfl, o⟩ := two_ints (C := fun x => OutE G xv W0 (fun H S r w v => RW G H S r w v) [] H S r x Q) (fun z => z) q o
  exact call_max2 hc pins s σ H _ us Q I rv ⟨i, j, rfl, o r H _ .refl rl (.int _)⟩
theorem c_min2 (hc : X.calm = true) : CallR X (.builtin "min") (toC1 G xv min2F) := by
  intro pins s σ H xs us Q I rv ⟨r, S, ws, rl, q, o⟩
  obtain ⟨i, j, rfl, rfl, o⟩ := two_ints (C := fun x => OutE G xv W0 (fun H S r w v => RW G H S r w v) [] H S r x Q) (fun z => z) q o
  exact call_min2 hc pins s σ H _ us Q I rv ⟨i, j, rfl, o r H _ .refl rl (.int _)⟩
/-! list(..), tuple(..) -/
def listF : Fn := fun ws S => match ws with
  | [w] => match seqL S w with
    | some l => .ok (.lst l) S
    | none => match seqT w with
      | some l => .ok (.lst l) S
      | none => .no
  | _ => .no
/-- list(..), to be changed -/
def newListF : Fn := fun ws S => match ws with
  | [w] => match seqL S w with
    | some l => .ok (.ref S.length) (S ++ [.lst l])
    | none => match seqT w with
      | some l => .ok (.ref S.length) (S ++ [.lst l])
      | none => .no
  | _ => .no
def tupleF : Fn := fun ws S => match ws with
  | [w] => match seqL S w with
    | some l => .ok (.tup l) S
    | none => match seqT w with
      | some l => .ok (.tup l) S
      | none => .no
  | _ => .no
theorem newRef {p : Addr} {o : O} {ho : HO} : RW G (upd H p ho) (S ++ [o]) (put r S.length p) (.ref S.length) (.ref p) := by
  have := RW.ref (G := G) (H := upd H p ho) (S := S ++ [o]) (r := put r S.length p) (i := S.length) (by simp)
  rw [put_same] at this
  exact this
/-! all, any -/
/-! sum of ints -/
/-! isinstance -/
/-- a kind of value: a built-in one or a class of one's own -/
inductive Ki where
  | b (n : String) | c (k : Nat)
  deriving DecidableEq
def Ki.v (cm : Nat → Addr) : Ki → Value
  | .b n => .type n
  | .c k => .ref (cm k)
def kiW (S : Sto) : W → Option Ki
  | .non => some (.b "NoneType")
  | .bl _ => some (.b "bool")
  | .int _ => some (.b "int")
  | .str _ => some (.b "str")
  | .tup _ => some (.b "tuple")
  | .lst _ => some (.b "list")
  | .scr _ => some (.b "list")
  | .dic _ _ => some (.b "dict")
  | .obj c _ _ => some (.c c)
  | .ref i => match S[i]? with
    | some (.lst _) => some (.b "list")
    | some (.dic _ _) => some (.b "dict")
    | some (.ins c _ _) => some (.c c)
    | _ => none
  | _ => none
def kiC : W → Option Ki
  | .ty n => some (.b n)
  | .cls c => some (.c c)
  | _ => none
/-- what isinstance asks of an own class -/
structure InsK (K : PySem.W.Frag) (C : Addr) : Prop where
  cl : Cls K C
  ha : PySem.W.findIn K (.ref C) "__class__" = some (some (.builtin "object.__class__"))
  hn : PySem.W.specialIn K (.builtin "object.__class__") "__get__" = some (some (.builtin "getset_descriptor.__get__"))
  htk : PySem.W.takesIn K (.builtin "object.__class__") = some true
  hm : PySem.W.mroIn K C (.type "object") = some true
def isiF (T : Ki → Ki → Option Bool) : Fn := fun ws S => match ws with
  | [w, c] => match kiW S w, kiC c with
    | some a, some b => match T a b with
      | some k => .ok (.bl k) S
      | none => .no
    | _, _ => .no
  | _ => .no
theorem kiW_ok {w : W} {v : V} {k : Ki} (rl : Rl G H S r) (hI : ∀ c, k = .c c → InsK G.K (G.cm c)) (q : RW G H S r w v) (e : kiW S w = some k) : TyX G.K H v (k.v G.cm) := by
  cases q with
  | non => cases e; exact .base .non
  | bl b => cases e; exact .base (.bl b)
  | int b => cases e; exact .base (.int b)
  | str b => cases e; exact .base (.str b)
  | tup ta q =>
    cases e
    rcases ta with ow | ⟨o, its, n, h1, h2, _⟩
    · exact .base (.tup ow.1)
    · exact .kTuple h1 h2
  | lst ow q => cases e; exact .base (.lst ow.1)
  | scr ta q =>
    cases e
    rcases ta with ⟨o, ow⟩ | ow | ⟨o, its, n, h1, h2, _⟩
    · exact .base (.frz ow.1)
    · exact .base (.lst ow.1)
    · exact .kList h1 h2
  | dic ow hl q => cases e; exact .base (.dK ow.1)
  | dn _ _ _ _ => cases e
  | obj ow hl q =>
    cases e
    have i := hI _ rfl
    exact .base (.ins ow.1 i.cl i.ha i.hn i.htk i.hm)
  | @ref i hi =>
    simp only [kiW] at e
    cases e1 : S[i]? with
    | none => rw [e1] at e; cases e
    | some o =>
      rw [e1] at e
      cases o with
      | lst us =>
        cases e
        obtain ⟨ho, h1, h2⟩ := rl.at_ i _ e1 (fun z => by cases z)
        cases h2 with
        | lst q => exact .base (.lst h1)
      | dic ks us =>
        cases e
        obtain ⟨ho, h1, h2⟩ := rl.at_ i _ e1 (fun z => by cases z)
        cases h2 with
        | dic hl q => exact .base (.dK h1)
      | ins c ns us =>
        cases e
        obtain ⟨ho, h1, h2⟩ := rl.at_ i _ e1 (fun z => by cases z)
        cases h2 with
        | ins hl q =>
          have i := hI _ rfl
          exact .base (.ins h1 i.cl i.ha i.hn i.htk i.hm)
      | dead => cases e
      | dn _ _ => cases e
  | cls _ => cases e
  | ty _ => cases e
  | lam _ => cases e
  | exn _ _ _ _ _ => cases e
theorem c_isi {T : Ki → Ki → Option Bool} (hk : X.K = G.K) (hT : ∀ a b k, T a b = some k → PySem.W.kitOne G.K (a.v G.cm) (b.v G.cm) = some k ∧ ∀ c, a = .c c → InsK G.K (G.cm c)) : CallR X (.builtin "isinstance") (toC1 G xv (isiF T)) := by
  intro pins s σ H xs us Q I rv ⟨r, S, ws, rl, q, o⟩
  cases q with
  | nil => exact o.elim
  | @cons w ws v vs a q =>
    cases q with
    | nil => exact o.elim
    | @cons c ws v2 vs b q =>
      cases q with
      | cons _ _ => exact o.elim
      | nil =>
        simp only [isiF] at o
        cases e1 : kiW S w with
        | none => rw [e1] at o; exact o.elim
        | some x =>
          cases e2 : kiC c with
          | none => rw [e1, e2] at o; exact o.elim
          | some y =>
            rw [e1, e2] at o
            simp only [] at o
            cases e3 : T x y with
            | none => rw [e3] at o; exact o.elim
            | some k =>
              rw [e3] at o
              obtain ⟨h1, h2⟩ := hT x y k e3
              have hc : ClsV v2 (y.v G.cm) := by
                cases c with
                | ty n => cases b; cases e2; exact .ty n
                | cls c => cases b; cases e2; exact .own _
                | _ => cases e2
              exact call_isi pins s σ H _ us Q I rv ⟨v, v2, _, _, k, rfl, hc, by rw [hk]; exact kiW_ok rl h2 a e1, by rw [hk]; exact h1, o r H _ .refl rl (.bl _)⟩
/-! ### lists joined, repeated; texts joined -/
def catD : D2 := fun a b S => match a, b with
  | .lst xs, .lst ys => if xs.length + ys.length ≤ sizeLine then .ok (.lst (xs ++ ys)) S else .no
  | _, _ => .no
theorem o_cat : OpR X (binaryOp .Add) (toR2 G xv catD) := by
  intro pins s σ H x y v u Q I rx ry ⟨r, S, a, b, rl, qa, qb, o⟩
  cases a with
  | lst ws =>
    cases b with
    | lst us =>
      cases qa with
      | lst ow q =>
        cases qb with
        | lst ow' q' =>
          simp only [catD] at o
          split at o
          · rename_i h
            exact op_cat pins s σ H _ _ v u Q I rx ry ⟨_, _, _, _, rfl, rfl, ow.1, ow'.1, by rw [← q.length, ← q'.length]; exact h, fun p hp => o r _ _ (Ev.fresh hp rl) (rl.fresh hp) (.lst (Own.new hp rl) ((q.append q').ev (Ev.fresh hp rl)))⟩
          · exact o.elim
    | _ => exact o.elim
  | _ => exact o.elim
def catT : D2 := fun a b S => match a, b with
  | .tup xs, .tup ys => if xs.length + ys.length ≤ sizeLine then .ok (.tup (xs ++ ys)) S else .no
  | _, _ => .no
theorem o_catT (hk : X.K = G.K) : OpR X (binaryOp .Add) (toR2 G xv catT) := by
  intro pins s σ H x y v u Q I rx ry ⟨r, S, a, b, rl, qa, qb, o⟩
  cases a with
  | tup ws =>
    cases b with
    | tup us =>
      cases qa with
      | @tup _ _ xs ta q =>
        cases qb with
        | @tup _ _ ys tb q' =>
          simp only [catT] at o
          split at o
          · rename_i h
            refine op_catA pins s σ H _ _ v u Q I rx ry ⟨_, _, _, _, rfl, rfl, by rw [hk]; exact ta.sq, by rw [hk]; exact tb.sq, by rw [← q.length, ← q'.length]; exact h, fun z => ?_, fun _ z => ?_, fun _ z p hp => ?_⟩
            · subst z; cases q
              rw [List.nil_append] at o
              exact o r H _ .refl rl (.tup tb q')
            · subst z; cases q'
              rw [List.append_nil] at o
              exact o r H _ .refl rl (.tup ta q)
            · exact o r _ _ (Ev.fresh hp rl) (rl.fresh hp) (.tup (.inl (Own.new hp rl)) ((q.append q').ev (Ev.fresh hp rl)))
          · exact o.elim
    | _ => exact o.elim
  | _ => exact o.elim
def catS : D2 := fun a b S => match a, b with
  | .str x, .str y => if x.length + y.length ≤ sizeLine then .ok (.str (x ++ y)) S else .no
  | _, _ => .no
theorem o_catS : OpR X (binaryOp .Add) (toR2 G xv catS) := by
  intro pins s σ H x y v u Q I rx ry ⟨r, S, a, b, rl, qa, qb, o⟩
  cases a with
  | str i =>
    cases b with
    | str j =>
      cases qa
      cases qb
      simp only [catS] at o
      split at o
      · rename_i h
        exact op_add_str pins s σ H _ _ v u Q I rx ry ⟨_, _, rfl, rfl, h, o r H _ .refl rl (.str _)⟩
      · exact o.elim
    | _ => exact o.elim
  | _ => exact o.elim
/-- a list times a number; new: it will be changed -/
def repD (new : Bool) : D2 := fun a b S => match a, b with
  | .lst xs, .int k => if -(2 ^ 63) ≤ k ∧ k < 2 ^ 63 ∧ xs.length * k.toNat ≤ sizeLine then (if new = true then .ok (.ref S.length) (S ++ [.lst (List.replicate k.toNat xs).flatten]) else .ok (.lst (List.replicate k.toNat xs).flatten) S) else .no
  | _, _ => .no
theorem RWs.rep {ws : List W} {vs : List V} (q : RWs G H S r ws vs) : ∀ n : Nat, RWs G H S r (List.replicate n ws).flatten (List.replicate n vs).flatten
  | 0 => .nil
  | n + 1 => by
    rw [List.replicate_succ, List.replicate_succ, List.flatten_cons, List.flatten_cons]
    exact q.append (q.rep n)
theorem o_rep {new : Bool} : OpR X (binaryOp .Mult) (toR2 G xv (repD new)) := by
  intro pins s σ H x y v u Q I rx ry ⟨r, S, a, b, rl, qa, qb, o⟩
  cases a with
  | lst ws =>
    cases b with
    | int k =>
      cases qa with
      | lst ow q =>
        cases qb
        simp only [repD] at o
        split at o
        · rename_i h
          refine op_rep pins s σ H _ _ v u Q I rx ry ⟨_, k, _, rfl, rfl, ow.1, h.1, h.2.1, by rw [← q.length]; exact h.2.2, fun p hp => ?_⟩
          cases new with
          | false => exact o r _ _ (Ev.fresh hp rl) (rl.fresh hp) (.lst (Own.new hp rl) ((q.rep _).ev (Ev.fresh hp rl)))
          | true => exact o _ _ _ (Ev.snoc hp) (rl.snoc hp (.lst (q.rep _))) newRef
        · exact o.elim
    | _ => exact o.elim
  | _ => exact o.elim
/-! ### is, is not -/
/-! ### signs -/
def dNeg (d : DX) : DX := fun t S => (d t S).bind fun w S1 => match w with
  | .int i => .ok (.int (-i)) S1
  | _ => .no
theorem de_neg {a : Expr} {d : DX} {pos : Pos} (ha : PE X a (toE G xv Wx d)) : PE X (.UnaryOp .USub a pos) (toE G xv Wx (dNeg d)) := PEi (pe_un un_neg ha) fun s H Q ⟨r, t, S, l, rl, o⟩ =>
  toX.bind l rl o fun w S1 r1 H1 v _ e1 rl1 l1 q o1 => by
    cases w with
    | int i => cases q; exact ⟨i, rfl, o1 r1 H1 _ .refl rl1 (.int _)⟩
    | _ => exact o1.elim
/-! ### methods of lists of the store -/
def dMt (f : W → List W → Sto → R W) (o : DX) (d : DA) : DX := fun t S => (o t S).bind fun w S1 => match seqL S1 w with
  | some _ => (d t S1).bind fun ws S2 => match f w ws S2 with
    | .ok x S3 => .ok x S3
    | _ => .no
  | none => .no
/-! ### slices -/
def cutW (xs : List W) (lo hi : Option Int) : List W := (xs.drop (HT.sIx xs.length 0 lo)).take (HT.sIx xs.length xs.length hi - HT.sIx xs.length 0 lo)
abbrev DO := Lo → Sto → R (Option Int)
def dNoP : DO := fun _ S => .ok none S
def dPart (d : DX) : DO := fun t S => (d t S).bind fun w S1 => match w with
  | .int i => .ok (some i) S1
  | _ => .no
/-- a slice of a list is a new list (held as a value), of a tuple a tuple -/
def slW (w : W) (lo hi : Option Int) (S : Sto) : R W := match seqL S w with
  | some ws => .ok (.lst (cutW ws lo hi)) S
  | none => match seqT w with
    | some ws => .ok (.tup (cutW ws lo hi)) S
    | none => .no
def dSl (d : DX) (lo hi : DO) : DX := fun t S => (d t S).bind fun w S1 => (lo t S1).bind fun a S2 => (hi t S2).bind fun b S3 => match slW w a b S3 with
  | .ok x S4 => .ok x S4
  | _ => .no
end
end DD
namespace DD
open PySem PySem.Spec PyProof.Rows L2
section
variable {G : Gx} {xv : Nat → Value} {Wx : WX} {X : Cx} {H H' : Hp} {S S' : Sto} {r r' : Rh}
/-! ### sums of several kinds -/
def addD : D2 := orD iAdd (orD catD (orD catS catT))
theorem o_addD (hk : X.K = G.K) : OpR X (binaryOp .Add) (toR2 G xv addD) := op_or o_add (op_or o_cat (op_or o_catS (o_catT hk)))
def mulD (new : Bool) : D2 := orD iMul (repD new)
theorem o_mulD {new : Bool} : OpR X (binaryOp .Mult) (toR2 G xv (mulD new)) := op_or o_mul o_rep
/-- a list, the script, a tuple, one kind or the other -/
def dSeqI (d : DX) : DA := fun t S => (d t S).bind fun w S1 => match w with
  | .lst ws => .ok ws S1
  | .scr ws => .ok ws S1
  | .tup ws => .ok ws S1
  | _ => .no
theorem di_seq {tg e : Expr} {d : DX} (k : Cok G X Wx) (he : PE X e (toE G xv Wx d)) : PI X tg e (toI G xv Wx (dSeqI d)) := by
  have key : PI X tg e (fun s H R => toE G xv Wx d s H fun x H1 => (∃ a, x = .ref a ∧ (∃ xs, SqL X.K H1 a xs) ∧ R (Itl X.K a) H1) ∨ (∃ a, x = .ref a ∧ (∃ xs, SqT X.K H1 a xs) ∧ R (Itt X.K a) H1)) := by
    refine ⟨fun pins s σ H R I h => ?_⟩
    refine thn (he.run pins s σ H _ I h) fun v s1 ⟨x, H1, I1, r1, q1⟩ => ?_
    rcases q1 with q1 | q1
    · obtain ⟨a, e, ⟨xs, hq⟩, q⟩ := q1
      subst e
      cases r1
      obtain ⟨its, rv, p, hz⟩ := I1.list hq
      refine wpAny_pyIter_list p.isList ?_
      refine ⟨s1.heap.objs.size, [s1.heap.objs.size], _, _, H1, rfl, I1.kept (t' := s1.toks) fun b o e => Heap.get?_push_of_some _ e, turn_list a _, ⟨_, Heap.get?_push_size _ rfl, rfl, rfl⟩, fun b hb => ?_, q⟩
      have e : b = s1.heap.objs.size := by simpa using hb
      subst e
      exact I1.fpOk (Nat.le_refl _) (I1.hok.fresh (Nat.le_refl _))
    · obtain ⟨a, e, ⟨xs, hq⟩, q⟩ := q1
      subst e
      cases r1
      obtain ⟨its, rv, p, hz⟩ := I1.tuple hq
      refine wpAny_pyIter_tuple (show s1.heap.IsTuple a its.toArray from p) ?_
      refine ⟨s1.heap.objs.size, [s1.heap.objs.size], _, _, H1, rfl, I1.kept (t' := s1.toks) fun b o e => Heap.get?_push_of_some _ e, turn_tuple a _, ⟨_, Heap.get?_push_size _ rfl, rfl, rfl⟩, fun b hb => ?_, q⟩
      have e : b = s1.heap.objs.size := by simpa using hb
      subst e
      exact I1.fpOk (Nat.le_refl _) (I1.hok.fresh (Nat.le_refl _))
  refine PIi key fun s H Q ⟨r, t, S, l, rl, o⟩ => ?_
  refine toX.bind l rl o fun w S1 r1 H1 v _ e1 rl1 l1 q o1 => ?_
  rw [k.kk]
  cases w with
  | lst ws =>
    cases q with
    | lst ow q => exact .inl ⟨_, rfl, ⟨_, .inl (.inl ow.1)⟩, o1 r1 H1 _ .refl rl1 (itl (fun H2 S2 r2 e2 => .inl (.inl (e2.own _ _ ow).1)) q)⟩
  | scr ws =>
    cases q with
    | scr ow q => exact .inl ⟨_, rfl, ⟨_, ow.sq⟩, o1 r1 H1 _ .refl rl1 (itl (fun H2 S2 r2 e2 => (ow.mp e2).sq) q)⟩
  | tup ws =>
    cases q with
    | tup ta q => exact .inr ⟨_, rfl, ⟨_, ta.sq⟩, o1 r1 H1 _ .refl rl1 (itt ta q)⟩
  | _ => exact o1.elim
end
/-! ### isinstance of built-in kinds -/
def isiB : Ki → Ki → Option Bool
  | .b x, .b y => kitB x y
  | _, _ => none
theorem isiB_ok {K : PySem.W.Frag} {cm : Nat → Addr} : ∀ a b k, isiB a b = some k → PySem.W.kitOne K (a.v cm) (b.v cm) = some k ∧ ∀ c, a = .c c → InsK K (cm c)
  | .b x, .b y, k, e => ⟨kit_ty e, fun c z => by cases z⟩
  | .b _, .c _, _, e => by cases e
  | .c _, .b _, _, e => by cases e
  | .c _, .c _, _, e => by cases e
/-! ### the end -/
theorem ints_rw {G : Gx} {H : Hp} {S : Sto} {r : Rh} : ∀ ns : List Int, RWs G H S r (ns.map W.int) (ns.map V.int)
  | [] => .nil
  | n :: ns => .cons (.int n) (ints_rw ns)
theorem scr_rw {G : Gx} {H : Hp} {a : Addr} {ns : List Int} (h : SqL G.K H a (ns.map V.int)) : RW G H [] ⟨fun _ => 0, fun _ => False⟩ (.scr (ns.map W.int)) (.ref a) := by
  have nl : ¬ Lv [] ⟨fun _ => 0, fun _ => False⟩ a := by
    rintro (⟨i, o, e, _⟩ | z)
    · simp at e
    · exact z
  refine .scr ?_ (ints_rw ns)
  rcases h with (h | ⟨o, h⟩) | h
  · exact .inr (.inl ⟨h, nl⟩)
  · exact .inl ⟨o, h, nl⟩
  · exact .inr (.inr h)
theorem rl_nil {G : Gx} {H : Hp} (ht : ∀ p ∈ G.T, TabR H [] ⟨fun _ => 0, fun _ => False⟩ p.1 p.2 := by intro p h; cases h) (hl : ∀ li, G.li = some li → LamR G H [] ⟨fun _ => 0, fun _ => False⟩ li := by intro li h; cases h) : Rl G H [] ⟨fun _ => 0, fun _ => False⟩ := ⟨fun i o e => by simp at e, fun i j o u e => by simp at e, fun a z => z.elim, fun i o e => by simp at e, ht, hl⟩
/-- the law's own promise, by its mirror -/
theorem law_at {l : PySem.W.OpenLaw} {w : World} {K : PySem.W.Frag} {cm : Nat → Addr} {xv : Nat → Value} {k : Nat} {x : Str} {mg : Str → Option Value} {f : Addr} {h : Heap} {fn : Fn}
    (hb : ∃ fd : FuncData, (∀ (s : Shared) (u : Value), BindsTo s fd ⟨[u], []⟩ [(x, u)]) ∧ ∀ base : Heap, K.In base → base.Ns mainGlobals mg → FnOk l.prog w K mg base (L2.CX l.prog w) k f fd [x] (spF ⟨K, cm, w, [], none, none⟩ xv 1 fn))
    (hl : ∀ ns : List Int, ns.length ≤ 63 → (∀ z ∈ ns, Builtin.Int.intBits z ≤ 1048576) → ∃ S', fn [.scr (ns.map W.int)] [] = .ok (.bl true) S') : LamX.LawAtS l w K (L2.CX l.prog w) k 63 x mg f h := by
  obtain ⟨fd, b, F⟩ := hb
  refine ⟨fd, [], _, by simp, by simp, by simp, b, fun H a ns hn hbits _ hS => ?_, fun base h1 h2 _ => F base h1 h2⟩
  obtain ⟨S', e⟩ := hl ns hn hbits
  refine ⟨rfl, _, [], _, .cons (scr_rw hS) .nil, rl_nil, ?_⟩
  rw [e]
  intro r' H' v _ _ q
  cases q
  rfl
theorem cx_end (P : Program) (w : World) (H : Hp) (s : Shared) (e : Value) (s' : Shared) : L2.CX P w [] H s (fun _ _ _ => False) e s' → False := fun ⟨_, _, _, _, _, _, _, _, _, _, _, _, z⟩ => z
end DD
namespace DD
open PySem PySem.Spec PyProof.Rows L2
section
variable {G : Gx} {xv : Nat → Value} {Wx : WX} {X : Cx} {H H' : Hp} {S S' : Sto} {r r' : Rh}
/-! ### dicts of the store: int and text keys -/
def keyW : W → Option Key
  | .int i => some (.inl i)
  | .str x => some (.inr x)
  | _ => none
def dGetW (ks : List Key) (ws : List W) (k : Key) : Option W := match ks, ws with
  | a :: ks, w :: ws => if a = k then some w else dGetW ks ws k
  | _, _ => none
def dPutW (ks : List Key) (ws : List W) (k : Key) (x : W) : List Key × List W := match ks, ws with
  | a :: ks, w :: ws => if a = k then (a :: ks, x :: ws) else let p := dPutW ks ws k x; (a :: p.1, w :: p.2)
  | _, _ => ([k], [x])
/-- what a dict holds: of the store or a value -/
def dicOf (S : Sto) : W → Option (List Key × List W)
  | .dic ks ws => some (ks, ws)
  | .ref i => match S[i]? with
    | some (.dic ks ws) => some (ks, ws)
    | _ => none
  | _ => none
def dDIn (neg : Bool) (k d : DX) : DX := fun t S => (k t S).bind fun y S1 => (d t S1).bind fun w S2 => match dicOf S2 w, keyW y with
  | some p, some k => .ok (.bl (neg != (dGetW p.1 p.2 k).isSome)) S2
  | _, _ => .no
/-- d[k] = v -/
def dDPut (d k v : DX) : DS := fun t S => (v t S).toF t fun x S1 => (d t S1).toF t fun w S2 => (k t S2).toF t fun y S3 => match w with
  | .ref i => match S3[i]?, keyW y with
    | some (.dic ks ws), some k => if ks.Nodup ∧ ks.length < 1000000 then .nx t (S3.set i (.dic (dPutW ks ws k x).1 (dPutW ks ws k x).2)) else .no
    | _, _ => .no
  | _ => .no
/-! ### starred parts of a display -/
/-! ### operators of own classes -/
/-- an instance of the class c -/
def isOf (c : Nat) (w : W) (S : Sto) : Bool := match w with
  | .obj c' _ _ => decide (c' = c)
  | .ref i => match S[i]? with
    | some (.ins c' _ _) => decide (c' = c)
    | _ => false
  | _ => false
theorem isOf_ok {c : Nat} {w : W} {v : V} (rl : Rl G H S r) (q : RW G H S r w v) (h : isOf c w S = true) : ∃ a dx fs, v = .ref a ∧ H a = some (.ins (G.cm c) dx fs) := by
  cases w with
  | obj c' ns ws =>
    simp only [isOf, decide_eq_true_eq] at h
    subst h
    cases q with
    | obj ow hl q => exact ⟨_, _, _, rfl, ow.1⟩
  | ref i =>
    simp only [isOf] at h
    cases e : S[i]? with
    | none => rw [e] at h; cases h
    | some u =>
      rw [e] at h
      cases u with
      | ins c' ns ws =>
        simp only [decide_eq_true_eq] at h
        subst h
        obtain ⟨ho, h1, h2⟩ := rl.at_ i _ e (fun z => by cases z)
        cases q with
        | ref hi =>
          cases h2 with
          | ins hl q => exact ⟨_, _, _, rfl, h1⟩
      | _ => cases h
  | _ => cases h
theorem inst_at {pins : List (Addr × Obj)} {σ : L2.St} {s : Shared} {a C dx : Addr} {fs : List (Str × V)} (I : Inv X pins σ H s) (e : H a = some (.ins C dx fs)) : ∃ od, PySem.W.InstAt s.heap a (PySem.W.instObj C dx) C (some od) := by
  obtain ⟨mA, O, _⟩ := ins_get I.hok e
  obtain ⟨od, J, _⟩ := O.look
  exact ⟨od, J⟩
/-- the callee of an operator: nothing is let out -/
theorem run_op {pins : List (Addr × Obj)} {σ : L2.St} {s : Shared} {f : Addr} {k n : Nat} {fn : Fn} {ws : List W} {vs : List V} {us : List Value} {Q : VK} (h : DefOk X.prog X.w X.K X.mg X.base G xv f k n fn) (hr : Room k X.A) (I : Inv X pins σ H s) (hv : Vals vs us) (hl : vs.length = n) (q : RWs G H S r ws vs) (rl : Rl G H S r)
    (o : OutE G xv W0 (fun H S r w v => RW G H S r w v) [] H S r (fn ws S) Q) : wpAny (model X.prog X.w) X.A (call (.ref f) us) (EP X pins σ Q) X.xe s := by
  obtain ⟨⟨fd, ps, hp, F, b⟩, kp⟩ := h
  have sp : spF G xv n fn vs H Q E0 := ⟨hl, r, S, ws, q, rl, by
    cases e : fn ws S with
    | ok w S1 => rw [e] at o; exact o
    | er c ns us S1 => rw [e] at o; exact o
    | no => rw [e] at o; exact o⟩
  exact run_fn (ds := []) (dvs := []) (E := E0) F hr b .nil passL I hv (by rw [List.append_nil]; exact sp)
def usrD (c : Nat) (fn : Fn) : D2 := fun a b S => if (isOf c a S && isOf c b S) = true then fn [a, b] S else .no
theorem o_usrC {op : CmpOp} {c : Nat} {f : Addr} {k : Nat} {fn : Fn} {m : Str} (hk : X.K = G.K) (h : DefOk X.prog X.w X.K X.mg X.base G xv f k 2 fn) (hr : Room k X.A) (M : Meth G.K (G.cm c) m f) (hop : ∀ a b, compareOp op a b = richCompare op a b := by intro _ _; rfl) (hm : (cmpInfo op).2.1 = m := by rfl) : OpR X (compareOp op) (toR2 G xv (usrD c fn)) := by
  intro pins s σ H x y v u Q I rx ry ⟨r, S, a, b, rl, qa, qb, o⟩
  unfold usrD at o
  split at o
  · rename_i hi
    rw [Bool.and_eq_true] at hi
    obtain ⟨p, dx, fs, rfl, e1⟩ := isOf_ok rl qa hi.1
    obtain ⟨p', dx', fs', rfl, e2⟩ := isOf_ok rl qb hi.2
    cases (show v = Value.ref p from rx)
    cases (show u = Value.ref p' from ry)
    obtain ⟨od, J⟩ := inst_at I e1
    obtain ⟨od', J'⟩ := inst_at I e2
    obtain ⟨m, hF⟩ := I.fr
    subst hm
    rw [hop]
    refine PySem.W.cmp_K (op := op) (K := X.K) (tb := .ref (G.cm c)) hr.units0 hF I.ok.mod.kin J J'.type (by unfold PySem.W.notFirst; simp) (by rw [hk]; exact M.at_) (by rw [hk]; exact M.fn) ?_
    refine wpAny_mono (run_op (vs := [.ref p, .ref p']) h hr I (.cons rfl (.cons rfl .nil)) rfl (.cons qa (.cons qb .nil)) rl o) (fun w s' z => ?_) fun _ _ z => z
    obtain ⟨z', H', I', rz, qz⟩ := z
    cases w <;> first | exact ⟨z', H', I', rz, qz⟩ | (cases z' <;> first | exact nomatch rz | (obtain ⟨t, e⟩ := rz; exact nomatch e))
  · exact o.elim
/-! ### x op= e -/
/-! ### enumerate, ranges by steps -/
/-! ### is True, is False -/
def isB (neg : Bool) : D2 := fun a b S => match a, b with
  | .bl x, .bl y => .ok (.bl (neg != (x == y))) S
  | _, _ => .no
theorem o_isNotB : OpR X (compareOp .IsNot) (toR2 G xv (isB true)) := by
  intro pins s σ H x y v u Q I rx ry ⟨r, S, a, b, rl, qa, qb, o⟩
  cases a with
  | bl p =>
    cases b with
    | bl q =>
      cases qa
      cases qb
      cases (show v = Value.bool p from rx)
      cases (show u = Value.bool q from ry)
      refine wpAny_isNot_plain rfl ⟨.bl (!(p == q)), H, I, ?_, by simpa using o r H _ .refl rl (.bl _)⟩
      cases p <;> cases q <;> rfl
    | _ => exact o.elim
  | _ => exact o.elim
/-! ### list(range(n)), list(range(a, b)) -/
/-! ### one or the other -/
end
end DD
namespace DD
open PySem PySem.Spec PyProof.Rows L2
section
variable {G : Gx} {xv : Nat → Value} {Wx : WX} {X : Cx} {H H' : Hp} {S S' : Sto} {r r' : Rh}
/-! ### a list of the store is walked: it must stay as it is meanwhile -/
def dSeqR (d : DX) : Lo → Sto → R (Nat × List W) := fun t S => (d t S).bind fun w S1 => match w with
  | .ref p => match S1[p]? with
    | some (.lst ws) => .ok (p, ws) S1
    | _ => .no
  | _ => .no
open Classical in
noncomputable def forLR (g : DG) (b : DS) (p : Nat) (us : List W) : List W → Lo → Sto → F
  | [], t, S => if S[p]? = some (.lst us) then .nx t S else .no
  | w :: ws, t, S => if S[p]? = some (.lst us) then match g w t S with
    | .ok t1 S1 => match b t1 S1 with
      | .nx t2 S2 => forLR g b p us ws t2 S2
      | .ct t2 S2 => forLR g b p us ws t2 S2
      | .bk t2 S2 => .nx t2 S2
      | x => x
    | _ => .no
    else .no
noncomputable def dForR (d : Lo → Sto → R (Nat × List W)) (g : DG) (b : DS) : DS := fun t S => (d t S).toF t fun ws S1 => forLR g b ws.1 ws.2 ws.2 t S1
open Classical in
noncomputable def lcLR (g : Tg) (tt : DT) (te : DX) (t0 : Lo) (p : Nat) (us : List W) : List W → List W → Sto → R W
  | [], acc, S => if S[p]? = some (.lst us) then .ok (.lst acc) S else .no
  | w :: ws, acc, S => if S[p]? = some (.lst us) then match g.put w t0 with
    | some t1 => match tt t1 S with
      | .ok true S2 => match te t1 S2 with
        | .ok x S3 => if acc.length < sizeLine then lcLR g tt te t0 p us ws (acc ++ [x]) S3 else .no
        | _ => .no
      | .ok false S2 => lcLR g tt te t0 p us ws acc S2
      | _ => .no
    | none => .no
    else .no
noncomputable def dLcR (d : Lo → Sto → R (Nat × List W)) (g : Tg) (tt : DT) (te : DX) (vs : List Nat) : DX := fun t S => (d t S).bind fun ws S1 => lcLR g tt te (wipeW t vs) ws.1 ws.2 ws.2 [] S1
end
end DD
namespace DD
open PySem PySem.Spec PyProof.Rows L2
/-! ### errors of one's own -/
section
variable {G : Gx} {xv : Nat → Value} {Wx : WX} {X : Cx} {H H' : Hp} {S S' : Sto} {r r' : Rh}
/-! ### try .. except X as n -/
theorem RLo.setN {o : Option V} : ∀ {t : Lo} {s : L2.St} (i : Nat), RLo G H S r t s → RLo G H S r (t.set i none) (s.set i o)
  | _, _, _, .nil => .nil
  | _, _, 0, .non q => .non q
  | _, _, 0, .som _ q => .non q
  | _, _, i + 1, .non q => .non (q.setN i)
  | _, _, i + 1, .som a q => .som a (q.setN i)
theorem RLo.len : ∀ {t : Lo} {s : L2.St}, RLo G H S r t s → t.length = s.length
  | _, _, .nil => rfl
  | _, _, .non q => congrArg Nat.succ q.len
  | _, _, .som _ q => congrArg Nat.succ q.len
/-- in an except suite: the error at a, of the class cls, its own dict d, its name in slot i -/
def toXx (G : Gx) (xv : Nat → Value) (a : Addr) (cls : Value) (d : Option Addr) (i : Nat) {α β : Type} (rel : Hp → Sto → Rh → α → β → Prop) (e : Nat → List Str → List W → Lo → Sto → R α) : L2.St → Hp → (β → Hp → Prop) → Prop := fun s H Q =>
  ∃ r t S c ns ws, cls = xv c ∧ s[i]? = some (some (.ref a)) ∧ Xd G H S r d ns ws ∧ RLo G H S r t s ∧ Rl G H S r ∧ OutE G xv W0 rel s H S r (e c ns ws t S) Q
/-! what an except suite is made of -/
section
variable {a : Addr} {cls : Value} {d : Option Addr} {i : Nat}
theorem toXx.bind {α β γ δ : Type} {rel : Hp → Sto → Rh → α → β → Prop} {rel' : Hp → Sto → Rh → γ → δ → Prop} {f : α → Sto → R γ} {t : Lo} {s : L2.St} {Q : β → Hp → Prop} {Q' : δ → Hp → Prop} {e : Nat → List Str → List W → Lo → Sto → R α} {c : Nat} {ns : List Str} {ws : List W}
    (hc : cls = xv c) (hi : s[i]? = some (some (.ref a))) (x : Xd G H S r d ns ws) (l : RLo G H S r t s) (rl : Rl G H S r) (o : OutE G xv W0 rel' s H S r ((e c ns ws t S).bind f) Q')
    (h : ∀ u S' r' H' b, e c ns ws t S = .ok u S' → Ev H S r H' S' r' → Rl G H' S' r' → RLo G H' S' r' t s → Xd G H' S' r' d ns ws → rel H' S' r' u b → OutE G xv W0 rel' s H' S' r' (f u S') Q' → Q b H') : toXx G xv a cls d i rel e s H Q := by
  refine ⟨r, t, S, c, ns, ws, hc, hi, x, l, rl, ?_⟩
  cases ee : e c ns ws t S with
  | ok u S1 =>
    rw [ee] at o
    exact fun r1 H1 b e1 rl1 q => h u S1 r1 H1 b ee e1 rl1 (l.ev e1) (x.ev e1) q (OutE.from e1 o)
  | er c' ns' ws' S1 => rw [ee] at o; exact o
  | no => rw [ee] at o; exact o
end
/-! ### a for over a list of the store or a value -/
/-! ### xs[::-1] -/
end
end DD
namespace DD
open PySem PySem.Spec PyProof.Rows L2
end DD
namespace DD
open PySem PySem.Spec PyProof.Rows L2
section
variable {G : Gx} {xv : Nat → Value} {Wx : WX} {X : Cx} {H H' : Hp} {S S' : Sto} {r r' : Rh}
/-! ### defs with defaults and keywords -/
/-- a def whose parameters may be bound in several ways -/
structure DefG (P : Program) (w : World) (K : PySem.W.Frag) (mg : Str → Option Value) (base : Heap) (G : Gx) (xv : Nat → Value) (f : Addr) (k : Nat) (ps : List Str) (fn : Fn) (Fd : FuncData → Prop) : Prop where
  ex : ∃ fd : FuncData, Fd fd ∧ FnOk P w K mg base (L2.CX P w) k f fd ps (spF G xv ps.length fn)
  kp : PySem.W.keepIn K (.ref f) = true
theorem DefG.mono {P : Program} {w : World} {K : PySem.W.Frag} {mg : Str → Option Value} {base : Heap} {f : Addr} {j k : Nat} {ps : List Str} {fn : Fn} {Fd : FuncData → Prop} (h : DefG P w K mg base G xv f j ps fn Fd) (le : j ≤ k) : DefG P w K mg base G xv f k ps fn Fd :=
  ⟨let ⟨fd, a, b⟩ := h.ex; ⟨fd, a, b.mono le⟩, h.kp⟩
theorem DefG.gc {P : Program} {w : World} {K : PySem.W.Frag} {mg : Str → Option Value} {base : Heap} {f : Addr} {k : Nat} {ps : List Str} {fn : Fn} {Fd : FuncData → Prop} (h : DefG P w K mg base G xv f k ps fn Fd) : DefG P w K mg base G xv f k ps (gcF fn) Fd :=
  ⟨let ⟨fd, a, b⟩ := h.ex; ⟨fd, a, b.imp fun vs H Q E ⟨l, r, S, ws, q, rl, o⟩ => ⟨l, r, S, ws, q, rl, outGc rl o⟩⟩, h.kp⟩
theorem defG_ok {P : Program} {w : World} {K : PySem.W.Frag} {mg : Str → Option Value} {base : Heap} {cm : Nat → Addr} {TB : List (Addr × Str)} {lm : Option Addr} {li : Option LI} {x qual : Str} {params : Arguments} {body : List Stmt} {scope : Scope} {dvs : List V} {kws : List (Str × V)} {f : Addr} {fd : FuncData} {N ps : List Str} {k : Nat} {d : DS}
    (F : FunD K x qual params body scope dvs kws f fd) (Sc : FnScope N ps scope)
    (hd : ∀ (cdv : Value) (A : Around) (outer : List Env) (s : Shared) (H : Hp) (E : XK), Room k (A.deeper (envOfC qual scope s.heap.objs.size f cdv)) → Cok ⟨K, cm, w, TB, lm, li⟩ (cxOf (L2.CX P w) P w K mg base N qual scope f cdv A outer s H E) (fun c d _ H => E c d H) →
      PSs (cxOf (L2.CX P w) P w K mg base N qual scope f cdv A outer s H E) body (toS ⟨K, cm, w, TB, lm, li⟩ xv (fun c d _ H => E c d H) d)) : DefG P w K mg base ⟨K, cm, w, TB, lm, li⟩ xv f (k + 1) ps (dFn N.length d) (FunD K x qual params body scope dvs kws f) :=
  ⟨⟨fd, F, fn_ok F Sc hd⟩, F.kp⟩
/-- C(e, .., k = v, ..): aW puts the values into the parameters' order -/
def dBoth (aW : List W → List W → List W) (d dk : DA) : DA := fun t S => (d t S).bind fun ws S1 => (dk t S1).bind fun zs S2 => .ok (aW ws zs) S2
theorem run_makeKS {CX : CXT} {k n : Nat} {f C : Addr} {fd : FuncData} {ps ks : List Str} {sp : Sp} {E : XK} {g : List Value → List Value → List Value} {gV : List V → List V → List V} {pins : List (Addr × Obj)} {σ : L2.St} {H : Hp} {s : Shared} {Q : VK} {us ws : List Value} {vs zs : List V} (M : Mk X.K C f) (F : FnOk X.prog X.w X.K X.mg X.base CX k f fd ps sp) (hr : Room (k + 1) X.A) (hb : KBn X.K fd ps (n + 1) ks g gV) (hx : PassesAt CX X σ E)
    (I : Inv X pins σ H s) (r : Vals vs us) (rz : Vals zs ws) (l1 : vs.length = n) (l2 : zs.length = ks.length)
    (h : ∀ x dx, H x = none → H dx = none → dx ≠ x → sp (gV (.ref x :: vs) zs) (upd (upd H dx (.own x)) x (.ins C dx [])) (fun v H2 => v = .non ∧ Q (.ref x) H2) E) :
    wpAny (model X.prog X.w) X.A (call (.ref C) us (ks.zip ws)) (EP X pins σ Q) X.xe s := by
  have hq := h (s.heap.objs.size + 1) s.heap.objs.size (I.hok.fresh (Nat.le_succ _)) (I.hok.fresh (Nat.le_refl _)) (Nat.ne_of_lt (Nat.lt_succ_self _))
  have I2 := Inv.made (C := C) I
  have r1 : Vals (V.ref (s.heap.objs.size + 1) :: vs) (Value.ref (s.heap.objs.size + 1) :: us) := .cons rfl r
  have r2 := hb.rel r1 rz
  have n1 : (Value.ref (s.heap.objs.size + 1) :: us).length = n + 1 := by
    rw [List.length_cons, ← r.length, l1]
  refine wpAny_call (make_map (f := f) I.kIn M.makes M.init (beq_iff_eq.mp M.fn) (codeAny_mono (F.run _ X.stack _ _ ⟨Value.ref (s.heap.objs.size + 1) :: us, ks.zip ws⟩ (g (Value.ref (s.heap.objs.size + 1) :: us) ws) _ _ E (hr.make C us (ks.zip ws))
    (I2.env0.make C us (ks.zip ws)) (hb.to _ (Value.ref (s.heap.objs.size + 1) :: us) ws I2.kIn n1 (rz.length.symm.trans l2)) r2 hq) fun r s' hq' => ?_))
  cases r with
  | error e => exact hx pins _ _ e s' I2 hq'
  | ok fl =>
    cases fl with
    | ret u =>
      obtain ⟨v, H', I3, rv, ev, q3⟩ := I2.after hq'
      subst ev
      exact ⟨rv, ⟨V.ref (s.heap.objs.size + 1), H', I3, rfl, q3⟩⟩
    | next => exact False.elim hq'
    | brk => exact False.elim hq'
    | cont => exact False.elim hq'
/-- C(e, ..), the last parameters by their defaults -/
theorem de_makeD {c : Nat} {x : Str} {p pos : Pos} {e : Expr} {es : List Expr} {d : DA} {f : Addr} {k : Nat} {ps : List Str} {fn : Fn} {Fd : FuncData → Prop} {dw : List W} {dv : List V} (ck : Cok G X Wx) (h : DefG X.prog X.w X.K X.mg X.base G xv f k ps fn Fd) (M : Mk X.K (G.cm c) f) (hm : X.mg x = some (.ref (G.cm c))) (hr : Room (k + 1) X.A)
    (hb : ∀ fd, Fd fd → ∃ ds, Vals dv ds ∧ Binds X.K fd ps ds) (hdw : ∀ H S r, RWs G H S r dw dv) (ha : PA X (e :: es) (toA G xv Wx d)) (hlen : ∀ t S ws S', d t S = .ok ws S' → ws.length = (e :: es).length) (hn : (e :: es).length + dw.length + 1 = ps.length := by rfl) (hg : Gl X x := by rfl) (hdb : (x == ("__debug__" : Str)) = false := by decide)
    (he : starEach (e :: es) X.env = (false, eval e X.env) :: starEach es X.env := by rfl) (hpl : (backTo pos (starEach es X.env)).any (·.1) = false := by rfl) :
    PE X (.Call (.Name x p) (e :: es) [] pos) (toE G xv Wx (dMake c fn (dBoth (· ++ ·) d (fun _ S => .ok dw S)))) := by
  obtain ⟨⟨fd, hF, F⟩, kp⟩ := h
  obtain ⟨ds, hv, b⟩ := hb fd hF
  refine ⟨fun pins s σ H Q I h => ?_⟩
  obtain ⟨r, t, S, l, rl, o⟩ := h
  have h1 : toA G xv Wx d σ H fun vs H1 => vs.length = (e :: es).length ∧ ∀ x dx, H1 x = none → H1 dx = none → dx ≠ x → spF G xv ps.length fn (.ref x :: (vs ++ dv)) (upd (upd H1 dx (.own x)) x (.ins (G.cm c) dx [])) (fun v H2 => v = .non ∧ Q (.ref x) H2) (WE Wx σ) := by
    have o' : OutE G xv Wx (fun H S r w v => RW G H S r w v) σ H S r ((d t S).bind fun ws S2 => match fn (.ref S2.length :: (ws ++ dw)) (S2 ++ [.ins c [] []]) with
      | .ok .non S3 => .ok (.ref S2.length) S3
      | .er k ns us S3 => .er k ns us S3
      | _ => .no) Q := by
      unfold dMake dBoth at o
      cases ed : d t S with
      | no => rw [ed] at o; exact o
      | er c' ns' ws' S1 => rw [ed] at o; exact o
      | ok ws S1 => rw [ed] at o; exact o
    refine toX.bind l rl o' fun ws S1 r1 H1 vs ew e1 rl1 l1 q o1 => ⟨by rw [← q.length]; exact hlen t S ws S1 ew, ?_⟩
    intro x dx nx nd ne
    have q2 := q.append (hdw H1 S1 r1)
    exact outMake (by rw [← q2.length, List.length_append, hlen t S ws S1 ew]; exact hn) q2 rl1 o1 x dx nx nd ne
  refine wpAny_Call_Name_kw (ld_glob I hg hm ?_ hdb)
  refine PySem.W.callWith_K (h₀ := X.base) I.ok.mod.kin M.kp (thn (ha.run pos pins s σ H _ I h1) fun us s1 ⟨vs, H1, I1, r, ql, q⟩ => ⟨I1.kIn, ?_⟩) he hpl
  have hl : ds.length = dw.length := by rw [← hv.length, ← (hdw H1 [] ⟨fun _ => 0, fun _ => False⟩).length]
  have kb : KBn X.K fd ps ((e :: es).length + 1) [] (fun us _ => us ++ ds) (fun vs _ => vs ++ dv) := ⟨fun s us ws X l1 l2 => by
    cases ws with
    | nil => exact b s us X (by rw [List.length_append, l1, hl, ← hn]; omega)
    | cons _ _ => simp at l2, fun r1 _ => r1.append hv⟩
  exact run_makeKS (ws := []) (zs := []) M F hr kb (passAt ck.tk σ) I1 r .nil ql rfl q
end
end DD
namespace DD
open PySem PySem.Spec PyProof.Rows L2
/-! ### a, *b = t -/
end DD
namespace DD
open PySem PySem.Spec PyProof.Rows L2
/-! ### isinstance of one own class -/
def isi1 (c : Nat) : Ki → Ki → Option Bool
  | .b x, .c d => if d = c then (if x = "NoneType" ∨ x = "bool" ∨ x = "int" ∨ x = "str" ∨ x = "tuple" ∨ x = "list" ∨ x = "dict" then some false else none) else none
  | .c a, .c d => if d = c ∧ a = c then some true else none
  | _, _ => none
theorem isi1_ok {K : PySem.W.Frag} {cm : Nat → Addr} {n : Nat} (h1 : PySem.W.kitOne K (.type "NoneType") (.ref (cm n)) = some false) (h2 : PySem.W.kitOne K (.type "bool") (.ref (cm n)) = some false) (h3 : PySem.W.kitOne K (.type "int") (.ref (cm n)) = some false) (h4 : PySem.W.kitOne K (.type "str") (.ref (cm n)) = some false)
    (h5 : PySem.W.kitOne K (.type "tuple") (.ref (cm n)) = some false) (h6 : PySem.W.kitOne K (.type "list") (.ref (cm n)) = some false) (h7 : PySem.W.kitOne K (.type "dict") (.ref (cm n)) = some false) (h8 : PySem.W.kitOne K (.ref (cm n)) (.ref (cm n)) = some true) (hI : InsK K (cm n)) :
    ∀ a b k, isi1 n a b = some k → PySem.W.kitOne K (a.v cm) (b.v cm) = some k ∧ ∀ c, a = .c c → InsK K (cm c) := by
  intro a b k e
  cases a with
  | b x =>
    cases b with
    | b y => simp [isi1] at e
    | c d =>
      simp only [isi1] at e
      split at e
      · rename_i h
        subst h
        split at e
        · rename_i hx
          cases e
          refine ⟨?_, fun c z => by cases z⟩
          rcases hx with rfl | rfl | rfl | rfl | rfl | rfl | rfl <;> assumption
        · cases e
      · cases e
  | c x =>
    cases b with
    | b y => simp [isi1] at e
    | c d =>
      simp only [isi1] at e
      split at e
      · rename_i h
        obtain ⟨rfl, rfl⟩ := h
        cases e
        exact ⟨h8, fun c z => by cases z; exact hI⟩
      · cases e
end DD
namespace DD
open PySem PySem.Spec PyProof.Rows L2
/-! ### enumerate(tuple) -/
section
variable {G : Gx} {xv : Nat → Value} {Wx : WX} {X : Cx} {H H' : Hp} {S S' : Sto} {r r' : Rh}
/-! ### a, *b = t -/
def gStar (j : Nat) (gs : DGs) : DG := fun w t S => match w with
  | .tup ws => if j ≤ ws.length then gs (ws.take j ++ [.lst (ws.drop j)]) t S else .no
  | _ => .no
/-! ### xs.insert(i, y) -/
/-! ### comprehensions, whatever is walked -/
end
end DD
namespace DD
open PySem PySem.Spec PyProof.Rows L2
end DD
/-! Plain reasoning about mirrors. -/
namespace DD
open PySem L2
/-! ### gc -/
theorem gc_ok {S S' : Sto} {w : W} (h : GcS S S') (l : lowW S.length w = true) : gcR S (.ok w S') = .ok w (S'.take S.length) := by
  unfold gcR
  simp only [h, l, and_self, if_true]
theorem gc_er {S S' : Sto} {c : Nat} {ns : List Str} {ws : List W} (h : GcS S S') (l : lowL S.length ws = true) : gcR S (.er c ns ws S') = .er c ns ws (S'.take S.length) := by
  unfold gcR
  simp only [h, l, and_self, if_true]
theorem gcs_same (S : Sto) : GcS S S := ⟨Nat.le_refl _, fun i hi => .inl rfl⟩
theorem gcs_app (S g : Sto) : GcS S (S ++ g) := ⟨by simp, fun i hi => .inl (List.getElem?_append_left hi)⟩
theorem gc_same {S : Sto} {w : W} (l : lowW S.length w = true) : gcR S (.ok w S) = .ok w S := by
  rw [gc_ok (gcs_same S) l, List.take_length]
theorem gc_app {S g : Sto} {w : W} (l : lowW S.length w = true) : gcR S (.ok w (S ++ g)) = .ok w S := by
  rw [gc_ok (gcs_app S g) l]; simp
/-- the same length, all that is there is low -/
theorem gc_set {S S' : Sto} {w : W} (hl : S'.length = S.length) (h : ∀ i, i < S.length → S'[i]? = S[i]? ∨ ∃ o, S'[i]? = some o ∧ lowO S.length o = true) (l : lowW S.length w = true) : gcR S (.ok w S') = .ok w S' := by
  rw [gc_ok ⟨by omega, h⟩ l, ← hl, List.take_length]
/-! ### what is low -/
theorem lowL_all {n : Nat} : ∀ {l : List W}, (∀ w ∈ l, lowW n w = true) → lowL n l = true
  | [], _ => rfl
  | w :: l, h => by
    simp only [lowL, Bool.and_eq_true]
    exact ⟨h w (List.mem_cons_self ..), lowL_all fun x hx => h x (List.mem_cons_of_mem _ hx)⟩
theorem lowL_ints {n : Nat} (l : List Int) : lowL n (l.map W.int) = true := lowL_all fun w hw => by
  obtain ⟨i, _, rfl⟩ := List.mem_map.mp hw; rfl
/-! ### loops -/
/-- one turn of a for -/
def turn (g : DG) (b : DS) (w : W) (t : Lo) (S : Sto) : F := match g w t S with
  | .ok t1 S1 => b t1 S1
  | _ => .no
theorem forL_cons {g : DG} {b : DS} {w : W} {ws : List W} {t : Lo} {S : Sto} : forL g b (w :: ws) t S = match turn g b w t S with
  | .nx t2 S2 => forL g b ws t2 S2
  | .ct t2 S2 => forL g b ws t2 S2
  | .bk t2 S2 => .nx t2 S2
  | x => x := by
  unfold turn
  rw [forL]
  cases g w t S <;> rfl
@[simp] theorem forL_nil {g : DG} {b : DS} {t : Lo} {S : Sto} : forL g b [] t S = .nx t S := rfl
/-- a loop that goes through: an invariant by the turn -/
theorem forL_inv {g : DG} {b : DS} (ws : List W) (I : Nat → Lo → Sto → Prop)
    (h : ∀ i w t S, ws[i]? = some w → I i t S → ∃ t' S', (turn g b w t S = .nx t' S' ∨ turn g b w t S = .ct t' S') ∧ I (i + 1) t' S') {t : Lo} {S : Sto} (h0 : I 0 t S) : ∃ t' S', forL g b ws t S = .nx t' S' ∧ I ws.length t' S' := by
  have key : ∀ (us : List W) (k : Nat) (t : Lo) (S : Sto), ws.drop k = us → k ≤ ws.length → I k t S → ∃ t' S', forL g b us t S = .nx t' S' ∧ I ws.length t' S' := by
    intro us
    induction us with
    | nil =>
      intro k t S e hk i
      have : ws.length ≤ k := by
        have := congrArg List.length e
        simp at this; omega
      have : k = ws.length := by omega
      subst this
      exact ⟨t, S, rfl, i⟩
    | cons w us ih =>
      intro k t S e hk i
      have hw : ws[k]? = some w := by
        have : (ws.drop k)[0]? = some w := by rw [e]; rfl
        simpa using this
      have hlt : k < ws.length := (List.getElem?_eq_some_iff.mp hw).1
      obtain ⟨t', S', e1, i1⟩ := h k w t S hw i
      have e2 : ws.drop (k + 1) = us := by
        rw [← List.drop_drop, e]; rfl
      obtain ⟨t2, S2, e3, i3⟩ := ih (k + 1) t' S' e2 hlt i1
      refine ⟨t2, S2, ?_, i3⟩
      rw [forL_cons]
      rcases e1 with e1 | e1 <;> rw [e1] <;> exact e3
  exact key ws 0 t S rfl (Nat.zero_le _) h0
/-- a loop that may return: each turn goes on with the invariant or ends with Q -/
theorem forL_ret {g : DG} {b : DS} (ws : List W) (I : Nat → Lo → Sto → Prop) (Q : F → Prop)
    (h : ∀ i w t S, ws[i]? = some w → I i t S → (∃ t' S', (turn g b w t S = .nx t' S' ∨ turn g b w t S = .ct t' S') ∧ I (i + 1) t' S') ∨ (∃ w' S', turn g b w t S = .rt w' S' ∧ Q (.rt w' S')) ∨ (∃ t' S', turn g b w t S = .bk t' S' ∧ Q (.nx t' S')) ∨ ∃ c ns us t' S', turn g b w t S = .er c ns us t' S' ∧ Q (.er c ns us t' S'))
    (hd : ∀ t S, I ws.length t S → Q (.nx t S)) {t : Lo} {S : Sto} (h0 : I 0 t S) : Q (forL g b ws t S) := by
  have key : ∀ (us : List W) (k : Nat) (t : Lo) (S : Sto), ws.drop k = us → k ≤ ws.length → I k t S → Q (forL g b us t S) := by
    intro us
    induction us with
    | nil =>
      intro k t S e hk i
      have : ws.length ≤ k := by
        have := congrArg List.length e
        simp at this; omega
      have : k = ws.length := by omega
      subst this
      exact hd t S i
    | cons w us ih =>
      intro k t S e hk i
      have hw : ws[k]? = some w := by
        have : (ws.drop k)[0]? = some w := by rw [e]; rfl
        simpa using this
      have hlt : k < ws.length := (List.getElem?_eq_some_iff.mp hw).1
      have e2 : ws.drop (k + 1) = us := by
        rw [← List.drop_drop, e]; rfl
      rw [forL_cons]
      rcases h k w t S hw i with ⟨t', S', e1, i1⟩ | ⟨w', S', e1, q⟩ | ⟨t', S', e1, q⟩ | ⟨c, ns, vs, t', S', e1, q⟩
      · rcases e1 with e1 | e1 <;> rw [e1] <;> exact ih (k + 1) t' S' e2 hlt i1
      · rw [e1]; exact q
      · rw [e1]; exact q
      · rw [e1]; exact q
  exact key ws 0 t S rfl (Nat.zero_le _) h0
/-! ### ranges -/
/-! ### small -/
theorem atI0 {α : Type} (x : α) (l : List α) : atI (x :: l) 0 = some x := atI_nat (j := 0) rfl
theorem atI1 {α : Type} (x y : α) (l : List α) : atI (x :: y :: l) 1 = some y := atI_nat (j := 1) rfl
theorem atI_in {α : Type} {l : List α} {i : Int} (h0 : 0 ≤ i) (h1 : i < l.length) : ∃ x, atI l i = some x ∧ l[i.toNat]? = some x := by
  obtain ⟨x, hx⟩ : ∃ x, l[i.toNat]? = some x := ⟨l[i.toNat]'(by omega), List.getElem?_eq_getElem _⟩
  refine ⟨x, ?_, hx⟩
  have := atI_nat hx
  rwa [Int.toNat_of_nonneg h0] at this
theorem ixN_in {n : Nat} {i : Int} (h0 : 0 ≤ i) (h1 : i < n) : ixN n i = some i.toNat := by
  unfold ixN; rw [if_pos h0, if_pos h1]
theorem fmod_pos {i j : Int} (h : 0 < j) : fmod i j = i % j := if_pos h
theorem fdiv_pos {i j : Int} (h : 0 < j) : fdiv i j = i / j := if_pos h
/-! ### how mirrors run -/
section
variable {t : Lo} {S : Sto}
@[simp] theorem e_nx {k : Lo → Sto → F} : (F.nx t S).andThen k = k t S := rfl
@[simp] theorem e_rt {w : W} {k : Lo → Sto → F} : (F.rt w S).andThen k = .rt w S := rfl
@[simp] theorem e_bk {k : Lo → Sto → F} : (F.bk t S).andThen k = .bk t S := rfl
@[simp] theorem e_ct {k : Lo → Sto → F} : (F.ct t S).andThen k = .ct t S := rfl
@[simp] theorem e_er {c : Nat} {ns : List Str} {ws : List W} {k : Lo → Sto → F} : (F.er c ns ws t S).andThen k = .er c ns ws t S := rfl
@[simp] theorem e_seq {a b : DS} : dSeq a b t S = (a t S).andThen b := rfl
@[simp] theorem e_next : dNext t S = .nx t S := rfl
@[simp] theorem e_break : dBreak t S = .bk t S := rfl
@[simp] theorem e_cont : dCont t S = .ct t S := rfl
@[simp] theorem e_drop {d : DX} : dDrop d t S = (d t S).toF t fun _ S1 => .nx t S1 := rfl
@[simp] theorem e_ret {d : DX} : dRet d t S = (d t S).toF t fun w S1 => .rt w S1 := rfl
@[simp] theorem e_ifS {c : DT} {a b : DS} : dIfS c a b t S = (c t S).toF t fun k S1 => if k = true then a t S1 else b t S1 := rfl
@[simp] theorem e_if {c : DT} {a b : DX} : dIf c a b t S = (c t S).bind fun k S1 => if k = true then a t S1 else b t S1 := rfl
@[simp] theorem e_setN {d : DX} {i : Nat} : dAsg d (gN i) t S = (d t S).toF t fun w S1 => .nx (t.set i (some w)) S1 := rfl
@[simp] theorem e_var0 {w : W} {t : Lo} : dVar 0 (some w :: t) S = .ok w S := rfl
@[simp] theorem e_varS {i : Nat} {o : Option W} {t : Lo} : dVar (i + 1) (o :: t) S = dVar i t S := by simp [dVar]
@[simp] theorem e_C {w : W} : dC w t S = .ok w S := rfl
@[simp] theorem e_op {f : D2} {a b : DX} : dOp f a b t S = (a t S).bind fun x S1 => (b t S1).bind fun y S2 => match f x y S2 with
  | .ok w S3 => .ok w S3
  | _ => .no := rfl
@[simp] theorem e_nil : dNil t S = .ok [] S := rfl
@[simp] theorem e_cons {a : DX} {b : DA} : dCons a b t S = (a t S).bind fun w S1 => (b t S1).bind fun ws S2 => .ok (w :: ws) S2 := rfl
@[simp] theorem e_call {f : Fn} {d : DA} : dCall f d t S = (d t S).bind fun ws S1 => f ws S1 := rfl
@[simp] theorem e_bi {f : Fn} {d : DA} : dBi f d t S = (d t S).bind fun ws S1 => match f ws S1 with
  | .ok w S2 => .ok w S2
  | _ => .no := rfl
@[simp] theorem e_and {a b : DT} : dtAnd a b t S = (a t S).bind fun k S1 => if k = true then b t S1 else .ok false S1 := rfl
@[simp] theorem e_or {a b : DT} : dtOr a b t S = (a t S).bind fun k S1 => if k = true then .ok true S1 else b t S1 := rfl
@[simp] theorem e_not {a : DT} : dtNot a t S = (a t S).bind fun k S1 => .ok (!k) S1 := rfl
@[simp] theorem e_yes : dYes t S = .ok true S := rfl
@[simp] theorem e_tru {d : DX} : dTru d t S = (d t S).bind fun w S1 => match truW S1 w with
  | some k => .ok k S1
  | none => .no := rfl
@[simp] theorem e_test {d : DX} : dTest d t S = match d t S with
  | .ok (.bl b) S1 => .ok b S1
  | .er c ns ws S1 => .er c ns ws S1
  | _ => .no := rfl
@[simp] theorem e_neg {d : DX} : dNeg d t S = (d t S).bind fun w S1 => match w with
  | .int i => .ok (.int (-i)) S1
  | _ => .no := rfl
@[simp] theorem e_notT {d : DX} : dNotT d t S = (d t S).bind fun w S1 => match truW S1 w with
  | some k => .ok (.bl (!k)) S1
  | none => .no := rfl
@[simp] theorem e_andT {a b : DX} : dAndT a b t S = (a t S).bind fun w S1 => match truW S1 w with
  | some true => b t S1
  | some false => .ok w S1
  | none => .no := rfl
@[simp] theorem e_orT {a b : DX} : dOrT a b t S = (a t S).bind fun w S1 => match truW S1 w with
  | some true => .ok w S1
  | some false => b t S1
  | none => .no := rfl
@[simp] theorem e_for {d : DA} {g : DG} {b : DS} : dFor d g b t S = (d t S).toF t fun ws S1 => forL g b ws t S1 := rfl
@[simp] theorem e_seqI {d : DX} : dSeqI d t S = (d t S).bind fun w S1 => match w with
  | .lst ws => .ok ws S1
  | .scr ws => .ok ws S1
  | .tup ws => .ok ws S1
  | _ => .no := rfl
@[simp] theorem e_lc {d : DA} {g : Tg} {tt : DT} {te : DX} {vs : List Nat} : dLc d g tt te vs t S = (d t S).bind fun ws S1 => lcL g tt te (wipeW t vs) ws [] S1 := rfl
@[simp] theorem e_chain {f g : D2} {a b c : DX} : dChain f g a b c t S = (a t S).bind fun x S1 => (b t S1).bind fun y S2 => match f x y S2 with
  | .ok (.bl true) S3 => (c t S3).bind fun z S4 => match g y z S4 with
    | .ok w S5 => .ok w S5
    | _ => .no
  | .ok (.bl false) S3 => .ok (.bl false) S3
  | _ => .no := rfl
@[simp] theorem e_par {i j : Nat} {d : DA} : dPar i j d t S = (d t S).toF t fun ws S1 => match ws with
  | [a, b] => .nx ((t.set i (some a)).set j (some b)) S1
  | _ => .no := rfl
@[simp] theorem e_tup {d : DA} : dTup d t S = (d t S).bind fun ws S1 => if ws.length ≤ sizeLine then .ok (.tup ws) S1 else .no := rfl
@[simp] theorem e_lst {d : DA} : dLst d t S = (d t S).bind fun ws S1 => if ws.length ≤ sizeLine then .ok (.lst ws) S1 else .no := rfl
@[simp] theorem e_newL {d : DA} : dNewL d t S = (d t S).bind fun ws S1 => if ws.length ≤ sizeLine then .ok (.ref S1.length) (S1 ++ [.lst ws]) else .no := rfl
@[simp] theorem e_wipe0 : wipeW t [] = t := rfl
@[simp] theorem e_wipe1 {v : Nat} {vs : List Nat} : wipeW t (v :: vs) = (wipeW t vs).set v none := rfl
@[simp] theorem e_add {i j : Int} : addD (.int i) (.int j) S = .ok (.int (i + j)) S := rfl
@[simp] theorem e_sub {i j : Int} : iSub (.int i) (.int j) S = .ok (.int (i - j)) S := rfl
@[simp] theorem e_lt {i j : Int} : iLt (.int i) (.int j) S = .ok (.bl (decide (i < j))) S := rfl
@[simp] theorem e_le {i j : Int} : iLe (.int i) (.int j) S = .ok (.bl (decide (i ≤ j))) S := rfl
@[simp] theorem e_gt {i j : Int} : iGt (.int i) (.int j) S = .ok (.bl (decide (j < i))) S := rfl
@[simp] theorem e_ge {i j : Int} : iGe (.int i) (.int j) S = .ok (.bl (decide (j ≤ i))) S := rfl
theorem e_mod {i j : Int} (h : 0 < j) : iMod (.int i) (.int j) S = .ok (.int (i % j)) S := by
  show (if decide (j ≠ 0) = true then R.ok (W.int (fmod i j)) S else .no) = _
  rw [if_pos (decide_eq_true (by omega)), fmod_pos h]
theorem log2_le {n k : Nat} (h : n < 2 ^ k) (h0 : 0 < k) : n.log2 < k := PySem.Flt.log2_lt_of h0 h
theorem e_div {i j : Int} (h : 0 < j) (h2 : j < 2 ^ 8000) : iDiv (.int i) (.int j) S = .ok (.int (i / j)) S := by
  have : j.natAbs.log2 < 9000 := Nat.lt_trans (log2_le (k := 8000) (by omega) (by decide)) (by decide)
  show (if (decide (j ≠ 0) && decide (j.natAbs.log2 < 9000)) = true then R.ok (W.int (fdiv i j)) S else .no) = _
  rw [if_pos (by rw [decide_eq_true (show j ≠ 0 by omega), decide_eq_true this]; rfl), fdiv_pos h]
theorem e_mulR {b : Bool} {i j : Int} (h : -(2 ^ 64) < j ∧ j < 2 ^ 64) : mulD b (.int i) (.int j) S = .ok (.int (i * j)) S := by
  have : mulOk i j = true := by unfold mulOk; rw [decide_eq_true h]; simp
  show (match (if mulOk i j = true then R.ok (W.int (i * j)) S else .no) with
    | .no => _
    | x => x) = _
  rw [if_pos this]
theorem e_mulL {b : Bool} {i j : Int} (h : -(2 ^ 64) < i ∧ i < 2 ^ 64) : mulD b (.int i) (.int j) S = .ok (.int (i * j)) S := by
  have : mulOk i j = true := by unfold mulOk; rw [decide_eq_true h]; simp
  show (match (if mulOk i j = true then R.ok (W.int (i * j)) S else .no) with
    | .no => _
    | x => x) = _
  rw [if_pos this]
theorem e_pow {i j : Int} (h : powOk i j = true) : iPow (.int i) (.int j) S = .ok (.int (i ^ j.toNat)) S := by
  show (if powOk i j = true then R.ok (W.int (i ^ j.toNat)) S else .no) = _
  rw [if_pos h]
@[simp] theorem e_intF {i : Int} : intF [.int i] S = .ok (.int i) S := rfl
@[simp] theorem e_intB {k : Bool} : intF [.bl k] S = .ok (.int (if k then 1 else 0)) S := rfl
@[simp] theorem e_absF {i : Int} : absF [.int i] S = .ok (.int (if i < 0 then -i else i)) S := rfl
@[simp] theorem e_maxF {i j : Int} : max2F [.int i, .int j] S = .ok (.int (if j > i then j else i)) S := rfl
@[simp] theorem e_minF {i j : Int} : min2F [.int i, .int j] S = .ok (.int (if j < i then j else i)) S := rfl
/-- an item of a list, a tuple, a list of the store -/
theorem e_ixT {ws : List W} {i : Int} {w : W} (h : atI ws i = some w) : ixD (.tup ws) (.int i) S = .ok w S := by simp [ixD, seqL, seqT, h]
theorem e_ixC {ws : List W} {i : Int} {w : W} (h : atI ws i = some w) : ixD (.scr ws) (.int i) S = .ok w S := by simp [ixD, seqL, h]
theorem e_ixR {ws : List W} {i : Int} {w : W} {p : Nat} (e : S[p]? = some (.lst ws)) (h : atI ws i = some w) : ixD (.ref p) (.int i) S = .ok w S := by simp [ixD, seqL, e, h]
@[simp] theorem e_lenT {ws : List W} : lenF [.tup ws] S = .ok (.int ws.length) S := rfl
@[simp] theorem e_lenL {ws : List W} : lenF [.lst ws] S = .ok (.int ws.length) S := rfl
@[simp] theorem e_lenC {ws : List W} : lenF [.scr ws] S = .ok (.int ws.length) S := rfl
@[simp] theorem e_tupL {ws : List W} : tupleF [.lst ws] S = .ok (.tup ws) S := rfl
@[simp] theorem e_tupT {ws : List W} : tupleF [.tup ws] S = .ok (.tup ws) S := rfl
@[simp] theorem e_listL {ws : List W} : listF [.lst ws] S = .ok (.lst ws) S := rfl
@[simp] theorem e_listT {ws : List W} : listF [.tup ws] S = .ok (.lst ws) S := rfl
@[simp] theorem e_listC {ws : List W} : listF [.scr ws] S = .ok (.lst ws) S := rfl
@[simp] theorem e_newListC {ws : List W} : newListF [.scr ws] S = .ok (.ref S.length) (S ++ [.lst ws]) := rfl
@[simp] theorem e_asgIx {d da db : DX} : dAsg d (gIx da db) t S = (d t S).toF t fun w S1 => match da t S1 with
  | .ok (.ref p) S1 => match db t S1 with
    | .ok (.int i) S2 => match S2[p]? with
      | some (.lst ws) => match ixN ws.length i with
        | some j => .nx t (S2.set p (.lst (ws.set j w)))
        | none => .no
      | _ => .no
    | _ => .no
  | _ => .no := by
  unfold dAsg gIx
  congr 1
  funext w S1
  cases da t S1 with
  | ok p S1 =>
    cases p <;> try rfl
    simp only []
    cases db t S1 with
    | ok i S2 =>
      cases i <;> try rfl
      simp only []
      rename_i p i
      cases S2[p]? with
      | none => rfl
      | some o =>
        cases o <;> try rfl
        simp only []
        rename_i ws
        cases ixN ws.length i <;> rfl
    | _ => rfl
  | _ => rfl
@[simp] theorem e_asgTp {d : DX} {n : Nat} {gs : DGs} : dAsg d (gTp n gs) t S = (d t S).toF t fun w S1 => match gTp n gs w t S1 with
  | .ok t' S2 => .nx t' S2
  | _ => .no := rfl
@[simp] theorem e_mt {f : W → List W → Sto → R W} {o : DX} {d : DA} : dMt f o d t S = (o t S).bind fun w S1 => match seqL S1 w with
  | some _ => (d t S1).bind fun ws S2 => match f w ws S2 with
    | .ok x S3 => .ok x S3
    | _ => .no
  | none => .no := rfl
@[simp] theorem e_range1 {d : DA} : dRange1 d t S = (d t S).bind fun ws S1 => match ws with
  | [.int j] => if -(2 ^ 62) ≤ j ∧ j < 2 ^ 62 then .ok (intsFrom 0 j.toNat) S1 else .no
  | _ => .no := rfl
end
theorem dat_look {S : Sto} {n : Nat} {a : W} (h : dat n a = true) : lookS S a = a := by
  cases a <;> first | rfl | (cases n <;> simp [dat] at h)
theorem e_eq {S : Sto} {a b : W} (h1 : dat dDep a = true) (h2 : dat dDep b = true) : eqD a b S = .ok (.bl (eqW a b)) S := by
  unfold eqD
  rw [dat_look h1, dat_look h2, h1, h2]; rfl
theorem e_ne {S : Sto} {a b : W} (h1 : dat dDep a = true) (h2 : dat dDep b = true) : neD a b S = .ok (.bl (!eqW a b)) S := by
  unfold neD
  rw [dat_look h1, dat_look h2, h1, h2]; rfl
@[simp] theorem e_eqI {S : Sto} {i j : Int} : eqD (.int i) (.int j) S = .ok (.bl (decide (i = j))) S := by
  rw [e_eq rfl rfl]; simp [eqW]; by_cases h : i = j <;> simp [h]
@[simp] theorem e_neI {S : Sto} {i j : Int} : neD (.int i) (.int j) S = .ok (.bl (!decide (i = j))) S := by
  rw [e_ne rfl rfl]; simp [eqW]; by_cases h : i = j <;> simp [h]
@[simp] theorem e_eqB {S : Sto} {i j : Bool} : eqD (.bl i) (.bl j) S = .ok (.bl (i == j)) S := by rw [e_eq rfl rfl]; rfl
@[simp] theorem e_neB {S : Sto} {i j : Bool} : neD (.bl i) (.bl j) S = .ok (.bl (!(i == j))) S := by rw [e_ne rfl rfl]; rfl
@[simp] theorem e_putN {i : Nat} {w : W} {t : Lo} : (Tg.nm i).put w t = some (t.set i (some w)) := rfl
/-- the start of a def -/
theorem dFn_eq {n : Nat} {b : DS} {ws : List W} {S : Sto} : dFn n b ws S = match b (ws.map some ++ List.replicate (n - ws.length) none) S with
  | .nx _ S1 => .ok .non S1
  | .rt w S1 => .ok w S1
  | .er c ns us _ S1 => .er c ns us S1
  | _ => .no := rfl
theorem gcF_eq {f : Fn} {ws : List W} {S : Sto} : gcF f ws S = gcR S (f ws S) := rfl
end DD
namespace DD
open PySem L2
/-! ### dicts, plainly -/
/-! ### a list of the store is walked -/
section
variable {t : Lo} {S : Sto}
@[simp] theorem e_seqR {d : DX} : dSeqR d t S = (d t S).bind fun w S1 => match w with
  | .ref p => match S1[p]? with
    | some (.lst ws) => .ok (p, ws) S1
    | _ => .no
  | _ => .no := rfl
@[simp] theorem e_forR {d : Lo → Sto → R (Nat × List W)} {g : DG} {b : DS} : dForR d g b t S = (d t S).toF t fun ws S1 => forLR g b ws.1 ws.2 ws.2 t S1 := rfl
@[simp] theorem e_lcR {d : Lo → Sto → R (Nat × List W)} {g : Tg} {tt : DT} {te : DX} {vs : List Nat} : dLcR d g tt te vs t S = (d t S).bind fun ws S1 => lcLR g tt te (wipeW t vs) ws.1 ws.2 ws.2 [] S1 := rfl
end
/-! ### rows of ints -/
abbrev wl (l : List Int) : List W := l.map W.int
@[simp] theorem eqWs_ints : ∀ (a b : List Int), eqWs (wl a) (wl b) = decide (a = b)
  | [], [] => by simp [wl, eqWs]
  | [], b :: bs => by simp [wl, eqWs]
  | a :: as, [] => by simp [wl, eqWs]
  | a :: as, b :: bs => by
    have := eqWs_ints as bs
    simp only [wl, List.map_cons] at this ⊢
    simp [eqWs, eqW, this, Bool.decide_and]
    rfl
@[simp] theorem inW_ints (z : Int) (l : List Int) : inW (.int z) (wl l) = decide (z ∈ l) := by
  induction l with
  | nil => simp [wl, inW]
  | cons a l ih =>
    simp only [wl, inW, List.map_cons, List.any_cons, eqW] at ih ⊢
    rw [ih]
    by_cases h : a = z
    · subst h; simp
    · simp [h, Ne.symm h]
end DD
namespace DD
open PySem PySem.Spec PyProof.Rows L2
end DD
namespace DD
open PySem PySem.Spec PyProof.Rows L2
variable {G : Gx} {xv : Nat → Value} {Wx : WX} {X : Cx} {H H' : Hp} {S S' : Sto} {r r' : Rh}
/-- X() -/
theorem pmk_own0 {C : Addr} {bmB : List Value} {B newId initId : String} {x : Str} {p pos : Pos} (F : ExcBaseFacts B newId initId bmB) (q : PySem.W.excIn X.K C bmB newId = true) (gC : X.mg x = some (.ref C)) (kC : PySem.W.keepIn X.K (.ref C) = true) (r : Raises X (.ref C)) (hg : Gl X x)
    (hdb : (x == ("__debug__" : Str)) = false := by decide) :
    PMk X (.Call (.Name x p) [] [] pos) (fun _ H Q => Q (.ref C) none H) := by
  intro pins s σ H Q I h
  refine wpAny_Call_Name_kw (ld_glob I hg gC ?_ hdb)
  refine PySem.W.callWith_K0 I.kIn kC ?_
  show wpAny _ _ (call (.ref C) []) _ _ _
  obtain ⟨bm, N, nm, qn, bs, hdct, sn, sub, ab, col, dd, k0, k1, k2, k3, k5, mN, hC, hN, hni, T⟩ := exc_obj I.kIn q
  refine wpAny_call_exc_subT F T hC hN hni (fun h' e hm => ?_) (by show 0 ≤ sizeLine; omega)
  exact mk_of I hm r h (I.hok.gone hm.new)
/-- raise X() -/
def dRaise0 (c : Nat) : DS := fun t S => .er c [] [] t S
structure Exc0 (K : PySem.W.Frag) (C : Addr) {B newId initId : String} {bmB : List Value} (F : ExcBaseFacts B newId initId bmB) : Prop where
  q : PySem.W.excIn K C bmB newId = true
  kC : PySem.W.keepIn K (.ref C) = true
  sub : PySem.W.subIn K (.ref C) (.type "BaseException") = some true
  ty : PySem.W.typeIn K (.ref C) = some (.type "type")
theorem ds_raise0 {c : Nat} {x : Str} {B newId initId : String} {bmB : List Value} {F : ExcBaseFacts B newId initId bmB} {p pos pos2 : Pos} (k : Cok G X Wx) (T : Exc0 X.K (G.cm c) F) (hm : X.mg x = some (.ref (G.cm c))) (hx : xv c = .ref (G.cm c))
    (hg : Gl X x := by rfl) (hdb : (x == ("__debug__" : Str)) = false := by decide) :
    PS X (.Raise (some (.Call (.Name x p) [] [] pos)) none pos2) (toS G xv Wx (dRaise0 c)) :=
  PSi (ps_raise k.calm k.tk (pmk_own0 F T.q hm T.kC (raises_own T.sub T.ty) hg hdb)) fun D s H ⟨r, t, S, l, rl, o⟩ => by
    rw [← hx]
    exact o r H s none .refl rl l (.inl ⟨rfl, rfl, rfl⟩)
end DD
namespace DD
open PySem PySem.Spec PyProof.Rows L2
open PySem.W (InstAt)
section
variable {prog : Program} {w : World} {A : Around} {E : Value → Shared → Prop} {s : Shared} {K : PySem.W.Frag} {x C L f g dx : Addr} {h₀ : Heap} {m : Str → Option Value} {od : Option Obj}
theorem asInt_ref {M : Model} {Q : Option Int → Shared → Prop} (I : InstAt s.heap x (PySem.W.instObj C dx) C od) (h : Q none s) : wpAny M A (asInt? (.ref x)) Q E s := by
  unfold asInt?
  refine wpAny_bind (wpAny_load I.at_ ?_)
  exact wpAny_pure h
end
end DD
namespace DD
open PySem PySem.Spec PyProof.Rows L2
open PySem.W (InstAt)
section
variable {prog : Program} {w : World} {A : Around} {E : Value → Shared → Prop} {s : Shared} {K : PySem.W.Frag} {x C L f g dx : Addr} {h₀ : Heap} {m : Str → Option Value} {od : Option Obj}
theorem int_no {nm : Str} {id n : String} {fi : Int → Int → Sem Fin} {b : Bool} {i : Int} {t : Tok} (slot : Slot "int" nm id) (entry : entryFor table id = some (Builtin.Int.intBinary n fi b)) (args : argsOk id ⟨[.int i t, .ref x], []⟩)
    (hsl : slotArgs n 1 ⟨[.int i t, .ref x], []⟩ = pure (.int i t, [.ref x]))
    (I : InstAt s.heap x (PySem.W.instObj C dx) C od) : wpAny (model prog w) A (call (.builtin id) [.int i t, .ref x]) (fun v s' => v = .notImplemented ∧ s' = s) E s := by
  refine wpAny_call_entry slot (typeIs_int s i t) entry ?_ args
  unfold Builtin.Int.intBinary
  rw [hsl]
  refine wpAny_bind (wpAny_pure ?_)
  refine wpAny_bind (m := Builtin.Int.intOfSelf (.int i t)) (wpAny_pure ?_)
  refine wpAny_bind (m := asInt? (.ref x)) (asInt_ref I ?_)
  exact wpAny_bind (wpAny_rule (wpAny_pure ⟨_, rfl, rfl, rfl⟩))
theorem rcmp_K {op : CmpOp} {i : Int} {t : Tok} {id : String} {Q : Value → Shared → Prop} (hu : A.units < cLine) (F : Fr h₀ L s.heap m) (X₀ : K.In h₀) (I : InstAt s.heap x (PySem.W.instObj C dx) C od)
    (hs : PySem.W.findIn K (.ref C) (cmpInfo op).2.2 = some (some (.ref g))) (hg : PySem.W.isFn K (.ref g) = true)
    (hsub : PySem.W.subIn K (.ref C) (.type "int") = some false) (hl : Slot "int" (cmpInfo op).2.1 id)
    (hd : wpAny (model prog w) A (call (.builtin id) [.int i t, .ref x]) (fun v s' => v = .notImplemented ∧ s' = s) E s)
    (h : wpAny (model prog w) A (call (.ref g) [.ref x, .int i t]) (PySem.W.CmpBack Q) E s) : wpAny (model prog w) A (richCompare op (.int i t) (.ref x)) Q E s := by
  have X := X₀.keeps F.keep
  have two : wpAny (model prog w) A (tryCompare (.ref x) (cmpInfo op).2.2 (.int i t)) (fun r s' => ∃ v, r = some v ∧ Q v s') E s := by
    unfold tryCompare
    refine wpAny_bind (PySem.W.ifBound_K X I hs hg (wpAny_mono h (fun v s' hv => ?_) fun _ _ e => e))
    cases v <;> first | exact hv.elim | exact wpAny_pure ⟨_, rfl, hv⟩
  have one : wpAny (model prog w) A (tryCompare (.int i t) (cmpInfo op).2.1 (.ref x)) (fun r s' => r = none ∧ s' = s) E s :=
    wpAny_tryCompare_declines (typeIs_int s i t) hl (wpAny_mono hd (fun v s' e => ⟨e.1, rfl, e.2⟩) fun _ _ e => e)
  have hne : (Value.type "int" != Value.ref C) = true := by simp
  unfold richCompare
  simp only [(typeIs_int s i t).oneThing_none]
  refine wpAny_holding (wpAny_bind (wpAny_cRoomFor hu ?_))
  refine wpAny_bind (wpAny_typeOf (typeIs_int s i t) (wpAny_bind (I.type.here ?_)))
  simp only [hne, if_true]
  refine wpAny_bind ((PySem.W.looks_subIn X hsub).here ?_)
  simp only [Bool.false_eq_true, if_false]
  refine wpAny_bind (wpAny_mono one (fun r s' e => ?_) fun _ _ e => e)
  obtain ⟨rfl, rfl⟩ := e
  simp only [Bool.not_false, if_true]
  refine wpAny_bind (wpAny_mono two (fun r s' e => ?_) fun _ _ e => e)
  obtain ⟨v, rfl, hq⟩ := e
  exact wpAny_pure hq
end
end DD
namespace DD
open PySem PySem.Spec PyProof.Rows L2
variable {G : Gx} {xv : Nat → Value} {Wx : WX} {X : Cx} {H H' : Hp} {S S' : Sto} {r r' : Rh}
/-- int's own method declines an instance -/
def IntNo (nm : Str) : Prop := ∃ (id n : String) (fi : Int → Int → Sem Fin) (b : Bool), Slot "int" nm id ∧ entryFor table id = some (Builtin.Int.intBinary n fi b) ∧ (∀ i t x, argsOk id ⟨[.int i t, .ref x], []⟩) ∧ ∀ i t x, slotArgs n 1 ⟨[.int i t, .ref x], []⟩ = pure (.int i t, [.ref x])
theorem no_eq : IntNo "__eq__" := ⟨_, _, _, _, F.slot_int_eq, F.entry_int_eq, fun _ _ _ => F.args_int_eq_2 _ _, fun _ _ _ => rfl⟩
def usrL (c : Nat) (fn : Fn) : D2 := fun a b S => match b with
  | .int _ => if isOf c a S = true then fn [a, b] S else .no
  | _ => .no
theorem back {pins : List (Addr × Obj)} {σ : L2.St} {Q : VK} : ∀ w s', EP X pins σ Q w s' → PySem.W.CmpBack (EP X pins σ Q) w s' := fun w s' z => by
  obtain ⟨z', H', I', rz, qz⟩ := z
  cases w <;> first | exact ⟨z', H', I', rz, qz⟩ | (cases z' <;> first | exact nomatch rz | (obtain ⟨t, e⟩ := rz; exact nomatch e))
def usrR (c : Nat) (fn : Fn) : D2 := fun a b S => match a with
  | .int _ => if isOf c b S = true then fn [b, a] S else .no
  | _ => .no
theorem o_usrCL {op : CmpOp} {c : Nat} {f : Addr} {k : Nat} {fn : Fn} {m : Str} (hk : X.K = G.K) (h : DefOk X.prog X.w X.K X.mg X.base G xv f k 2 fn) (hr : Room k X.A) (M : Meth G.K (G.cm c) m f) (s1 : PySem.W.subIn G.K (.type "int") (.ref (G.cm c)) = some false) (hop : ∀ a b, compareOp op a b = richCompare op a b := by intro _ _; rfl) (hm : (cmpInfo op).2.1 = m := by rfl) : OpR X (compareOp op) (toR2 G xv (usrL c fn)) := by
  intro pins s σ H x y v u Q I rx ry ⟨r, S, a, b, rl, qa, qb, o⟩
  unfold usrL at o
  split at o
  · rename_i i
    cases qb
    split at o
    · rename_i hi
      obtain ⟨p, dx, fs, rfl, e1⟩ := isOf_ok rl qa hi
      cases (show v = Value.ref p from rx)
      obtain ⟨tk, rfl⟩ : ∃ t, u = Value.int i t := ry
      obtain ⟨od, Jn⟩ := inst_at I e1
      obtain ⟨m, hF⟩ := I.fr
      subst hm
      rw [hop]
      refine PySem.W.cmp_K (op := op) (K := X.K) (tb := .type "int") hr.units0 hF I.ok.mod.kin Jn (PySem.W.Looks.of_pure rfl) (by unfold PySem.W.notFirst; rw [hk, s1]; simp) (by rw [hk]; exact M.at_) (by rw [hk]; exact M.fn) ?_
      exact wpAny_mono (run_op (vs := [.ref p, .int i]) h hr I (.cons rfl (.cons ⟨tk, rfl⟩ .nil)) rfl (.cons qa (.cons (.int i) .nil)) rl o) back fun _ _ z => z
    · exact o.elim
  · exact o.elim
theorem o_usrCR {op : CmpOp} {c : Nat} {g : Addr} {k : Nat} {fn : Fn} {m mr : Str} (hk : X.K = G.K) (h : DefOk X.prog X.w X.K X.mg X.base G xv g k 2 fn) (hr : Room k X.A) (MR : Meth G.K (G.cm c) mr g) (s2 : PySem.W.subIn G.K (.ref (G.cm c)) (.type "int") = some false) (N : IntNo (cmpInfo op).2.1) (hop : ∀ a b, compareOp op a b = richCompare op a b := by intro _ _; rfl) (hmr : (cmpInfo op).2.2 = mr := by rfl) : OpR X (compareOp op) (toR2 G xv (usrR c fn)) := by
  intro pins s σ H x y v u Q I rx ry ⟨r, S, a, b, rl, qa, qb, o⟩
  unfold usrR at o
  split at o
  · rename_i i
    cases qa
    split at o
    · rename_i hi
      obtain ⟨p, dx, fs, rfl, e1⟩ := isOf_ok rl qb hi
      cases (show u = Value.ref p from ry)
      obtain ⟨tk, rfl⟩ : ∃ t, v = Value.int i t := rx
      obtain ⟨od, Jn⟩ := inst_at I e1
      obtain ⟨m, hF⟩ := I.fr
      subst hmr
      rw [hop]
      obtain ⟨id, n, fi, bb, sl, en, ar, sa⟩ := N
      refine rcmp_K (K := X.K) hr.units0 hF I.ok.mod.kin Jn (by rw [hk]; exact MR.at_) (by rw [hk]; exact MR.fn) (by rw [hk]; exact s2) sl (int_no sl en (ar _ _ _) (sa _ _ _) Jn) ?_
      exact wpAny_mono (run_op (vs := [.ref p, .int i]) h hr I (.cons rfl (.cons ⟨tk, rfl⟩ .nil)) rfl (.cons qb (.cons (.int i) .nil)) rl o) back fun _ _ z => z
    · exact o.elim
  · exact o.elim
end DD
namespace DD
open PySem PySem.Spec PyProof.Rows L2
def isBt (y : String) : Bool := y = "bool" || y = "int" || y = "str" || y = "tuple" || y = "list" || y = "dict"
/-- isinstance of values and of instances of one own class, by a built-in class or this one -/
def isi2 (c : Nat) : Ki → Ki → Option Bool := fun a b => match isi1 c a b with
  | some k => some k
  | none => match isiB a b with
    | some k => some k
    | none => match a, b with
      | .c a, .b y => if a = c ∧ isBt y = true then some false else none
      | _, _ => none
theorem isi2_ok {K : PySem.W.Frag} {cm : Nat → Addr} {n : Nat} (h1 : ∀ a b k, isi1 n a b = some k → PySem.W.kitOne K (a.v cm) (b.v cm) = some k ∧ ∀ c, a = .c c → InsK K (cm c)) (hI : InsK K (cm n))
    (b1 : PySem.W.kitOne K (.ref (cm n)) (.type "bool") = some false) (b2 : PySem.W.kitOne K (.ref (cm n)) (.type "int") = some false) (b3 : PySem.W.kitOne K (.ref (cm n)) (.type "str") = some false)
    (b4 : PySem.W.kitOne K (.ref (cm n)) (.type "tuple") = some false) (b5 : PySem.W.kitOne K (.ref (cm n)) (.type "list") = some false) (b6 : PySem.W.kitOne K (.ref (cm n)) (.type "dict") = some false) :
    ∀ a b k, isi2 n a b = some k → PySem.W.kitOne K (a.v cm) (b.v cm) = some k ∧ ∀ c, a = .c c → InsK K (cm c) := by
  intro a b k e
  unfold isi2 at e
  split at e
  · rename_i k' e1; cases e; exact h1 _ _ _ e1
  · split at e
    · rename_i k' e1; cases e; exact isiB_ok _ _ _ e1
    · split at e
      · rename_i a y _ _
        split at e
        · rename_i h
          obtain ⟨rfl, hy⟩ := h
          cases e
          refine ⟨?_, fun c z => by cases z; exact hI⟩
          simp only [isBt, Bool.or_eq_true, decide_eq_true_eq] at hy
          rcases hy with ((((rfl | rfl) | rfl) | rfl) | rfl) | rfl <;> assumption
        · cases e
      · cases e
end DD
namespace DD
open PySem PySem.Spec PyProof.Rows L2
end DD
namespace DD
open PySem L2
/-! ### the first kind of pool: a script, a count, a place, a big cell and a mix -/
/-- at p a drawing list that has been asked at most k times -/
def Pl (S : Sto) (p k : Nat) : Prop := ∃ (ns : List Int) (c i b m : Int), S[p]? = some (.lst [.scr (ns.map W.int), .int c, .int i, .int b, .int m]) ∧ 0 ≤ c ∧ c ≤ k ∧ 0 ≤ i ∧ 0 ≤ b ∧ 0 ≤ m ∧ m < 2147483629
theorem Pl.mono {S : Sto} {p k k' : Nat} (P : Pl S p k) (h : k ≤ k') : Pl S p k' := by
  obtain ⟨ns, c, i, b, m, h1, h2, h3, h4⟩ := P
  exact ⟨ns, c, i, b, m, h1, h2, by omega, h4⟩
theorem Pl.set {S : Sto} {p n k : Nat} {o : O} (P : Pl S p k) (h : n ≠ p) : Pl (S.set n o) p k := by
  obtain ⟨ns, c, i, b, m, h1, h2⟩ := P
  exact ⟨ns, c, i, b, m, by rw [List.getElem?_set_ne h]; exact h1, h2⟩
/-- a later store: only the drawing list has turned, and it has been asked at most k times -/
structure Af (p k : Nat) (S S' : Sto) : Prop where
  len : S'.length = S.length
  keep : ∀ i, i ≠ p → S'[i]? = S[i]?
  pool : Pl S' p k
theorem Af.refl {p k : Nat} {S : Sto} (P : Pl S p k) : Af p k S S := ⟨rfl, fun _ _ => rfl, P⟩
theorem Af.trans {p k k' : Nat} {S S1 S2 : Sto} (a : Af p k S S1) (b : Af p k' S1 S2) : Af p k' S S2 := ⟨b.len.trans a.len, fun i h => (b.keep i h).trans (a.keep i h), b.pool⟩
theorem Af.mono {p k k' : Nat} {S S1 : Sto} (a : Af p k S S1) (h : k ≤ k') : Af p k' S S1 := ⟨a.len, a.keep, a.pool.mono h⟩
end DD
namespace DD
open PySem PySem.Spec PyProof.Rows L2
variable {G : Gx} {xv : Nat → Value} {Wx : WX} {X : Cx} {H H' : Hp} {S S' : Sto} {r r' : Rh}
/-- (a, b, ..) = a tuple or a list of that length -/
def gSq (n : Nat) (gs : DGs) : DG := fun w t S => match w with
  | .tup ws => if ws.length = n then gs ws t S else .no
  | w => match seqL S w with
    | some ws => if ws.length = n then gs ws t S else .no
    | none => .no
@[simp] theorem e_asgSq {d : DX} {n : Nat} {gs : DGs} {t : Lo} {S : Sto} : dAsg d (gSq n gs) t S = (d t S).toF t fun w S1 => match gSq n gs w t S1 with
  | .ok t' S2 => .nx t' S2
  | _ => .no := rfl
end DD
namespace DD
open PySem PySem.Spec PyProof.Rows L2
end DD
namespace DD
open PySem PySem.Spec PyProof.Rows L2 RT RZ
variable {G : Gx} {xv : Nat → Value} {Wx : WX} {X : Cx} {H H' : Hp} {S S' : Sto} {r r' : Rh}
/-! ### list.pop(i), list.extend -/
/-! ### reversed(a list or a tuple) -/
/-! ### zip of two lists, of two tuples (values) -/
/-! ### sorted(a list of ints) -/
/-! ### x = y = e -/
def dAsg2 (d : DX) (i j : Nat) : DS := fun t S => (d t S).toF t fun w S1 => .nx ((t.set i (some w)).set j (some w)) S1
@[simp] theorem e_asg2 {d : DX} {i j : Nat} {t : Lo} {S : Sto} : dAsg2 d i j t S = (d t S).toF t fun w S1 => .nx ((t.set i (some w)).set j (some w)) S1 := rfl
/-! ### constants that are tuples -/
end DD
namespace DD
open PySem PySem.Spec PyProof.Rows L2
variable {G : Gx} {xv : Nat → Value} {Wx : WX} {X : Cx} {H H' : Hp} {S S' : Sto} {r r' : Rh}
/-! ### dicts with nested keys: the heap's side -/
theorem dn_at {P : Program} {w : World} {h : Heap} {a : Addr} {rows : List Row} {ob : Obj} (ok : HOk P w H h) (e : H a = some (DnO w a rows ob)) : DnAt w a rows ob h := (show ObjOk P w H h a (DnO w a rows ob) from ok a _ e).1
theorem rows_mem : ∀ {rows : List Row} {xs : List (NestedKey × Addr × Value)}, RowsR rows xs → ∀ x ∈ xs, ∃ p ∈ rows, p.1 = x.1 ∧ p.2.1 = x.2.1
  | _, _, .nil, x, hx => nomatch hx
  | _, _, .cons h t, x, hx => by
    rcases List.mem_cons.mp hx with rfl | hx
    · exact ⟨_, List.mem_cons_self .., h.1, h.2.1⟩
    · obtain ⟨p, hp, q⟩ := rows_mem t x hx
      exact ⟨p, List.mem_cons_of_mem _ hp, q⟩
theorem dn_dict {P : Program} {w : World} {h : Heap} {a : Addr} {rows : List Row} {ob : Obj} (d : DnAt w a rows ob h) (hk : ∀ x ∈ rows, NestedIs h x.1 (.ref x.2.1)) : (a == sysModules) = false ∧ ∃ xs, RowsR rows xs ∧ h.DictOfH (nestedKind P w) a xs := by
  obtain ⟨e, z, y, xs, rr, dp, es, ep, c1, c2, c3, c4⟩ := d
  refine ⟨y, xs, rr, ob, es, ep, e, c1, c2, c3, fun x hx => ?_, c4⟩
  obtain ⟨p, hp, h1, h2⟩ := rows_mem rr x hx
  exact ⟨by rw [← h1, ← h2]; exact hk p hp, dp x hx⟩
/-! ### keys -/
/-- what lies at b is the key k, whatever comes while H stands -/
def KeyAt (K : PySem.W.Frag) (H : Hp) (b : Addr) (k : NestedKey) : Prop := ∀ (X : Cx) (pins : List (Addr × Obj)) (σ : L2.St) (s : Shared), X.K = K → Inv X pins σ H s → NestedIs s.heap k (.ref b)
structure DnKeys (K : PySem.W.Frag) (w : World) (H : Hp) (a : Addr) (rows : List Row) (b : Addr) (k : NestedKey) : Prop where
  at_ : ∃ ob, H a = some (DnO w a rows ob)
  keys : ∀ x ∈ rows, KeyAt K H x.2.1 x.1
  key : KeyAt K H b k
  deep : k.depth ≤ 8
section
variable {pins : List (Addr × Obj)} {σ : L2.St} {s : Shared} {a b : Addr} {rows : List Row} {k : NestedKey} {v : V} {u : Value} {A : Around} {E : Value → Shared → Prop}
theorem DnKeys.dict (g : DnKeys X.K X.w H a rows b k) (I : Inv X pins σ H s) : (a == sysModules) = false ∧ ∃ xs, RowsR rows xs ∧ s.heap.DictOfH (nestedKind X.prog X.w) a xs :=
  let ⟨_, e⟩ := g.at_; dn_dict (dn_at I.hok e) fun x hx => g.keys x hx X pins σ s rfl I
end
/-! ### the values' side -/
/-! ### rules -/
end DD
namespace DD
open PySem PySem.Spec PyProof.Rows L2
variable {G : Gx} {xv : Nat → Value} {Wx : WX} {X : Cx} {H H' : Hp} {S S' : Sto} {r r' : Rh}
/-! ### for k in d -/
/-- the keys of a dict that is a value -/
def dSeqN (d : DX) : DA := fun t S => (d t S).bind fun w S1 => match w with
  | .dn ks _ => .ok ks S1
  | _ => .no
@[simp] theorem e_seqN {d : DX} {t : Lo} {S : Sto} : dSeqN d t S = (d t S).bind fun w S1 => match w with
  | .dn ks _ => .ok ks S1
  | _ => .no := rfl
/-! ### list(d) -/
end DD
namespace DD
open PySem PySem.Spec PyProof.Rows L2
/-! ### {k: v for target in iter if ..}, keys nested -/
end DD
namespace DD
open PySem PySem.Spec PyProof.Rows L2
/-! ### d.get(k, x), keys nested -/
end DD
namespace DD
open PySem PySem.Spec PyProof.Rows L2 RT RZ
/-! ### t < u of tuples -/
/-! ### a list of the store is a value from here on -/
/-! ### zip of a tuple and a list -/
end DD
set_option maxHeartbeats 4000000
namespace DD
open PySem PySem.Spec PyProof.Rows L2
/-! ### lists added, of the store too -/
/-! ### a tuple times a number -/
end DD
/-! bool(o) of an own class with __bool__ -/
namespace PySem
section
variable {prog : Program} {w : World} {A : Around} {E : Value → Shared → Prop} {s : Shared}
theorem bool_new_own (x : Addr) : MeetsIn prog w (Builtin.«bool.__new__» ⟨[.type "bool", .ref x], []⟩) (fun A R s => wpAny (model prog w) A.in1 (truthy (.ref x)) (fun b s' => R (.ok (.ret (.bool b))) s') (fun e s' => R (.error e) s') s) :=
  .of_wp fun A R s h => by
    have f1 := F.conv_sub_bool
    obtain ⟨hp, g, d, tk, os⟩ := s
    unfold Builtin.«bool.__new__»
    repeat (any_goals (first | assumption | with_reducible exact wpAny_mono h (fun b s' h' => wpAny_pure ⟨_, rfl, h'⟩) fun _ _ e => e | with_reducible refine wpAny_bind (wpAny_mono h (fun b s' h' => ?_) fun _ _ e => e) | wp_step))
    all_goals exact ⟨_, rfl, h'⟩
theorem call_bool_own {x : Addr} {Q : Value → Shared → Prop} (h : wpAny (model prog w) A.in1.in1 (truthy (.ref x)) (fun b s' => Q (.bool b) s') E s) : wpAny (model prog w) A (call (.type "bool") [.ref x]) Q E s :=
  callType_newIn F.called_bool F.newNe_bool (F.typeCall_bool_1 _) (F.newCall_bool_1 _) (fun obj => F.args_object_init_2 obj _) F.entry_bool_new (bool_new_own x) (wpAny_mono h (fun b s' q => ⟨rfl, q⟩) fun _ _ e => e)
end
end PySem
namespace DD
open PySem PySem.Spec PyProof.Rows L2
section
variable {G : Gx} {xv : Nat → Value} {Wx : WX} {X : Cx} {H H' : Hp} {S S' : Sto} {r r' : Rh}
/-- bool(o) by the own __bool__ -/
def usrBool (c : Nat) (fn : Fn) : Fn := fun ws S => match ws with
  | [a] => if isOf c a S = true then match fn [a] S with
      | .ok (.bl n) S1 => .ok (.bl n) S1
      | _ => .no
    else .no
  | _ => .no
theorem c_usrBool {c : Nat} {f : Addr} {k : Nat} {fn : Fn} (hk : X.K = G.K) (h : DefOk X.prog X.w X.K X.mg X.base G xv f k 1 fn) (hr : Room (k + 2) X.A) (M : Meth G.K (G.cm c) "__bool__" f) : CallR X (.type "bool") (toC1 G xv (usrBool c fn)) := by
  intro pins s σ H xs us Q I rv ⟨r, S, ws, rl, q, o⟩
  cases q with
  | nil => exact o.elim
  | @cons w ws v vs a q =>
    cases q with
    | cons _ _ => exact o.elim
    | nil =>
      simp only [usrBool] at o
      split at o
      · rename_i hi
        obtain ⟨p, dx, fs, rfl, e1⟩ := isOf_ok rl a hi
        obtain ⟨od, J⟩ := inst_at I e1
        obtain ⟨m, hF⟩ := I.fr
        rw [Vals.ref1 rv]
        refine PySem.call_bool_own ?_
        refine PySem.W.truthy_K (K := X.K) hF I.ok.mod.kin J (by rw [hk]; exact M.at_) (by rw [hk]; exact M.fn) ?_
        obtain ⟨⟨fd, ps, hp, F, b⟩, kp⟩ := h
        have hr1 : Room k X.A.in1.in1 := Room.in1 (Room.in1 hr)
        have sp : spF G xv 1 fn [.ref p] H (fun z H' => ∃ n, z = .bl n ∧ Q (.bl n) H') E0 := ⟨rfl, r, S, [w], .cons a .nil, rl, by
          cases e : fn [w] S with
          | ok x S1 =>
            rw [e] at o
            cases x with
            | bl n =>
              simp only [] at o
              intro r1 H1 z ev rl1 q
              cases q
              exact ⟨n, rfl, o r1 H1 _ ev rl1 (.bl n)⟩
            | _ => exact o.elim
          | er c ns us S1 => rw [e] at o; exact o.elim
          | no => rw [e] at o; exact o.elim⟩
        have bb := b s [.ref p] I.kIn (by simp [hp])
        rw [List.append_nil] at bb
        refine wpAny_call (codeAny_mono (F.run X.A.in1.in1 X.stack s H ⟨[.ref p], []⟩ [.ref p] [.ref p] _ E0 hr1 I.env0.in1.in1 bb (.cons rfl .nil) sp) fun rr s' hq => ?_)
        cases rr with
        | error e => exact (passL pins σ H s e s' I hq)
        | ok fl =>
          cases fl with
          | ret u =>
            obtain ⟨z, H', I', rz, n, rfl, qz⟩ := I.after hq
            cases (show u = Value.bool n from rz)
            exact ⟨.bl n, H', I', rfl, qz⟩
          | next => exact False.elim hq
          | brk => exact False.elim hq
          | cont => exact False.elim hq
      · exact o.elim
end
end DD
/-! In an except suite: x.m(e). -/
namespace DD
open PySem PySem.Spec PyProof.Rows L2
end DD
namespace DD
open PySem PySem.Spec PyProof.Rows L2
/-! ### a list of lists of the store is from here on a value -/
/-! ### max of a list of ints -/
end DD
namespace DD
open PySem PySem.Spec PyProof.Rows L2
/-! ### list.remove(x), x in the list -/
end DD
/-! A lambda handed to a def: what is lent, and how it is called. -/
namespace DD
open PySem PySem.Spec PyProof.Rows L2 NdefX
/-! ### what is lent: cells that are known for the time of a call -/
/-! ### at a call -/
/-! ### the lambda is called -/
/-! ### no lambda is held -/
/-! ### the call to which the lambda is handed -/
/-! ### defs that make lambdas: the code object is told -/
end DD
/-! errors as values; several except clauses; defs called while an error is handled -/
namespace DD
open PySem PySem.Spec PyProof.Rows L2
/-! ### the error is tracked while its suite runs, and behind it -/
theorem exV_ok {P : Program} {w : World} {H : Hp} {h : Heap} {a : Addr} {oe : Obj} (e : h.get? a = some oe) : ObjOk P w H h a (ExV a oe) :=
  ⟨e, ⟨oe, e⟩, fun _ _ q k => k _ q⟩
theorem Inv_track {X : Cx} {pins : List (Addr × Obj)} {σ : L2.St} {H : Hp} {s : Shared} {a : Addr} {oe : Obj} {vs : Array Value} (I : Inv X pins σ H s) (ha : s.heap.get? a = some oe) (hd : oe.data = .fields vs) (na : H a = none) (n0 : X.s_0.heap.get? a = none) (nL : a ≠ X.env.locals)
    (nP : ∀ p ∈ X.pn ++ pins, p.1 ≠ a) : Inv X pins σ (upd H a (ExV a oe)) s := by
  have ne0 : ∀ b o, X.s_0.heap.get? b = some o → b ≠ a := fun b o e z => by rw [z, n0] at e; cases e
  refine ⟨I.ok, I.os, I.bare, ⟨I.base.keep, I.base.slot, fun b o e n hx => ?_, I.base.there, fun b xs e => ?_, fun b o u e => ?_, fun b ps e => ?_⟩, I.loc, I.cell, ?_, fun x c e => ?_, fun p hp => ?_, ?_, I.len⟩
  · rw [upd_ne (ne0 b o e)]; exact I.base.free b o e n hx
  · have q := I.base.tups b xs e
    rw [upd_ne (ne_of_none q na)]; exact q
  · have q := I.base.frzs b o u e
    rw [upd_ne (ne_of_none q na)]; exact q
  · obtain ⟨m, q⟩ := I.base.tbls b ps e
    exact ⟨m, by rw [upd_ne (ne_of_none q na)]; exact q⟩
  · rw [upd_ne (Ne.symm nL)]; exact I.free
  · have : c ≠ a := fun z => by
      obtain ⟨v, o, ho, hq⟩ := I.cell x c e
      rw [z, ha] at ho; cases ho
      rw [hd] at hq; cases hq
    rw [upd_ne this]; exact I.freeC x c e
  · obtain ⟨e, n, ne, nf, d⟩ := I.pin p hp
    exact ⟨e, by rw [upd_ne (nP p hp)]; exact n, ne, nf, d⟩
  · intro b u e
    by_cases hb : b = a
    · subst hb
      rw [upd_same] at e
      cases e
      exact exV_ok ha
    · rw [upd_ne hb] at e
      exact (I.hok b u e).stay (fun c v _ q => q) (fun c q => by rw [upd_ne (ne_of_none q na)]; exact q) fun c xs q => by rw [upd_ne (ne_of_none q na)]; exact q
theorem Inv_inSuite {X : Cx} {pins : List (Addr × Obj)} {σ : L2.St} {H : Hp} {s : Shared} (I : Inv X pins σ H s) (a : Addr) : Inv (X.suite a (X.pn ++ pins)) [] σ H s :=
  ⟨I.ok.suite _ _, I.os, I.bare, I.base, I.loc, I.cell, I.free, I.freeC, fun p hp => I.pin p (by have hp' : p ∈ (X.pn ++ pins) ++ [] := hp; rw [List.append_nil] at hp'; exact hp'), I.hok, I.len⟩
theorem Inv_ofSuite {X : Cx} {pins : List (Addr × Obj)} {σ : L2.St} {H : Hp} {s : Shared} {a : Addr} {pn' : List (Addr × Obj)} (I : Inv (X.suite a (X.pn ++ pins)) pn' σ H s) (ok : X.Ok) : Inv X pins σ H s :=
  ⟨ok, I.os, I.bare, I.base, I.loc, I.cell, I.free, I.freeC, fun p hp => I.pin p (List.mem_append_left _ hp), I.hok, I.len⟩
/-- what a clause wishes: its class, the slot of its name, its suite -/
abbrev Clz := Value × Option Nat × TS
def wMX (K : PySem.W.Frag) (Wout : WX) (D : Ends) : List Clz → WX
  | [] => Wout
  | (c, i, ts) :: r => fun cls d σ H => ∃ b, PySem.W.exmOne K cls c = some b ∧
      (b = true → ∀ a oe, H a = none → Zc cls d oe → (∃ vs, oe.data = .fields vs) → match i with
        | none => ts D σ (upd H a (ExV a oe))
        | some i => ts { nx := fun σ' H' => D.nx (σ'.set i none) H', rt := D.rt, bk := fun σ' H' => D.bk (σ'.set i none) H', ct := fun σ' H' => D.ct (σ'.set i none) H' } (σ.set i (some (.ref a))) (upd H a (ExV a oe))) ∧
      (b = false → wMX K Wout D r cls d σ H)
inductive HdX (X : Cx) : List ExceptHandler → List Clz → Prop
  | nil : HdX X [] []
  | cons {x : Str} {c : Value} {ts : TS} {b₀ : Stmt} {suite : List Stmt} {np pos' : Pos} {hds : List ExceptHandler} {l : List Clz} (hc : Names X x c)
      (hsu : ∀ (a : Addr) (pn : List (Addr × Obj)), PSs (X.suite a pn) (b₀ :: suite) ts) (r : HdX X hds l) :
      HdX X (.ExceptHandler (some (.Name x np)) none (b₀ :: suite) pos' :: hds) ((c, none, ts) :: l)
  | consAs {x n : Str} {c : Value} {i : Nat} {ts : TS} {b₀ : Stmt} {suite : List Stmt} {np pos' : Pos} {hds : List ExceptHandler} {l : List Clz} (hc : Names X x c) (hi : X.N[i]? = some n) (hln : X.env.kindOf n = some .local)
      (hsu : ∀ (a : Addr) (pn : List (Addr × Obj)), PSs (X.suite a pn) (b₀ :: suite) ts) (r : HdX X hds l) :
      HdX X (.ExceptHandler (some (.Name x np)) (some n) (b₀ :: suite) pos' :: hds) ((c, some i, ts) :: l)
theorem ps_tryX {X : Cx} {body : List Stmt} {h₀ : ExceptHandler} {hds : List ExceptHandler} {l : List Clz} {pos : Pos} {tb : WX → TS} {Wout : WX} (hs : X.stack = X.env :: X.outer) (hf : X.env.frame = some X.env.locals) (hN : X.N.Nodup) (hex : X.ex = []) (tk : Takes X Wout)
    (hb : ∀ (W : WX) (pn : List (Addr × Obj)) (xe : Value → Shared → Prop), Takes (X.tr pn xe) W → PassesOwn (model X.prog X.w) X.A X.env xe → PSs (X.tr pn xe) body (tb W))
    (hh : HdX X (h₀ :: hds) l) : PS X (.Try body (h₀ :: hds) [] [] pos) (fun D σ H => tb (wMX X.K Wout D l) D σ H) := by
  refine ⟨fun pins s σ H D I h => ?_⟩
  have ok := I.ok
  have hfr : X.A.frames = some (X.env :: X.outer) := by rw [ok.frames, hs]
  refine wpAny_Try_except ?_
  refine wpAny_mono ((hb (wMX X.K Wout D l) (X.pn ++ pins) (fun e s₁ => wpAny (model X.prog X.w) X.A (noteFrame e X.env) (fun _ s₂ => wpAny (model X.prog X.w) X.A (setFlight e none) (fun _ s₃ =>
    wpAny (model X.prog X.w) X.A (handleBy e X.env (h₀ :: hds)) (SP X pins D) X.xe s₃) X.xe s₂) X.xe s₁) (fun u s' xx => ?_) PassesOwn.looking).run [] s σ H D (I.toTry _) h) (fun f s1 hsp => ?_) (fun e s1 he => he)
  · -- the catch
    obtain ⟨a, B, sI, pins', σ', H', cls, d, rfl, J', nb, up, sky, na, os, ag, w⟩ := xx
    have J : Inv X pins σ' H' sI := J'.ofTry ok
    have sky' : Sky B (X.env :: X.outer) a (Zc cls d) X.env.locals s'.heap := by rw [← hs]; exact sky
    show wpAny (model X.prog X.w) X.A (noteFrame (.ref a) X.env) _ _ _
    refine Sky.land Zc.steady hfr hf sky' fun h3 fl3 up3 => ?_
    have J3 : Inv X pins σ' H' { s' with heap := h3 } := J.landed nb fl3.1 (up.trans up3) os ag
    obtain ⟨oe3, vs3, he3, hz3, hd3⟩ := fl3.there
    have notFr : ∀ {h : Heap} {o : Obj} {vs : Array Value}, h.FunFrames B (X.env :: X.outer) → h.get? a = some o → o.data = .fields vs → a ∉ frs (X.env :: X.outer) := fun {h o vs} ff e dd hm => by
      obtain ⟨_, o', e', hnf⟩ := ff.mem hm
      rw [e] at e'; cases e'
      exact hnf _ dd
    have nfr := notFr fl3.2.2.1 he3 hd3
    have nL : a ≠ X.env.locals := fun z => nfr (List.mem_filterMap.mpr ⟨X.env, List.mem_cons_self, by rw [hf, z]⟩)
    have nF : a ∉ X.fs := fun hm => by
      obtain ⟨e, he, q⟩ := List.mem_filterMap.mp hm
      exact nfr (List.mem_filterMap.mpr ⟨e, List.mem_cons_of_mem _ he, q⟩)
    have nI : sI.heap.get? a = none := by
      cases e : sI.heap.get? a with
      | none => rfl
      | some o =>
        have := nb a o e (by rw [hs]; exact nfr)
        rw [fl3.2.1] at this; cases this
    have n0 : X.s_0.heap.get? a = none := by
      cases e : X.s_0.heap.get? a with
      | none => rfl
      | some o =>
        obtain ⟨o', q⟩ := J.base.there a o e (by rw [hex]; exact fun z => nomatch z)
        rw [nI] at q; cases q
    have nP : ∀ p ∈ X.pn ++ pins, p.1 ≠ a := fun p hp z => by
      have := (J.pin p hp).1
      rw [z, nI] at this; cases this
    have S3 := J3.suite he3 hd3 na nL nF
    have go : ∀ {hds' : List ExceptHandler} {l' : List Clz}, HdX X hds' l' → wMX X.K Wout D l' cls d σ' H' →
        wpAny (model X.prog X.w) X.A (handleBy (.ref a) X.env hds') (SP X pins D) X.xe { s' with heap := h3 } := by
      intro hds' l' hk
      have LT : PySem.W.Looks (model X.prog X.w) h3 (typeOf (.ref a)) cls := fun A Q E s k q => wpAny_typeOf_ref (k _ _ he3) (by rw [hz3.1]; exact q)
      have test : ∀ {x : Str} {c : Value} {np : Pos} (_ : Names X x c) {Q : Value → Shared → Prop} {E : Value → Shared → Prop}, Q c { s' with heap := h3 } → wpAny (model X.prog X.w) (X.A.mark (some (.ref a))) (eval (.Name x np) X.env) Q E { s' with heap := h3 } := fun {x c np} hc {Q E} q => by
        obtain ⟨hg, hdbg, hm | ⟨hm, hv, hnn⟩⟩ := hc
        · exact ld_glob (X := X.suite a ((a, oe3) :: (X.pn ++ pins))) S3 hg hm q hdbg
        · exact ld_blt (X := X.suite a ((a, oe3) :: (X.pn ++ pins))) S3 hg hm hv q hnn hdbg
      induction hk with
      | nil =>
        intro w
        refine wpAny_handleBy_nil ?_
        obtain ⟨k1, k2, k3, oe, vs, T, oT, ts', he, hz, hd, h1, hr⟩ := id fl3
        unfold PySem.passOn
        refine wpAny_bind (wpAny_field he hd h1 ?_)
        rw [if_neg (show ¬ ((Value.ref T == Value.none) = true) from by simp)]
        have fin : wpAny (model X.prog X.w) X.A (setFlight (.ref a) X.env.frame) (fun _ s4 => wpAny (model X.prog X.w) X.A (throw (.ref a) : Sem Flow) (SP X pins D) X.xe s4) X.xe { s' with heap := h3 } := by
          rw [hf]
          refine HandSPX.setFlight_upZ fl3 fun h4 hh4 up4 => wpAny_throw (tk _ _ ?_)
          exact ⟨a, B, sI, pins, σ', H', cls, d, rfl, J, nb, (up.trans up3).trans up4, .inr (.inr (by rw [hs]; exact hh4)), na, os, ag, w⟩
        first
          | exact wpAny_bind (wpAny_pure (wpAny_bind fin))
          | exact wpAny_bind fin
      | @cons x c ts b₀ suite np pos' hds2 l2 hc hsu r ih =>
        intro w
        obtain ⟨b, hb1, hyes, hno⟩ := w
        refine wpAny_handleBy_cons (codeAny_handlers_test ?_) (by intro q; cases q)
        have LM := PySem.W.exm_one (M := model X.prog X.w) (J3.kIn) LT hb1
        refine test hc (LM.here ?_)
        cases b with
        | true =>
          refine codeAny_handlers_suite ?_
          refine HandSPX.lands_againZ fl3 fun h4 fl4 up4 => ?_
          have J4 : Inv X pins σ' H' { s' with heap := h4 } := J.landed nb fl4.1 ((up.trans up3).trans up4) os ag
          obtain ⟨oe4, vs4, he4, hz4, hd4⟩ := fl4.there
          have S4 := Inv_inSuite (Inv_track J4 he4 hd4 na n0 nL nP) a
          refine wpAny_mono ((hsu a (X.pn ++ pins)).run [] _ _ _ _ S4 (hyes rfl a oe4 na hz4 ⟨_, hd4⟩)) (fun f s6 hsp => ?_) (fun _ _ z => False.elim z)
          cases f with
          | next =>
            obtain ⟨σ6, H6, S6, q6⟩ := hsp
            exact ⟨_, _, Inv_ofSuite S6 ok, q6⟩
          | brk =>
            obtain ⟨σ6, H6, S6, q6⟩ := hsp
            exact ⟨_, _, Inv_ofSuite S6 ok, q6⟩
          | cont =>
            obtain ⟨σ6, H6, S6, q6⟩ := hsp
            exact ⟨_, _, Inv_ofSuite S6 ok, q6⟩
          | ret u =>
            obtain ⟨v6, σ6, H6, S6, r6, q6⟩ := hsp
            exact ⟨_, _, _, Inv_ofSuite S6 ok, r6, q6⟩
        | false =>
          show wpAny _ X.A (handleBy (.ref a) X.env hds2) _ _ _
          exact ih (hno rfl)
      | @consAs x n c i ts b₀ suite np pos' hds2 l2 hc hi hln hsu r ih =>
        intro w
        have hloc : Loc X.env.scope n := .inl hln
        obtain ⟨b, hb1, hyes, hno⟩ := w
        refine wpAny_handleBy_cons (codeAny_handlers_test ?_) (by intro q; cases q)
        have LM := PySem.W.exm_one (M := model X.prog X.w) (J3.kIn) LT hb1
        refine test hc (LM.here ?_)
        cases b with
        | true =>
          refine codeAny_handlers_suite_as ?_
          refine HandSPX.lands_againZ fl3 fun h4 fl4 up4 => ?_
          have J4 : Inv X pins σ' H' { s' with heap := h4 } := J.landed nb fl4.1 ((up.trans up3).trans up4) os ag
          obtain ⟨oe4, vs4, he4, hz4, hd4⟩ := fl4.there
          have S4 := Inv_inSuite (Inv_track J4 he4 hd4 na n0 nL nP) a
          refine store_ok (X := X.suite a (X.pn ++ pins)) (v := .ref a) S4 hN hi hloc rfl (fun s5 S5 => ?_) (.inr hln)
          refine wpAny_mono ((hsu a (X.pn ++ pins)).run [] s5 _ _ _ S5 (hyes rfl a oe4 na hz4 ⟨_, hd4⟩)) (fun f s6 hsp => ?_) (fun _ _ z => False.elim z)
          have end_ : ∀ {σ6 : L2.St} {H6 : Hp} {Q : Shared → Prop}, Inv (X.suite a (X.pn ++ pins)) [] σ6 H6 s6 → (∀ s7, Inv X pins (σ6.set i none) H6 s7 → Q s7) →
              wpAny (model X.prog X.w) X.A (do bindName X.env n .none; unbindBehindTheSuite X.env n pos') (fun _ s7 => Q s7) X.xe s6 := fun {σ6 H6 Q} S6 hq => gone_ok (Inv_ofSuite S6 ok) hN hi hln hq
          cases f with
          | next =>
            obtain ⟨σ6, H6, S6, q6⟩ := hsp
            exact end_ S6 fun s7 J7 => ⟨_, _, J7, q6⟩
          | brk =>
            obtain ⟨σ6, H6, S6, q6⟩ := hsp
            exact end_ S6 fun s7 J7 => ⟨_, _, J7, q6⟩
          | cont =>
            obtain ⟨σ6, H6, S6, q6⟩ := hsp
            exact end_ S6 fun s7 J7 => ⟨_, _, J7, q6⟩
          | ret u =>
            obtain ⟨v6, σ6, H6, S6, r6, q6⟩ := hsp
            exact end_ S6 fun s7 J7 => ⟨_, _, _, J7, r6, q6⟩
        | false =>
          show wpAny _ X.A (handleBy (.ref a) X.env hds2) _ _ _
          exact ih (hno rfl)
    exact go hh w
  · cases f with
    | next =>
      obtain ⟨σ', H', J', q⟩ := hsp
      exact wpAny_execs_nil ⟨σ', H', J'.ofTry ok, q⟩
    | brk =>
      obtain ⟨σ', H', J', q⟩ := hsp
      exact ⟨σ', H', J'.ofTry ok, q⟩
    | cont =>
      obtain ⟨σ', H', J', q⟩ := hsp
      exact ⟨σ', H', J'.ofTry ok, q⟩
    | ret u =>
      obtain ⟨v, σ', H', J', r, q⟩ := hsp
      exact ⟨v, σ', H', J'.ofTry ok, r, q⟩
end DD
namespace DD
open PySem PySem.Spec PyProof.Rows L2
/-! ### the clauses as mirrors -/
abbrev Cla := (Nat → Option Bool) × Option Nat × DS
def unX : Option Nat → F → F
  | _, .er _ _ _ _ _ => .no
  | _, .no => .no
  | _, .rt w S => .rt w S
  | none, .nx t S => .nx t S
  | none, .bk t S => .bk t S
  | none, .ct t S => .ct t S
  | some i, .nx t S => .nx (t.set i none) S
  | some i, .bk t S => .bk (t.set i none) S
  | some i, .ct t S => .ct (t.set i none) S
def dHnd : List Cla → Nat → List Str → List W → DS
  | [], c, ns, ws => fun t S => .er c ns ws t S
  | (m, i, h) :: l, c, ns, ws => fun t S => match m c with
    | some true => match i with
      | none => unX none (h t S)
      | some i => unX (some i) (h (t.set i (some (.exn c ns ws))) S)
    | some false => dHnd l c ns ws t S
    | none => .no
def dTryN (b : DS) (l : List Cla) : DS := fun t S => match b t S with
  | .er c ns ws t1 S1 => dHnd l c ns ws t1 S1
  | x => x
section
variable {G : Gx} {xv : Nat → Value} {Wx : WX} {X : Cx} {H H' : Hp} {S S' : Sto} {r r' : Rh}
inductive HdD (G : Gx) (xv : Nat → Value) (X : Cx) : List ExceptHandler → List Cla → Prop
  | nil : HdD G xv X [] []
  | cons {x : Str} {cE : Value} {m : Nat → Option Bool} {h : DS} {b₀ : Stmt} {suite : List Stmt} {np pos' : Pos} {hds : List ExceptHandler} {l : List Cla} (hc : Names X x cE) (hm : ∀ c b, m c = some b → PySem.W.exmOne X.K (xv c) cE = some b)
      (hsu : ∀ (a : Addr) (pn : List (Addr × Obj)), PSs (X.suite a pn) (b₀ :: suite) (toS G xv W0 h)) (q : HdD G xv X hds l) :
      HdD G xv X (.ExceptHandler (some (.Name x np)) none (b₀ :: suite) pos' :: hds) ((m, none, h) :: l)
  | consAs {x n : Str} {cE : Value} {i : Nat} {m : Nat → Option Bool} {h : DS} {b₀ : Stmt} {suite : List Stmt} {np pos' : Pos} {hds : List ExceptHandler} {l : List Cla} (hc : Names X x cE) (hm : ∀ c b, m c = some b → PySem.W.exmOne X.K (xv c) cE = some b)
      (hi : X.N[i]? = some n) (hln : X.env.kindOf n = some .local)
      (hsu : ∀ (a : Addr) (pn : List (Addr × Obj)), PSs (X.suite a pn) (b₀ :: suite) (toS G xv W0 h)) (q : HdD G xv X hds l) :
      HdD G xv X (.ExceptHandler (some (.Name x np)) (some n) (b₀ :: suite) pos' :: hds) ((m, some i, h) :: l)
theorem HdD.ok (hx : ∀ c, xv c = .ref (G.cm c)) {hds : List ExceptHandler} {l : List Cla} (h : HdD G xv X hds l) : ∃ L : List Clz, HdX X hds L ∧ ∀ (D : Ends) (d : Option Addr) (s : L2.St) (H : Hp) (c : Nat) (ns : List Str) (ws : List W) (t : Lo) (S : Sto) (r : Rh),
    RLo G H S r t s → Rl G H S r → Xd G H S r d ns ws → OutS G xv Wx H S r (dHnd l c ns ws t S) D → wMX X.K Wx D L (xv c) d s H := by
  induction h with
  | nil => exact ⟨[], .nil, fun D d s H c ns ws t S r lo rl xd o => o r H s d .refl rl lo xd⟩
  | @cons x cE m hh b₀ suite np pos' hds l hc hm hsu q ih =>
    obtain ⟨L, hL, hw⟩ := ih
    refine ⟨(cE, none, toS G xv W0 hh) :: L, .cons hc hsu hL, fun D d s H c ns ws t S r lo rl xd o => ?_⟩
    simp only [dHnd] at o
    cases em : m c with
    | none => rw [em] at o; exact o.elim
    | some b =>
      rw [em] at o
      refine ⟨b, hm c b em, ?_, ?_⟩
      · rintro rfl a oe na hz hf
        simp only [] at o
        have e1 : Ev H S r (upd H a (ExV a oe)) S r := Ev.fresh na rl
        refine ⟨r, t, S, lo.ev e1, rl.fresh na, ?_⟩
        have o2 := OutS.from e1 o
        cases eh : hh t S with
        | nx t2 S2 => rw [eh] at o2; exact o2
        | bk t2 S2 => rw [eh] at o2; exact o2
        | ct t2 S2 => rw [eh] at o2; exact o2
        | rt w S2 => rw [eh] at o2; exact o2
        | er c2 ns2 ws2 t2 S2 => rw [eh] at o2; exact o2.elim
        | no => rw [eh] at o2; exact o2.elim
      · rintro rfl
        exact hw D d s H c ns ws t S r lo rl xd o
  | @consAs x n cE i m hh b₀ suite np pos' hds l hc hm hi hln hsu q ih =>
    obtain ⟨L, hL, hw⟩ := ih
    refine ⟨(cE, some i, toS G xv W0 hh) :: L, .consAs hc hi hln hsu hL, fun D d s H c ns ws t S r lo rl xd o => ?_⟩
    simp only [dHnd] at o
    cases em : m c with
    | none => rw [em] at o; exact o.elim
    | some b =>
      rw [em] at o
      refine ⟨b, hm c b em, ?_, ?_⟩
      · rintro rfl a oe na hz hf
        simp only [] at o
        have e1 : Ev H S r (upd H a (ExV a oe)) S r := Ev.fresh na rl
        have hq : RW G (upd H a (ExV a oe)) S r (.exn c ns ws) (.ref a) := by
          rcases xd with ⟨rfl, rfl, rfl⟩ | ⟨dx, vs, rfl, ow, hl, q⟩
          · exact .exn (Own.new na rl) (hz.1.trans (hx c)) hf (.inl ⟨rfl, rfl, hz.2⟩) .nil
          · exact .exn (Own.new na rl) (hz.1.trans (hx c)) hf (.inr ⟨dx, hz.2, ow.ev e1, hl⟩) (q.ev e1)
        refine ⟨r, t.set i (some (.exn c ns ws)), S, (lo.ev e1).set hq i, rl.fresh na, ?_⟩
        have o2 := OutS.from e1 o
        cases eh : hh (t.set i (some (.exn c ns ws))) S with
        | nx t2 S2 => rw [eh] at o2; exact fun r2 H2 s2 e2 rl2 l2 => o2 r2 H2 _ e2 rl2 (l2.setN i)
        | bk t2 S2 => rw [eh] at o2; exact fun r2 H2 s2 e2 rl2 l2 => o2 r2 H2 _ e2 rl2 (l2.setN i)
        | ct t2 S2 => rw [eh] at o2; exact fun r2 H2 s2 e2 rl2 l2 => o2 r2 H2 _ e2 rl2 (l2.setN i)
        | rt w S2 => rw [eh] at o2; exact o2
        | er c2 ns2 ws2 t2 S2 => rw [eh] at o2; exact o2.elim
        | no => rw [eh] at o2; exact o2.elim
      · rintro rfl
        exact hw D d s H c ns ws t S r lo rl xd o
theorem ds_tryN {body : List Stmt} {h₀ : ExceptHandler} {hds : List ExceptHandler} {l : List Cla} {pos : Pos} {db : DS} (k : Cok G X Wx) (hs : X.stack = X.env :: X.outer) (hf : X.env.frame = some X.env.locals) (hex : X.ex = []) (hx : ∀ c, xv c = .ref (G.cm c))
    (hb : ∀ (W : WX) (pn : List (Addr × Obj)) (xe : Value → Shared → Prop), Cok G (X.tr pn xe) W → PSs (X.tr pn xe) body (toS G xv W db)) (hh : HdD G xv X (h₀ :: hds) l) :
    PS X (.Try body (h₀ :: hds) [] [] pos) (toS G xv Wx (dTryN db l)) := by
  obtain ⟨L, hL, hw⟩ := hh.ok (Wx := Wx) hx
  refine PSi (ps_tryX (tb := fun W => toS G xv W db) hs hf k.nd hex k.tk (fun W pn xe tk po => hb W pn xe ⟨k.kk, k.ww, tk, po, k.calm, k.nd⟩) hL) fun D s H ⟨r, t, S, l, rl, o⟩ => ?_
  refine ⟨r, t, S, l, rl, ?_⟩
  unfold dTryN at o
  cases e : db t S with
  | nx t1 S1 => rw [e] at o; exact o
  | rt w S1 => rw [e] at o; exact o
  | bk t1 S1 => rw [e] at o; exact o
  | ct t1 S1 => rw [e] at o; exact o
  | no => rw [e] at o; exact o
  | er c ns ws t1 S1 =>
    rw [e] at o
    exact fun r1 H1 s1 d e1 rl1 l1 xd => hw D d s1 H1 c ns ws t1 S1 r1 l1 rl1 xd (OutS.from e1 o)
/-! ### what is read of an error -/
/-! ### isinstance of an error -/
theorem call_isT {cK : Value → Prop} : CallR X (.builtin "isinstance") (fun xs H Q => ∃ (a : Addr) (oe : Obj) (C : Addr) (y : V) (b : Bool), xs = [.ref a, y] ∧ H a = some (ExV a oe) ∧ oe.cls = .ref C ∧ (∃ vs, oe.data = .fields vs) ∧ (oe.dict = none ∨ ∃ dd fs, oe.dict = some dd ∧ H dd = some (.xd fs)) ∧ ExcC X.K C ∧
    ((∃ n, y = .ty n ∧ PySem.W.kitOne X.K (.ref C) (.type n) = some b) ∨ ∃ c, y = .ref c ∧ PySem.W.kitOne X.K (.ref C) (.ref c) = some b) ∧ Q (.bl b) H) := by
  intro pins s σ H xs us Q I rv h
  obtain ⟨a, oe, C, y, b, rfl, ex, hc, hf, hd, T, e, q⟩ := h
  cases rv with
  | cons rx rr =>
    cases rr with
    | cons rt rr =>
      cases rr
      cases rx
      obtain ⟨hget, _⟩ : ObjOk X.prog X.w H s.heap a (ExV a oe) := I.hok a _ ex
      obtain ⟨vs, hv⟩ := hf
      have J : ∃ od, PySem.W.InstAt s.heap a oe C od := by
        rcases hd with hd | ⟨dd, fs, hd, ea⟩
        · exact ⟨none, hget, hc, by unfold PySem.W.notCls; rw [hv] <;> rfl, by rw [hd]; trivial⟩
        · have hx : ObjOk X.prog X.w H s.heap dd (.xd fs) := I.hok dd _ ea
          obtain ⟨mA, hns, hr⟩ := hx
          obtain ⟨od, ho, hl⟩ := lookIn_ns hns
          exact ⟨some od, hget, hc, by unfold PySem.W.notCls; rw [hv] <;> rfl, by rw [hd]; exact ho⟩
      obtain ⟨od, J⟩ := J
      have hcl : (PySem.W.clsIn X.K C).isSome = true := by
        obtain ⟨cd, hc, _⟩ := PySem.W.any_some T.hd
        rw [hc]; rfl
      rcases e with ⟨n, rfl, e⟩ | ⟨c, rfl, e⟩
      · cases rt
        exact PySem.W.kia_one (PySem.W.kitx_exc hcl T.hg T.hk T.hs T.ha T.hn T.ht T.hm) I.kIn J e (fun z => nomatch z) fun tk => ⟨.bl b, H, I.kept (t' := tk) fun _ _ z => z, rfl, q⟩
      · cases rt
        exact PySem.W.kia_one (PySem.W.kitx_exc hcl T.hg T.hk T.hs T.ha T.hn T.ht T.hm) I.kIn J e (fun z => nomatch z) fun tk => ⟨.bl b, H, I.kept (t' := tk) fun _ _ z => z, rfl, q⟩
def isxF (m : Nat → Ki → Option Bool) : Fn := fun ws S => match ws with
  | [.exn c _ _, y] => match kiC y with
    | some k => match m c k with
      | some b => .ok (.bl b) S
      | none => .no
    | none => .no
  | _ => .no
theorem c_isx {m : Nat → Ki → Option Bool} (hk : X.K = G.K) (hm : ∀ c k b, m c k = some b → PySem.W.kitOne G.K (.ref (G.cm c)) (k.v G.cm) = some b ∧ ExcC G.K (G.cm c)) : CallR X (.builtin "isinstance") (toC1 G xv (isxF m)) := by
  intro pins s σ H xs us Q I rv ⟨r, S, ws, rl, q, o⟩
  cases q with
  | nil => exact o.elim
  | @cons w ws v vs a q =>
    cases q with
    | nil => cases a <;> exact o.elim
    | @cons y ws v2 vs b q =>
      cases q with
      | cons _ _ => cases a <;> exact o.elim
      | nil =>
        cases a with
        | @exn a oe c ns ws vs ow hc hf hd qs =>
          simp only [isxF] at o
          cases e2 : kiC y with
          | none => rw [e2] at o; exact o.elim
          | some k =>
            rw [e2] at o
            simp only [] at o
            cases em : m c k with
            | none => rw [em] at o; exact o.elim
            | some bb =>
              rw [em] at o
              obtain ⟨h1, h2⟩ := hm c k bb em
              refine call_isT (cK := fun _ => True) pins s σ H _ us Q I rv ⟨a, oe, G.cm c, v2, bb, rfl, ow.1, hc, hf, ?_, by rw [hk]; exact h2, ?_, o r H _ .refl rl (.bl bb)⟩
              · rcases hd with ⟨_, _, e⟩ | ⟨dd, e, ow2, _⟩
                · exact .inl e
                · exact .inr ⟨dd, _, e, ow2.1⟩
              · rw [hk]
                cases b with
                | cls j => cases e2; exact .inr ⟨_, rfl, h1⟩
                | ty n => cases e2; exact .inl ⟨_, rfl, h1⟩
                | _ => cases e2
        | _ => exact o.elim
def xkM (j : Nat) (m : Nat → Option Bool) : Nat → Ki → Option Bool := fun c k => if k = .c j then m c else none
theorem xkM_ok {K : PySem.W.Frag} {cm : Nat → Addr} {j : Nat} {m : Nat → Option Bool} (h : ∀ c b, m c = some b → PySem.W.kitOne K (.ref (cm c)) (.ref (cm j)) = some b ∧ ExcC K (cm c)) : ∀ c k b, xkM j m c k = some b → PySem.W.kitOne K (.ref (cm c)) (k.v cm) = some b ∧ ExcC K (cm c) := by
  intro c k b e
  unfold xkM at e
  split at e
  · rename_i hk
    subst hk
    exact h c b e
  · cases e
/-! ### where an error is handled -/
structure Hok (G : Gx) (X : Cx) : Prop where
  kk : X.K = G.K
  nd : X.N.Nodup
theorem Cok.hot (k : Cok G X Wx) {a : Addr} {pn : List (Addr × Obj)} : Hok G (X.suite a pn) := ⟨k.kk, k.nd⟩
end
end DD
namespace DD
open PySem PySem.Spec PyProof.Rows L2
end DD
/-! {k: v}, the key a nested tuple: a dict of one row. -/
namespace DD
open PySem PySem.Spec PyProof.Rows L2
end DD
/-! Generators whose consumer may do more than put the items into a list: what the consumer owns is pinned, what it makes is tracked. -/
namespace DD
open PySem PySem.Spec PyProof.Rows L2 GenW
/-- what the two sides tell each other: yl, of an item x that is handed out behind what the consumer made of the items so far; tr, of what the consumer makes of x -/
structure GPr where
  yl : List V → V → Hp → Prop
  tr : List V → V → Hp → V → Hp → Prop
end DD
namespace DD
open PySem PySem.Spec PyProof.Rows L2 GenW
end DD
namespace DD
open PySem PySem.Spec PyProof.Rows L2 GenW
end DD
/-! A comprehension over a generator: each item a tuple, taken apart by names. -/
namespace DD
open PySem PySem.Spec PyProof.Rows L2 GenW
end DD
/-! Calls of generator defs; [.. for x, y, z in f(..)]. -/
namespace DD
open PySem PySem.Spec PyProof.Rows L2 GenW
/-! ### the comprehension -/
end DD
/-! [.. for x, y, z in f(..)], f a generator def. -/
namespace DD
open PySem PySem.Spec PyProof.Rows L2 GenW
end DD
/-! Generator defs, by mirrors: a mirror tells the list of the items. -/
namespace DD
open PySem PySem.Spec PyProof.Rows L2 GenW
/-- the store at the beginning; what is asked of an item -/
structure GIn where
  S : Sto
  ok : W → Bool
section
variable {G : Gx} {xv : Nat → Value} {Wx : WX} {X : Cx} {N : GPr} {mW : W → W} {i : GIn} {H H' : Hp} {S S' : Sto} {r r' : Rh}
def OutY (G : Gx) (xv : Nat → Value) (Wx : WX) (mW : W → W) (H : Hp) (S : Sto) (r : Rh) (x : F × List W) (D : GEnds) : Prop :=
  match x with
  | (.nx t S1, os) => ∀ r1 H1 s ys, Ev H S r H1 S1 r1 → Rl G H1 S1 r1 → RLo G H1 S1 r1 t s → RWs G H1 S1 r1 (os.map mW) ys → D.nx ys s H1
  | (.bk t S1, os) => ∀ r1 H1 s ys, Ev H S r H1 S1 r1 → Rl G H1 S1 r1 → RLo G H1 S1 r1 t s → RWs G H1 S1 r1 (os.map mW) ys → D.bk ys s H1
  | (.ct t S1, os) => ∀ r1 H1 s ys, Ev H S r H1 S1 r1 → Rl G H1 S1 r1 → RLo G H1 S1 r1 t s → RWs G H1 S1 r1 (os.map mW) ys → D.ct ys s H1
  | (.rt w S1, os) => ∀ r1 H1 v ys, Ev H S r H1 S1 r1 → Rl G H1 S1 r1 → RW G H1 S1 r1 w v → RWs G H1 S1 r1 (os.map mW) ys → D.rt ys v H1
  | (.er c ns ws t S1, _) => ∀ r1 H1 s d, Ev H S r H1 S1 r1 → Rl G H1 S1 r1 → RLo G H1 S1 r1 t s → Xd G H1 S1 r1 d ns ws → Wx (xv c) d s H1
  | (.no, _) => False
theorem OutY.from {x : F × List W} {D : GEnds} (e : Ev H S r H' S' r') (o : OutY G xv Wx mW H S r x D) : OutY G xv Wx mW H' S' r' x D := by
  obtain ⟨x, os⟩ := x
  cases x with
  | nx t S1 => exact fun r1 H1 v ys e1 => o r1 H1 v ys (e.trans e1)
  | bk t S1 => exact fun r1 H1 v ys e1 => o r1 H1 v ys (e.trans e1)
  | ct t S1 => exact fun r1 H1 v ys e1 => o r1 H1 v ys (e.trans e1)
  | rt w S1 => exact fun r1 H1 v ys e1 => o r1 H1 v ys (e.trans e1)
  | er c ns ws t S1 => exact fun r1 H1 s d e1 => o r1 H1 s d (e.trans e1)
  | no => exact o
end
end DD
/-! The promise of a generator def; a comprehension over its call. -/
namespace DD
open PySem PySem.Spec PyProof.Rows L2 GenW
/-! ### the comprehension -/
end DD
/-! list(f(..)), f a generator def. -/
namespace DD
open PySem PySem.Spec PyProof.Rows L2 GenW
end DD
/-! Sets of ints made on the spot: len({..}), sorted({..}). -/
namespace DD
open PySem PySem.Spec PyProof.Rows L2
/-! ### the mirror -/
/-! ### len of it -/
/-! ### sorted of it -/
end DD
/-! tuple(range(n)), list(range(n)) as a new list of the store, raise C(a, b). -/
namespace DD
open PySem PySem.Spec PyProof.Rows L2
/-! ### raise C(a, b) -/
end DD
/-! A dict that a field holds is a value from a place on. -/
namespace DD
open PySem PySem.Spec PyProof.Rows L2
end DD
/-! t[::-1], of a tuple too. -/
namespace DD
open PySem PySem.Spec PyProof.Rows L2 HT
end DD
/-! The law's head: the facts are told of named addresses; the run's three looks are shown apart. -/
namespace DD
open PySem PySem.Spec PyProof.Rows L2
def obA (as : List Addr) (fa : List He.Fa) (fn : List He.DefD) (tf : List He.Defn) (ex : PySem.W.Frag → Bool) (g : Addr → Option Obj) : He.AlT × Bool :=
  (He.obsT fa fn [] (He.frT g as), ex (He.frT g as) && He.tabsB g tf (He.frT g as))
/-- the tables of the defs that make lambdas -/
def TabsA (tf : List He.Defn) (h : Heap) (K : PySem.W.Frag) : Prop := ∀ p ∈ tf, h.get? (He.cT K p).2 = some { cls := .none, data := .fields #[] } ∧ K.lookup (He.cT K p).2 = none ∧ PySem.W.codeHdIn K (He.cT K p).1 (He.cT K p).2 = true
theorem tabsA_of {as : List Addr} {tf : List He.Defn} {h : Heap} (e : He.tabsB h.get? tf (He.frT h.get? as) = true) : TabsA tf h (He.frT h.get? as) := fun p hp => by
  obtain ⟨h3, h4⟩ := He.ba (List.all_eq_true.mp e p hp)
  cases q : h.get? (He.cT (He.frT h.get? as) p).2 with
  | none => rw [q] at h4; cases h4
  | some o =>
    rw [q] at h4
    exact ⟨by rw [He.emptyTab_eq h4], He.frT_none q h4, h3⟩
/-- what is told of a heap: facts of the part at the named addresses -/
def hookA (as : List Addr) (fa : List He.Fa) (fn : List He.DefD) (tf : List He.Defn) (ex : PySem.W.Frag → Bool) : PySem.W.Hook where
  α := He.AlT × Bool
  obs := fun st => obA as fa fn tf ex st.heap.get?
  val := fun w => (He.valT fn [] w, true)
  says := fun w h => ∃ K : PySem.W.Frag, K.In h ∧ He.SaysT fa fn [] w K ∧ ex K = true ∧ TabsA tf h K
  of := fun _ st e => ⟨He.frT st.heap.get? as, He.frT_in, congrArg Prod.fst e, (He.ba (congrArg Prod.snd e)).1, tabsA_of (He.ba (congrArg Prod.snd e)).2⟩
  keeps := fun _ h h' ⟨K, inK, tx, ex, tt⟩ stay => ⟨K, inK.keeps stay, tx, ex, fun p hp => ⟨stay _ _ (tt p hp).1, (tt p hp).2⟩⟩
theorem obA_eq {as : List Addr} {fa : List He.Fa} {fn : List He.DefD} {tf : List He.Defn} {ex : PySem.W.Frag → Bool} (s : PySem.W.SharedT) : obA as fa fn tf ex (HandSHeadRun.getT s) = (hookA as fa fn tf ex).obs s.abs := by
  have e : HandSHeadRun.getT s = s.abs.heap.get? := funext (HandSHeadRun.getT_eq s)
  rw [e]; rfl
theorem run_all {β γ : Type} {as : List Addr} {fa : List He.Fa} {fn : List He.DefD} {tf : List He.Defn} {ex : PySem.W.Frag → Bool} {o : Option PySem.W.SharedT} {a : PySem.W.SharedT → β} {b : PySem.W.SharedT → γ} {x : β} {y : γ} {w : World}
    (h1 : o.map (fun s => (a s, b s)) = some (x, y)) (h2 : o.map (fun s => He.obsT fa fn [] (He.frT (HandSHeadRun.getT s) as)) = some (He.valT fn [] w)) (h3 : o.map (fun s => ex (He.frT (HandSHeadRun.getT s) as) && He.tabsB (HandSHeadRun.getT s) tf (He.frT (HandSHeadRun.getT s) as)) = some true) :
    o.map (fun s => (a s, b s, obA as fa fn tf ex (HandSHeadRun.getT s))) = some (x, y, (He.valT fn [] w, true)) := by
  cases o with
  | none => cases h1
  | some s =>
    have e1 : (a s, b s) = (x, y) := Option.some.inj h1
    obtain ⟨e2, e3⟩ := Prod.mk.inj e1
    have e4 : He.obsT fa fn [] (He.frT (HandSHeadRun.getT s) as) = He.valT fn [] w := Option.some.inj h2
    have e5 : (ex (He.frT (HandSHeadRun.getT s) as) && He.tabsB (HandSHeadRun.getT s) tf (He.frT (HandSHeadRun.getT s) as)) = true := Option.some.inj h3
    show some (a s, b s, (He.obsT fa fn [] (He.frT (HandSHeadRun.getT s) as), ex (He.frT (HandSHeadRun.getT s) as) && He.tabsB (HandSHeadRun.getT s) tf (He.frT (HandSHeadRun.getT s) as))) = _
    rw [e2, e3, e4, e5]
end DD
/-! Properties of own classes: read, assigned. -/
namespace DD
open PySem PySem.Spec PyProof.Rows L2
/-! ### the head: functions that stand within a property -/
end DD
/-! The law's head where properties are told too. -/
namespace DD
open PySem PySem.Spec PyProof.Rows L2
end DD
/-! d.get(k, x) of a dict with plain keys. -/
namespace DD
open PySem PySem.Spec PyProof.Rows L2
end DD
/-! str of ints and of own instances, f-strings, isinstance of an error by a built-in class. -/
namespace DD
open PySem PySem.Spec PyProof.Rows L2
section
variable {G : Gx} {xv : Nat → Value} {Wx : WX} {X : Cx} {H H' : Hp} {S S' : Sto} {r r' : Rh}
/-- str(o) by the own __str__ -/
def usrStr (c : Nat) (fn : Fn) : Fn := fun ws S => match ws with
  | [a] => if isOf c a S = true then match fn [a] S with
      | .ok (.str n) S1 => .ok (.str n) S1
      | _ => .no
    else .no
  | _ => .no
theorem c_usrStr {c : Nat} {f : Addr} {k : Nat} {fn : Fn} (hk : X.K = G.K) (h : DefOk X.prog X.w X.K X.mg X.base G xv f k 1 fn) (hr : Room (k + 2) X.A) (hu : X.A.units + 64 < cLine) (M : Meth G.K (G.cm c) "__str__" f) : CallR X (.type "str") (toC1 G xv (usrStr c fn)) := by
  intro pins s σ H xs us Q I rv ⟨r, S, ws, rl, q, o⟩
  cases q with
  | nil => exact o.elim
  | @cons w ws v vs a q =>
    cases q with
    | cons _ _ => exact o.elim
    | nil =>
      simp only [usrStr] at o
      split at o
      · rename_i hi
        obtain ⟨p, dx, fs, rfl, e1⟩ := isOf_ok rl a hi
        obtain ⟨od, J⟩ := inst_at I e1
        obtain ⟨m, hF⟩ := I.fr
        rw [Vals.ref1 rv]
        refine PySem.W.kso_call (K := X.K) ?_ I.kIn J (by rw [hk]; exact M.at_) (by rw [hk]; exact M.fn) ?_
        · show X.A.units + 1 + 1 < cLine
          omega
        · obtain ⟨⟨fd, ps, hp, F, b⟩, kp⟩ := h
          have hr1 : Room k X.A.in1.in1 := Room.in1 (Room.in1 hr)
          have sp : spF G xv 1 fn [.ref p] H (fun z H' => ∃ n, z = .str n ∧ Q (.str n) H') E0 := ⟨rfl, r, S, [w], .cons a .nil, rl, by
            cases e : fn [w] S with
            | ok x S1 =>
              rw [e] at o
              cases x with
              | str n =>
                simp only [] at o
                intro r1 H1 z ev rl1 q
                cases q
                exact ⟨n, rfl, o r1 H1 _ ev rl1 (.str n)⟩
              | _ => exact o.elim
            | er c ns us S1 => rw [e] at o; exact o.elim
            | no => rw [e] at o; exact o.elim⟩
          have bb := b s [.ref p] I.kIn (by simp [hp])
          rw [List.append_nil] at bb
          refine wpAny_call (codeAny_mono (F.run X.A.in1.in1 X.stack s H ⟨[.ref p], []⟩ [.ref p] [.ref p] _ E0 hr1 I.env0.in1.in1 bb (.cons rfl .nil) sp) fun rr s' hq => ?_)
          cases rr with
          | error e => exact (passL pins σ H s e s' I hq)
          | ok fl =>
            cases fl with
            | ret u =>
              obtain ⟨z, H', I', rz, n, rfl, qz⟩ := I.after hq
              obtain ⟨tk, rfl⟩ := (show ∃ tk, u = Value.str n tk from rz)
              exact ⟨.str n, H', I', ⟨tk, rfl⟩, qz⟩
            | next => exact False.elim hq
            | brk => exact False.elim hq
            | cont => exact False.elim hq
      · exact o.elim
/-- {x} -/
def dFmt (d : DX) : DX := fun t S => (d t S).bind fun w S1 => match w with
  | .str y => if y.length ≤ sizeLine then .ok (.str y) S1 else .no
  | .int i => if i.natAbs.log2 < 1920 then .ok (.str (toString i)) S1 else .no
  | _ => .no
theorem de_fmt {e : Expr} {d : DX} {pos : Pos} (he : PE X e (toE G xv Wx d)) : PE X (.FormattedValue e (-1) none pos) (toE G xv Wx (dFmt d)) :=
  PEi (pe_fmt he) fun s H Q ⟨r, t, S, l, rl, o⟩ => toX.bind l rl o fun w S1 r1 H1 v _ e1 rl1 l1 q o1 => by
    cases q with
    | str y =>
      simp only [] at o1
      split at o1
      · rename_i hy
        exact .inl ⟨y, rfl, hy, o1 r1 H1 _ .refl rl1 (.str y)⟩
      · exact o1.elim
    | int i =>
      simp only [] at o1
      split at o1
      · rename_i hy
        exact .inr ⟨i, rfl, hy, o1 r1 H1 _ .refl rl1 (.str _)⟩
      · exact o1.elim
    | _ => exact o1.elim
def dJs : List DX → Str → DX
  | [], acc => fun _ S => .ok (.str acc) S
  | d :: ds, acc => fun t S => (d t S).bind fun w S1 => match w with
    | .str y => if (acc ++ y).length ≤ sizeLine then dJs ds (acc ++ y) t S1 else .no
    | _ => .no
theorem dJs_ok {s : L2.St} {Q : VK} : ∀ (ds : List DX) (acc : Str) (H : Hp), toE G xv Wx (dJs ds acc) s H Q → tJs (ds.map fun d => toE G xv Wx d) acc s H fun out H1 => Q (.str out) H1
  | [], acc, H, ⟨r, t, S, l, rl, o⟩ => o r H _ .refl rl (.str acc)
  | d :: ds, acc, H, ⟨r, t, S, l, rl, o⟩ => toX.bind l rl o fun w S1 r1 H1 v _ e1 rl1 l1 q o1 => by
    cases q with
    | str y =>
      simp only [] at o1
      split at o1
      · rename_i hy
        exact ⟨y, rfl, hy, dJs_ok ds _ H1 ⟨r1, t, S1, l1, rl1, o1⟩⟩
      · exact o1.elim
    | _ => exact o1.elim
inductive PJd (G : Gx) (xv : Nat → Value) (Wx : WX) (X : Cx) : List Expr → List DX → Prop where
  | nil : PJd G xv Wx X [] []
  | cons {e : Expr} {d : DX} {es : List Expr} {ds : List DX} (h : PE X e (toE G xv Wx d)) (r : PJd G xv Wx X es ds) : PJd G xv Wx X (e :: es) (d :: ds)
theorem PJd.pj {es : List Expr} {ds : List DX} (h : PJd G xv Wx X es ds) : PJ X es (ds.map fun d => toE G xv Wx d) := by
  induction h with
  | nil => exact .nil
  | cons h _ ih => exact .cons h ih
def dJoin (ds : List DX) : DX := dJs ds Str.empty
theorem de_joined {v1 v2 : Expr} {rest : List Expr} {ds : List DX} {pos : Pos} (h : PJd G xv Wx X (v1 :: v2 :: rest) ds) : PE X (.JoinedStr (v1 :: v2 :: rest) pos) (toE G xv Wx (dJoin ds)) :=
  PEi (pe_joined h.pj) fun s H Q o => dJs_ok ds _ H o
/-- isinstance of an error by a built-in class of errors -/
def xkT (x : String) (m : Nat → Option Bool) : Nat → Ki → Option Bool := fun c k => if k = .b x then m c else none
theorem xkT_ok {K : PySem.W.Frag} {cm : Nat → Addr} {x : String} {m : Nat → Option Bool} (h : ∀ c b, m c = some b → PySem.W.kitOne K (.ref (cm c)) (.type x) = some b ∧ ExcC K (cm c)) : ∀ c k b, xkT x m c k = some b → PySem.W.kitOne K (.ref (cm c)) (k.v cm) = some b ∧ ExcC K (cm c) := by
  intro c k b e
  unfold xkT at e
  split at e
  · rename_i hk
    subst hk
    exact h c b e
  · cases e
theorem boot_ValueErrorT : bootBuiltins "ValueError" = some (.type "ValueError") := by decide +kernel
end
end DD
namespace U
end U
namespace Zk43
open PySem PySem.Spec PyProof.Rows L2 DD U
def topS (i : Nat) : Stmt := PySem.Challenge.pw_steppedtests_k43_ratios_built.main.body.getD i (.Pass ⟨0, 0, 0, 0⟩)
abbrev s_l_pool : Stmt := topS 11
abbrev s_l_take : Stmt := topS 12
abbrev s_Ratio_bool : Stmt := inClass (topS 7) 13
abbrev s_Ratio_eq : Stmt := inClass (topS 7) 8
abbrev s_Ratio_str : Stmt := inClass (topS 7) 14
abbrev s_l_divisor : Stmt := topS 14
abbrev s_common_divisor : Stmt := topS 6
abbrev s_l_is_ratio : Stmt := topS 15
abbrev s_l_number : Stmt := topS 13
abbrev s_l_text : Stmt := topS 17
abbrev s_Ratio_init : Stmt := inClass (topS 7) 0
abbrev s_l_built : Stmt := topS 16
abbrev s_law : Stmt := topS 18
def dd_l_pool : He.DefD := ⟨("_law_pool", none), "_law_pool", "_law_pool", defArgs s_l_pool, defBody s_l_pool, defScope s_l_pool, [], []⟩
def dd_l_take : He.DefD := ⟨("_law_take", none), "_law_take", "_law_take", defArgs s_l_take, defBody s_l_take, defScope s_l_take, [], []⟩
def dd_Ratio_bool : He.DefD := ⟨("Ratio", some "__bool__"), "__bool__", "Ratio.__bool__", defArgs s_Ratio_bool, defBody s_Ratio_bool, defScope s_Ratio_bool, [], []⟩
def dd_Ratio_eq : He.DefD := ⟨("Ratio", some "__eq__"), "__eq__", "Ratio.__eq__", defArgs s_Ratio_eq, defBody s_Ratio_eq, defScope s_Ratio_eq, [], []⟩
def dd_Ratio_str : He.DefD := ⟨("Ratio", some "__str__"), "__str__", "Ratio.__str__", defArgs s_Ratio_str, defBody s_Ratio_str, defScope s_Ratio_str, [], []⟩
def dd_l_divisor : He.DefD := ⟨("_law_divisor", none), "_law_divisor", "_law_divisor", defArgs s_l_divisor, defBody s_l_divisor, defScope s_l_divisor, [], []⟩
def dd_common_divisor : He.DefD := ⟨("common_divisor", none), "common_divisor", "common_divisor", defArgs s_common_divisor, defBody s_common_divisor, defScope s_common_divisor, [], []⟩
def dd_l_is_ratio : He.DefD := ⟨("_law_is_ratio", none), "_law_is_ratio", "_law_is_ratio", defArgs s_l_is_ratio, defBody s_l_is_ratio, defScope s_l_is_ratio, [], []⟩
def dd_l_number : He.DefD := ⟨("_law_number", none), "_law_number", "_law_number", defArgs s_l_number, defBody s_l_number, defScope s_l_number, [], []⟩
def dd_l_text : He.DefD := ⟨("_law_text", none), "_law_text", "_law_text", defArgs s_l_text, defBody s_l_text, defScope s_l_text, [], []⟩
def dd_Ratio_init : He.DefD := ⟨("Ratio", some "__init__"), "__init__", "Ratio.__init__", defArgs s_Ratio_init, defBody s_Ratio_init, defScope s_Ratio_init, [(.int 1)], []⟩
def dd_l_built : He.DefD := ⟨("_law_built", none), "_law_built", "_law_built", defArgs s_l_built, defBody s_l_built, defScope s_l_built, [], []⟩
def dd_law : He.DefD := ⟨("law", none), "law", "law", defArgs s_law, defBody s_law, defScope s_law, [], []⟩
def fn : List He.DefD := [dd_l_pool, dd_l_take, dd_Ratio_bool, dd_Ratio_eq, dd_Ratio_str, dd_l_divisor, dd_common_divisor, dd_l_is_ratio, dd_l_number, dd_l_text, dd_Ratio_init, dd_l_built, dd_law]
def fa : List He.Fa := [.free "ValueError", .free "abs", .free "bool", .free "int", .free "isinstance", .free "len", .free "max", .free "min", .free "range", .free "str", .glo "_law_pool", .glo "_law_take", .glo "_law_divisor", .glo "common_divisor", .glo "_law_is_ratio", .glo "_law_number", .glo "_law_text", .glo "_law_built", .glo "law", .glo "NoPupils", .glo "Ratio", .glo "TestError", .glo "ZeroBottom", .cls "Ratio", .noat "Ratio" "bottom", .noat "Ratio" "top", .meth "Ratio" "__bool__", .meth "Ratio" "__eq__", .meth "Ratio" "__str__", .mkr "Ratio"]
def cm (K : PySem.W.Frag) : Nat → Addr
  | 0 => He.ga K "TestError"
  | 16 => He.ga K "ZeroBottom"
  | 23 => He.ga K "NoPupils"
  | 34 => He.ga K "Ratio"
  | _ => 0
def xv (K : PySem.W.Frag) : Nat → Value := fun i => .ref (cm K i)
def exK (K : PySem.W.Frag) : Bool := decide (PySem.W.kitOne K (.type "NoneType") (.ref (cm K 34)) = some false) && decide (PySem.W.kitOne K (.type "bool") (.ref (cm K 34)) = some false) && decide (PySem.W.kitOne K (.type "int") (.ref (cm K 34)) = some false) && decide (PySem.W.kitOne K (.type "str") (.ref (cm K 34)) = some false) && decide (PySem.W.kitOne K (.type "tuple") (.ref (cm K 34)) = some false) && decide (PySem.W.kitOne K (.type "list") (.ref (cm K 34)) = some false) && decide (PySem.W.kitOne K (.type "dict") (.ref (cm K 34)) = some false) && decide (PySem.W.kitOne K (.ref (cm K 34)) (.ref (cm K 34)) = some true) && decide (PySem.W.findIn K (.ref (cm K 34)) "__class__" = some (some (.builtin "object.__class__"))) && decide (PySem.W.mroIn K (cm K 34) (.type "object") = some true) && decide (PySem.W.specialIn K (.builtin "object.__class__") "__get__" = some (some (.builtin "getset_descriptor.__get__"))) && decide (PySem.W.takesIn K (.builtin "object.__class__") = some true) && decide (PySem.W.excIn K (cm K 16) [.type "ValueError", .type "Exception", .type "BaseException", .type "object"] "ValueError.__new__" = true) && decide (PySem.W.keepIn K (.ref (cm K 16)) = true) && decide (PySem.W.subIn K (.ref (cm K 16)) (.type "BaseException") = some true) && decide (PySem.W.typeIn K (.ref (cm K 16)) = some (.type "type")) && decide (xfB K (cm K 16) = true) && decide (PySem.W.exmOne K (.ref (cm K 16)) (.ref (cm K 16)) = some true) && decide (PySem.W.kitOne K (.ref (cm K 16)) (.ref (cm K 23)) = some false) && decide (PySem.W.kitOne K (.ref (cm K 16)) (.type "ValueError") = some true) && decide (PySem.W.kitOne K (.ref (cm K 16)) (.ref (cm K 0)) = some true) && decide (PySem.W.findIn K (.ref (cm K 16)) "__class__" = some (some (.builtin "object.__class__"))) && decide (PySem.W.mroIn K (cm K 16) (.type "object") = some true) && decide (PySem.W.kitOne K (.ref (cm K 34)) (.type "bool") = some false) && decide (PySem.W.kitOne K (.ref (cm K 34)) (.type "int") = some false) && decide (PySem.W.kitOne K (.ref (cm K 34)) (.type "str") = some false) && decide (PySem.W.kitOne K (.ref (cm K 34)) (.type "tuple") = some false) && decide (PySem.W.kitOne K (.ref (cm K 34)) (.type "list") = some false) && decide (PySem.W.kitOne K (.ref (cm K 34)) (.type "dict") = some false) && decide (PySem.W.subIn K (.type "int") (.ref (cm K 34)) = some false) && decide (PySem.W.subIn K (.ref (cm K 34)) (.type "int") = some false)
end Zk43
namespace Zk43
open PySem PySem.Spec PyProof.Rows L2 DD PySem.W PySem.Calls
abbrev RR : PySem.W.OpenRow := PySem.W.OpenLaw.row PySem.Challenge.rw_steppedtests_k43_ratios_built
def asL : List Addr := List.range 1024
abbrev hk : PySem.W.Hook := DD.hookA asL fa fn [] exK
def ob (s : PySem.W.SharedT) : He.AlT × Bool := DD.obA asL fa fn [] exK (HandSHeadRun.getT s)
theorem ob_eq (s : PySem.W.SharedT) : ob s = hk.obs s.abs := DD.obA_eq s
def loose : List PySem.Str := (["_wall", "TestError", "ZeroBottom", "NoPupils", "common_divisor", "Ratio", "as_ratio", "less", "_law_pool", "_law_take", "_law_number", "_law_divisor", "_law_is_ratio", "_law_built", "_law_text"] : List PySem.Str)
set_option maxHeartbeats 0 in
theorem run_a (w : World) (os : OsState) : (HandSHeadRun.endF (HandSHeadRun.stepQ (HandSHeadRun.denQ HandSHeadRun.tabQ) RR.prog w) 20000 RR.prog w os).map (fun s => (HandSHeadRun.looksF RR.prog (boot_heap w.params) s.abs, HandSHeadRun.seenQ (PySem.W.view RR.prog [18]) loose (importedModules RR.prog.main.body) (fun s => PySem.W.xlAt (PySem.W.view RR.prog [18]) [] s && PySem.W.recOk RR.toRowW.records s) s.abs)) = some (true, PySem.W.openGood (PySem.W.view RR.prog [18]) loose) := by
  kernel_rfl
set_option maxHeartbeats 0 in
theorem run_b (w : World) (os : OsState) : (HandSHeadRun.endF (HandSHeadRun.stepQ (HandSHeadRun.denQ HandSHeadRun.tabQ) RR.prog w) 20000 RR.prog w os).map (fun s => He.obsT fa fn [] (He.frT (HandSHeadRun.getT s) asL)) = some (He.valT fn [] w) := by
  kernel_rfl
set_option maxHeartbeats 0 in
theorem run_c (w : World) (os : OsState) : (HandSHeadRun.endF (HandSHeadRun.stepQ (HandSHeadRun.denQ HandSHeadRun.tabQ) RR.prog w) 20000 RR.prog w os).map (fun s => exK (He.frT (HandSHeadRun.getT s) asL) && He.tabsB (HandSHeadRun.getT s) [] (He.frT (HandSHeadRun.getT s) asL)) = some true := by
  kernel_rfl
theorem run (w : World) : HandSHeadRun.RunEq RR (PySem.W.view RR.prog [18]) hk ob 20000 loose w := fun os => DD.run_all (run_a w os) (run_b w os) (run_c w os)
end Zk43
namespace U
open PySem L2 DD
end U
namespace SP
/-! a promise, at a call's result -/
theorem at2 {α β γ : Type} {a d : α} {f : β → γ → α} {p : β → γ → Prop} (hd : a = d) (h : ∃ x y, a = f x y ∧ p x y) : ∃ x y, d = f x y ∧ p x y := hd ▸ h
end SP
namespace U
open PySem L2 DD
end U
namespace U
open PySem L2 DD
end U
namespace U
open PySem L2 DD
def xm_ZeroBottom : Nat → Option Bool
  | 16 => some true
  | _ => none
noncomputable def b_l_pool_3 : DS :=
    (dSeq (dAsg (dC (.int 0)) (gN 2))
    (dSeq (dIfS (dTest (dOp iLt (dVar 1) (dBi lenF (dCons (dVar 0) dNil))))
    (dAsg (dOp ixD (dVar 0) (dVar 1)) (gN 2))
    dNext)
    (dSeq (dAsg (dBi max2F (dCons (dBi intF (dCons (dVar 2) dNil)) (dCons (dBi intF (dCons (dOp iSub (dNeg (dC (.int 1))) (dVar 2)) dNil)) dNil))) (gN 3))
    (dSeq (dAsg (dOp iMod (dBi intF (dCons (dOp (mulD false) (dOp addD (dOp addD (dOp addD (dOp iMod (dBi intF (dCons (dVar 3) dNil)) (dC (.int 2147483629))) (dOp (mulD false) (dOp (mulD false) (dC (.int 5303)) (dVar 1)) (dVar 1))) (dOp (mulD false) (dC (.int 43)) (dVar 1))) (dC (.int 19))) (dC (.int 48271))) dNil)) (dC (.int 2147483647))) (gN 4))
    (dRet (dNewL (dCons (dOp (mulD false) (dVar 3) (dBi intF (dCons (dOp iGe (dVar 3) (dOp iPow (dC (.int 10)) (dC (.int 18)))) dNil))) (dCons (dVar 4) dNil))))))))
noncomputable def fn_l_pool_3 : Fn := dFn 5 b_l_pool_3
noncomputable def b_l_divisor_l0 : DS :=
    (dSeq (dIfS (dTest (dOp eqD (dVar 1) (dC (.int 0))))
    dBreak
    dNext)
    (dPar 0 1 (dCons (dVar 1) (dCons (dOp iMod (dBi intF (dCons (dVar 0) dNil)) (dVar 1)) dNil))))
noncomputable def b_l_divisor : DS :=
    (dSeq (dPar 0 1 (dCons (dBi absF (dCons (dVar 0) dNil)) (dCons (dBi absF (dCons (dVar 1) dNil)) dNil)))
    (dSeq (dFor (dRange1 (dCons (dC (.int 2000)) dNil)) (gN 2)
    b_l_divisor_l0)
    (dRet (dVar 0))))
noncomputable def fn_l_divisor : Fn := gcF (dFn 3 b_l_divisor)
noncomputable def b_l_take : DS :=
    (dSeq (dIfS (dTest (dOp iGt (dOp ixD (dVar 0) (dC (.int 0))) (dC (.int 0))))
    (dSeq (dAsg (dOp iMod (dBi intF (dCons (dOp ixD (dVar 0) (dC (.int 0))) dNil)) (dVar 1)) (gN 2))
    (dSeq (dAsg (dOp iDiv (dOp ixD (dVar 0) (dC (.int 0))) (dVar 1)) (gIx (dVar 0) (dC (.int 0))))
    (dRet (dVar 2))))
    dNext)
    (dSeq (dAsg (dOp iMod (dBi intF (dCons (dOp addD (dOp (mulD false) (dOp ixD (dVar 0) (dC (.int 1))) (dC (.int 39373))) (dC (.int 7))) dNil)) (dC (.int 2147483647))) (gIx (dVar 0) (dC (.int 1))))
    (dRet (dOp iMod (dBi intF (dCons (dOp iDiv (dOp iMod (dBi intF (dCons (dOp (mulD false) (dOp ixD (dVar 0) (dC (.int 1))) (dOp ixD (dVar 0) (dC (.int 1)))) dNil)) (dC (.int 2147483629))) (dC (.int 32))) dNil)) (dVar 1)))))
noncomputable def fn_l_take : Fn := gcF (dFn 3 b_l_take)
noncomputable def b_common_divisor_w0 : DS :=
    (dPar 0 1 (dCons (dVar 1) (dCons (dOp iMod (dVar 0) (dVar 1)) dNil)))
noncomputable def b_common_divisor : DS :=
    (dSeq (dPar 0 1 (dCons (dBi absF (dCons (dVar 0) dNil)) (dCons (dBi absF (dCons (dVar 1) dNil)) dNil)))
    (dSeq (dWhile (dTru (dVar 1))
    b_common_divisor_w0)
    (dRet (dVar 0))))
noncomputable def fn_common_divisor : Fn := gcF (dFn 2 b_common_divisor)
noncomputable def b_l_is_ratio_l0 : DS :=
    (dIfS (dtOr (dtNot (dTru (dBi (isiF isiB) (dCons (dVar 3) (dCons (dC (.ty "int")) dNil))))) (dTru (dBi (isiF isiB) (dCons (dVar 3) (dCons (dC (.ty "bool")) dNil)))))
    (dRet (dC (.bl false)))
    dNext)
noncomputable def b_l_is_ratio : DS :=
    (dSeq (dIfS (dtNot (dTru (dBi (isiF (isi1 34)) (dCons (dVar 0) (dCons (dC (.cls 34)) dNil)))))
    (dRet (dC (.bl false)))
    dNext)
    (dSeq (dFor (dSeqI (dLst (dCons (dFld [34] "top" (dVar 0)) (dCons (dFld [34] "bottom" (dVar 0)) dNil)))) (gN 3)
    b_l_is_ratio_l0)
    (dSeq (dIfS (dtOr (dTest (dOp iLt (dFld [34] "bottom" (dVar 0)) (dC (.int 1)))) (dTest (dOp neD (dCall fn_l_divisor (dCons (dFld [34] "top" (dVar 0)) (dCons (dFld [34] "bottom" (dVar 0)) dNil))) (dC (.int 1)))))
    (dRet (dC (.bl false)))
    dNext)
    (dRet (dOp eqD (dOp (mulD false) (dFld [34] "top" (dVar 0)) (dVar 2)) (dOp (mulD false) (dVar 1) (dFld [34] "bottom" (dVar 0))))))))
noncomputable def fn_l_is_ratio : Fn := gcF (dFn 4 b_l_is_ratio)
noncomputable def b_l_number_l0 : DS :=
    (dAsg (dOp addD (dOp (mulD false) (dVar 2) (dOp iPow (dC (.int 2)) (dC (.int 26)))) (dCall fn_l_take (dCons (dVar 0) (dCons (dOp iPow (dC (.int 2)) (dC (.int 26))) dNil)))) (gN 2))
noncomputable def b_l_number : DS :=
    (dSeq (dIfS (dTest (dOp iGt (dCall fn_l_take (dCons (dVar 0) (dCons (dC (.int 4)) dNil))) (dC (.int 0))))
    (dRet (dOp iSub (dCall fn_l_take (dCons (dVar 0) (dCons (dC (.int 7)) dNil))) (dC (.int 3))))
    dNext)
    (dSeq (dAsg (dC (.int 0)) (gN 2))
    (dSeq (dFor (dRange1 (dCons (dC (.int 6)) dNil)) (gN 3)
    b_l_number_l0)
    (dRet (dOp iSub (dOp iMod (dBi intF (dCons (dVar 2) dNil)) (dOp addD (dOp (mulD false) (dC (.int 2)) (dVar 1)) (dC (.int 1)))) (dVar 1))))))
noncomputable def fn_l_number : Fn := gcF (dFn 4 b_l_number)
noncomputable def b_Ratio_init : DS :=
    (dSeq (dIfS (dTest (dOp eqD (dVar 2) (dC (.int 0))))
    (dRaise0 16)
    dNext)
    (dSeq (dAsg (dIf (dTest (dOp iGt (dVar 2) (dC (.int 0)))) (dC (.int 1)) (dNeg (dC (.int 1)))) (gN 3))
    (dSeq (dAsg (dOp (mulD false) (dVar 3) (dCall fn_common_divisor (dCons (dVar 1) (dCons (dVar 2) dNil)))) (gN 4))
    (dSeq (dSetF [34] "top" (dVar 0) (dOp iDiv (dVar 1) (dVar 4)))
    (dSetF [34] "bottom" (dVar 0) (dOp iDiv (dVar 2) (dVar 4)))))))
noncomputable def fn_Ratio_init : Fn := gcF (dFn 5 b_Ratio_init)
end U
namespace SP
open PySem L2 DD U
/-! ### the pool -/
/-- a drawing list that has been asked at most k times -/
def Pol (k : Nat) (P : O) : Prop := ∃ (ns : List Int) (c i b m : Int), P = .lst [.scr (ns.map W.int), .int c, .int i, .int b, .int m] ∧ 0 ≤ c ∧ c ≤ k ∧ 0 ≤ i ∧ 0 ≤ b ∧ 0 ≤ m ∧ m < 2147483629
theorem Pol.mono {P : O} {k k' : Nat} (h : Pol k P) (le : k ≤ k') : Pol k' P := by
  obtain ⟨ns, c, i, b, m, h1, h2, h3, h4⟩ := h
  exact ⟨ns, c, i, b, m, h1, h2, by omega, h4⟩
theorem Pol.low {P : O} {k n : Nat} (h : Pol k P) : lowO n P = true := by
  obtain ⟨ns, c, i, b, m, rfl, _⟩ := h
  simp [lowO, lowL, lowW, lowL_ints]
end SP
namespace SP
open PySem L2 DD U
theorem app_get {S : Sto} {o : O} {g : Sto} : (S ++ o :: g)[S.length]? = some o := by simp
abbrev nW (n : List Int) : W := .tup (wl n)
abbrev lW (n : List Int) : W := .lst (wl n)
theorem intsFrom_mem {lo : Int} {n i : Nat} {w : W} (h : (intsFrom lo n)[i]? = some w) : i < n ∧ w = .int (lo + i) := intsFrom_get n lo i w h
theorem rgI {j : Int} (h0 : -1000000 ≤ j) (h1 : j < 1000000) : -4611686018427387904 ≤ j ∧ j < 4611686018427387904 := by omega
end SP
namespace SP
open PySem L2 DD U
/-- a target that a node with this index may have -/
def gt (t i n e : Int) : Bool := if t < 0 then decide (-1 - t < e) else decide (i < t) && decide (t < n)
/-- what the targets of a node lead to, by the lists below it -/
def usedOf (i : Int) (bs : List (List Int)) (ts : List Int) : List Int := ts.flatMap fun t => if 0 ≤ t then bs.getD (t - i - 1).toNat [] else []
structure NdOk (n e : Int) (names : List Int) (sk : Bool) (i : Int) (bs : List (List Int)) (node b : List Int) : Prop where
  ex : ∃ q ts, node = q :: ts ∧ (ts.length = 2 ∨ ts.length = 3 ∧ sk = true) ∧ (∀ t ∈ ts, gt t i n e = true) ∧ q ∈ names ∧ q ∉ usedOf i bs ts ∧ b = usedOf i bs ts ++ [q]
/-- nodes from the index i on, and what is asked from each on -/
inductive Nds (n e : Int) (names : List Int) (sk : Bool) : Int → List (List Int) → List (List Int) → Prop
  | nil : Nds n e names sk n [] []
  | cons {i : Int} {nodes bs : List (List Int)} {node b : List Int} : 0 ≤ i → Nds n e names sk (i + 1) nodes bs → NdOk n e names sk i bs node b → Nds n e names sk i (node :: nodes) (b :: bs)
theorem Nds.len {n e : Int} {names : List Int} {sk : Bool} {i : Int} {nodes bs : List (List Int)} (h : Nds n e names sk i nodes bs) : (nodes.length : Int) = n - i ∧ bs.length = nodes.length := by
  induction h with
  | nil => simp
  | cons h0 h1 h2 ih => simp; omega
end SP
namespace SP
open PySem L2 DD U
/-! ### bits -/
theorem bitOr_nat (a b : Nat) : Builtin.bitOr (a : Int) (b : Int) = ((a ||| b : Nat) : Int) := by
  unfold Builtin.bitOr Builtin.bitAnd Builtin.bitNot
  have h1 : ¬ (0 : Int) ≤ -(a : Int) - 1 := by omega
  have h2 : ¬ (0 : Int) ≤ -(b : Int) - 1 := by omega
  simp only [h1, h2, decide_false]
  have e1 : (-(-(a : Int) - 1) - 1).toNat = a := by omega
  have e2 : (-(-(b : Int) - 1) - 1).toNat = b := by omega
  rw [e1, e2]
  omega
theorem e_or {S : Sto} (a b : Nat) : iOr (.int a) (.int b) S = .ok (.int ((a ||| b : Nat) : Int)) S := by
  show (if yes2 a b = true then R.ok (W.int (Builtin.bitOr a b)) S else .no) = _
  rw [if_pos (show yes2 a b = true from rfl), bitOr_nat]
/-! ### a node -/
def gn (node : List Int) (i n e : Int) : Bool := (node.length == 3 || node.length == 4) && decide (0 ≤ node.headD 0) && decide (node.headD 0 < 48) && node.tail.all fun t => gt t i n e
@[simp] theorem e_sl {d : DX} {lo hi : DO} {t : Lo} {S : Sto} : dSl d lo hi t S = (d t S).bind fun w S1 => (lo t S1).bind fun a S2 => (hi t S2).bind fun b S3 => match slW w a b S3 with
  | .ok x S4 => .ok x S4
  | _ => .no := rfl
@[simp] theorem e_part {d : DX} {t : Lo} {S : Sto} : dPart d t S = (d t S).bind fun w S1 => match w with
  | .int i => .ok (some i) S1
  | _ => .no := rfl
@[simp] theorem e_noP {t : Lo} {S : Sto} : dNoP t S = .ok none S := rfl
@[simp] theorem e_slT {ws : List W} {a b : Option Int} {S : Sto} : slW (.tup ws) a b S = .ok (.tup (cutW ws a b)) S := rfl
@[simp] theorem e_slL {ws : List W} {a b : Option Int} {S : Sto} : slW (.lst ws) a b S = .ok (.lst (cutW ws a b)) S := rfl
@[simp] theorem e_ixN0 {q : Int} {ts : List Int} {S : Sto} : ixD (nW (q :: ts)) (.int 0) S = .ok (.int q) S := e_ixT (atI0 _ _)
/-! ### what is asked behind a node -/
abbrev nl (l : List Nat) : List W := l.map fun (m : Nat) => W.int (m : Int)
def bh (off : Nat) (ms : List Nat) (b : Nat) (ts : List Int) : Nat := ts.foldl (fun b t => if 0 ≤ t then b ||| ms.getD (t.toNat - off - 1) 0 else b) b
/-- the masks of the nodes from off on, all targets counted -/
def mk (off : Nat) : List (List Int) → List Nat
  | [] => []
  | node :: rest => (bh off (mk (off + 1) rest) 0 node.tail ||| 2 ^ (node.headD 0).toNat) :: mk (off + 1) rest
/-- the masks without skips -/
def mka (off : Nat) : List (List Int) → List Nat
  | [] => []
  | node :: rest => bh off (mka (off + 1) rest) (2 ^ (node.headD 0).toNat) (node.tail.take 2) :: mka (off + 1) rest
/-- all nodes are good -/
def Gns (nodes : List (List Int)) (e : Int) : Prop := ∀ (i : Nat) (node : List Int), nodes[i]? = some node → gn node i nodes.length e = true
theorem gn_cons {node : List Int} {i n e : Int} (h : gn node i n e = true) : ∃ q ts, node = q :: ts ∧ (ts.length = 2 ∨ ts.length = 3) ∧ 0 ≤ q ∧ q < 48 ∧ ∀ t ∈ ts, gt t i n e = true := by
  cases node with
  | nil => simp [gn] at h
  | cons q ts =>
    simp [gn] at h
    exact ⟨q, ts, rfl, by omega, h.1.1.2, h.1.2, h.2⟩
@[simp] theorem e_asgStar {d : DX} {n : Nat} {gs : DGs} {t : Lo} {S : Sto} : dAsg d (gStar n gs) t S = (d t S).toF t fun w S1 => match gStar n gs w t S1 with
  | .ok t' S2 => .nx t' S2
  | _ => .no := rfl
/-! ### questions_of, asked_behind -/
def qs48 : List Int := (List.range 48).map fun (i : Nat) => (i : Int)
def qsOf (m : Nat) : List Int := qs48.filter fun z => m.testBit z.toNat
/-- the questions behind each node -/
def behindOf (nodes : List (List Int)) : List (List Int) := (mka 0 nodes).map qsOf
end SP
namespace SP
open PySem L2 DD U
/-- lists or tuples of numbers -/
inductive NV : List W → List (List Int) → Prop
  | nil : NV [] []
  | cons {w : W} {ws : List W} {n : List Int} {ns : List (List Int)} : (w = nW n ∨ w = lW n) → NV ws ns → NV (w :: ws) (n :: ns)
theorem NV.len {ws : List W} {ns : List (List Int)} (h : NV ws ns) : ws.length = ns.length := by induction h with
  | nil => rfl
  | cons _ _ ih => simp [ih]
theorem NV.mem {ws : List W} {ns : List (List Int)} (h : NV ws ns) : ∀ w ∈ ws, ∃ n, w = nW n ∨ w = lW n := by induction h with
  | nil => intro w hw; cases hw
  | cons a _ ih =>
    intro w hw
    rcases List.mem_cons.mp hw with rfl | hw
    · exact ⟨_, a⟩
    · exact ih w hw
theorem NV.tups : ∀ ns : List (List Int), NV (ns.map nW) ns
  | [] => .nil
  | _ :: ns => .cons (.inl rfl) (NV.tups ns)
def webO (nodes : List (List Int)) (ends st : Int) : W := .obj 30 ["nodes", "ends", "start", "behind"] [.tup (nodes.map nW), .int ends, .int st, .lst ((behindOf nodes).map nW)]
end SP
namespace SP
open PySem L2 DD U
/-! ### where nodes lead -/
/-- j is led to from i; f tells which targets count -/
inductive Lead (f : List Int → List Int) (nodes : List (List Int)) : Nat → Nat → Prop
  | refl {i : Nat} : i < nodes.length → Lead f nodes i i
  | step {i : Nat} {node : List Int} {t : Int} {j : Nat} : nodes[i]? = some node → t ∈ f node → 0 ≤ t → Lead f nodes t.toNat j → Lead f nodes i j
def f2 (node : List Int) : List Int := node.tail.take 2
end SP
namespace SP
open PySem L2 DD U
variable {n e : Int} {names : List Int} {sk : Bool}
theorem Nds.get {off : Int} {nodes bs : List (List Int)} (h : Nds n e names sk off nodes bs) : ∀ (j : Nat) (node : List Int), nodes[j]? = some node → ∃ b, bs[j]? = some b ∧ NdOk n e names sk (off + j) (bs.drop (j + 1)) node b := by
  induction h with
  | nil => intro j node hn; simp at hn
  | @cons i nodes bs node b h0 h1 h2 ih =>
    intro j nd hn
    cases j with
    | zero =>
      simp at hn; subst hn
      exact ⟨b, by simp, by simpa using h2⟩
    | succ j =>
      obtain ⟨b', h3, h4⟩ := ih j nd (by simpa using hn)
      refine ⟨b', by simpa using h3, ?_⟩
      rw [show i + ((j + 1 : Nat) : Int) = i + 1 + j by omega]
      simpa using h4
/-- fewer targets lead to fewer nodes -/
theorem Lead.sub {nodes nodes' : List (List Int)} (hl : nodes'.length = nodes.length) (hs : ∀ (i : Nat) (node' : List Int), nodes'[i]? = some node' → ∃ node, nodes[i]? = some node ∧ ∀ t ∈ node'.tail, 0 ≤ t → t ∈ node.tail) {i j : Nat} (l : Lead List.tail nodes' i j) : Lead List.tail nodes i j := by
  induction l with
  | refl h => exact .refl (hl ▸ h)
  | step hn ht h0 _ ih =>
    obtain ⟨node, h1, h2⟩ := hs _ _ hn
    exact .step h1 (h2 _ ht h0) h0 ih
end SP
namespace SP
open PySem L2 DD U
variable {nodes : List (List Int)} {e st : Int} {S : Sto}
/-! ### a web's own -/
@[simp] theorem fld_nodes : fieldOf [30] "nodes" (webO nodes e st) S = some (.tup (nodes.map nW)) := rfl
@[simp] theorem fld_ends : fieldOf [30] "ends" (webO nodes e st) S = some (.int e) := rfl
@[simp] theorem fld_start : fieldOf [30] "start" (webO nodes e st) S = some (.int st) := rfl
@[simp] theorem fld_behind : fieldOf [30] "behind" (webO nodes e st) S = some (.lst ((behindOf nodes).map nW)) := rfl
@[simp] theorem isOf_web : isOf 30 (webO nodes e st) S = true := rfl
@[simp] theorem e_fld {cs : List Nat} {f : Str} {d : DX} {t : Lo} {S : Sto} : dFld cs f d t S = (d t S).bind fun w S1 => match fieldOf cs f w S1 with
  | some x => .ok x S1
  | none => .no := rfl
end SP
namespace SP
open PySem L2 DD U
variable {nodes : List (List Int)} {e st : Int} {S : Sto}
theorem Gns.q {i : Nat} {node : List Int} (h : Gns nodes e) (hn : nodes[i]? = some node) : 0 ≤ node.headD 0 ∧ node.headD 0 < 48 := by
  obtain ⟨q, ts, rfl, _, h0, h1, _⟩ := gn_cons (h i node hn)
  exact ⟨h0, h1⟩
end SP
namespace SP
open PySem L2 DD U
/-- a while: an invariant and a measure that falls -/
theorem while_inv {c : DT} {b : DS} (I : Nat → Lo → Sto → Prop) (Q : Lo → Sto → Prop)
    (h : ∀ m t S, I m t S → (∃ S1, c t S = .ok false S1 ∧ Q t S1) ∨ (∃ S1, c t S = .ok true S1 ∧ ∃ t2 S2 m', (b t S1 = .nx t2 S2 ∨ b t S1 = .ct t2 S2) ∧ m' < m ∧ I m' t2 S2)) {m : Nat} {t : Lo} {S : Sto} (h0 : I m t S) : ∃ t' S', dWhile c b t S = .nx t' S' ∧ Q t' S' := by
  have key : ∀ (m : Nat) (t : Lo) (S : Sto), I m t S → ∃ n t' S', wh c b n t S = .nx t' S' ∧ Q t' S' := by
    intro m
    induction m using Nat.strongRecOn with
    | _ m ih =>
      intro t S hI
      rcases h m t S hI with ⟨S1, e, q⟩ | ⟨S1, e, t2, S2, m', hb, hm, hI2⟩
      · exact ⟨1, t, S1, by simp [wh, e], q⟩
      · obtain ⟨n, t', S', e2, q⟩ := ih m' hm t2 S2 hI2
        refine ⟨n + 1, t', S', ?_, q⟩
        rcases hb with hb | hb <;> simp [wh, e, hb, e2]
  obtain ⟨n, t', S', e, q⟩ := key m t S h0
  exact ⟨t', S', dWhile_eq e (by simp), q⟩
/-- a position that leads to another by right and wrong targets -/
inductive Ld (nodes : List (List Int)) : Int → Int → Prop
  | refl {p : Int} : Ld nodes p p
  | step {p t x : Int} {node : List Int} : 0 ≤ p → nodes[p.toNat]? = some node → t ∈ f2 node → Ld nodes t x → Ld nodes p x
variable {nodes : List (List Int)} {e st : Int} {S : Sto}
theorem Ld.snoc {p x t : Int} {node : List Int} (l : Ld nodes p x) (h0 : 0 ≤ x) (hn : nodes[x.toNat]? = some node) (ht : t ∈ f2 node) : Ld nodes p t := by
  induction l with
  | refl => exact .step h0 hn ht .refl
  | step a b c _ ih => exact .step a b c (ih h0 hn)
@[simp] theorem e_dDIn {neg : Bool} {k d : DX} {t : Lo} {S : Sto} : dDIn neg k d t S = (k t S).bind fun y S1 => (d t S1).bind fun w S2 => match dicOf S2 w, keyW y with
  | some p, some k => .ok (.bl (neg != (dGetW p.1 p.2 k).isSome)) S2
  | _, _ => .no := rfl
@[simp] theorem e_dDPut {d k v : DX} {t : Lo} {S : Sto} : dDPut d k v t S = (v t S).toF t fun x S1 => (d t S1).toF t fun w S2 => (k t S2).toF t fun y S3 => match w with
  | .ref i => match S3[i]?, keyW y with
    | some (.dic ks ws), some k => if ks.Nodup ∧ ks.length < 1000000 then .nx t (S3.set i (.dic (dPutW ks ws k x).1 (dPutW ks ws k x).2)) else .no
    | _, _ => .no
  | _ => .no := rfl
end SP
namespace SP
open PySem L2 DD U
/-! ### sizes -/
def Bz (n : Nat) (i : Int) : Prop := i.natAbs < 2 ^ n
theorem Bz.mono {n m : Nat} {i : Int} (h : Bz n i) (le : n ≤ m) : Bz m i := Nat.lt_of_lt_of_le h (Nat.pow_le_pow_right (by decide) le)
theorem Bz.mul {n m : Nat} {i j : Int} (h : Bz n i) (g : Bz m j) : Bz (n + m) (i * j) := by
  unfold Bz at *
  rw [Int.natAbs_mul, Nat.pow_add]
  exact Nat.mul_lt_mul'' h g
theorem Bz.add {n m : Nat} {i j : Int} (h : Bz n i) (g : Bz m j) : Bz (max n m + 1) (i + j) := by
  have h' := h.mono (Nat.le_max_left n m)
  have g' := g.mono (Nat.le_max_right n m)
  unfold Bz at *
  rw [Nat.pow_succ]
  omega
theorem Bz.neg {n : Nat} {i : Int} (h : Bz n i) : Bz n (-i) := by unfold Bz at *; rwa [Int.natAbs_neg]
theorem Bz.sub {n m : Nat} {i j : Int} (h : Bz n i) (g : Bz m j) : Bz (max n m + 1) (i - j) := by
  rw [Int.sub_eq_add_neg]; exact h.add g.neg
theorem e_mulZ {S : Sto} {b : Bool} {i j : Int} {n m : Nat} (h1 : Bz n i) (h2 : Bz m j) (h : n + m ≤ 900000) : mulD b (.int i) (.int j) S = .ok (.int (i * j)) S := by
  have l1 : i.natAbs.log2 < n + 1 := log2_le (Nat.lt_of_lt_of_le h1 (Nat.pow_le_pow_right (by decide) (by omega))) (by omega)
  have l2 : j.natAbs.log2 < m + 1 := log2_le (Nat.lt_of_lt_of_le h2 (Nat.pow_le_pow_right (by decide) (by omega))) (by omega)
  have : mulOk i j = true := by
    unfold mulOk
    rw [show decide (i.natAbs.log2 + j.natAbs.log2 < 1000000) = true from decide_eq_true (by omega)]
    simp
  show (match (if mulOk i j = true then R.ok (W.int (i * j)) S else .no) with
    | .no => _
    | x => x) = _
  rw [if_pos this]
theorem e_divE {S : Sto} {j k : Int} {n : Nat} (h : j ≠ 0) (hb : Bz n j) (hn : n ≤ 8000) : iDiv (.int (k * j)) (.int j) S = .ok (.int k) S := by
  have l2 : j.natAbs.log2 < n + 1 := log2_le (Nat.lt_of_lt_of_le hb (Nat.pow_le_pow_right (by decide) (by omega))) (by omega)
  have : divOk (k * j) j = true := by
    unfold divOk
    rw [decide_eq_true h, show decide (j.natAbs.log2 < 9000) = true from decide_eq_true (by omega)]; rfl
  show (if divOk (k * j) j = true then R.ok (W.int (fdiv (k * j) j)) S else .no) = _
  rw [if_pos this]
  congr 2
  unfold fdiv
  split
  · exact Int.mul_ediv_cancel _ h
  · exact Int.mul_fdiv_cancel _ h
/-! ### fractions -/
theorem num_of {a b : Int} {g : Nat} (hb : b ≠ 0) (hg : g = a.gcd b) (s : Int) (hs : s = if 0 < b then 1 else -1) : a = (Rat.divInt a b).num * (s * g) ∧ b = ((Rat.divInt a b).den : Int) * (s * g) := by
  have hg0 : (g : Int) ≠ 0 := by
    have : a.gcd b ≠ 0 := fun z => hb (Int.gcd_eq_zero_iff.mp z).2
    omega
  have h1 := Rat.num_divInt a b
  have h2 := Rat.den_divInt a b
  rw [if_neg hb] at h2
  rw [Int.gcd_comm, ← hg] at h1 h2
  obtain ⟨a', ha⟩ : (g : Int) ∣ a := by rw [hg]; exact Int.gcd_dvd_left ..
  obtain ⟨b', hb'⟩ : (g : Int) ∣ b := by rw [hg]; exact Int.gcd_dvd_right ..
  have hs' : b.sign = s := by
    rw [hs]
    by_cases h : 0 < b
    · rw [if_pos h]; exact Int.sign_eq_one_of_pos h
    · rw [if_neg h]; exact Int.sign_eq_neg_one_of_neg (by omega)
  have hss : s * s = 1 := by rw [hs]; split <;> rfl
  constructor
  · rw [h1, hs']
    have : s * a / (g : Int) = s * a' := by
      rw [ha, show s * ((g : Int) * a') = (s * a') * g by grind]
      exact Int.mul_ediv_cancel _ hg0
    rw [this]
    grind
  · rw [h2]
    have h3 : ((b.natAbs / g : Nat) : Int) = s * b' := by
      have : b.natAbs = (s * b').natAbs * g := by
        rw [hb', Int.natAbs_mul, Int.natAbs_mul]
        have : s.natAbs = 1 := by rw [hs]; split <;> rfl
        rw [this]; simp [Nat.mul_comm]
      rw [this, Nat.mul_div_cancel _ (by omega)]
      have : 0 ≤ s * b' := by
        have hgp : (0:Int) < g := by omega
        by_cases h : 0 < b
        · rw [if_pos h] at hs; subst hs
          rw [hb'] at h
          have := Int.pos_of_mul_pos_right h hgp
          omega
        · rw [if_neg h] at hs; subst hs
          have : b' ≤ 0 := by
            apply Int.not_lt.mp
            intro hlt
            exact h (by rw [hb']; exact Int.mul_pos hgp hlt)
          omega
      omega
    rw [h3]; grind
/-- a ratio -/
abbrev rW (q : Rat) : W := .obj 34 ["top", "bottom"] [.int q.num, .int q.den]
def Rz (n : Nat) (q : Rat) : Prop := Bz n q.num ∧ Bz n q.den
theorem Rz.mono {n m : Nat} {q : Rat} (h : Rz n q) (le : n ≤ m) : Rz m q := ⟨h.1.mono le, h.2.mono le⟩
theorem natAbs_mul_le {a k : Int} (h : k ≠ 0) : a.natAbs ≤ (a * k).natAbs := by
  rw [Int.natAbs_mul]
  exact Nat.le_mul_of_pos_right _ (by omega)
theorem rz_div {n : Nat} {a b : Int} (hb : b ≠ 0) (h1 : Bz n a) (h2 : Bz n b) : Rz n (Rat.divInt a b) := by
  obtain ⟨e1, e2⟩ := num_of (a := a) hb rfl _ rfl
  have hk : (if 0 < b then 1 else -1) * ((a.gcd b : Nat) : Int) ≠ 0 := fun z => hb (by rw [e2, z, Int.mul_zero])
  unfold Bz at h1 h2
  rw [e1] at h1
  rw [e2] at h2
  exact ⟨Nat.lt_of_le_of_lt (natAbs_mul_le hk) h1, Nat.lt_of_le_of_lt (natAbs_mul_le hk) h2⟩
theorem lowW_rW {n : Nat} {q : Rat} : lowW n (rW q) = true := by simp [lowW, lowL]
theorem den_ne (q : Rat) : (q.den : Int) ≠ 0 := by have := q.den_nz; omega
/-- the greatest common divisor -/
theorem gcd_ok {S : Sto} {a b : Int} : U.fn_common_divisor [.int a, .int b] S = .ok (.int (a.gcd b)) S := by
  generalize hx : U.fn_common_divisor _ _ = x
  unfold U.fn_common_divisor at hx
  rw [DD.gcF_eq, DD.dFn_eq] at hx
  generalize hy : U.b_common_divisor _ _ = y at hx
  unfold U.b_common_divisor at hy
  simp -implicitDefEqProofs [] at hy
  obtain ⟨t', S', e, rfl, rfl⟩ := while_inv (c := dTru (dVar 1)) (b := b_common_divisor_w0) (fun m t X => ∃ u v : Nat, t = [some (.int u), some (.int v)] ∧ S = X ∧ Nat.gcd u v = a.gcd b ∧ v = m) (fun t X => t = [some (.int (a.gcd b)), some (.int 0)] ∧ X = S)
    (fun m t X ⟨u, v, ht, hX, hg, hm⟩ => by
      subst ht hX hm
      by_cases hv : v = 0
      · subst hv
        left
        rw [Nat.gcd_zero_right] at hg
        subst hg
        exact ⟨S, by simp [truW], rfl, rfl⟩
      · right
        refine ⟨S, by simp [truW]; omega, ?_⟩
        have h1 : (0 : Int) < v := by omega
        refine ⟨[some (.int v), some (.int ((u % v : Nat) : Int))], S, u % v, .inl ?_, Nat.mod_lt _ (by omega), v, u % v, rfl, rfl, ?_, rfl⟩
        · simp [b_common_divisor_w0, e_mod h1]
        · rw [← hg, Nat.gcd_comm u v, Nat.gcd_rec v u, Nat.gcd_comm])
    (m := b.natAbs) (t := [some (.int (if a < 0 then -a else a)), some (.int (if b < 0 then -b else b))]) (S := S) ⟨a.natAbs, b.natAbs, by
      congr 2
      · congr 2; split <;> omega
      · congr 2; congr 1; split <;> omega, rfl, rfl, rfl⟩
  rw [e] at hy
  simp -implicitDefEqProofs [] at hy
  subst hy
  exact hx.symm.trans (gc_same rfl)
theorem d_tb : ¬ ((Str.ofString "top" : Str) = Str.ofString "bottom") := by decide
theorem rinit_ok {S : Sto} {a b : Int} {n : Nat} (hb : b ≠ 0) (h : Bz n b) (hn : n ≤ 8000) : U.fn_Ratio_init [.ref S.length, .int a, .int b] (S ++ [.ins 34 [] []]) = .ok .non (S ++ [.ins 34 ["top", "bottom"] [.int (Rat.divInt a b).num, .int (Rat.divInt a b).den]]) := by
  generalize hx : U.fn_Ratio_init _ _ = x
  unfold U.fn_Ratio_init at hx
  rw [DD.gcF_eq, DD.dFn_eq] at hx
  generalize hy : U.b_Ratio_init _ _ = y at hx
  unfold U.b_Ratio_init at hy
  obtain ⟨s, hs⟩ : ∃ s : Int, s = if 0 < b then 1 else -1 := ⟨_, rfl⟩
  obtain ⟨e1, e2⟩ := num_of (a := a) hb rfl s hs
  have hm : ∀ S, mulD false (.int s) (.int (a.gcd b)) S = .ok (.int (s * (a.gcd b : Nat))) S := fun S => e_mulL (by rw [hs]; split <;> omega)
  have hk : s * ((a.gcd b : Nat) : Int) ≠ 0 := fun z => hb (by rw [e2, z, Int.mul_zero])
  have hkz : Bz n (s * ((a.gcd b : Nat) : Int)) := by
    unfold Bz at h ⊢
    refine Nat.lt_of_le_of_lt ?_ h
    conv => rhs; rw [e2, Int.mul_comm]
    exact natAbs_mul_le (den_ne _)
  have d1 : ∀ S, iDiv (.int a) (.int (s * ((a.gcd b : Nat) : Int))) S = .ok (.int (Rat.divInt a b).num) S := fun S => by
    conv => lhs; arg 1; rw [e1]
    exact e_divE hk hkz hn
  have d2 : ∀ S, iDiv (.int b) (.int (s * ((a.gcd b : Nat) : Int))) S = .ok (.int (Rat.divInt a b).den) S := fun S => by
    conv => lhs; arg 1; rw [e2]
    exact e_divE hk hkz hn
  have ht : (if 0 < b then (R.ok (W.int 1) (S ++ [.ins 34 [] []]) : R W) else .ok (.int (-1)) (S ++ [.ins 34 [] []])) = .ok (.int s) (S ++ [.ins 34 [] []]) := by rw [hs]; split <;> rfl
  simp -implicitDefEqProofs [hb, ht, gcd_ok, hm, d1, d2, dSetF, fput, d_tb] at hy
  subst hy
  rw [← hx]
  refine gc_set (by simp) (fun i hi => ?_) rfl
  by_cases h : i < S.length
  · left; rw [List.getElem?_append_left h, List.getElem?_append_left h]
  · have : i = S.length := by simp at hi; omega
    subst this
    exact .inr ⟨_, app_get, by simp [lowO, lowL, lowW]⟩
theorem rinit_er {S : Sto} {a : Int} : U.fn_Ratio_init [.ref S.length, .int a, .int 0] (S ++ [.ins 34 [] []]) = .er 16 [] [] (S ++ [.ins 34 [] []]) := by
  generalize hx : U.fn_Ratio_init _ _ = x
  unfold U.fn_Ratio_init at hx
  rw [DD.gcF_eq, DD.dFn_eq] at hx
  generalize hy : U.b_Ratio_init _ _ = y at hx
  unfold U.b_Ratio_init at hy
  simp -implicitDefEqProofs [dRaise0] at hy
  subst hy
  exact hx.symm.trans (by rw [gc_er (gcs_same _) rfl, List.take_length])
/-- Ratio(a, b) -/
theorem mkr_ok {S : Sto} {t : Lo} {da dk : DA} {ws zs : List W} {a b : Int} {n : Nat} {q : Rat} (hd : da t S = .ok ws S) (hk : dk t S = .ok zs S) (hw : ws ++ zs = [.int a, .int b]) (hb : b ≠ 0) (h : Bz n b) (hn : n ≤ 8000) (hq : Rat.divInt a b = q) :
    dGc (dFrz (dMake 34 U.fn_Ratio_init (dBoth (· ++ ·) da dk))) t S = .ok (rW q) S := by
  subst hq
  have e2 : dFrz (dMake 34 U.fn_Ratio_init (dBoth (· ++ ·) da dk)) t S = .ok (rW (Rat.divInt a b)) (S ++ [.dead]) := by
    simp [dFrz, dMake, dBoth, hd, hk, hw, rinit_ok hb h hn]
  unfold dGc
  rw [e2]
  exact gc_app lowW_rW
theorem mkr_er {S : Sto} {t : Lo} {da dk : DA} {ws zs : List W} {a : Int} (hd : da t S = .ok ws S) (hk : dk t S = .ok zs S) (hw : ws ++ zs = [.int a, .int 0]) :
    dGc (dFrz (dMake 34 U.fn_Ratio_init (dBoth (· ++ ·) da dk))) t S = .er 16 [] [] S := by
  have e2 : dFrz (dMake 34 U.fn_Ratio_init (dBoth (· ++ ·) da dk)) t S = .er 16 [] [] (S ++ [.ins 34 [] []]) := by
    simp [dFrz, dMake, dBoth, hd, hk, hw, rinit_er]
  unfold dGc
  rw [e2, gc_er (gcs_app _ _) rfl]
  simp
/-- a number: a ratio or an int -/
def Nm (w : W) (q : Rat) : Prop := w = rW q ∨ ∃ i : Int, w = .int i ∧ q = i
theorem Nm.r {q : Rat} : Nm (rW q) q := .inl rfl
theorem Nm.i {i : Int} : Nm (.int i) i := .inr ⟨i, rfl, rfl⟩
theorem isi_rW {S : Sto} {q : Rat} : isiF (isi1 34) [rW q, .cls 34] S = .ok (.bl true) S := by simp [isiF, isi1, kiW, kiC]
theorem isi_int {S : Sto} {i : Int} : isiF (isi1 34) [.int i, .cls 34] S = .ok (.bl false) S := by simp [isiF, isi1, kiW, kiC]
end SP
namespace SP
open PySem L2 DD U
mutual
theorem lowW_mono {n m : Nat} (le : n ≤ m) : ∀ {w : W}, lowW n w = true → lowW m w = true
  | .ref i, h => by simp only [lowW, decide_eq_true_eq] at h ⊢; omega
  | .tup l, h => by simp only [lowW] at h ⊢; exact lowL_mono le h
  | .lst l, h => by simp only [lowW] at h ⊢; exact lowL_mono le h
  | .scr l, h => by simp only [lowW] at h ⊢; exact lowL_mono le h
  | .dic ks l, h => by simp only [lowW] at h ⊢; exact lowL_mono le h
  | .dn ks l, h => by simp only [lowW, Bool.and_eq_true] at h ⊢; exact ⟨lowL_mono le h.1, lowL_mono le h.2⟩
  | .obj c ns l, h => by simp only [lowW] at h ⊢; exact lowL_mono le h
  | .exn c ns l, h => by simp only [lowW] at h ⊢; exact lowL_mono le h
  | .non, h => rfl
  | .bl _, h => rfl
  | .int _, h => rfl
  | .str _, h => rfl
  | .cls _, h => rfl
  | .ty _, h => rfl
  | .lam, h => rfl
theorem lowL_mono {n m : Nat} (le : n ≤ m) : ∀ {l : List W}, lowL n l = true → lowL m l = true
  | [], h => rfl
  | w :: l, h => by
    simp only [lowL, Bool.and_eq_true] at h ⊢
    exact ⟨lowW_mono le h.1, lowL_mono le h.2⟩
end
/-! ### the third pool: [a large number, a mixed number], at the store's end -/
def Po3 (P : O) : Prop := ∃ b m : Int, P = .lst [.int b, .int m] ∧ 0 ≤ b ∧ 0 ≤ m ∧ m < 2147483647
theorem Po3.low {P : O} {n : Nat} (h : Po3 P) : lowO n P = true := by
  obtain ⟨b, m, rfl, _⟩ := h
  simp [lowO, lowL, lowW]
/-- the end of a def that has the pool -/
theorem gc_po3 {P P' : O} {S g B : Sto} {w : W} (h : Po3 P') (l : lowW (S.length + 1) w = true) : gcR (S ++ P :: B) (.ok w (S ++ P' :: (B ++ g))) = .ok w (S ++ P' :: B) := by
  rw [gc_ok]
  · congr 1
    rw [show S ++ P' :: (B ++ g) = (S ++ P' :: B) ++ g by simp]
    exact List.take_left' (by simp)
  · refine ⟨by simp, fun i hi => ?_⟩
    by_cases h' : i < S.length
    · left; rw [List.getElem?_append_left h', List.getElem?_append_left h']
    · by_cases h2 : i = S.length
      · subst h2
        exact .inr ⟨P', app_get, h.low⟩
      · left
        obtain ⟨j, rfl⟩ : ∃ j, i = S.length + 1 + j := ⟨i - (S.length + 1), by omega⟩
        simp at hi
        rw [List.getElem?_append_right (by omega), List.getElem?_append_right (by omega), show S.length + 1 + j - S.length = j + 1 by omega, List.getElem?_cons_succ, List.getElem?_cons_succ, List.getElem?_append_left (by omega)]
  · exact lowW_mono (by simp) l
theorem gc_po30 {P P' : O} {S B : Sto} {w : W} (h : Po3 P') (l : lowW (S.length + 1) w = true) : gcR (S ++ P :: B) (.ok w (S ++ P' :: B)) = .ok w (S ++ P' :: B) := by
  have := gc_po3 (P := P) (S := S) (B := B) (g := []) h l
  rwa [List.append_nil] at this
theorem take3_ok {P : O} {S B : Sto} {lim : Int} (h : Po3 P) (h0 : 0 < lim) (h1 : lim < 2 ^ 64) :
    ∃ r P', U.fn_l_take [.ref S.length, .int lim] (S ++ P :: B) = .ok (.int r) (S ++ P' :: B) ∧ 0 ≤ r ∧ r < lim ∧ Po3 P' := by
  obtain ⟨b, m, rfl, b0, m0, m1⟩ := h
  generalize hx : U.fn_l_take _ _ = x
  unfold U.fn_l_take at hx
  rw [DD.gcF_eq, DD.dFn_eq] at hx
  generalize hy : U.b_l_take _ _ = y at hx
  unfold U.b_l_take at hy
  have hi0 : ∀ b m, ixD (.ref S.length) (.int 0) (S ++ .lst [.int b, .int m] :: B) = .ok (.int b) (S ++ .lst [.int b, .int m] :: B) := fun b m => e_ixR app_get (atI0 ..)
  have hi1 : ∀ b m, ixD (.ref S.length) (.int 1) (S ++ .lst [.int b, .int m] :: B) = .ok (.int m) (S ++ .lst [.int b, .int m] :: B) := fun b m => e_ixR app_get (atI1 ..)
  have hl : lim < 2 ^ 8000 := Int.lt_trans h1 (by decide)
  by_cases hb : 0 < b
  · simp -implicitDefEqProofs [hi0, hb, e_mod h0, e_div h0 hl, ixN_in (n := 2) (i := 0) (by decide) (by decide)] at hy
    subst hy
    refine ⟨b % lim, .lst [.int (b / lim), .int m], hx.symm.trans (gc_po30 ⟨_, _, rfl, Int.ediv_nonneg b0 (by omega), m0, m1⟩ rfl), Int.emod_nonneg _ (by omega), Int.emod_lt_of_pos _ h0, _, _, rfl, Int.ediv_nonneg b0 (by omega), m0, m1⟩
  · have hm' : ∀ S, mulD false (.int m) (.int 39373) S = .ok (.int (m * 39373)) S := fun S => e_mulR (by decide)
    simp -implicitDefEqProofs [hi0, hi1, hb, hm', e_mod (show (0:Int) < 2147483647 by decide), ixN_in (n := 2) (i := 1) (by decide) (by decide)] at hy
    have n0 := Int.emod_nonneg (m * 39373 + 7) (show (2147483647:Int) ≠ 0 by decide)
    have n1 := Int.emod_lt_of_pos (m * 39373 + 7) (show (0:Int) < 2147483647 by decide)
    generalize (m * 39373 + 7) % 2147483647 = m' at hy n0 n1
    have hm2 : ∀ S, mulD false (.int m') (.int m') S = .ok (.int (m' * m')) S := fun S => e_mulR (by omega)
    simp -implicitDefEqProofs [hi0, hi1, hm2, e_mod (show (0:Int) < 2147483629 by decide), e_div (show (0:Int) < 32 by decide) (show (32:Int) < 2 ^ 8000 by decide), e_mod h0] at hy
    subst hy
    exact ⟨_, .lst [.int b, .int m'], hx.symm.trans (gc_po30 ⟨_, _, rfl, b0, n0, n1⟩ rfl), Int.emod_nonneg _ (by omega), Int.emod_lt_of_pos _ h0, _, _, rfl, b0, n0, n1⟩
theorem pool3_ok {ns : List Int} {k : Int} {S : Sto} (hk : 0 ≤ k) (hk1 : k < 100) : ∃ P, U.fn_l_pool_3 [.scr (ns.map W.int), .int k] S = .ok (.ref S.length) (S ++ [P]) ∧ Po3 P := by
  generalize hx : U.fn_l_pool_3 _ _ = x
  unfold U.fn_l_pool_3 at hx
  rw [dFn_eq] at hx
  generalize hy : U.b_l_pool_3 _ _ = y at hx
  unfold U.b_l_pool_3 at hy
  generalize htl : dSeq (dAsg (dBi max2F _) _) _ = tl at hy
  obtain ⟨c, hc⟩ : ∃ c : Int, tl [some (.scr (ns.map W.int)), some (.int k), some (.int c), none, none] S = y := by
    by_cases h : k < ns.length
    · obtain ⟨x, h1, h2⟩ := atI_in (l := ns.map W.int) hk (by simpa using h)
      rw [List.getElem?_map] at h2
      obtain ⟨c, _, rfl⟩ := Option.map_eq_some_iff.mp h2
      refine ⟨c, ?_⟩
      simp -implicitDefEqProofs [h, e_ixC h1] at hy
      exact hy
    · refine ⟨0, ?_⟩
      simp -implicitDefEqProofs [h] at hy
      exact hy
  clear hy
  subst htl
  obtain ⟨b, hb⟩ : ∃ b : Int, b = if -1 - c > c then -1 - c else c := ⟨_, rfl⟩
  have b0 : 0 ≤ b := by rw [hb]; split <;> omega
  have m1 : ∀ S, mulD false (.int 5303) (.int k) S = .ok (.int (5303 * k)) S := fun S => e_mulL (by decide)
  have m2 : ∀ S, mulD false (.int (5303 * k)) (.int k) S = .ok (.int (5303 * k * k)) S := fun S => e_mulR (by omega)
  have m3 : ∀ S, mulD false (.int 43) (.int k) S = .ok (.int (43 * k)) S := fun S => e_mulL (by decide)
  have m4 : ∀ S (i : Int), mulD false (.int i) (.int 48271) S = .ok (.int (i * 48271)) S := fun S i => e_mulR (by decide)
  have m5 : ∀ S, iPow (.int 10) (.int 18) S = .ok (.int 1000000000000000000) S := fun S => by
    rw [e_pow (by decide)]
    have : (10 : Int) ^ (18 : Int).toNat = 1000000000000000000 := by decide
    rw [this]
  have m6 : ∀ S, mulD false (.int b) (.int (if 1000000000000000000 ≤ b then 1 else 0)) S = .ok (.int (b * if 1000000000000000000 ≤ b then 1 else 0)) S := fun S => e_mulR (by split <;> decide)
  simp -implicitDefEqProofs [← hb, m1, m2, m3, m4, m5, m6, e_mod (show (0:Int) < 2147483629 by decide), e_mod (show (0:Int) < 2147483647 by decide), sizeLine_eq] at hc
  subst hc
  refine ⟨_, hx.symm, _, _, rfl, ?_, Int.emod_nonneg _ (by decide), Int.emod_lt_of_pos _ (by decide)⟩
  split
  · omega
  · omega
end SP
namespace SP
open PySem L2 DD U
/-! ### a ratio's operators -/
theorem fld_top {S : Sto} {q : Rat} : fieldOf [34] "top" (rW q) S = some (.int q.num) := rfl
theorem fld_bot {S : Sto} {q : Rat} : fieldOf [34] "bottom" (rW q) S = some (.int q.den) := rfl
theorem isOf_rW {S : Sto} {q : Rat} : isOf 34 (rW q) S = true := rfl
end SP
namespace SP
open PySem L2 DD U
/-! ### the law's own gcd and look at a ratio -/
theorem l_div_ok {S : Sto} {a b : Int} (h1 : Bz 900 a) (h2 : Bz 900 b) : U.fn_l_divisor [.int a, .int b] S = .ok (.int (a.gcd b)) S := by
  generalize hx : U.fn_l_divisor _ _ = x
  unfold U.fn_l_divisor at hx
  rw [DD.gcF_eq, DD.dFn_eq] at hx
  generalize hy : U.b_l_divisor _ _ = y at hx
  unfold U.b_l_divisor at hy
  have ea : (if a < 0 then -a else a) = (a.natAbs : Int) := by split <;> omega
  have eb : (if b < 0 then -b else b) = (b.natAbs : Int) := by split <;> omega
  simp -implicitDefEqProofs [ea, eb] at hy
  have key := forL_ret (g := gN 2) (b := b_l_divisor_l0) (intsFrom 0 2000)
    (fun i t X => ∃ (u v : Nat) (x2 : Option W), t = [some (.int u), some (.int v), x2] ∧ X = S ∧ Nat.gcd u v = a.gcd b ∧ (i = 0 → u * v < 2 ^ 1800) ∧ (0 < i → v ≤ u ∧ u * v * 2 ^ (i - 1) < 2 ^ 1800))
    (fun f => ∃ x1 x2, f = .nx [some (.int (a.gcd b)), x1, x2] S)
    (fun i w t X hw ⟨u, v, x2, ht, hX, hg, hi0, hi1⟩ => by
      subst ht hX
      obtain ⟨hi, rfl⟩ := intsFrom_mem hw
      by_cases hv : v = 0
      · subst hv
        right; right; left
        rw [Nat.gcd_zero_right] at hg
        subst hg
        generalize hz : turn _ _ _ _ _ = z
        simp -implicitDefEqProofs [turn, b_l_divisor_l0, gN] at hz
        subst hz
        exact ⟨_, _, rfl, _, _, rfl⟩
      · left
        have hv' : ¬ ((v : Int) = 0) := by omega
        generalize hz : turn _ _ _ _ _ = z
        simp -implicitDefEqProofs [turn, b_l_divisor_l0, gN, hv', hv, e_mod (show (0 : Int) < v by omega)] at hz
        subst hz
        refine ⟨_, _, .inl rfl, v, u % v, _, rfl, rfl, ?_, by omega, fun _ => ?_⟩
        · rw [← hg, Nat.gcd_comm u v, Nat.gcd_rec v u, Nat.gcd_comm]
        · have hm := Nat.mod_lt u (show 0 < v by omega)
          refine ⟨by omega, ?_⟩
          rcases Nat.eq_zero_or_pos i with rfl | hp
          · have := hi0 rfl
            simp only [Nat.zero_add, Nat.sub_self, Nat.pow_zero, Nat.mul_one]
            have h3 : v * (u % v) ≤ v * u := Nat.mul_le_mul_left _ (Nat.mod_le _ _)
            rw [Nat.mul_comm v u] at h3
            omega
          · obtain ⟨h3, h4⟩ := hi1 hp
            have h5 : 2 * (u % v) ≤ u := by
              have := Nat.div_add_mod u v
              have h6 : 1 ≤ u / v := (Nat.one_le_div_iff (by omega)).mpr h3
              have h7 : v * 1 ≤ v * (u / v) := Nat.mul_le_mul_left _ h6
              omega
            obtain ⟨j, rfl⟩ : ∃ j, i = j + 1 := ⟨i - 1, by omega⟩
            simp only [Nat.add_sub_cancel] at h4 ⊢
            have h8 : v * (u % v) * 2 ^ (j + 1) = v * (2 * (u % v)) * 2 ^ j := by rw [Nat.pow_succ]; grind
            rw [h8]
            have h9 : v * (2 * (u % v)) * 2 ^ j ≤ v * u * 2 ^ j := Nat.mul_le_mul_right _ (Nat.mul_le_mul_left _ h5)
            rw [Nat.mul_comm v u] at h9
            omega)
    (fun t X ⟨u, v, x2, ht, hX, hg, hi0, hi1⟩ => by
      subst ht hX
      rw [intsFrom_length] at hi1
      obtain ⟨h3, h4⟩ := hi1 (by decide)
      have : v = 0 := by
        by_cases hv : v = 0
        · exact hv
        · have h5 : 1 ≤ u * v := Nat.mul_pos (by omega) (by omega)
          have h6 : 1 * 2 ^ (2000 - 1) ≤ u * v * 2 ^ (2000 - 1) := Nat.mul_le_mul_right _ h5
          have h7 : 1 * 2 ^ (2000 - 1) < 2 ^ 1800 := Nat.lt_of_le_of_lt h6 h4
          rw [Nat.one_mul] at h7
          exact absurd h7 (Nat.not_lt.mpr (Nat.pow_le_pow_right (by decide) (by decide)))
      subst this
      rw [Nat.gcd_zero_right] at hg
      subst hg
      exact ⟨_, _, rfl⟩)
    (t := [some (.int (a.natAbs : Int)), some (.int (b.natAbs : Int)), none]) (S := S) ⟨a.natAbs, b.natAbs, none, rfl, rfl, rfl, fun _ => by
      have := h1.mul h2
      unfold Bz at this
      rw [Int.natAbs_mul] at this
      exact this, by omega⟩
  obtain ⟨x1, x2, e⟩ := key
  simp -implicitDefEqProofs [e] at hy
  subst hy
  exact hx.symm.trans (gc_same rfl)
theorem l_isr_ok {S : Sto} {q : Rat} {a b : Int} {n : Nat} (hq : Rz 900 q) (ha : Bz n a) (hb : Bz n b) (hn : n ≤ 8000) : U.fn_l_is_ratio [rW q, .int a, .int b] S = .ok (.bl (decide (q.num * b = a * q.den))) S := by
  generalize hx : U.fn_l_is_ratio _ _ = x
  unfold U.fn_l_is_ratio at hx
  rw [DD.gcF_eq, DD.dFn_eq] at hx
  generalize hy : U.b_l_is_ratio _ _ = y at hx
  unfold U.b_l_is_ratio at hy
  have hr : q.num.gcd q.den = 1 := by
    have := q.reduced
    unfold Nat.Coprime at this
    simpa [Int.gcd] using this
  have hd : 1 ≤ (q.den : Int) := by have := q.den_pos; omega
  have m1 : ∀ S, mulD false (.int q.num) (.int b) S = .ok (.int (q.num * b)) S := fun S => e_mulZ hq.1 hb (by omega)
  have m2 : ∀ S, mulD false (.int a) (.int q.den) S = .ok (.int (a * q.den)) S := fun S => e_mulZ ha hq.2 (by omega)
  have hI : ∀ (S : Sto) (i : Int), isiF isiB [.int i, .ty "int"] S = .ok (.bl true) S := fun S i => rfl
  have hB : ∀ (S : Sto) (i : Int), isiF isiB [.int i, .ty "bool"] S = .ok (.bl false) S := fun S i => rfl
  simp -implicitDefEqProofs [isi_rW, truW, fld_top, fld_bot, sizeLine_eq, dSeqI, forL_cons, turn, gN, b_l_is_ratio_l0, hI, hB, l_div_ok hq.1 hq.2, hr, show ¬ ((q.den : Int) < 1) by omega, m1, m2] at hy
  subst hy
  exact hx.symm.trans (gc_same rfl)
/-- the ratio of two numbers, looked at -/
theorem isr_div {a b c d : Int} (hb : b ≠ 0) (h : a * d = c * b) : decide ((Rat.divInt a b).num * d = c * (Rat.divInt a b).den) = true := by
  rw [decide_eq_true_iff]
  obtain ⟨e1, e2⟩ := num_of (a := a) hb rfl _ rfl
  generalize (if 0 < b then 1 else -1) * ((a.gcd b : Nat) : Int) = k at e1 e2
  have hk : k ≠ 0 := fun z => hb (by rw [e2, z, Int.mul_zero])
  have : ((Rat.divInt a b).num * d) * k = (c * (Rat.divInt a b).den) * k := by grind
  exact Int.eq_of_mul_eq_mul_right hk this
end SP
namespace SP
open PySem L2 DD U
theorem e_p26 (S : Sto) : iPow (.int 2) (.int 26) S = .ok (.int 67108864) S := by
  rw [e_pow (by decide)]
  have : (2 : Int) ^ (26 : Int).toNat = 67108864 := by decide
  rw [this]
/-- a drawn number -/
theorem number_ok {P : O} {S B : Sto} {most : Int} (h : Po3 P) (h0 : 3 ≤ most) (h1 : most < 2 ^ 200) :
    ∃ r P', U.fn_l_number [.ref S.length, .int most] (S ++ P :: B) = .ok (.int r) (S ++ P' :: B) ∧ -most ≤ r ∧ r ≤ most ∧ Po3 P' := by
  generalize hx : U.fn_l_number _ _ = x
  unfold U.fn_l_number at hx
  rw [DD.gcF_eq, DD.dFn_eq] at hx
  generalize hy : U.b_l_number _ _ = y at hx
  unfold U.b_l_number at hy
  simp -implicitDefEqProofs [] at hy
  generalize hd__ : U.fn_l_take _ _ = d__ at hy
  have hs__ := SP.at2 hd__ ((take3_ok h) (by first | omega | with_reducible assumption | (simp; done) | (simp; omega) | rfl) (by first | omega | with_reducible assumption | (simp; done) | (simp; omega) | rfl))
  obtain ⟨r, P1, e, r0, r1, hP1⟩ := hs__
  subst e
  by_cases hr : 0 < r
  · simp -implicitDefEqProofs [hr] at hy
    generalize hd__ : U.fn_l_take _ _ = d__ at hy
    have hs__ := SP.at2 hd__ ((take3_ok hP1) (by first | omega | with_reducible assumption | (simp; done) | (simp; omega) | rfl) (by first | omega | with_reducible assumption | (simp; done) | (simp; omega) | rfl))
    obtain ⟨r', P2, e, r0', r1', hP2⟩ := hs__
    subst e
    simp -implicitDefEqProofs [] at hy
    subst hy
    exact ⟨_, P2, hx.symm.trans (gc_po30 hP2 rfl), by omega, by omega, hP2⟩
  · simp -implicitDefEqProofs [hr] at hy
    obtain ⟨t', X, e2, v, P2, x3, rfl, rfl, v0, hP2⟩ := forL_inv (g := gN 3) (b := b_l_number_l0) (intsFrom 0 6)
      (fun i t X => ∃ (v : Int) (P2 : O) (x3 : Option W), t = [some (.ref S.length), some (.int most), some (.int v), x3] ∧ X = S ++ P2 :: B ∧ 0 ≤ v ∧ Po3 P2)
      (fun i w t X hw ⟨v, P2, x3, ht, hX, v0, hP2⟩ => by
        subst ht hX
        obtain ⟨hi, rfl⟩ := intsFrom_mem hw
        generalize hz : turn _ _ _ _ _ = z
        have m1 : ∀ S, mulD false (.int v) (.int 67108864) S = .ok (.int (v * 67108864)) S := fun S => e_mulR (by decide)
        simp -implicitDefEqProofs [turn, b_l_number_l0, gN, e_p26, m1] at hz
        generalize hd__ : U.fn_l_take _ _ = d__ at hz
        have hs__ := SP.at2 hd__ ((take3_ok hP2) (by first | omega | with_reducible assumption | (simp; done) | (simp; omega) | rfl) (by first | omega | with_reducible assumption | (simp; done) | (simp; omega) | rfl))
        obtain ⟨r', P3, e, r0', r1', hP3⟩ := hs__
        subst e
        simp -implicitDefEqProofs [] at hz
        subst hz
        exact ⟨_, _, .inl rfl, _, P3, _, rfl, rfl, by omega, hP3⟩)
      (t := [some (.ref S.length), some (.int most), some (.int 0), none]) (S := S ++ P1 :: B) ⟨0, P1, none, rfl, rfl, by decide, hP1⟩
    rw [e2] at hy
    have m1 : ∀ S, mulD false (.int 2) (.int most) S = .ok (.int (2 * most)) S := fun S => e_mulL (by decide)
    simp -implicitDefEqProofs [m1, e_mod (show 0 < 2 * most + 1 by omega)] at hy
    subst hy
    have h2 := Int.emod_nonneg v (show 2 * most + 1 ≠ 0 by omega)
    have h3 := Int.emod_lt_of_pos v (show 0 < 2 * most + 1 by omega)
    exact ⟨_, P2, hx.symm.trans (gc_po30 hP2 rfl), by omega, by omega, hP2⟩
theorem bz_of {n : Nat} {r : Int} {most : Int} (h1 : -most ≤ r) (h2 : r ≤ most) (h : most.natAbs < 2 ^ n) : Bz n r := by
  unfold Bz; omega
/-! ### operators, as they stand in an expression -/
section
variable {S : Sto} {p q : Rat} {w : W} {n m : Nat} {i : Int} {f : D2}
theorem o_rr {fn : Fn} {x : W} (h : fn [rW p, rW q] S = .ok x S) : orD (usrD 34 fn) f (rW p) (rW q) S = .ok x S := by
  simp [orD, usrD, isOf, h]
theorem o_ri {fn : Fn} {x : W} (h : fn [rW p, .int i] S = .ok x S) : orD (usrD 34 fn) (orD (usrL 34 fn) f) (rW p) (.int i) S = .ok x S := by
  simp [orD, usrD, usrL, isOf, h]
theorem o_ir {fn : Fn} {x : W} (h : fn [rW p, .int i] S = .ok x S) : orD (usrR 34 fn) f (.int i) (rW p) S = .ok x S := by
  simp [orD, usrR, isOf, h]
end
theorem isr_of {q : Rat} {a b : Int} (hb : b ≠ 0) (h : q = Rat.divInt a b) : decide (q.num * b = a * q.den) = true := by
  subst h; exact isr_div hb rfl
end SP
namespace U
open PySem L2 DD
end U
namespace U
open PySem L2 DD
noncomputable def b_Ratio_eq : DS :=
    (dSeq (dIfS (dTru (dBi (isiF (isi1 34)) (dCons (dVar 1) (dCons (dC (.cls 34)) dNil))))
    (dRet (dAndT (dOp eqD (dFld [34] "top" (dVar 0)) (dFld [34] "top" (dVar 1))) (dOp eqD (dFld [34] "bottom" (dVar 0)) (dFld [34] "bottom" (dVar 1)))))
    dNext)
    (dRet (dAndT (dBi (isiF (isi2 34)) (dCons (dVar 1) (dCons (dC (.ty "int")) dNil))) (dAndT (dOp eqD (dFld [34] "bottom" (dVar 0)) (dC (.int 1))) (dOp eqD (dFld [34] "top" (dVar 0)) (dVar 1))))))
noncomputable def fn_Ratio_eq : Fn := gcF (dFn 2 b_Ratio_eq)
end U
namespace SP
open PySem L2 DD U
/-! ### a ratio's order -/
section
variable {S : Sto} {p q : Rat} {w : W} {n m : Nat} {i : Int}
theorem rat_eq_iff (p q : Rat) : p = q ↔ p.num = q.num ∧ p.den = q.den := ⟨fun h => h ▸ ⟨rfl, rfl⟩, fun h => Rat.ext h.1 h.2⟩
theorem ratio_eq (h : Nm w q) : U.fn_Ratio_eq [rW p, w] S = .ok (.bl (decide (p = q))) S := by
  generalize hx : U.fn_Ratio_eq _ _ = x
  unfold U.fn_Ratio_eq at hx
  rw [DD.gcF_eq, DD.dFn_eq] at hx
  generalize hy : U.b_Ratio_eq _ _ = y at hx
  unfold U.b_Ratio_eq at hy
  rcases h with rfl | ⟨i, rfl, rfl⟩
  · by_cases h1 : p.num = q.num
    · have h2 : decide ((p.den : Int) = q.den) = decide (p = q) := decide_eq_decide.mpr (by rw [rat_eq_iff]; constructor <;> intro z <;> omega)
      simp -implicitDefEqProofs [isi_rW, truW, fld_top, fld_bot, dAndT, h1, h2] at hy
      subst hy
      exact hx.symm.trans (gc_same rfl)
    · have h2 : ¬ p = q := fun z => h1 (z ▸ rfl)
      simp -implicitDefEqProofs [isi_rW, truW, fld_top, fld_bot, dAndT, h1] at hy
      subst hy
      rw [show decide (p = q) = false from decide_eq_false h2]
      exact hx.symm.trans (gc_same rfl)
  · have hI : isiF (isi2 34) [.int i, .ty "int"] S = .ok (.bl true) S := rfl
    by_cases h1 : p.den = 1
    · simp -implicitDefEqProofs [isi_int, truW, fld_top, fld_bot, dAndT, h1, hI] at hy
      have : (p.num = i) = (p = (i : Rat)) := propext (by rw [rat_eq_iff]; simp [h1])
      simp only [this] at hy
      subst hy
      exact hx.symm.trans (gc_same rfl)
    · have h2 : ¬ p = (i : Rat) := fun z => h1 (by rw [z]; rfl)
      have h3 : ¬ ((p.den : Int) = 1) := by omega
      simp -implicitDefEqProofs [isi_int, truW, fld_top, fld_bot, dAndT, h1, h3, hI] at hy
      subst hy
      rw [show decide (p = (i : Rat)) = false from decide_eq_false h2]
      exact hx.symm.trans (gc_same rfl)
end
end SP
namespace U
open PySem L2 DD
end U
namespace U
open PySem L2 DD
end U
namespace U
open PySem L2 DD
end U
namespace U
open PySem L2 DD
end U
namespace U
open PySem L2 DD
end U
namespace U
open PySem L2 DD
end U
namespace U
open PySem L2 DD
end U
namespace U
open PySem L2 DD
end U
namespace U
open PySem L2 DD
end U
namespace U
open PySem L2 DD
end U
namespace U
open PySem L2 DD
end U
namespace U
open PySem L2 DD
end U
namespace U
open PySem L2 DD
end U
namespace U
open PySem L2 DD
end U
namespace U
open PySem L2 DD
end U
namespace U
open PySem L2 DD
end U
namespace U
open PySem L2 DD
end U
namespace U
open PySem L2 DD
end U
namespace U
open PySem L2 DD
end U
namespace U
open PySem L2 DD
end U
namespace U
open PySem L2 DD
end U
namespace U
open PySem L2 DD
end U
namespace U
open PySem L2 DD
end U
namespace U
open PySem L2 DD
end U
namespace U
open PySem L2 DD
end U
namespace U
open PySem L2 DD
end U
namespace U
open PySem L2 DD
end U
namespace U
open PySem L2 DD
end U
namespace U
open PySem L2 DD
end U
namespace U
open PySem L2 DD
end U
namespace U
open PySem L2 DD
end U
namespace U
open PySem L2 DD
end U
namespace U
open PySem L2 DD
end U
namespace U
open PySem L2 DD
end U
namespace U
open PySem L2 DD
end U
namespace U
open PySem L2 DD
end U
namespace U
open PySem L2 DD
end U
namespace U
open PySem L2 DD
end U
namespace U
open PySem L2 DD
end U
namespace U
open PySem L2 DD
end U
namespace U
open PySem L2 DD
end U
namespace U
open PySem L2 DD
end U
namespace U
open PySem L2 DD
end U
namespace U
open PySem L2 DD
end U
namespace U
open PySem L2 DD
end U
namespace U
open PySem L2 DD
end U
namespace U
open PySem L2 DD
end U
namespace U
open PySem L2 DD
end U
namespace U
open PySem L2 DD
end U
namespace U
open PySem L2 DD
end U
namespace U
open PySem L2 DD
end U
namespace U
open PySem L2 DD
end U
namespace U
open PySem L2 DD
end U
namespace U
open PySem L2 DD
def xk_NoPupils : Nat → Option Bool
  | 16 => some false
  | _ => none
def xk_ValueError : Nat → Option Bool
  | 16 => some true
  | _ => none
def xk_TestError_3 : Nat → Option Bool
  | 16 => some true
  | _ => none
noncomputable def b_Ratio_bool : DS :=
    (dRet (dBi boolF (dCons (dFld [34] "top" (dVar 0)) dNil)))
noncomputable def fn_Ratio_bool : Fn := gcF (dFn 1 b_Ratio_bool)
noncomputable def b_Ratio_str : DS :=
    (dSeq (dIfS (dTest (dOp eqD (dFld [34] "bottom" (dVar 0)) (dC (.int 1))))
    (dRet (dBi strF (dCons (dFld [34] "top" (dVar 0)) dNil)))
    dNext)
    (dRet (dJoin [(dFmt (dFld [34] "top" (dVar 0))), (dC (.str "/")), (dFmt (dFld [34] "bottom" (dVar 0)))])))
noncomputable def fn_Ratio_str : Fn := gcF (dFn 1 b_Ratio_str)
noncomputable def b_l_text : DS :=
    (dSeq (dAsg (dCall fn_l_divisor (dCons (dVar 0) (dCons (dVar 1) dNil))) (gN 2))
    (dSeq (dIfS (dTest (dOp iLt (dVar 1) (dC (.int 0))))
    (dAsg (dNeg (dVar 2)) (gN 2))
    dNext)
    (dSeq (dIfS (dTest (dOp eqD (dOp iDiv (dVar 1) (dVar 2)) (dC (.int 1))))
    (dRet (dBi strF (dCons (dOp iDiv (dVar 0) (dVar 2)) dNil)))
    dNext)
    (dRet (dOp addD (dOp addD (dBi strF (dCons (dOp iDiv (dVar 0) (dVar 2)) dNil)) (dC (.str "/"))) (dBi strF (dCons (dOp iDiv (dVar 1) (dVar 2)) dNil)))))))
noncomputable def fn_l_text : Fn := gcF (dFn 3 b_l_text)
noncomputable def b_l_built_2 : DS :=
    (dTryN (dRet (dGc (dFrz (dMake 34 fn_Ratio_init (dBoth (· ++ ·) (dCons (dVar 0) (dCons (dVar 1) dNil)) (fun _ S => .ok [] S)))))) [(xm_ZeroBottom, some 2, (dRet (dLst (dCons (dBi (isxF (xkM 0 xk_TestError_3)) (dCons (dVar 2) (dCons (dC (.cls 0)) dNil))) (dCons (dBi (isxF (xkT "ValueError" xk_ValueError)) (dCons (dVar 2) (dCons (dC (.ty "ValueError")) dNil))) (dCons (dBi (isxF (xkM 23 xk_NoPupils)) (dCons (dVar 2) (dCons (dC (.cls 23)) dNil))) dNil))))))])
noncomputable def fn_l_built_2 : Fn := gcF (dFn 3 b_l_built_2)
noncomputable def b_law_60_l0 : DS :=
    (dSeq (dAsg (dCall fn_l_pool_3 (dCons (dVar 0) (dCons (dVar 1) dNil))) (gN 2))
    (dSeq (dPar 5 6 (dCons (dCall fn_l_number (dCons (dVar 2) (dCons (dOp iPow (dC (.int 10)) (dC (.int 39))) dNil))) (dCons (dCall fn_l_number (dCons (dVar 2) (dCons (dOp iPow (dC (.int 10)) (dC (.int 39))) dNil))) dNil)))
    (dSeq (dAsg (dOp addD (dC (.int 1)) (dCall fn_l_take (dCons (dVar 2) (dCons (dC (.int 9)) dNil)))) (gN 3))
    (dSeq (dAsg (dOp (mulD false) (dVar 3) (dOp iSub (dC (.int 1)) (dOp (mulD false) (dC (.int 2)) (dCall fn_l_take (dCons (dVar 2) (dCons (dC (.int 2)) dNil)))))) (gN 3))
    (dSeq (dIfS (dTest (dOp neD (dCall fn_l_built_2 (dCons (dVar 5) (dCons (dC (.int 0)) dNil))) (dLst (dCons (dC (.bl true)) (dCons (dC (.bl true)) (dCons (dC (.bl false)) dNil))))))
    (dRet (dC (.bl false)))
    dNext)
    (dSeq (dIfS (dtOr (dtNot (dTru (dCall fn_l_is_ratio (dCons (dGc (dFrz (dMake 34 fn_Ratio_init (dBoth (· ++ ·) (dCons (dVar 5) dNil) (fun _ S => .ok [(.int 1)] S))))) (dCons (dVar 5) (dCons (dC (.int 1)) dNil)))))) (dtNot (dTru (dCall fn_l_is_ratio (dCons (dGc (dFrz (dMake 34 fn_Ratio_init (dBoth (· ++ ·) (dCons (dVar 6) (dCons (dC (.int 1)) dNil)) (fun _ S => .ok [] S))))) (dCons (dVar 6) (dCons (dC (.int 1)) dNil)))))))
    (dRet (dC (.bl false)))
    dNext)
    (dSeq (dIfS (dtOr (dTest (dOp (isB true) (dOp (orD (usrD 34 fn_Ratio_eq) (orD (usrL 34 fn_Ratio_eq) eqD)) (dGc (dFrz (dMake 34 fn_Ratio_init (dBoth (· ++ ·) (dCons (dVar 5) dNil) (fun _ S => .ok [(.int 1)] S))))) (dVar 5)) (dC (.bl true)))) (dTest (dOp (isB true) (dOp (orD (usrD 34 fn_Ratio_eq) (orD (usrL 34 fn_Ratio_eq) eqD)) (dGc (dFrz (dMake 34 fn_Ratio_init (dBoth (· ++ ·) (dCons (dVar 5) dNil) (fun _ S => .ok [(.int 1)] S))))) (dOp addD (dVar 5) (dVar 3))) (dC (.bl false)))))
    (dRet (dC (.bl false)))
    dNext)
    (dSeq (dIfS (dtOr (dTest (dOp (isB true) (dOp (orD (usrR 34 fn_Ratio_eq) eqD) (dVar 5) (dGc (dFrz (dMake 34 fn_Ratio_init (dBoth (· ++ ·) (dCons (dVar 5) dNil) (fun _ S => .ok [(.int 1)] S)))))) (dC (.bl true)))) (dTest (dOp (isB true) (dOp (orD (usrR 34 fn_Ratio_eq) eqD) (dOp addD (dVar 5) (dVar 3)) (dGc (dFrz (dMake 34 fn_Ratio_init (dBoth (· ++ ·) (dCons (dVar 5) dNil) (fun _ S => .ok [(.int 1)] S)))))) (dC (.bl false)))))
    (dRet (dC (.bl false)))
    dNext)
    (dSeq (dIfS (dTest (dOp eqD (dVar 6) (dC (.int 0))))
    (dSeq (dIfS (dTest (dOp neD (dCall fn_l_built_2 (dCons (dVar 5) (dCons (dVar 6) dNil))) (dLst (dCons (dC (.bl true)) (dCons (dC (.bl true)) (dCons (dC (.bl false)) dNil))))))
    (dRet (dC (.bl false)))
    dNext)
    dCont)
    dNext)
    (dSeq (dAsg (dCall fn_l_built_2 (dCons (dVar 5) (dCons (dVar 6) dNil))) (gN 4))
    (dSeq (dIfS (dtOr (dtNot (dTru (dCall fn_l_is_ratio (dCons (dVar 4) (dCons (dVar 5) (dCons (dVar 6) dNil)))))) (dtNot (dTru (dCall fn_l_is_ratio (dCons (dGc (dFrz (dMake 34 fn_Ratio_init (dBoth (· ++ ·) (dCons (dNeg (dVar 5)) (dCons (dNeg (dVar 6)) dNil)) (fun _ S => .ok [] S))))) (dCons (dVar 5) (dCons (dVar 6) dNil)))))))
    (dRet (dC (.bl false)))
    dNext)
    (dSeq (dIfS (dtAnd (dTest (dOp iLt (dBi absF (dCons (dVar 5) dNil)) (dOp iPow (dC (.int 10)) (dC (.int 39))))) (dTest (dOp iLt (dBi absF (dCons (dVar 6) dNil)) (dOp iPow (dC (.int 10)) (dC (.int 39))))))
    (dIfS (dTest (dOp (isB true) (dOp (orD (usrD 34 fn_Ratio_eq) (orD (usrL 34 fn_Ratio_eq) (orD (usrR 34 fn_Ratio_eq) eqD))) (dVar 4) (dGc (dFrz (dMake 34 fn_Ratio_init (dBoth (· ++ ·) (dCons (dOp (mulD false) (dVar 5) (dVar 3)) (dCons (dOp (mulD false) (dVar 6) (dVar 3)) dNil)) (fun _ S => .ok [] S)))))) (dC (.bl true))))
    (dRet (dC (.bl false)))
    dNext)
    dNext)
    (dSeq (dIfS (dtAnd (dTest (dOp neD (dVar 6) (dNeg (dC (.int 1))))) (dTest (dOp neD (dOp (orD (usrD 34 fn_Ratio_eq) (orD (usrL 34 fn_Ratio_eq) (orD (usrR 34 fn_Ratio_eq) eqD))) (dVar 4) (dGc (dFrz (dMake 34 fn_Ratio_init (dBoth (· ++ ·) (dCons (dVar 5) (dCons (dOp addD (dVar 6) (dC (.int 1))) dNil)) (fun _ S => .ok [] S)))))) (dOp eqD (dVar 5) (dC (.int 0))))))
    (dRet (dC (.bl false)))
    dNext)
    (dSeq (dIfS (dtOr (dTest (dOp (isB true) (dOp (orD (usrD 34 fn_Ratio_eq) (orD (usrL 34 fn_Ratio_eq) (orD (usrR 34 fn_Ratio_eq) eqD))) (dVar 4) (dGc (dFrz (dMake 34 fn_Ratio_init (dBoth (· ++ ·) (dCons (dOp addD (dVar 5) (dC (.int 1))) (dCons (dVar 6) dNil)) (fun _ S => .ok [] S)))))) (dC (.bl false)))) (dTest (dOp neD (dOp (orD (usrD 34 fn_Ratio_eq) (orD (usrL 34 fn_Ratio_eq) (orD (usrR 34 fn_Ratio_eq) eqD))) (dVar 4) (dGc (dFrz (dMake 34 fn_Ratio_init (dBoth (· ++ ·) (dCons (dNeg (dVar 5)) (dCons (dVar 6) dNil)) (fun _ S => .ok [] S)))))) (dOp eqD (dVar 5) (dC (.int 0))))))
    (dRet (dC (.bl false)))
    dNext)
    (dIfS (dtOr (dTest (dOp neD (dOp (orD (usrD 34 fn_Ratio_eq) (orD (usrL 34 fn_Ratio_eq) eqD)) (dVar 4) (dVar 5)) (dOp eqD (dVar 5) (dOp (mulD false) (dVar 5) (dVar 6))))) (dtOr (dTest (dOp neD (dBi (usrBool 34 fn_Ratio_bool) (dCons (dVar 4) dNil)) (dOp neD (dVar 5) (dC (.int 0))))) (dTest (dOp neD (dBi (usrStr 34 fn_Ratio_str) (dCons (dVar 4) dNil)) (dCall fn_l_text (dCons (dVar 5) (dCons (dVar 6) dNil)))))))
    (dRet (dC (.bl false)))
    dNext)))))))))))))))
noncomputable def b_law_60 : DS :=
    (dSeq (dFor (dRange1 (dCons (dBi max2F (dCons (dC (.int 1)) (dCons (dBi min2F (dCons (dC (.int 40)) (dCons (dBi lenF (dCons (dVar 0) dNil)) dNil))) dNil))) dNil)) (gN 1)
    b_law_60_l0)
    (dRet (dC (.bl true))))
noncomputable def fn_law_60 : Fn := dFn 7 b_law_60
end U
namespace Zk43
open PySem PySem.Spec PyProof.Rows L2 DD U
structure Tx (K : PySem.W.Frag) (mg : Str → Option Value) : Prop where
  b_ValueError : mg "ValueError" = none
  b_abs : mg "abs" = none
  b_bool : mg "bool" = none
  b_int : mg "int" = none
  b_isinstance : mg "isinstance" = none
  b_len : mg "len" = none
  b_max : mg "max" = none
  b_min : mg "min" = none
  b_range : mg "range" = none
  b_str : mg "str" = none
  g_l_pool : mg "_law_pool" = some (.ref (He.fAd K ("_law_pool", none)))
  g_l_take : mg "_law_take" = some (.ref (He.fAd K ("_law_take", none)))
  g_l_divisor : mg "_law_divisor" = some (.ref (He.fAd K ("_law_divisor", none)))
  g_common_divisor : mg "common_divisor" = some (.ref (He.fAd K ("common_divisor", none)))
  g_l_is_ratio : mg "_law_is_ratio" = some (.ref (He.fAd K ("_law_is_ratio", none)))
  g_l_number : mg "_law_number" = some (.ref (He.fAd K ("_law_number", none)))
  g_l_text : mg "_law_text" = some (.ref (He.fAd K ("_law_text", none)))
  g_l_built : mg "_law_built" = some (.ref (He.fAd K ("_law_built", none)))
  g_law : mg "law" = some (.ref (He.fAd K ("law", none)))
  g_NoPupils : mg "NoPupils" = some (.ref (cm K 23))
  g_Ratio : mg "Ratio" = some (.ref (cm K 34))
  g_TestError : mg "TestError" = some (.ref (cm K 0))
  g_ZeroBottom : mg "ZeroBottom" = some (.ref (cm K 16))
  c_Ratio : Cls K (cm K 34)
  n_Ratio_bottom : NoAttr K (cm K 34) "bottom"
  n_Ratio_top : NoAttr K (cm K 34) "top"
  m_Ratio_bool : Meth K (cm K 34) "__bool__" (He.fAd K ("Ratio", some "__bool__"))
  m_Ratio_eq : Meth K (cm K 34) "__eq__" (He.fAd K ("Ratio", some "__eq__"))
  m_Ratio_str : Meth K (cm K 34) "__str__" (He.fAd K ("Ratio", some "__str__"))
  mk_Ratio : Mk K (cm K 34) (He.fAd K ("Ratio", some "__init__"))
  f_l_pool : ∃ fd, FunD K "_law_pool" "_law_pool" (defArgs s_l_pool) (defBody s_l_pool) (defScope s_l_pool) [] [] (He.fAd K ("_law_pool", none)) fd
  f_l_take : ∃ fd, FunD K "_law_take" "_law_take" (defArgs s_l_take) (defBody s_l_take) (defScope s_l_take) [] [] (He.fAd K ("_law_take", none)) fd
  f_Ratio_bool : ∃ fd, FunD K "__bool__" "Ratio.__bool__" (defArgs s_Ratio_bool) (defBody s_Ratio_bool) (defScope s_Ratio_bool) [] [] (He.fAd K ("Ratio", some "__bool__")) fd
  f_Ratio_eq : ∃ fd, FunD K "__eq__" "Ratio.__eq__" (defArgs s_Ratio_eq) (defBody s_Ratio_eq) (defScope s_Ratio_eq) [] [] (He.fAd K ("Ratio", some "__eq__")) fd
  f_Ratio_str : ∃ fd, FunD K "__str__" "Ratio.__str__" (defArgs s_Ratio_str) (defBody s_Ratio_str) (defScope s_Ratio_str) [] [] (He.fAd K ("Ratio", some "__str__")) fd
  f_l_divisor : ∃ fd, FunD K "_law_divisor" "_law_divisor" (defArgs s_l_divisor) (defBody s_l_divisor) (defScope s_l_divisor) [] [] (He.fAd K ("_law_divisor", none)) fd
  f_common_divisor : ∃ fd, FunD K "common_divisor" "common_divisor" (defArgs s_common_divisor) (defBody s_common_divisor) (defScope s_common_divisor) [] [] (He.fAd K ("common_divisor", none)) fd
  f_l_is_ratio : ∃ fd, FunD K "_law_is_ratio" "_law_is_ratio" (defArgs s_l_is_ratio) (defBody s_l_is_ratio) (defScope s_l_is_ratio) [] [] (He.fAd K ("_law_is_ratio", none)) fd
  f_l_number : ∃ fd, FunD K "_law_number" "_law_number" (defArgs s_l_number) (defBody s_l_number) (defScope s_l_number) [] [] (He.fAd K ("_law_number", none)) fd
  f_l_text : ∃ fd, FunD K "_law_text" "_law_text" (defArgs s_l_text) (defBody s_l_text) (defScope s_l_text) [] [] (He.fAd K ("_law_text", none)) fd
  f_Ratio_init : ∃ fd, FunD K "__init__" "Ratio.__init__" (defArgs s_Ratio_init) (defBody s_Ratio_init) (defScope s_Ratio_init) [(.int 1)] [] (He.fAd K ("Ratio", some "__init__")) fd
  f_l_built : ∃ fd, FunD K "_law_built" "_law_built" (defArgs s_l_built) (defBody s_l_built) (defScope s_l_built) [] [] (He.fAd K ("_law_built", none)) fd
  f_law : ∃ fd, FunD K "law" "law" (defArgs s_law) (defBody s_law) (defScope s_law) [] [] (He.fAd K ("law", none)) fd
  kb_Ratio_NoneType : PySem.W.kitOne K (.type "NoneType") (.ref (cm K 34)) = some false
  kb_Ratio_bool : PySem.W.kitOne K (.type "bool") (.ref (cm K 34)) = some false
  kb_Ratio_int : PySem.W.kitOne K (.type "int") (.ref (cm K 34)) = some false
  kb_Ratio_str : PySem.W.kitOne K (.type "str") (.ref (cm K 34)) = some false
  kb_Ratio_tuple : PySem.W.kitOne K (.type "tuple") (.ref (cm K 34)) = some false
  kb_Ratio_list : PySem.W.kitOne K (.type "list") (.ref (cm K 34)) = some false
  kb_Ratio_dict : PySem.W.kitOne K (.type "dict") (.ref (cm K 34)) = some false
  kc_Ratio : PySem.W.kitOne K (.ref (cm K 34)) (.ref (cm K 34)) = some true
  ia_Ratio : PySem.W.findIn K (.ref (cm K 34)) "__class__" = some (some (.builtin "object.__class__"))
  im_Ratio : PySem.W.mroIn K (cm K 34) (.type "object") = some true
  ig : PySem.W.specialIn K (.builtin "object.__class__") "__get__" = some (some (.builtin "getset_descriptor.__get__"))
  it : PySem.W.takesIn K (.builtin "object.__class__") = some true
  yq_ZeroBottom : PySem.W.excIn K (cm K 16) [.type "ValueError", .type "Exception", .type "BaseException", .type "object"] "ValueError.__new__" = true
  yk_ZeroBottom : PySem.W.keepIn K (.ref (cm K 16)) = true
  ys_ZeroBottom : PySem.W.subIn K (.ref (cm K 16)) (.type "BaseException") = some true
  yt_ZeroBottom : PySem.W.typeIn K (.ref (cm K 16)) = some (.type "type")
  xf_ZeroBottom : xfB K (cm K 16) = true
  ek_ZeroBottom_ZeroBottom : PySem.W.exmOne K (.ref (cm K 16)) (.ref (cm K 16)) = some true
  kk_ZeroBottom_NoPupils : PySem.W.kitOne K (.ref (cm K 16)) (.ref (cm K 23)) = some false
  kk_ZeroBottom_ValueError : PySem.W.kitOne K (.ref (cm K 16)) (.type "ValueError") = some true
  kk_ZeroBottom_TestError : PySem.W.kitOne K (.ref (cm K 16)) (.ref (cm K 0)) = some true
  ia_ZeroBottom : PySem.W.findIn K (.ref (cm K 16)) "__class__" = some (some (.builtin "object.__class__"))
  im_ZeroBottom : PySem.W.mroIn K (cm K 16) (.type "object") = some true
  kd_Ratio_bool : PySem.W.kitOne K (.ref (cm K 34)) (.type "bool") = some false
  kd_Ratio_int : PySem.W.kitOne K (.ref (cm K 34)) (.type "int") = some false
  kd_Ratio_str : PySem.W.kitOne K (.ref (cm K 34)) (.type "str") = some false
  kd_Ratio_tuple : PySem.W.kitOne K (.ref (cm K 34)) (.type "tuple") = some false
  kd_Ratio_list : PySem.W.kitOne K (.ref (cm K 34)) (.type "list") = some false
  kd_Ratio_dict : PySem.W.kitOne K (.ref (cm K 34)) (.type "dict") = some false
  s1_Ratio : PySem.W.subIn K (.type "int") (.ref (cm K 34)) = some false
  s2_Ratio : PySem.W.subIn K (.ref (cm K 34)) (.type "int") = some false
theorem tx_of {K : PySem.W.Frag} {h : Heap} {mg : Str → Option Value} (X : K.In h) (G : h.Ns mainGlobals mg) (c : He.SaysD fa fn K) (ex : exK K = true) : Tx K mg where
  b_ValueError := He.free_ok X G (c.fact 0 (f := .free "ValueError") rfl)
  b_abs := He.free_ok X G (c.fact 1 (f := .free "abs") rfl)
  b_bool := He.free_ok X G (c.fact 2 (f := .free "bool") rfl)
  b_int := He.free_ok X G (c.fact 3 (f := .free "int") rfl)
  b_isinstance := He.free_ok X G (c.fact 4 (f := .free "isinstance") rfl)
  b_len := He.free_ok X G (c.fact 5 (f := .free "len") rfl)
  b_max := He.free_ok X G (c.fact 6 (f := .free "max") rfl)
  b_min := He.free_ok X G (c.fact 7 (f := .free "min") rfl)
  b_range := He.free_ok X G (c.fact 8 (f := .free "range") rfl)
  b_str := He.free_ok X G (c.fact 9 (f := .free "str") rfl)
  g_l_pool := He.glo_ok X G (c.fact 10 (f := .glo "_law_pool") rfl)
  g_l_take := He.glo_ok X G (c.fact 11 (f := .glo "_law_take") rfl)
  g_l_divisor := He.glo_ok X G (c.fact 12 (f := .glo "_law_divisor") rfl)
  g_common_divisor := He.glo_ok X G (c.fact 13 (f := .glo "common_divisor") rfl)
  g_l_is_ratio := He.glo_ok X G (c.fact 14 (f := .glo "_law_is_ratio") rfl)
  g_l_number := He.glo_ok X G (c.fact 15 (f := .glo "_law_number") rfl)
  g_l_text := He.glo_ok X G (c.fact 16 (f := .glo "_law_text") rfl)
  g_l_built := He.glo_ok X G (c.fact 17 (f := .glo "_law_built") rfl)
  g_law := He.glo_ok X G (c.fact 18 (f := .glo "law") rfl)
  g_NoPupils := He.glo_ok X G (c.fact 19 (f := .glo "NoPupils") rfl)
  g_Ratio := He.glo_ok X G (c.fact 20 (f := .glo "Ratio") rfl)
  g_TestError := He.glo_ok X G (c.fact 21 (f := .glo "TestError") rfl)
  g_ZeroBottom := He.glo_ok X G (c.fact 22 (f := .glo "ZeroBottom") rfl)
  c_Ratio := He.cls_ok (c.fact 23 (f := .cls "Ratio") rfl)
  n_Ratio_bottom := He.noat_ok (c.fact 24 (f := .noat "Ratio" "bottom") rfl)
  n_Ratio_top := He.noat_ok (c.fact 25 (f := .noat "Ratio" "top") rfl)
  m_Ratio_bool := He.meth_ok (c.fact 26 (f := .meth "Ratio" "__bool__") rfl)
  m_Ratio_eq := He.meth_ok (c.fact 27 (f := .meth "Ratio" "__eq__") rfl)
  m_Ratio_str := He.meth_ok (c.fact 28 (f := .meth "Ratio" "__str__") rfl)
  mk_Ratio := He.mkr_ok (c.fact 29 (f := .mkr "Ratio") rfl)
  f_l_pool := c.def_ 0 (d := dd_l_pool) rfl
  f_l_take := c.def_ 1 (d := dd_l_take) rfl
  f_Ratio_bool := c.def_ 2 (d := dd_Ratio_bool) rfl
  f_Ratio_eq := c.def_ 3 (d := dd_Ratio_eq) rfl
  f_Ratio_str := c.def_ 4 (d := dd_Ratio_str) rfl
  f_l_divisor := c.def_ 5 (d := dd_l_divisor) rfl
  f_common_divisor := c.def_ 6 (d := dd_common_divisor) rfl
  f_l_is_ratio := c.def_ 7 (d := dd_l_is_ratio) rfl
  f_l_number := c.def_ 8 (d := dd_l_number) rfl
  f_l_text := c.def_ 9 (d := dd_l_text) rfl
  f_Ratio_init := c.def_ 10 (d := dd_Ratio_init) rfl
  f_l_built := c.def_ 11 (d := dd_l_built) rfl
  f_law := c.def_ 12 (d := dd_law) rfl
  kb_Ratio_NoneType := of_decide_eq_true (He.ba (He.ba (He.ba (He.ba (He.ba (He.ba (He.ba (He.ba (He.ba (He.ba (He.ba (He.ba (He.ba (He.ba (He.ba (He.ba (He.ba (He.ba (He.ba (He.ba (He.ba (He.ba (He.ba (He.ba (He.ba (He.ba (He.ba (He.ba (He.ba (He.ba ex).1).1).1).1).1).1).1).1).1).1).1).1).1).1).1).1).1).1).1).1).1).1).1).1).1).1).1).1).1).1
  kb_Ratio_bool := of_decide_eq_true (He.ba (He.ba (He.ba (He.ba (He.ba (He.ba (He.ba (He.ba (He.ba (He.ba (He.ba (He.ba (He.ba (He.ba (He.ba (He.ba (He.ba (He.ba (He.ba (He.ba (He.ba (He.ba (He.ba (He.ba (He.ba (He.ba (He.ba (He.ba (He.ba (He.ba ex).1).1).1).1).1).1).1).1).1).1).1).1).1).1).1).1).1).1).1).1).1).1).1).1).1).1).1).1).1).2
  kb_Ratio_int := of_decide_eq_true (He.ba (He.ba (He.ba (He.ba (He.ba (He.ba (He.ba (He.ba (He.ba (He.ba (He.ba (He.ba (He.ba (He.ba (He.ba (He.ba (He.ba (He.ba (He.ba (He.ba (He.ba (He.ba (He.ba (He.ba (He.ba (He.ba (He.ba (He.ba (He.ba ex).1).1).1).1).1).1).1).1).1).1).1).1).1).1).1).1).1).1).1).1).1).1).1).1).1).1).1).1).2
  kb_Ratio_str := of_decide_eq_true (He.ba (He.ba (He.ba (He.ba (He.ba (He.ba (He.ba (He.ba (He.ba (He.ba (He.ba (He.ba (He.ba (He.ba (He.ba (He.ba (He.ba (He.ba (He.ba (He.ba (He.ba (He.ba (He.ba (He.ba (He.ba (He.ba (He.ba (He.ba ex).1).1).1).1).1).1).1).1).1).1).1).1).1).1).1).1).1).1).1).1).1).1).1).1).1).1).1).2
  kb_Ratio_tuple := of_decide_eq_true (He.ba (He.ba (He.ba (He.ba (He.ba (He.ba (He.ba (He.ba (He.ba (He.ba (He.ba (He.ba (He.ba (He.ba (He.ba (He.ba (He.ba (He.ba (He.ba (He.ba (He.ba (He.ba (He.ba (He.ba (He.ba (He.ba (He.ba ex).1).1).1).1).1).1).1).1).1).1).1).1).1).1).1).1).1).1).1).1).1).1).1).1).1).1).2
  kb_Ratio_list := of_decide_eq_true (He.ba (He.ba (He.ba (He.ba (He.ba (He.ba (He.ba (He.ba (He.ba (He.ba (He.ba (He.ba (He.ba (He.ba (He.ba (He.ba (He.ba (He.ba (He.ba (He.ba (He.ba (He.ba (He.ba (He.ba (He.ba (He.ba ex).1).1).1).1).1).1).1).1).1).1).1).1).1).1).1).1).1).1).1).1).1).1).1).1).1).2
  kb_Ratio_dict := of_decide_eq_true (He.ba (He.ba (He.ba (He.ba (He.ba (He.ba (He.ba (He.ba (He.ba (He.ba (He.ba (He.ba (He.ba (He.ba (He.ba (He.ba (He.ba (He.ba (He.ba (He.ba (He.ba (He.ba (He.ba (He.ba (He.ba ex).1).1).1).1).1).1).1).1).1).1).1).1).1).1).1).1).1).1).1).1).1).1).1).1).2
  kc_Ratio := of_decide_eq_true (He.ba (He.ba (He.ba (He.ba (He.ba (He.ba (He.ba (He.ba (He.ba (He.ba (He.ba (He.ba (He.ba (He.ba (He.ba (He.ba (He.ba (He.ba (He.ba (He.ba (He.ba (He.ba (He.ba (He.ba ex).1).1).1).1).1).1).1).1).1).1).1).1).1).1).1).1).1).1).1).1).1).1).1).2
  ia_Ratio := of_decide_eq_true (He.ba (He.ba (He.ba (He.ba (He.ba (He.ba (He.ba (He.ba (He.ba (He.ba (He.ba (He.ba (He.ba (He.ba (He.ba (He.ba (He.ba (He.ba (He.ba (He.ba (He.ba (He.ba (He.ba ex).1).1).1).1).1).1).1).1).1).1).1).1).1).1).1).1).1).1).1).1).1).1).2
  im_Ratio := of_decide_eq_true (He.ba (He.ba (He.ba (He.ba (He.ba (He.ba (He.ba (He.ba (He.ba (He.ba (He.ba (He.ba (He.ba (He.ba (He.ba (He.ba (He.ba (He.ba (He.ba (He.ba (He.ba (He.ba ex).1).1).1).1).1).1).1).1).1).1).1).1).1).1).1).1).1).1).1).1).1).2
  ig := of_decide_eq_true (He.ba (He.ba (He.ba (He.ba (He.ba (He.ba (He.ba (He.ba (He.ba (He.ba (He.ba (He.ba (He.ba (He.ba (He.ba (He.ba (He.ba (He.ba (He.ba (He.ba (He.ba ex).1).1).1).1).1).1).1).1).1).1).1).1).1).1).1).1).1).1).1).1).2
  it := of_decide_eq_true (He.ba (He.ba (He.ba (He.ba (He.ba (He.ba (He.ba (He.ba (He.ba (He.ba (He.ba (He.ba (He.ba (He.ba (He.ba (He.ba (He.ba (He.ba (He.ba (He.ba ex).1).1).1).1).1).1).1).1).1).1).1).1).1).1).1).1).1).1).1).2
  yq_ZeroBottom := of_decide_eq_true (He.ba (He.ba (He.ba (He.ba (He.ba (He.ba (He.ba (He.ba (He.ba (He.ba (He.ba (He.ba (He.ba (He.ba (He.ba (He.ba (He.ba (He.ba (He.ba ex).1).1).1).1).1).1).1).1).1).1).1).1).1).1).1).1).1).1).2
  yk_ZeroBottom := of_decide_eq_true (He.ba (He.ba (He.ba (He.ba (He.ba (He.ba (He.ba (He.ba (He.ba (He.ba (He.ba (He.ba (He.ba (He.ba (He.ba (He.ba (He.ba (He.ba ex).1).1).1).1).1).1).1).1).1).1).1).1).1).1).1).1).1).2
  ys_ZeroBottom := of_decide_eq_true (He.ba (He.ba (He.ba (He.ba (He.ba (He.ba (He.ba (He.ba (He.ba (He.ba (He.ba (He.ba (He.ba (He.ba (He.ba (He.ba (He.ba ex).1).1).1).1).1).1).1).1).1).1).1).1).1).1).1).1).2
  yt_ZeroBottom := of_decide_eq_true (He.ba (He.ba (He.ba (He.ba (He.ba (He.ba (He.ba (He.ba (He.ba (He.ba (He.ba (He.ba (He.ba (He.ba (He.ba (He.ba ex).1).1).1).1).1).1).1).1).1).1).1).1).1).1).1).2
  xf_ZeroBottom := of_decide_eq_true (He.ba (He.ba (He.ba (He.ba (He.ba (He.ba (He.ba (He.ba (He.ba (He.ba (He.ba (He.ba (He.ba (He.ba (He.ba ex).1).1).1).1).1).1).1).1).1).1).1).1).1).1).2
  ek_ZeroBottom_ZeroBottom := of_decide_eq_true (He.ba (He.ba (He.ba (He.ba (He.ba (He.ba (He.ba (He.ba (He.ba (He.ba (He.ba (He.ba (He.ba (He.ba ex).1).1).1).1).1).1).1).1).1).1).1).1).1).2
  kk_ZeroBottom_NoPupils := of_decide_eq_true (He.ba (He.ba (He.ba (He.ba (He.ba (He.ba (He.ba (He.ba (He.ba (He.ba (He.ba (He.ba (He.ba ex).1).1).1).1).1).1).1).1).1).1).1).1).2
  kk_ZeroBottom_ValueError := of_decide_eq_true (He.ba (He.ba (He.ba (He.ba (He.ba (He.ba (He.ba (He.ba (He.ba (He.ba (He.ba (He.ba ex).1).1).1).1).1).1).1).1).1).1).1).2
  kk_ZeroBottom_TestError := of_decide_eq_true (He.ba (He.ba (He.ba (He.ba (He.ba (He.ba (He.ba (He.ba (He.ba (He.ba (He.ba ex).1).1).1).1).1).1).1).1).1).1).2
  ia_ZeroBottom := of_decide_eq_true (He.ba (He.ba (He.ba (He.ba (He.ba (He.ba (He.ba (He.ba (He.ba (He.ba ex).1).1).1).1).1).1).1).1).1).2
  im_ZeroBottom := of_decide_eq_true (He.ba (He.ba (He.ba (He.ba (He.ba (He.ba (He.ba (He.ba (He.ba ex).1).1).1).1).1).1).1).1).2
  kd_Ratio_bool := of_decide_eq_true (He.ba (He.ba (He.ba (He.ba (He.ba (He.ba (He.ba (He.ba ex).1).1).1).1).1).1).1).2
  kd_Ratio_int := of_decide_eq_true (He.ba (He.ba (He.ba (He.ba (He.ba (He.ba (He.ba ex).1).1).1).1).1).1).2
  kd_Ratio_str := of_decide_eq_true (He.ba (He.ba (He.ba (He.ba (He.ba (He.ba ex).1).1).1).1).1).2
  kd_Ratio_tuple := of_decide_eq_true (He.ba (He.ba (He.ba (He.ba (He.ba ex).1).1).1).1).2
  kd_Ratio_list := of_decide_eq_true (He.ba (He.ba (He.ba (He.ba ex).1).1).1).2
  kd_Ratio_dict := of_decide_eq_true (He.ba (He.ba (He.ba ex).1).1).2
  s1_Ratio := of_decide_eq_true (He.ba (He.ba ex).1).2
  s2_Ratio := of_decide_eq_true (He.ba ex).2
theorem isi_Ratio {K : PySem.W.Frag} {mg : Str → Option Value} (T : Tx K mg) : ∀ a b k, isi1 34 a b = some k → PySem.W.kitOne K (a.v (cm K)) (b.v (cm K)) = some k ∧ ∀ c, a = .c c → InsK K (cm K c) :=
  isi1_ok T.kb_Ratio_NoneType T.kb_Ratio_bool T.kb_Ratio_int T.kb_Ratio_str T.kb_Ratio_tuple T.kb_Ratio_list T.kb_Ratio_dict T.kc_Ratio ⟨T.c_Ratio, T.ia_Ratio, T.ig, T.it, T.im_Ratio⟩
theorem isj_Ratio {K : PySem.W.Frag} {mg : Str → Option Value} (T : Tx K mg) : ∀ a b k, isi2 34 a b = some k → PySem.W.kitOne K (a.v (cm K)) (b.v (cm K)) = some k ∧ ∀ c, a = .c c → InsK K (cm K c) :=
  isi2_ok (isi_Ratio T) ⟨T.c_Ratio, T.ia_Ratio, T.ig, T.it, T.im_Ratio⟩ T.kd_Ratio_bool T.kd_Ratio_int T.kd_Ratio_str T.kd_Ratio_tuple T.kd_Ratio_list T.kd_Ratio_dict
theorem sc_l_pool : FnScope ["_law_script", "_law_k", "_law_cell", "_law_big", "_law_mixed"] ["_law_script", "_law_k"] (defScope s_l_pool) := ⟨rfl, rfl, rfl, by decide +kernel, rfl, by decide +kernel, by decide +kernel⟩
theorem sc_l_take : FnScope ["_law_pool_here", "_law_bound", "_law_result"] ["_law_pool_here", "_law_bound"] (defScope s_l_take) := ⟨rfl, rfl, rfl, by decide +kernel, rfl, by decide +kernel, by decide +kernel⟩
theorem sc_Ratio_bool : FnScope ["self"] ["self"] (defScope s_Ratio_bool) := ⟨rfl, rfl, rfl, by decide +kernel, rfl, by decide +kernel, by decide +kernel⟩
theorem sc_Ratio_eq : FnScope ["self", "other"] ["self", "other"] (defScope s_Ratio_eq) := ⟨rfl, rfl, rfl, by decide +kernel, rfl, by decide +kernel, by decide +kernel⟩
theorem sc_Ratio_str : FnScope ["self"] ["self"] (defScope s_Ratio_str) := ⟨rfl, rfl, rfl, by decide +kernel, rfl, by decide +kernel, by decide +kernel⟩
theorem sc_l_divisor : FnScope ["_law_one", "_law_two", "_law_turn"] ["_law_one", "_law_two"] (defScope s_l_divisor) := ⟨rfl, rfl, rfl, by decide +kernel, rfl, by decide +kernel, by decide +kernel⟩
theorem sc_common_divisor : FnScope ["one", "two"] ["one", "two"] (defScope s_common_divisor) := ⟨rfl, rfl, rfl, by decide +kernel, rfl, by decide +kernel, by decide +kernel⟩
theorem sc_l_is_ratio : FnScope ["_law_told", "_law_top", "_law_bottom", "_law_number_here"] ["_law_told", "_law_top", "_law_bottom"] (defScope s_l_is_ratio) := ⟨rfl, rfl, rfl, by decide +kernel, rfl, by decide +kernel, by decide +kernel⟩
theorem sc_l_number : FnScope ["_law_pool_here", "_law_most", "_law_number_here", "_law_turn"] ["_law_pool_here", "_law_most"] (defScope s_l_number) := ⟨rfl, rfl, rfl, by decide +kernel, rfl, by decide +kernel, by decide +kernel⟩
theorem sc_l_text : FnScope ["_law_top", "_law_bottom", "_law_divisor_here"] ["_law_top", "_law_bottom"] (defScope s_l_text) := ⟨rfl, rfl, rfl, by decide +kernel, rfl, by decide +kernel, by decide +kernel⟩
theorem sc_Ratio_init : FnScope ["self", "top", "bottom", "turn", "divisor"] ["self", "top", "bottom"] (defScope s_Ratio_init) := ⟨rfl, rfl, rfl, by decide +kernel, rfl, by decide +kernel, by decide +kernel⟩
theorem sc_l_built : FnScope ["_law_top", "_law_bottom", "e"] ["_law_top", "_law_bottom"] (defScope s_l_built) := ⟨rfl, rfl, rfl, by decide +kernel, rfl, by decide +kernel, by decide +kernel⟩
theorem sc_law : FnScope ["_law_script", "_law_k", "_law_pool_here", "_law_factor", "_law_ratio", "_law_top", "_law_bottom"] ["_law_script"] (defScope s_law) := ⟨rfl, rfl, rfl, by decide +kernel, rfl, by decide +kernel, by decide +kernel⟩
theorem x0_ZeroBottom {K : PySem.W.Frag} {mg : Str → Option Value} (T : Tx K mg) : Exc0 K (cm K 16) PySem.F.excBase_ValueError := ⟨T.yq_ZeroBottom, T.yk_ZeroBottom, T.ys_ZeroBottom, T.yt_ZeroBottom⟩
theorem xm_ZeroBottom_ok {K : PySem.W.Frag} {mg : Str → Option Value} (T : Tx K mg) : ∀ c b, xm_ZeroBottom c = some b → PySem.W.exmOne K (xv K c) (.ref (cm K 16)) = some b := by
  intro c b e
  unfold xm_ZeroBottom at e
  split at e
  · cases e; exact T.ek_ZeroBottom_ZeroBottom
  · cases e
theorem xk_NoPupils_ok {K : PySem.W.Frag} {mg : Str → Option Value} (T : Tx K mg) : ∀ c b, xk_NoPupils c = some b → PySem.W.kitOne K (.ref (cm K c)) (.ref (cm K 23)) = some b ∧ ExcC K (cm K c) := by
  intro c b e
  unfold xk_NoPupils at e
  split at e
  · cases e; exact ⟨T.kk_ZeroBottom_NoPupils, (xfB_ok T.xf_ZeroBottom).ga, (xfB_ok T.xf_ZeroBottom).gg, (xfB_ok T.xf_ZeroBottom).exC, (xfB_ok T.xf_ZeroBottom).hdC, T.ia_ZeroBottom, T.ig, T.it, T.im_ZeroBottom⟩
  · cases e
theorem xk_ValueError_ok {K : PySem.W.Frag} {mg : Str → Option Value} (T : Tx K mg) : ∀ c b, xk_ValueError c = some b → PySem.W.kitOne K (.ref (cm K c)) (.type "ValueError") = some b ∧ ExcC K (cm K c) := by
  intro c b e
  unfold xk_ValueError at e
  split at e
  · cases e; exact ⟨T.kk_ZeroBottom_ValueError, (xfB_ok T.xf_ZeroBottom).ga, (xfB_ok T.xf_ZeroBottom).gg, (xfB_ok T.xf_ZeroBottom).exC, (xfB_ok T.xf_ZeroBottom).hdC, T.ia_ZeroBottom, T.ig, T.it, T.im_ZeroBottom⟩
  · cases e
theorem xk_TestError_ok {K : PySem.W.Frag} {mg : Str → Option Value} (T : Tx K mg) : ∀ c b, xk_TestError_3 c = some b → PySem.W.kitOne K (.ref (cm K c)) (.ref (cm K 0)) = some b ∧ ExcC K (cm K c) := by
  intro c b e
  unfold xk_TestError_3 at e
  split at e
  · cases e; exact ⟨T.kk_ZeroBottom_TestError, (xfB_ok T.xf_ZeroBottom).ga, (xfB_ok T.xf_ZeroBottom).gg, (xfB_ok T.xf_ZeroBottom).exC, (xfB_ok T.xf_ZeroBottom).hdC, T.ia_ZeroBottom, T.ig, T.it, T.im_ZeroBottom⟩
  · cases e
section
variable {P : Program} {w : World} {K : PySem.W.Frag} {mg : Str → Option Value} {base : Heap} {TB : List (Addr × Str)} {lm : Option Addr} {li : Option LI}
theorem ok_l_pool (T : Tx K mg) : DefOk P w K mg base ⟨K, cm K, w, TB, lm, li⟩ (xv K) (He.fAd K ("_law_pool", none)) 1 2 fn_l_pool_3 := by
  obtain ⟨fd, F⟩ := T.f_l_pool
  exact DefOk.mono (def_ok (k := 0) (N := ["_law_script", "_law_k", "_law_cell", "_law_big", "_law_mixed"]) F sc_l_pool (fun _ _ _ _ _ _ us hl => match us, hl with | [_, _], _ => rfl) fun cdv A outer s H E hr c =>
    (dss_cons (ds_set (i := 2) c de_int)
    (dss_cons (ds_if (dt_cmp o_lt (de_var 1) (de_callB (c_len c.kk) PySem.boot_len T.b_len (da_cons (de_var 0) da_nil)))
    (dss_one (ds_set (i := 2) c (de_ix c (de_var 0) (de_var 1))))
    dss_nil)
    (dss_cons (ds_set (i := 3) c (de_callB (c_max2 c.calm) boot_max T.b_max (da_cons (de_callTy c_int boot_int T.b_int (da_cons (de_var 2) da_nil)) (da_cons (de_callTy c_int boot_int T.b_int (da_cons (de_op o_sub (de_neg de_int) (de_var 2)) da_nil)) da_nil))))
    (dss_cons (ds_set (i := 4) c (de_op o_mod (de_callTy c_int boot_int T.b_int (da_cons (de_op o_mulD (de_op (o_addD c.kk) (de_op (o_addD c.kk) (de_op (o_addD c.kk) (de_op o_mod (de_callTy c_int boot_int T.b_int (da_cons (de_var 3) da_nil)) de_int) (de_op o_mulD (de_op o_mulD de_int (de_var 1)) (de_var 1))) (de_op o_mulD de_int (de_var 1))) de_int) de_int) da_nil)) de_int))
    (dss_one (ds_ret (de_newL (da_cons (de_op o_mulD (de_var 3) (de_callTy c_int boot_int T.b_int (da_cons (de_cmp o_ge (de_var 3) (de_op o_pow de_int de_int)) da_nil))) (da_cons (de_var 4) da_nil)))))))))) (Nat.le_refl _)
theorem ok_l_take (T : Tx K mg) : DefOk P w K mg base ⟨K, cm K, w, TB, lm, li⟩ (xv K) (He.fAd K ("_law_take", none)) 1 2 fn_l_take := by
  obtain ⟨fd, F⟩ := T.f_l_take
  exact DefOk.gc (def_ok (k := 0) (N := ["_law_pool_here", "_law_bound", "_law_result"]) F sc_l_take (fun _ _ _ _ _ _ us hl => match us, hl with | [_, _], _ => rfl) fun cdv A outer s H E hr c =>
    (dss_cons (ds_if (dt_cmp o_gt (de_ix c (de_var 0) de_int) de_int)
    (dss_cons (ds_set (i := 2) c (de_op o_mod (de_callTy c_int boot_int T.b_int (da_cons (de_ix c (de_var 0) de_int) da_nil)) (de_var 1)))
    (dss_cons (ds_asg (de_op o_div (de_ix c (de_var 0) de_int) (de_var 1)) (dg_ix c (de_var 0) de_int))
    (dss_one (ds_ret (de_var 2)))))
    dss_nil)
    (dss_cons (ds_asg (de_op o_mod (de_callTy c_int boot_int T.b_int (da_cons (de_op (o_addD c.kk) (de_op o_mulD (de_ix c (de_var 0) de_int) de_int) de_int) da_nil)) de_int) (dg_ix c (de_var 0) de_int))
    (dss_one (ds_ret (de_op o_mod (de_callTy c_int boot_int T.b_int (da_cons (de_op o_div (de_op o_mod (de_callTy c_int boot_int T.b_int (da_cons (de_op o_mulD (de_ix c (de_var 0) de_int) (de_ix c (de_var 0) de_int)) da_nil)) de_int) de_int) da_nil)) (de_var 1)))))))
theorem ok_Ratio_bool (T : Tx K mg) : DefOk P w K mg base ⟨K, cm K, w, TB, lm, li⟩ (xv K) (He.fAd K ("Ratio", some "__bool__")) 1 1 fn_Ratio_bool := by
  obtain ⟨fd, F⟩ := T.f_Ratio_bool
  exact DefOk.gc (def_ok (k := 0) (N := ["self"]) F sc_Ratio_bool (fun _ _ _ _ _ _ us hl => match us, hl with | [_], _ => rfl) fun cdv A outer s H E hr c =>
    (dss_one (ds_ret (de_callTy c_bool boot_bool T.b_bool (da_cons (de_fld (cs := [34]) (de_var 0) (List.forall_mem_cons.mpr ⟨⟨T.c_Ratio, T.n_Ratio_top⟩, fun c hc => (List.not_mem_nil hc).elim⟩)) da_nil)))))
theorem ok_Ratio_eq (T : Tx K mg) : DefOk P w K mg base ⟨K, cm K, w, TB, lm, li⟩ (xv K) (He.fAd K ("Ratio", some "__eq__")) 1 2 fn_Ratio_eq := by
  obtain ⟨fd, F⟩ := T.f_Ratio_eq
  exact DefOk.gc (def_ok (k := 0) (N := ["self", "other"]) F sc_Ratio_eq (fun _ _ _ _ _ _ us hl => match us, hl with | [_, _], _ => rfl) fun cdv A outer s H E hr c =>
    (dss_cons (ds_if (dt_truth c (de_callB (c_isi c.kk (isi_Ratio T)) boot_isinstance T.b_isinstance (da_cons (de_var 1) (da_cons (de_gcls T.g_Ratio) da_nil))))
    (dss_one (ds_ret (de_andT c (de_cmp (o_eq c.kk hr.units) (de_fld (cs := [34]) (de_var 0) (List.forall_mem_cons.mpr ⟨⟨T.c_Ratio, T.n_Ratio_top⟩, fun c hc => (List.not_mem_nil hc).elim⟩)) (de_fld (cs := [34]) (de_var 1) (List.forall_mem_cons.mpr ⟨⟨T.c_Ratio, T.n_Ratio_top⟩, fun c hc => (List.not_mem_nil hc).elim⟩))) (de_one (de_cmp (o_eq c.kk hr.units) (de_fld (cs := [34]) (de_var 0) (List.forall_mem_cons.mpr ⟨⟨T.c_Ratio, T.n_Ratio_bottom⟩, fun c hc => (List.not_mem_nil hc).elim⟩)) (de_fld (cs := [34]) (de_var 1) (List.forall_mem_cons.mpr ⟨⟨T.c_Ratio, T.n_Ratio_bottom⟩, fun c hc => (List.not_mem_nil hc).elim⟩)))))))
    dss_nil)
    (dss_one (ds_ret (de_andT c (de_callB (c_isi c.kk (isj_Ratio T)) boot_isinstance T.b_isinstance (da_cons (de_var 1) (da_cons (de_bty boot_int T.b_int) da_nil))) (de_andT c (de_cmp (o_eq c.kk hr.units) (de_fld (cs := [34]) (de_var 0) (List.forall_mem_cons.mpr ⟨⟨T.c_Ratio, T.n_Ratio_bottom⟩, fun c hc => (List.not_mem_nil hc).elim⟩)) de_int) (de_one (de_cmp (o_eq c.kk hr.units) (de_fld (cs := [34]) (de_var 0) (List.forall_mem_cons.mpr ⟨⟨T.c_Ratio, T.n_Ratio_top⟩, fun c hc => (List.not_mem_nil hc).elim⟩)) (de_var 1)))))))))
theorem ok_Ratio_str (T : Tx K mg) : DefOk P w K mg base ⟨K, cm K, w, TB, lm, li⟩ (xv K) (He.fAd K ("Ratio", some "__str__")) 1 1 fn_Ratio_str := by
  obtain ⟨fd, F⟩ := T.f_Ratio_str
  exact DefOk.gc (def_ok (k := 0) (N := ["self"]) F sc_Ratio_str (fun _ _ _ _ _ _ us hl => match us, hl with | [_], _ => rfl) fun cdv A outer s H E hr c =>
    (dss_cons (ds_if (dt_cmp (o_eq c.kk hr.units) (de_fld (cs := [34]) (de_var 0) (List.forall_mem_cons.mpr ⟨⟨T.c_Ratio, T.n_Ratio_bottom⟩, fun c hc => (List.not_mem_nil hc).elim⟩)) de_int)
    (dss_one (ds_ret (de_callTy c_str boot_str T.b_str (da_cons (de_fld (cs := [34]) (de_var 0) (List.forall_mem_cons.mpr ⟨⟨T.c_Ratio, T.n_Ratio_top⟩, fun c hc => (List.not_mem_nil hc).elim⟩)) da_nil))))
    dss_nil)
    (dss_one (ds_ret (de_joined (.cons (de_fmt (de_fld (cs := [34]) (de_var 0) (List.forall_mem_cons.mpr ⟨⟨T.c_Ratio, T.n_Ratio_top⟩, fun c hc => (List.not_mem_nil hc).elim⟩))) (.cons de_str (.cons (de_fmt (de_fld (cs := [34]) (de_var 0) (List.forall_mem_cons.mpr ⟨⟨T.c_Ratio, T.n_Ratio_bottom⟩, fun c hc => (List.not_mem_nil hc).elim⟩))) .nil))))))))
theorem ok_l_divisor (T : Tx K mg) : DefOk P w K mg base ⟨K, cm K, w, TB, lm, li⟩ (xv K) (He.fAd K ("_law_divisor", none)) 1 2 fn_l_divisor := by
  obtain ⟨fd, F⟩ := T.f_l_divisor
  exact DefOk.gc (def_ok (k := 0) (N := ["_law_one", "_law_two", "_law_turn"]) F sc_l_divisor (fun _ _ _ _ _ _ us hl => match us, hl with | [_, _], _ => rfl) fun cdv A outer s H E hr c =>
    (dss_cons (ds_par (i := 0) (j := 1) c (da_cons (de_callB c_abs boot_abs T.b_abs (da_cons (de_var 0) da_nil)) (da_cons (de_callB c_abs boot_abs T.b_abs (da_cons (de_var 1) da_nil)) da_nil)))
    (dss_cons (ds_for c (di_range1 (da_cons de_int da_nil) T.b_range) (dg_name (i := 2) c)
    (dss_cons (ds_if (dt_cmp (o_eq c.kk hr.units) (de_var 1) de_int)
    (dss_one ds_break)
    dss_nil)
    (dss_one (ds_par (i := 0) (j := 1) c (da_cons (de_var 1) (da_cons (de_op o_mod (de_callTy c_int boot_int T.b_int (da_cons (de_var 0) da_nil)) (de_var 1)) da_nil))))))
    (dss_one (ds_ret (de_var 0))))))
theorem ok_common_divisor (T : Tx K mg) : DefOk P w K mg base ⟨K, cm K, w, TB, lm, li⟩ (xv K) (He.fAd K ("common_divisor", none)) 1 2 fn_common_divisor := by
  obtain ⟨fd, F⟩ := T.f_common_divisor
  exact DefOk.gc (def_ok (k := 0) (N := ["one", "two"]) F sc_common_divisor (fun _ _ _ _ _ _ us hl => match us, hl with | [_, _], _ => rfl) fun cdv A outer s H E hr c =>
    (dss_cons (ds_par (i := 0) (j := 1) c (da_cons (de_callB c_abs boot_abs T.b_abs (da_cons (de_var 0) da_nil)) (da_cons (de_callB c_abs boot_abs T.b_abs (da_cons (de_var 1) da_nil)) da_nil)))
    (dss_cons (ds_while c (dt_truth c (de_var 1))
    (dss_one (ds_par (i := 0) (j := 1) c (da_cons (de_var 1) (da_cons (de_op o_mod (de_var 0) (de_var 1)) da_nil)))))
    (dss_one (ds_ret (de_var 0))))))
theorem ok_l_is_ratio (T : Tx K mg) : DefOk P w K mg base ⟨K, cm K, w, TB, lm, li⟩ (xv K) (He.fAd K ("_law_is_ratio", none)) 2 3 fn_l_is_ratio := by
  obtain ⟨fd, F⟩ := T.f_l_is_ratio
  exact DefOk.gc (def_ok (k := 1) (N := ["_law_told", "_law_top", "_law_bottom", "_law_number_here"]) F sc_l_is_ratio (fun _ _ _ _ _ _ us hl => match us, hl with | [_, _, _], _ => rfl) fun cdv A outer s H E hr c =>
    (dss_cons (ds_if (dt_not (dt_truth c (de_callB (c_isi c.kk (isi_Ratio T)) boot_isinstance T.b_isinstance (da_cons (de_var 0) (da_cons (de_gcls T.g_Ratio) da_nil)))))
    (dss_one (ds_ret de_bl))
    dss_nil)
    (dss_cons (ds_for c (di_seq c (de_lst (da_cons (de_fld (cs := [34]) (de_var 0) (List.forall_mem_cons.mpr ⟨⟨T.c_Ratio, T.n_Ratio_top⟩, fun c hc => (List.not_mem_nil hc).elim⟩)) (da_cons (de_fld (cs := [34]) (de_var 0) (List.forall_mem_cons.mpr ⟨⟨T.c_Ratio, T.n_Ratio_bottom⟩, fun c hc => (List.not_mem_nil hc).elim⟩)) da_nil)))) (dg_name (i := 3) c)
    (dss_one (ds_if (PW.pt (dw_or (dt_not (dt_truth c (de_callB (c_isi c.kk isiB_ok) boot_isinstance T.b_isinstance (da_cons (de_var 3) (da_cons (de_bty boot_int T.b_int) da_nil))))) (dw_or1 (dt_truth c (de_callB (c_isi c.kk isiB_ok) boot_isinstance T.b_isinstance (da_cons (de_var 3) (da_cons (de_bty boot_bool T.b_bool) da_nil)))))))
    (dss_one (ds_ret de_bl))
    dss_nil)))
    (dss_cons (ds_if (PW.pt (dw_or (dt_cmp o_lt (de_fld (cs := [34]) (de_var 0) (List.forall_mem_cons.mpr ⟨⟨T.c_Ratio, T.n_Ratio_bottom⟩, fun c hc => (List.not_mem_nil hc).elim⟩)) de_int) (dw_or1 (dt_cmp (o_ne c.kk hr.units) (de_call c (ok_l_divisor T) T.g_l_divisor (hr.mono (by decide)) (da_cons (de_fld (cs := [34]) (de_var 0) (List.forall_mem_cons.mpr ⟨⟨T.c_Ratio, T.n_Ratio_top⟩, fun c hc => (List.not_mem_nil hc).elim⟩)) (da_cons (de_fld (cs := [34]) (de_var 0) (List.forall_mem_cons.mpr ⟨⟨T.c_Ratio, T.n_Ratio_bottom⟩, fun c hc => (List.not_mem_nil hc).elim⟩)) da_nil)) (hlen := (dCons_len (dCons_len dNil_len)))) de_int))))
    (dss_one (ds_ret de_bl))
    dss_nil)
    (dss_one (ds_ret (de_cmp (o_eq c.kk hr.units) (de_op o_mulD (de_fld (cs := [34]) (de_var 0) (List.forall_mem_cons.mpr ⟨⟨T.c_Ratio, T.n_Ratio_top⟩, fun c hc => (List.not_mem_nil hc).elim⟩)) (de_var 2)) (de_op o_mulD (de_var 1) (de_fld (cs := [34]) (de_var 0) (List.forall_mem_cons.mpr ⟨⟨T.c_Ratio, T.n_Ratio_bottom⟩, fun c hc => (List.not_mem_nil hc).elim⟩))))))))))
theorem ok_l_number (T : Tx K mg) : DefOk P w K mg base ⟨K, cm K, w, TB, lm, li⟩ (xv K) (He.fAd K ("_law_number", none)) 2 2 fn_l_number := by
  obtain ⟨fd, F⟩ := T.f_l_number
  exact DefOk.gc (def_ok (k := 1) (N := ["_law_pool_here", "_law_most", "_law_number_here", "_law_turn"]) F sc_l_number (fun _ _ _ _ _ _ us hl => match us, hl with | [_, _], _ => rfl) fun cdv A outer s H E hr c =>
    (dss_cons (ds_if (dt_cmp o_gt (de_call c (ok_l_take T) T.g_l_take (hr.mono (by decide)) (da_cons (de_var 0) (da_cons de_int da_nil)) (hlen := (dCons_len (dCons_len dNil_len)))) de_int)
    (dss_one (ds_ret (de_op o_sub (de_call c (ok_l_take T) T.g_l_take (hr.mono (by decide)) (da_cons (de_var 0) (da_cons de_int da_nil)) (hlen := (dCons_len (dCons_len dNil_len)))) de_int)))
    dss_nil)
    (dss_cons (ds_set (i := 2) c de_int)
    (dss_cons (ds_for c (di_range1 (da_cons de_int da_nil) T.b_range) (dg_name (i := 3) c)
    (dss_one (ds_set (i := 2) c (de_op (o_addD c.kk) (de_op o_mulD (de_var 2) (de_op o_pow de_int de_int)) (de_call c (ok_l_take T) T.g_l_take (hr.mono (by decide)) (da_cons (de_var 0) (da_cons (de_op o_pow de_int de_int) da_nil)) (hlen := (dCons_len (dCons_len dNil_len))))))))
    (dss_one (ds_ret (de_op o_sub (de_op o_mod (de_callTy c_int boot_int T.b_int (da_cons (de_var 2) da_nil)) (de_op (o_addD c.kk) (de_op o_mulD de_int (de_var 1)) de_int)) (de_var 1))))))))
theorem ok_l_text (T : Tx K mg) : DefOk P w K mg base ⟨K, cm K, w, TB, lm, li⟩ (xv K) (He.fAd K ("_law_text", none)) 2 2 fn_l_text := by
  obtain ⟨fd, F⟩ := T.f_l_text
  exact DefOk.gc (def_ok (k := 1) (N := ["_law_top", "_law_bottom", "_law_divisor_here"]) F sc_l_text (fun _ _ _ _ _ _ us hl => match us, hl with | [_, _], _ => rfl) fun cdv A outer s H E hr c =>
    (dss_cons (ds_set (i := 2) c (de_call c (ok_l_divisor T) T.g_l_divisor (hr.mono (by decide)) (da_cons (de_var 0) (da_cons (de_var 1) da_nil)) (hlen := (dCons_len (dCons_len dNil_len)))))
    (dss_cons (ds_if (dt_cmp o_lt (de_var 1) de_int)
    (dss_one (ds_set (i := 2) c (de_neg (de_var 2))))
    dss_nil)
    (dss_cons (ds_if (dt_cmp (o_eq c.kk hr.units) (de_op o_div (de_var 1) (de_var 2)) de_int)
    (dss_one (ds_ret (de_callTy c_str boot_str T.b_str (da_cons (de_op o_div (de_var 0) (de_var 2)) da_nil))))
    dss_nil)
    (dss_one (ds_ret (de_op (o_addD c.kk) (de_op (o_addD c.kk) (de_callTy c_str boot_str T.b_str (da_cons (de_op o_div (de_var 0) (de_var 2)) da_nil)) de_str) (de_callTy c_str boot_str T.b_str (da_cons (de_op o_div (de_var 1) (de_var 2)) da_nil)))))))))
theorem ok_Ratio_init (T : Tx K mg) : DefG P w K mg base ⟨K, cm K, w, TB, lm, li⟩ (xv K) (He.fAd K ("Ratio", some "__init__")) 3 ["self", "top", "bottom"] fn_Ratio_init (FunD K "__init__" "Ratio.__init__" (defArgs s_Ratio_init) (defBody s_Ratio_init) (defScope s_Ratio_init) [(.int 1)] [] (He.fAd K ("Ratio", some "__init__"))) := by
  obtain ⟨fd, F⟩ := T.f_Ratio_init
  exact DefG.gc (defG_ok (k := 2) (N := ["self", "top", "bottom", "turn", "divisor"]) F sc_Ratio_init fun cdv A outer s H E hr c =>
    (dss_cons (ds_if (dt_cmp (o_eq c.kk hr.units) (de_var 2) de_int)
    (dss_one (ds_raise0 c (x0_ZeroBottom T) T.g_ZeroBottom rfl))
    dss_nil)
    (dss_cons (ds_set (i := 3) c (de_if (dt_cmp o_gt (de_var 2) de_int) de_int (de_neg de_int)))
    (dss_cons (ds_set (i := 4) c (de_op o_mulD (de_var 3) (de_call c (ok_common_divisor T) T.g_common_divisor (hr.mono (by decide)) (da_cons (de_var 1) (da_cons (de_var 2) da_nil)) (hlen := (dCons_len (dCons_len dNil_len))))))
    (dss_cons (ds_fld (de_var 0) (de_op o_div (de_var 1) (de_var 4)) (List.forall_mem_cons.mpr ⟨⟨T.c_Ratio, T.n_Ratio_top⟩, fun c hc => (List.not_mem_nil hc).elim⟩))
    (dss_one (ds_fld (de_var 0) (de_op o_div (de_var 2) (de_var 4)) (List.forall_mem_cons.mpr ⟨⟨T.c_Ratio, T.n_Ratio_bottom⟩, fun c hc => (List.not_mem_nil hc).elim⟩))))))))
theorem ok_l_built (T : Tx K mg) : DefOk P w K mg base ⟨K, cm K, w, TB, lm, li⟩ (xv K) (He.fAd K ("_law_built", none)) 5 2 fn_l_built_2 := by
  obtain ⟨fd, F⟩ := T.f_l_built
  exact DefOk.gc (def_ok (k := 4) (N := ["_law_top", "_law_bottom", "e"]) F sc_l_built (fun _ _ _ _ _ _ us hl => match us, hl with | [_, _], _ => rfl) fun cdv A outer s H E hr c =>
    (dss_one (ds_tryN c rfl rfl rfl (fun _ => rfl) (fun _ _ _ c => (dss_one (ds_ret (de_gc (de_frz (de_makeD (c := 34) c (ok_Ratio_init T) T.mk_Ratio T.g_Ratio (hr.mono (by decide)) (fun _ F => F.binds1 3 1 (by simp) rfl fun _ _ _ _ _ _ _ us its h1 h2 => match us, its, h1, h2 with | [_, _, _], [_], _, _ => ⟨_, rfl, rfl⟩) (fun _ _ _ => .nil) (da_cons (de_var 0) (da_cons (de_var 1) da_nil)) (dCons_len (dCons_len dNil_len)))))))) (HdD.consAs ⟨rfl, by decide, .inl T.g_ZeroBottom⟩ (xm_ZeroBottom_ok T) rfl rfl (fun a pn => have h : Hok _ _ := Cok.hot (a := a) (pn := pn) c; (dss_one (ds_ret (de_lst (da_cons (de_callB (c_isx h.kk (xkM_ok (xk_TestError_ok T))) boot_isinstance T.b_isinstance (da_cons (de_var 2) (da_cons (de_gcls T.g_TestError) da_nil))) (da_cons (de_callB (c_isx h.kk (xkT_ok (xk_ValueError_ok T))) boot_isinstance T.b_isinstance (da_cons (de_var 2) (da_cons (de_bty boot_ValueErrorT T.b_ValueError) da_nil))) (da_cons (de_callB (c_isx h.kk (xkM_ok (xk_NoPupils_ok T))) boot_isinstance T.b_isinstance (da_cons (de_var 2) (da_cons (de_gcls T.g_NoPupils) da_nil))) da_nil))))))) HdD.nil))))
theorem ok_law (T : Tx K mg) {fd : FuncData} (F : FunD K "law" "law" (defArgs s_law) (defBody s_law) (defScope s_law) [] [] (He.fAd K ("law", none)) fd) : FnOk P w K mg base (L2.CX P w) 6 (He.fAd K ("law", none)) fd ["_law_script"] (spF ⟨K, cm K, w, TB, lm, li⟩ (xv K) 1 fn_law_60) :=
  fn_ok (k := 5) (N := ["_law_script", "_law_k", "_law_pool_here", "_law_factor", "_law_ratio", "_law_top", "_law_bottom"]) F sc_law fun cdv A outer s H E hr c =>
    (dss_cons (ds_for c (di_range1 (da_cons (de_callB (c_max2 c.calm) boot_max T.b_max (da_cons de_int (da_cons (de_callB (c_min2 c.calm) boot_min T.b_min (da_cons de_int (da_cons (de_callB (c_len c.kk) PySem.boot_len T.b_len (da_cons (de_var 0) da_nil)) da_nil))) da_nil))) da_nil) T.b_range) (dg_name (i := 1) c)
    (dss_cons (ds_set (i := 2) c (de_call c (ok_l_pool T) T.g_l_pool (hr.mono (by decide)) (da_cons (de_var 0) (da_cons (de_var 1) da_nil)) (hlen := (dCons_len (dCons_len dNil_len)))))
    (dss_cons (ds_par (i := 5) (j := 6) c (da_cons (de_call c (ok_l_number T) T.g_l_number (hr.mono (by decide)) (da_cons (de_var 2) (da_cons (de_op o_pow de_int de_int) da_nil)) (hlen := (dCons_len (dCons_len dNil_len)))) (da_cons (de_call c (ok_l_number T) T.g_l_number (hr.mono (by decide)) (da_cons (de_var 2) (da_cons (de_op o_pow de_int de_int) da_nil)) (hlen := (dCons_len (dCons_len dNil_len)))) da_nil)))
    (dss_cons (ds_set (i := 3) c (de_op (o_addD c.kk) de_int (de_call c (ok_l_take T) T.g_l_take (hr.mono (by decide)) (da_cons (de_var 2) (da_cons de_int da_nil)) (hlen := (dCons_len (dCons_len dNil_len))))))
    (dss_cons (ds_set (i := 3) c (de_op o_mulD (de_var 3) (de_op o_sub de_int (de_op o_mulD de_int (de_call c (ok_l_take T) T.g_l_take (hr.mono (by decide)) (da_cons (de_var 2) (da_cons de_int da_nil)) (hlen := (dCons_len (dCons_len dNil_len))))))))
    (dss_cons (ds_if (dt_cmp (o_ne c.kk hr.units) (de_call c (ok_l_built T) T.g_l_built (hr.mono (by decide)) (da_cons (de_var 5) (da_cons de_int da_nil)) (hlen := (dCons_len (dCons_len dNil_len)))) (de_lst (da_cons de_bl (da_cons de_bl (da_cons de_bl da_nil)))))
    (dss_one (ds_ret de_bl))
    dss_nil)
    (dss_cons (ds_if (PW.pt (dw_or (dt_not (dt_truth c (de_call c (ok_l_is_ratio T) T.g_l_is_ratio (hr.mono (by decide)) (da_cons (de_gc (de_frz (de_makeD (c := 34) c (ok_Ratio_init T) T.mk_Ratio T.g_Ratio (hr.mono (by decide)) (fun _ F => F.binds1 2 0 (by simp) rfl fun _ _ _ _ _ _ _ us its h1 h2 => match us, its, h1, h2 with | [_, _], [_], _, _ => ⟨_, rfl, rfl⟩) (fun _ _ _ => (.cons (.int _) .nil)) (da_cons (de_var 5) da_nil) (dCons_len dNil_len)))) (da_cons (de_var 5) (da_cons de_int da_nil))) (hlen := (dCons_len (dCons_len (dCons_len dNil_len))))))) (dw_or1 (dt_not (dt_truth c (de_call c (ok_l_is_ratio T) T.g_l_is_ratio (hr.mono (by decide)) (da_cons (de_gc (de_frz (de_makeD (c := 34) c (ok_Ratio_init T) T.mk_Ratio T.g_Ratio (hr.mono (by decide)) (fun _ F => F.binds1 3 1 (by simp) rfl fun _ _ _ _ _ _ _ us its h1 h2 => match us, its, h1, h2 with | [_, _, _], [_], _, _ => ⟨_, rfl, rfl⟩) (fun _ _ _ => .nil) (da_cons (de_var 6) (da_cons de_int da_nil)) (dCons_len (dCons_len dNil_len))))) (da_cons (de_var 6) (da_cons de_int da_nil))) (hlen := (dCons_len (dCons_len (dCons_len dNil_len))))))))))
    (dss_one (ds_ret de_bl))
    dss_nil)
    (dss_cons (ds_if (PW.pt (dw_or (dt_cmp o_isNotB (de_cmp (op_or (o_usrC c.kk (ok_Ratio_eq T) (hr.mono (by decide)) T.m_Ratio_eq) (op_or (o_usrCL c.kk (ok_Ratio_eq T) (hr.mono (by decide)) T.m_Ratio_eq T.s1_Ratio) (o_eq c.kk hr.units))) (de_gc (de_frz (de_makeD (c := 34) c (ok_Ratio_init T) T.mk_Ratio T.g_Ratio (hr.mono (by decide)) (fun _ F => F.binds1 2 0 (by simp) rfl fun _ _ _ _ _ _ _ us its h1 h2 => match us, its, h1, h2 with | [_, _], [_], _, _ => ⟨_, rfl, rfl⟩) (fun _ _ _ => (.cons (.int _) .nil)) (da_cons (de_var 5) da_nil) (dCons_len dNil_len)))) (de_var 5)) de_bl) (dw_or1 (dt_cmp o_isNotB (de_cmp (op_or (o_usrC c.kk (ok_Ratio_eq T) (hr.mono (by decide)) T.m_Ratio_eq) (op_or (o_usrCL c.kk (ok_Ratio_eq T) (hr.mono (by decide)) T.m_Ratio_eq T.s1_Ratio) (o_eq c.kk hr.units))) (de_gc (de_frz (de_makeD (c := 34) c (ok_Ratio_init T) T.mk_Ratio T.g_Ratio (hr.mono (by decide)) (fun _ F => F.binds1 2 0 (by simp) rfl fun _ _ _ _ _ _ _ us its h1 h2 => match us, its, h1, h2 with | [_, _], [_], _, _ => ⟨_, rfl, rfl⟩) (fun _ _ _ => (.cons (.int _) .nil)) (da_cons (de_var 5) da_nil) (dCons_len dNil_len)))) (de_op (o_addD c.kk) (de_var 5) (de_var 3))) de_bl))))
    (dss_one (ds_ret de_bl))
    dss_nil)
    (dss_cons (ds_if (PW.pt (dw_or (dt_cmp o_isNotB (de_cmp (op_or (o_usrCR (op := .Eq) (m := "__eq__") c.kk (ok_Ratio_eq T) (hr.mono (by decide)) T.m_Ratio_eq T.s2_Ratio no_eq) (o_eq c.kk hr.units)) (de_var 5) (de_gc (de_frz (de_makeD (c := 34) c (ok_Ratio_init T) T.mk_Ratio T.g_Ratio (hr.mono (by decide)) (fun _ F => F.binds1 2 0 (by simp) rfl fun _ _ _ _ _ _ _ us its h1 h2 => match us, its, h1, h2 with | [_, _], [_], _, _ => ⟨_, rfl, rfl⟩) (fun _ _ _ => (.cons (.int _) .nil)) (da_cons (de_var 5) da_nil) (dCons_len dNil_len))))) de_bl) (dw_or1 (dt_cmp o_isNotB (de_cmp (op_or (o_usrCR (op := .Eq) (m := "__eq__") c.kk (ok_Ratio_eq T) (hr.mono (by decide)) T.m_Ratio_eq T.s2_Ratio no_eq) (o_eq c.kk hr.units)) (de_op (o_addD c.kk) (de_var 5) (de_var 3)) (de_gc (de_frz (de_makeD (c := 34) c (ok_Ratio_init T) T.mk_Ratio T.g_Ratio (hr.mono (by decide)) (fun _ F => F.binds1 2 0 (by simp) rfl fun _ _ _ _ _ _ _ us its h1 h2 => match us, its, h1, h2 with | [_, _], [_], _, _ => ⟨_, rfl, rfl⟩) (fun _ _ _ => (.cons (.int _) .nil)) (da_cons (de_var 5) da_nil) (dCons_len dNil_len))))) de_bl))))
    (dss_one (ds_ret de_bl))
    dss_nil)
    (dss_cons (ds_if (dt_cmp (o_eq c.kk hr.units) (de_var 6) de_int)
    (dss_cons (ds_if (dt_cmp (o_ne c.kk hr.units) (de_call c (ok_l_built T) T.g_l_built (hr.mono (by decide)) (da_cons (de_var 5) (da_cons (de_var 6) da_nil)) (hlen := (dCons_len (dCons_len dNil_len)))) (de_lst (da_cons de_bl (da_cons de_bl (da_cons de_bl da_nil)))))
    (dss_one (ds_ret de_bl))
    dss_nil)
    (dss_one ds_cont))
    dss_nil)
    (dss_cons (ds_set (i := 4) c (de_call c (ok_l_built T) T.g_l_built (hr.mono (by decide)) (da_cons (de_var 5) (da_cons (de_var 6) da_nil)) (hlen := (dCons_len (dCons_len dNil_len)))))
    (dss_cons (ds_if (PW.pt (dw_or (dt_not (dt_truth c (de_call c (ok_l_is_ratio T) T.g_l_is_ratio (hr.mono (by decide)) (da_cons (de_var 4) (da_cons (de_var 5) (da_cons (de_var 6) da_nil))) (hlen := (dCons_len (dCons_len (dCons_len dNil_len))))))) (dw_or1 (dt_not (dt_truth c (de_call c (ok_l_is_ratio T) T.g_l_is_ratio (hr.mono (by decide)) (da_cons (de_gc (de_frz (de_makeD (c := 34) c (ok_Ratio_init T) T.mk_Ratio T.g_Ratio (hr.mono (by decide)) (fun _ F => F.binds1 3 1 (by simp) rfl fun _ _ _ _ _ _ _ us its h1 h2 => match us, its, h1, h2 with | [_, _, _], [_], _, _ => ⟨_, rfl, rfl⟩) (fun _ _ _ => .nil) (da_cons (de_neg (de_var 5)) (da_cons (de_neg (de_var 6)) da_nil)) (dCons_len (dCons_len dNil_len))))) (da_cons (de_var 5) (da_cons (de_var 6) da_nil))) (hlen := (dCons_len (dCons_len (dCons_len dNil_len))))))))))
    (dss_one (ds_ret de_bl))
    dss_nil)
    (dss_cons (ds_if (PW.pt (dw_and (dt_cmp o_lt (de_callB c_abs boot_abs T.b_abs (da_cons (de_var 5) da_nil)) (de_op o_pow de_int de_int)) (dw_and1 (dt_cmp o_lt (de_callB c_abs boot_abs T.b_abs (da_cons (de_var 6) da_nil)) (de_op o_pow de_int de_int)))))
    (dss_one (ds_if (dt_cmp o_isNotB (de_cmp (op_or (o_usrC c.kk (ok_Ratio_eq T) (hr.mono (by decide)) T.m_Ratio_eq) (op_or (o_usrCL c.kk (ok_Ratio_eq T) (hr.mono (by decide)) T.m_Ratio_eq T.s1_Ratio) (op_or (o_usrCR (op := .Eq) (m := "__eq__") c.kk (ok_Ratio_eq T) (hr.mono (by decide)) T.m_Ratio_eq T.s2_Ratio no_eq) (o_eq c.kk hr.units)))) (de_var 4) (de_gc (de_frz (de_makeD (c := 34) c (ok_Ratio_init T) T.mk_Ratio T.g_Ratio (hr.mono (by decide)) (fun _ F => F.binds1 3 1 (by simp) rfl fun _ _ _ _ _ _ _ us its h1 h2 => match us, its, h1, h2 with | [_, _, _], [_], _, _ => ⟨_, rfl, rfl⟩) (fun _ _ _ => .nil) (da_cons (de_op o_mulD (de_var 5) (de_var 3)) (da_cons (de_op o_mulD (de_var 6) (de_var 3)) da_nil)) (dCons_len (dCons_len dNil_len)))))) de_bl)
    (dss_one (ds_ret de_bl))
    dss_nil))
    dss_nil)
    (dss_cons (ds_if (PW.pt (dw_and (dt_cmp (o_ne c.kk hr.units) (de_var 6) (de_neg de_int)) (dw_and1 (dt_cmp (o_ne c.kk hr.units) (de_cmp (op_or (o_usrC c.kk (ok_Ratio_eq T) (hr.mono (by decide)) T.m_Ratio_eq) (op_or (o_usrCL c.kk (ok_Ratio_eq T) (hr.mono (by decide)) T.m_Ratio_eq T.s1_Ratio) (op_or (o_usrCR (op := .Eq) (m := "__eq__") c.kk (ok_Ratio_eq T) (hr.mono (by decide)) T.m_Ratio_eq T.s2_Ratio no_eq) (o_eq c.kk hr.units)))) (de_var 4) (de_gc (de_frz (de_makeD (c := 34) c (ok_Ratio_init T) T.mk_Ratio T.g_Ratio (hr.mono (by decide)) (fun _ F => F.binds1 3 1 (by simp) rfl fun _ _ _ _ _ _ _ us its h1 h2 => match us, its, h1, h2 with | [_, _, _], [_], _, _ => ⟨_, rfl, rfl⟩) (fun _ _ _ => .nil) (da_cons (de_var 5) (da_cons (de_op (o_addD c.kk) (de_var 6) de_int) da_nil)) (dCons_len (dCons_len dNil_len)))))) (de_cmp (o_eq c.kk hr.units) (de_var 5) de_int)))))
    (dss_one (ds_ret de_bl))
    dss_nil)
    (dss_cons (ds_if (PW.pt (dw_or (dt_cmp o_isNotB (de_cmp (op_or (o_usrC c.kk (ok_Ratio_eq T) (hr.mono (by decide)) T.m_Ratio_eq) (op_or (o_usrCL c.kk (ok_Ratio_eq T) (hr.mono (by decide)) T.m_Ratio_eq T.s1_Ratio) (op_or (o_usrCR (op := .Eq) (m := "__eq__") c.kk (ok_Ratio_eq T) (hr.mono (by decide)) T.m_Ratio_eq T.s2_Ratio no_eq) (o_eq c.kk hr.units)))) (de_var 4) (de_gc (de_frz (de_makeD (c := 34) c (ok_Ratio_init T) T.mk_Ratio T.g_Ratio (hr.mono (by decide)) (fun _ F => F.binds1 3 1 (by simp) rfl fun _ _ _ _ _ _ _ us its h1 h2 => match us, its, h1, h2 with | [_, _, _], [_], _, _ => ⟨_, rfl, rfl⟩) (fun _ _ _ => .nil) (da_cons (de_op (o_addD c.kk) (de_var 5) de_int) (da_cons (de_var 6) da_nil)) (dCons_len (dCons_len dNil_len)))))) de_bl) (dw_or1 (dt_cmp (o_ne c.kk hr.units) (de_cmp (op_or (o_usrC c.kk (ok_Ratio_eq T) (hr.mono (by decide)) T.m_Ratio_eq) (op_or (o_usrCL c.kk (ok_Ratio_eq T) (hr.mono (by decide)) T.m_Ratio_eq T.s1_Ratio) (op_or (o_usrCR (op := .Eq) (m := "__eq__") c.kk (ok_Ratio_eq T) (hr.mono (by decide)) T.m_Ratio_eq T.s2_Ratio no_eq) (o_eq c.kk hr.units)))) (de_var 4) (de_gc (de_frz (de_makeD (c := 34) c (ok_Ratio_init T) T.mk_Ratio T.g_Ratio (hr.mono (by decide)) (fun _ F => F.binds1 3 1 (by simp) rfl fun _ _ _ _ _ _ _ us its h1 h2 => match us, its, h1, h2 with | [_, _, _], [_], _, _ => ⟨_, rfl, rfl⟩) (fun _ _ _ => .nil) (da_cons (de_neg (de_var 5)) (da_cons (de_var 6) da_nil)) (dCons_len (dCons_len dNil_len)))))) (de_cmp (o_eq c.kk hr.units) (de_var 5) de_int)))))
    (dss_one (ds_ret de_bl))
    dss_nil)
    (dss_one (ds_if (PW.pt (dw_or (dt_cmp (o_ne c.kk hr.units) (de_cmp (op_or (o_usrC c.kk (ok_Ratio_eq T) (hr.mono (by decide)) T.m_Ratio_eq) (op_or (o_usrCL c.kk (ok_Ratio_eq T) (hr.mono (by decide)) T.m_Ratio_eq T.s1_Ratio) (o_eq c.kk hr.units))) (de_var 4) (de_var 5)) (de_cmp (o_eq c.kk hr.units) (de_var 5) (de_op o_mulD (de_var 5) (de_var 6)))) (dw_or (dt_cmp (o_ne c.kk hr.units) (de_callTy (c_usrBool c.kk (ok_Ratio_bool T) (hr.mono (by decide)) T.m_Ratio_bool) boot_bool T.b_bool (da_cons (de_var 4) da_nil)) (de_cmp (o_ne c.kk hr.units) (de_var 5) de_int)) (dw_or1 (dt_cmp (o_ne c.kk hr.units) (de_callTy (c_usrStr c.kk (ok_Ratio_str T) (hr.mono (by decide)) hr.units T.m_Ratio_str) boot_str T.b_str (da_cons (de_var 4) da_nil)) (de_call c (ok_l_text T) T.g_l_text (hr.mono (by decide)) (da_cons (de_var 5) (da_cons (de_var 6) da_nil)) (hlen := (dCons_len (dCons_len dNil_len)))))))))
    (dss_one (ds_ret de_bl))
    dss_nil)))))))))))))))))
    (dss_one (ds_ret de_bl)))
end
theorem law_ok {l : PySem.W.OpenLaw} {w : World} {K : PySem.W.Frag} {mg : Str → Option Value} {h : Heap} (T : Tx K mg) (hl : ∀ ns : List Int, ns.length ≤ 63 → (∀ z ∈ ns, Builtin.Int.intBits z ≤ 1048576) → ∃ S', fn_law_60 [.scr (ns.map W.int)] [] = .ok (.bl true) S') : LamX.LawAtS l w K (L2.CX l.prog w) 6 63 "_law_script" mg (He.fAd K ("law", none)) h := by
  obtain ⟨fd, F⟩ := T.f_law
  have b := FunD.bindsA (ps := ["_law_script"]) F fun _ _ _ _ _ _ us hl => match us, hl with | [_], _ => rfl
  exact law_at (cm := cm K) (xv := xv K) (fn := fn_law_60) ⟨fd, fun s u => b s [u] rfl, fun base h1 h2 => ok_law T F⟩ hl
end Zk43
/-! k43: ratios built, shown. -/
namespace Zk43
open PySem L2 DD U SP
section
variable {S : Sto} {a b : Int} {q : Rat}
theorem ok_ofString (s : String) : PyData.strOk (Str.ofString s) = true := by
  unfold PyData.strOk
  rw [Str.ofString_eq_toList]
  simp only [List.all_toArray, List.all_map, List.all_eq_true]
  intro c _
  have := c.valid
  simp only [Function.comp, decide_eq_true_eq]
  have h : c.toNat < 0x110000 := by
    rcases c.valid with h | ⟨_, h⟩
    · exact Nat.lt_trans h (by decide)
    · exact h
  exact h
theorem ok_append {x y : Str} (h1 : PyData.strOk x = true) (h2 : PyData.strOk y = true) : PyData.strOk (x ++ y) = true := by
  unfold PyData.strOk at *
  rw [Str.cps_append, Array.all_append, h1, h2]; rfl
theorem bz_log {n : Nat} {i : Int} (h : Bz n i) (hn : n ≤ 1900) : i.natAbs.log2 < 1920 := by
  by_cases h0 : i.natAbs = 0
  · rw [h0]; decide
  · have := Nat.log2_lt h0 |>.mpr h
    omega
theorem tx_len {n : Nat} {i : Int} (h : Bz n i) (hn : n ≤ 1900) : (Str.ofString (toString i)).length ≤ 2000 := by
  have e := int_text_length_le (k := 1920) (by decide) (bz_log h hn)
  rw [ofString_length]; omega
theorem str_int {n : Nat} {i : Int} (h : Bz n i) (hn : n ≤ 1900) : strF [.int i] S = .ok (.str (toString i)) S := by
  unfold strF
  simp only []
  rw [if_pos (bz_log h hn)]
theorem cat_str {x y : Str} (h : x.length + y.length ≤ sizeLine) : addD (.str x) (.str y) S = .ok (.str (x ++ y)) S := by
  have c : catS (.str x) (.str y) S = .ok (.str (x ++ y)) S := if_pos h
  unfold addD orD
  simp only [iAdd, catD, c]
  first | rfl | simp [seqL, c]
def slash : Str := "/"
/-- a ratio's text -/
def txtQ (q : Rat) : Str := if (q.den : Int) = 1 then Str.ofString (toString q.num) else Str.ofString (toString q.num) ++ slash ++ Str.ofString (toString (q.den : Int))
theorem ok_txt (q : Rat) : PyData.strOk (txtQ q) = true := by
  unfold txtQ
  split
  · exact ok_ofString _
  · exact ok_append (ok_append (ok_ofString _) (by decide +kernel)) (ok_ofString _)
theorem ratio_str (hq : Rz 900 q) : U.fn_Ratio_str [rW q] S = .ok (.str (txtQ q)) S := by
  generalize hx : U.fn_Ratio_str _ _ = x
  unfold U.fn_Ratio_str at hx
  rw [DD.gcF_eq, DD.dFn_eq] at hx
  generalize hy : U.b_Ratio_str _ _ = y at hx
  unfold U.b_Ratio_str at hy
  have f1 : ∀ S : Sto, fieldOf [34] (Str.ofString "top") (rW q) S = some (.int q.num) := fun S => fld_top
  have f2 : ∀ S : Sto, fieldOf [34] (Str.ofString "bottom") (rW q) S = some (.int q.den) := fun S => fld_bot
  have s1 : ∀ S, strF [.int q.num] S = .ok (.str (toString q.num)) S := fun S => str_int hq.1 (by decide)
  have g1 := bz_log hq.1 (by decide)
  have g2 := bz_log hq.2 (by decide)
  have l1 := tx_len hq.1 (by decide)
  have l2 := tx_len hq.2 (by decide)
  unfold txtQ
  by_cases h : (q.den : Int) = 1
  · rw [if_pos h]
    generalize rW q = R at f1 f2 hy
    simp -implicitDefEqProofs [dFld, f1, f2, h, s1] at hy
    subst hy
    exact hx.symm.trans (gc_same rfl)
  · rw [if_neg h]
    have hsl : ("/" : Str) = slash := rfl
    have lsl : slash.length = 1 := rfl
    have jn : ∀ t S, dVar 0 t S = .ok (rW q) S → dJoin [(dFmt (dFld [34] "top" (dVar 0))), (dC (.str "/")), (dFmt (dFld [34] "bottom" (dVar 0)))] t S = .ok (.str (Str.ofString (toString q.num) ++ slash ++ Str.ofString (toString (q.den : Int)))) S := fun t S hv => by
      have p1 : dFmt (dFld [34] "top" (dVar 0)) t S = .ok (.str (toString q.num)) S := by
        unfold dFmt
        have : dFld [34] "top" (dVar 0) t S = .ok (.int q.num) S := by
          unfold dFld; rw [hv]; rfl
        rw [this]
        simp only [DD.R.bind_ok]
        rw [if_pos g1]
      have p3 : dFmt (dFld [34] "bottom" (dVar 0)) t S = .ok (.str (toString (q.den : Int))) S := by
        unfold dFmt
        have : dFld [34] "bottom" (dVar 0) t S = .ok (.int q.den) S := by
          unfold dFld; rw [hv]; rfl
        rw [this]
        simp only [DD.R.bind_ok]
        rw [if_pos g2]
      have p2 : dC (.str "/") t S = .ok (.str slash) S := rfl
      generalize Str.ofString (toString q.num) = A at p1 l1 ⊢
      generalize Str.ofString (toString (q.den : Int)) = B at p3 l2 ⊢
      unfold dJoin dJs
      rw [p1]
      simp only [DD.R.bind_ok]
      rw [if_pos (by rw [Str.length_append, sizeLine_eq]; show 0 + _ ≤ _; omega), Str.empty_append]
      unfold dJs
      rw [p2]
      simp only [DD.R.bind_ok]
      rw [if_pos (by rw [Str.length_append, sizeLine_eq]; omega)]
      unfold dJs
      rw [p3]
      simp only [DD.R.bind_ok]
      rw [if_pos (by rw [Str.length_append, Str.length_append, sizeLine_eq]; omega)]
      rfl
    obtain ⟨dj, hdj⟩ : ∃ d, d = dJoin [(dFmt (dFld [34] "top" (dVar 0))), (dC (.str "/")), (dFmt (dFld [34] "bottom" (dVar 0)))] := ⟨_, rfl⟩
    rw [← hdj] at jn hy
    have jn := jn [some (rW q)] S rfl
    generalize Str.ofString (toString q.num) ++ slash ++ Str.ofString (toString (q.den : Int)) = R at jn ⊢
    generalize rW q = Q at f1 f2 jn hy
    simp -implicitDefEqProofs [dFld, f1, f2, h, jn] at hy
    subst hy
    exact hx.symm.trans (gc_same rfl)
theorem text_ok (hb : b ≠ 0) (h1 : Bz 900 a) (h2 : Bz 900 b) (hq : q = Rat.divInt a b) : U.fn_l_text [.int a, .int b] S = .ok (.str (txtQ q)) S := by
  generalize hx : U.fn_l_text _ _ = x
  unfold U.fn_l_text at hx
  rw [DD.gcF_eq, DD.dFn_eq] at hx
  generalize hy : U.b_l_text _ _ = y at hx
  unfold U.b_l_text at hy
  have dv := l_div_ok (S := S) h1 h2
  have rz : Rz 900 q := by rw [hq]; exact rz_div hb h1 h2
  obtain ⟨s, hs⟩ : ∃ s : Int, s = if 0 < b then 1 else -1 := ⟨_, rfl⟩
  obtain ⟨na, nb⟩ := num_of hb rfl s hs
  rw [← hq] at na nb
  obtain ⟨d, hd⟩ : ∃ d : Int, d = s * (a.gcd b : Nat) := ⟨_, rfl⟩
  rw [← hd] at na nb
  have d0 : d ≠ 0 := fun z => by rw [z, Int.mul_zero] at nb; exact hb nb
  have hdb : Bz 900 d := by
    have hdd : d ∣ b := ⟨q.den, by rw [Int.mul_comm]; exact nb⟩
    unfold Bz at h2 ⊢
    exact Nat.lt_of_le_of_lt (Nat.le_of_dvd (by omega) (Int.natAbs_dvd_natAbs.mpr hdd)) h2
  have v1 : ∀ S, iDiv (.int a) (.int d) S = .ok (.int q.num) S := fun S => by
    have := e_divE (S := S) (j := d) (k := q.num) d0 hdb (by decide)
    rw [← na] at this; exact this
  have v2 : ∀ S, iDiv (.int b) (.int d) S = .ok (.int q.den) S := fun S => by
    have := e_divE (S := S) (j := d) (k := q.den) d0 hdb (by decide)
    rw [← nb] at this; exact this
  have s1 : ∀ S, strF [.int q.num] S = .ok (.str (toString q.num)) S := fun S => str_int rz.1 (by decide)
  have s2 : ∀ S, strF [.int q.den] S = .ok (.str (toString (q.den : Int))) S := fun S => str_int rz.2 (by decide)
  have l1 := tx_len rz.1 (by decide)
  have l2 := tx_len rz.2 (by decide)
  have lsl : slash.length = 1 := rfl
  have c1 : ∀ S, addD (.str (toString q.num)) (.str "/") S = .ok (.str (Str.ofString (toString q.num) ++ slash)) S := fun S => by
    exact cat_str (by rw [sizeLine_eq]; show Str.length _ + 1 ≤ _; omega)
  have c2 : ∀ S, addD (.str (Str.ofString (toString q.num) ++ slash)) (.str (toString (q.den : Int))) S = .ok (.str (Str.ofString (toString q.num) ++ slash ++ Str.ofString (toString (q.den : Int)))) S := fun S => by
    exact cat_str (by rw [Str.length_append, sizeLine_eq]; omega)
  have neg : (if b < 0 then d = -((a.gcd b : Nat) : Int) else d = ((a.gcd b : Nat) : Int)) := by
    split
    · rw [hd, hs, if_neg (by omega)]; omega
    · rw [hd, hs, if_pos (by omega)]; omega
  unfold txtQ
  generalize Str.ofString (toString q.num) ++ slash ++ Str.ofString (toString (q.den : Int)) = T3 at c2 ⊢
  generalize Str.ofString (toString q.num) ++ slash = T2 at c1 c2
  generalize Str.ofString (toString q.num) = T1 at s1 c1 ⊢
  generalize Str.ofString (toString (q.den : Int)) = T4 at s2 c2
  by_cases hb0 : b < 0
  · rw [if_pos hb0] at neg
    by_cases h : (q.den : Int) = 1
    · rw [if_pos h]
      simp -implicitDefEqProofs [dv, hb0, ← neg, v2, h, v1, s1] at hy
      subst hy
      exact hx.symm.trans (gc_same rfl)
    · rw [if_neg h]
      simp -implicitDefEqProofs [dv, hb0, ← neg, v2, h, v1, s1, s2, c1, c2] at hy
      subst hy
      exact hx.symm.trans (gc_same rfl)
  · rw [if_neg hb0] at neg
    by_cases h : (q.den : Int) = 1
    · rw [if_pos h]
      simp -implicitDefEqProofs [dv, hb0, ← neg, v2, h, v1, s1] at hy
      subst hy
      exact hx.symm.trans (gc_same rfl)
    · rw [if_neg h]
      simp -implicitDefEqProofs [dv, hb0, ← neg, v2, h, v1, s1, s2, c1, c2] at hy
      subst hy
      exact hx.symm.trans (gc_same rfl)
abbrev flagsW : W := .lst [.bl true, .bl true, .bl false]
theorem built_er : U.fn_l_built_2 [.int a, .int 0] S = .ok flagsW S := by
  generalize hx : U.fn_l_built_2 _ _ = x
  unfold U.fn_l_built_2 at hx
  rw [DD.gcF_eq, DD.dFn_eq] at hx
  generalize hy : U.b_l_built_2 _ _ = y at hx
  unfold U.b_l_built_2 at hy
  have mk : dGc (dFrz (dMake 34 fn_Ratio_init (dBoth (· ++ ·) (dCons (dVar 0) (dCons (dVar 1) dNil)) (fun _ S => .ok [] S)))) [some (.int a), some (.int 0), none] S = .er 16 [] [] S := mkr_er (ws := [.int a, .int 0]) (zs := []) (by simp) rfl rfl
  obtain ⟨dm, hdm⟩ : ∃ d, d = dGc (dFrz (dMake 34 fn_Ratio_init (dBoth (· ++ ·) (dCons (dVar 0) (dCons (dVar 1) dNil)) (fun _ S => .ok [] S)))) := ⟨_, rfl⟩
  rw [← hdm] at mk hy
  have i1 : ∀ S, isxF (xkM 0 xk_TestError_3) [.exn 16 [] [], .cls 0] S = .ok (.bl true) S := fun S => rfl
  have i2 : ∀ S, isxF (xkT "ValueError" xk_ValueError) [.exn 16 [] [], .ty "ValueError"] S = .ok (.bl true) S := fun S => rfl
  have i3 : ∀ S, isxF (xkM 23 xk_NoPupils) [.exn 16 [] [], .cls 23] S = .ok (.bl false) S := fun S => rfl
  simp -implicitDefEqProofs [dTryN, mk, dHnd, U.xm_ZeroBottom, unX, i1, i2, i3, sizeLine_eq] at hy
  subst hy
  exact hx.symm.trans (gc_same rfl)
theorem built_ok (hb : b ≠ 0) (h2 : Bz 900 b) (hq : q = Rat.divInt a b) : U.fn_l_built_2 [.int a, .int b] S = .ok (rW q) S := by
  generalize hx : U.fn_l_built_2 _ _ = x
  unfold U.fn_l_built_2 at hx
  rw [DD.gcF_eq, DD.dFn_eq] at hx
  generalize hy : U.b_l_built_2 _ _ = y at hx
  unfold U.b_l_built_2 at hy
  have mk : dGc (dFrz (dMake 34 fn_Ratio_init (dBoth (· ++ ·) (dCons (dVar 0) (dCons (dVar 1) dNil)) (fun _ S => .ok [] S)))) [some (.int a), some (.int b), none] S = .ok (rW q) S := mkr_ok (ws := [.int a, .int b]) (zs := []) (by simp) rfl rfl hb h2 (by decide) hq.symm
  obtain ⟨dm, hdm⟩ : ∃ d, d = dGc (dFrz (dMake 34 fn_Ratio_init (dBoth (· ++ ·) (dCons (dVar 0) (dCons (dVar 1) dNil)) (fun _ S => .ok [] S)))) := ⟨_, rfl⟩
  rw [← hdm] at mk hy
  have lo : lowW S.length (rW q) = true := lowW_rW
  generalize rW q = R at mk lo ⊢
  simp -implicitDefEqProofs [dTryN, mk] at hy
  subst hy
  exact hx.symm.trans (gc_same lo)
theorem ratio_bool : U.fn_Ratio_bool [rW q] S = .ok (.bl (q.num != 0)) S := by
  generalize hx : U.fn_Ratio_bool _ _ = x
  unfold U.fn_Ratio_bool at hx
  rw [DD.gcF_eq, DD.dFn_eq] at hx
  generalize hy : U.b_Ratio_bool _ _ = y at hx
  unfold U.b_Ratio_bool at hy
  have f1 : ∀ S : Sto, fieldOf [34] (Str.ofString "top") (rW q) S = some (.int q.num) := fun S => fld_top
  have bf : ∀ S, boolF [.int q.num] S = .ok (.bl (q.num != 0)) S := fun S => rfl
  generalize rW q = R at f1 hy
  simp -implicitDefEqProofs [dFld, f1, bf] at hy
  subst hy
  exact hx.symm.trans (gc_same rfl)
theorem div_eq {a b c d : Int} (hb : b ≠ 0) (hd : d ≠ 0) : Rat.divInt a b = Rat.divInt c d ↔ a * d = c * b := Rat.divInt_eq_divInt_iff hb hd
theorem p39 (S : Sto) : iPow (.int 10) (.int 39) S = .ok (.int 1000000000000000000000000000000000000000) S := by
  rw [e_pow (by decide)]
  have : (10 : Int) ^ (39 : Int).toNat = 1000000000000000000000000000000000000000 := by decide
  rw [this]
theorem bz39 {r : Int} (h1 : -1000000000000000000000000000000000000000 ≤ r) (h2 : r ≤ 1000000000000000000000000000000000000000) : Bz 130 r := bz_of h1 h2 (by decide)
/-- a turn of the loop -/
theorem turn_ok {ns : List Int} {k : Int} {x2 x3 x4 x5 x6 : Option W} (hk : 0 ≤ k) (hk1 : k < 100) :
    ∃ (y2 y3 y4 y5 y6 : Option W) (S' : Sto), b_law_60_l0 [some (.scr (ns.map W.int)), some (.int k), x2, x3, x4, x5, x6] S = .nx [some (.scr (ns.map W.int)), some (.int k), y2, y3, y4, y5, y6] S' ∨ b_law_60_l0 [some (.scr (ns.map W.int)), some (.int k), x2, x3, x4, x5, x6] S = .ct [some (.scr (ns.map W.int)), some (.int k), y2, y3, y4, y5, y6] S' := by
  generalize hy : b_law_60_l0 _ _ = y
  unfold b_law_60_l0 at hy
  obtain ⟨P0, ep, hP0⟩ := pool3_ok (ns := ns) (S := S) hk hk1
  obtain ⟨a, P1, ea, a0, a1, hP1⟩ := number_ok (S := S) (B := []) (most := 1000000000000000000000000000000000000000) hP0 (by decide) (by decide)
  obtain ⟨b, P2, eb, b0, b1, hP2⟩ := number_ok (S := S) (B := []) (most := 1000000000000000000000000000000000000000) hP1 (by decide) (by decide)
  obtain ⟨f1, P3, e3, f10, f11, hP3⟩ := take3_ok (S := S) (B := []) (lim := 9) hP2 (by decide) (by decide)
  obtain ⟨f2, P4, e4, f20, f21, hP4⟩ := take3_ok (S := S) (B := []) (lim := 2) hP3 (by decide) (by decide)
  obtain ⟨f, hf⟩ : ∃ f, f = (1 + f1) * (1 - 2 * f2) := ⟨_, rfl⟩
  have hf0 : f ≠ 0 := by
    have : f2 = 0 ∨ f2 = 1 := by omega
    rcases this with rfl | rfl <;> omega
  have hfb : -9 ≤ f ∧ f ≤ 9 := by
    have : f2 = 0 ∨ f2 = 1 := by omega
    rcases this with rfl | rfl <;> omega
  have ba := bz39 a0 a1
  have bb := bz39 b0 b1
  have bf : Bz 4 f := by unfold Bz; omega
  have one : (1 : Int) ≠ 0 := by decide
  have bz1 : Bz 900 (1 : Int) := (show Bz 8 (1 : Int) by unfold Bz; decide).mono (by decide)
  obtain ⟨X, hX⟩ : ∃ X, X = S ++ P4 :: [] := ⟨_, rfl⟩
  obtain ⟨pa, hpa⟩ : ∃ p : Rat, p = Rat.divInt a 1 := ⟨_, rfl⟩
  obtain ⟨pb, hpb⟩ : ∃ p : Rat, p = Rat.divInt b 1 := ⟨_, rfl⟩
  have ia : ∀ i : Int, (i : Rat) = Rat.divInt i 1 := fun i => by rw [Rat.divInt_eq_div]; push_cast; grind
  have za : Rz 900 pa := by rw [hpa]; exact rz_div one (ba.mono (by decide)) bz1
  have zb : Rz 900 pb := by rw [hpb]; exact rz_div one (bb.mono (by decide)) bz1
  have isr : ∀ (q : Rat) (c d : Int), d ≠ 0 → q = Rat.divInt c d → Rz 900 q → Bz 900 c → Bz 900 d → U.fn_l_is_ratio [rW q, .int c, .int d] X = .ok (.bl true) X := fun q c d hd hq hz hc hdd => by
    rw [l_isr_ok hz hc hdd (by decide), isr_of hd hq]
  have r1 := isr pa a 1 one hpa za (ba.mono (by decide)) bz1
  have r2 := isr pb b 1 one hpb zb (bb.mono (by decide)) bz1
  have q1 : ∀ g, orD (usrD 34 fn_Ratio_eq) (orD (usrL 34 fn_Ratio_eq) g) (rW pa) (.int a) X = .ok (.bl true) X := fun g => by
    rw [o_ri (ratio_eq .i), decide_eq_true (by rw [hpa, ia])]
  have q2 : ∀ g, orD (usrD 34 fn_Ratio_eq) (orD (usrL 34 fn_Ratio_eq) g) (rW pa) (.int (a + f)) X = .ok (.bl false) X := fun g => by
    rw [o_ri (ratio_eq .i), decide_eq_false (by rw [hpa, ia, div_eq one one]; omega)]
  have q3 : ∀ g, orD (usrR 34 fn_Ratio_eq) g (.int a) (rW pa) X = .ok (.bl true) X := fun g => by
    rw [o_ir (ratio_eq .i), decide_eq_true (by rw [hpa, ia])]
  have q4 : ∀ g, orD (usrR 34 fn_Ratio_eq) g (.int (a + f)) (rW pa) X = .ok (.bl false) X := fun g => by
    rw [o_ir (ratio_eq .i), decide_eq_false (by rw [hpa, ia, div_eq one one]; omega)]
  have adf : ∀ X, addD (.int a) (.int f) X = .ok (.int (a + f)) X := fun X => rfl
  have be0 := built_er (S := X) (a := a)
  have nfl : ∀ X, neD flagsW flagsW X = .ok (.bl false) X := fun X => by rw [e_ne rfl rfl]; rfl
  have t1 : ∀ b X, truW X (.bl b) = some b := fun _ _ => rfl
  have e5 : fn_l_pool_3 [W.scr (ns.map W.int), .int k] S = .ok (.ref S.length) (S ++ [P0]) := ep
  obtain ⟨w0, hw0⟩ : ∃ w0, w0 = W.scr (ns.map W.int) := ⟨_, rfl⟩
  rw [← hw0] at e5 hy ⊢
  obtain ⟨d5, hd5⟩ : ∃ d, d = dGc (dFrz (dMake 34 fn_Ratio_init (dBoth (· ++ ·) (dCons (dVar 5) dNil) (fun _ S => .ok [(.int 1)] S)))) := ⟨_, rfl⟩
  obtain ⟨d6, hd6⟩ : ∃ d, d = dGc (dFrz (dMake 34 fn_Ratio_init (dBoth (· ++ ·) (dCons (dVar 6) (dCons (dC (.int 1)) dNil)) (fun _ S => .ok [] S)))) := ⟨_, rfl⟩
  obtain ⟨d7, hd7⟩ : ∃ d, d = dGc (dFrz (dMake 34 fn_Ratio_init (dBoth (· ++ ·) (dCons (dNeg (dVar 5)) (dCons (dNeg (dVar 6)) dNil)) (fun _ S => .ok [] S)))) := ⟨_, rfl⟩
  obtain ⟨d8, hd8⟩ : ∃ d, d = dGc (dFrz (dMake 34 fn_Ratio_init (dBoth (· ++ ·) (dCons (dOp (mulD false) (dVar 5) (dVar 3)) (dCons (dOp (mulD false) (dVar 6) (dVar 3)) dNil)) (fun _ S => .ok [] S)))) := ⟨_, rfl⟩
  obtain ⟨d9, hd9⟩ : ∃ d, d = dGc (dFrz (dMake 34 fn_Ratio_init (dBoth (· ++ ·) (dCons (dVar 5) (dCons (dOp addD (dVar 6) (dC (.int 1))) dNil)) (fun _ S => .ok [] S)))) := ⟨_, rfl⟩
  obtain ⟨dA, hdA⟩ : ∃ d, d = dGc (dFrz (dMake 34 fn_Ratio_init (dBoth (· ++ ·) (dCons (dOp addD (dVar 5) (dC (.int 1))) (dCons (dVar 6) dNil)) (fun _ S => .ok [] S)))) := ⟨_, rfl⟩
  obtain ⟨dB, hdB⟩ : ∃ d, d = dGc (dFrz (dMake 34 fn_Ratio_init (dBoth (· ++ ·) (dCons (dNeg (dVar 5)) (dCons (dVar 6) dNil)) (fun _ S => .ok [] S)))) := ⟨_, rfl⟩
  rw [← hd5, ← hd6, ← hd7, ← hd8, ← hd9, ← hdA, ← hdB] at hy
  have m5 : d5 [some w0, some (.int k), some (.ref S.length), some (.int f), x4, some (.int a), some (.int b)] X = .ok (rW pa) X := by
    rw [hd5]; exact mkr_ok (ws := [.int a]) (zs := [.int 1]) (by simp) rfl rfl one bz1 (by decide) hpa.symm
  have m6 : d6 [some w0, some (.int k), some (.ref S.length), some (.int f), x4, some (.int a), some (.int b)] X = .ok (rW pb) X := by
    rw [hd6]; exact mkr_ok (ws := [.int b, .int 1]) (zs := []) (by simp) rfl rfl one bz1 (by decide) hpb.symm
  -- the first part, common
  generalize htl : dSeq (dIfS (dTest (dOp eqD (dVar 6) (dC (.int 0)))) _ _) _ = tl at hy
  have first : y = tl [some w0, some (.int k), some (.ref S.length), some (.int f), x4, some (.int a), some (.int b)] X := by
    have pr : dPar 5 6 (dCons (dCall fn_l_number (dCons (dVar 2) (dCons (dOp iPow (dC (.int 10)) (dC (.int 39))) dNil))) (dCons (dCall fn_l_number (dCons (dVar 2) (dCons (dOp iPow (dC (.int 10)) (dC (.int 39))) dNil))) dNil)) [some w0, some (.int k), some (.ref S.length), x3, x4, x5, x6] (S ++ [P0]) = .nx [some w0, some (.int k), some (.ref S.length), x3, x4, some (.int a), some (.int b)] (S ++ [P2]) := by
      have ea : fn_l_number [.ref S.length, .int 1000000000000000000000000000000000000000] (S ++ [P0]) = .ok (.int a) (S ++ [P1]) := ea
      have eb : fn_l_number [.ref S.length, .int 1000000000000000000000000000000000000000] (S ++ [P1]) = .ok (.int b) (S ++ [P2]) := eb
      unfold dPar
      generalize S ++ [P0] = Y0 at ea ⊢
      generalize S ++ [P1] = Y1 at ea eb
      generalize S ++ [P2] = Y2 at eb ⊢
      simp -implicitDefEqProofs [p39, ea, eb]
    obtain ⟨dp, hdp⟩ : ∃ d, d = dPar 5 6 (dCons (dCall fn_l_number (dCons (dVar 2) (dCons (dOp iPow (dC (.int 10)) (dC (.int 39))) dNil))) (dCons (dCall fn_l_number (dCons (dVar 2) (dCons (dOp iPow (dC (.int 10)) (dC (.int 39))) dNil))) dNil)) := ⟨_, rfl⟩
    rw [← hdp] at pr hy
    have e3 : fn_l_take [.ref S.length, .int 9] (S ++ [P2]) = .ok (.int f1) (S ++ [P3]) := e3
    have e4 : fn_l_take [.ref S.length, .int 2] (S ++ [P3]) = .ok (.int f2) X := by rw [hX]; exact e4
    have ad1 : ∀ X, addD (.int 1) (.int f1) X = .ok (.int (1 + f1)) X := fun X => rfl
    have ml2 : ∀ X, mulD false (.int 2) (.int f2) X = .ok (.int (2 * f2)) X := fun X => e_mulL (by decide)
    have mlf : ∀ X, mulD false (.int (1 + f1)) (.int (1 - 2 * f2)) X = .ok (.int f) X := fun X => by
      have b1 : Bz 4 (1 + f1) := by unfold Bz; omega
      have b2 : Bz 4 (1 - 2 * f2) := by unfold Bz; omega
      rw [e_mulZ b1 b2 (by decide), hf]
    clear hX
    generalize S ++ [P0] = Y0 at e5 pr
    generalize S ++ [P2] = Y2 at e3 pr
    generalize S ++ [P3] = Y3 at e3 e4
    have lst : ∀ t X, dLst (dCons (dC (.bl true)) (dCons (dC (.bl true)) (dCons (dC (.bl false)) dNil))) t X = .ok flagsW X := fun t X => by simp -implicitDefEqProofs [sizeLine_eq]
    generalize flagsW = FW at be0 nfl lst
    obtain ⟨dF, hdF⟩ : ∃ d, d = dLst (dCons (dC (.bl true)) (dCons (dC (.bl true)) (dCons (dC (.bl false)) dNil))) := ⟨_, rfl⟩
    rw [← hdF] at lst hy
    simp -implicitDefEqProofs [e5, pr, e3, ad1, e4, ml2, mlf, be0, lst, nfl, m5, r1, m6, r2, t1, q1, adf, q2, q3, q4, isB] at hy
    exact hy.symm
  rw [first]
  clear first hy
  rw [← htl]
  clear htl
  have lst : ∀ t X, dLst (dCons (dC (.bl true)) (dCons (dC (.bl true)) (dCons (dC (.bl false)) dNil))) t X = .ok flagsW X := fun t X => by simp -implicitDefEqProofs [sizeLine_eq]
  by_cases hb : b = 0
  · refine ⟨some (.ref S.length), some (.int f), x4, some (.int a), some (.int b), X, .inr ?_⟩
    subst hb
    generalize hy : dSeq _ _ _ _ = y
    generalize flagsW = FW at be0 nfl lst
    obtain ⟨dF, hdF⟩ : ∃ d, d = dLst (dCons (dC (.bl true)) (dCons (dC (.bl true)) (dCons (dC (.bl false)) dNil))) := ⟨_, rfl⟩
    rw [← hdF] at lst hy
    simp -implicitDefEqProofs [lst, be0, nfl] at hy
    exact hy.symm
  · obtain ⟨q, hq⟩ : ∃ q, q = Rat.divInt a b := ⟨_, rfl⟩
    have ba9 := ba.mono (show 130 ≤ 900 by decide)
    have bb9 := bb.mono (show 130 ≤ 900 by decide)
    have zq : Rz 900 q := by rw [hq]; exact rz_div hb ba9 bb9
    have bu := built_ok (S := X) hb bb9 hq
    obtain ⟨t6, ht6⟩ : ∃ t : Lo, t = [some w0, some (.int k), some (.ref S.length), some (.int f), some (rW q), some (.int a), some (.int b)] := ⟨_, rfl⟩
    have v3 : ∀ X, dVar 3 t6 X = .ok (.int f) X := fun X => by rw [ht6]; rfl
    have v4 : ∀ X, dVar 4 t6 X = .ok (rW q) X := fun X => by rw [ht6]; rfl
    have v5 : ∀ X, dVar 5 t6 X = .ok (.int a) X := fun X => by rw [ht6]; rfl
    have v6 : ∀ X, dVar 6 t6 X = .ok (.int b) X := fun X => by rw [ht6]; rfl
    have neg0 : ∀ {t : Lo} {d : DX} {i : Int}, d t X = .ok (.int i) X → dNeg d t X = .ok (.int (-i)) X := fun {t d i} h => by simp [h]
    have mlaf : ∀ X, mulD false (.int a) (.int f) X = .ok (.int (a * f)) X := fun X => e_mulZ ba bf (by decide)
    have mlbf : ∀ X, mulD false (.int b) (.int f) X = .ok (.int (b * f)) X := fun X => e_mulZ bb bf (by decide)
    have mlab : ∀ X, mulD false (.int a) (.int b) X = .ok (.int (a * b)) X := fun X => e_mulZ ba bb (by decide)
    have adb : ∀ X, addD (.int b) (.int 1) X = .ok (.int (b + 1)) X := fun X => rfl
    have ada : ∀ X, addD (.int a) (.int 1) X = .ok (.int (a + 1)) X := fun X => rfl
    have bb1 : Bz 900 (b + 1) := (bb.add (show Bz 8 (1 : Int) by unfold Bz; decide)).mono (by decide)
    have bbf : Bz 900 (b * f) := (bb.mul bf).mono (by decide)
    have m7 : d7 t6 X = .ok (rW q) X := by
      rw [hd7]
      refine mkr_ok (ws := [.int (-a), .int (-b)]) (zs := []) (a := -a) (b := -b) ?_ rfl rfl (by omega) bb9.neg (by decide) ?_
      · rw [e_cons, neg0 (v5 X)]; simp only [DD.R.bind_ok]; rw [e_cons, neg0 (v6 X)]; rfl
      · rw [hq, div_eq (by omega) hb]; rw [Int.neg_mul, Int.mul_neg]
    have m8 : d8 t6 X = .ok (rW q) X := by
      rw [hd8]
      refine mkr_ok (ws := [.int (a * f), .int (b * f)]) (zs := []) (a := a * f) (b := b * f) ?_ rfl rfl (Int.mul_ne_zero hb hf0) bbf (by decide) ?_
      · simp -implicitDefEqProofs [v5, v6, v3, mlaf, mlbf]
      · rw [hq, Rat.divInt_mul_right hf0]
    have m9 : b + 1 ≠ 0 → d9 t6 X = .ok (rW (Rat.divInt a (b + 1))) X := fun h => by
      rw [hd9]
      refine mkr_ok (ws := [.int a, .int (b + 1)]) (zs := []) (a := a) (b := b + 1) ?_ rfl rfl h bb1 (by decide) rfl
      simp -implicitDefEqProofs [v5, v6, adb]
    have mA : dA t6 X = .ok (rW (Rat.divInt (a + 1) b)) X := by
      rw [hdA]
      refine mkr_ok (ws := [.int (a + 1), .int b]) (zs := []) (a := a + 1) (b := b) ?_ rfl rfl hb bb9 (by decide) rfl
      simp -implicitDefEqProofs [v5, v6, ada]
    have mB : dB t6 X = .ok (rW (Rat.divInt (-a) b)) X := by
      rw [hdB]
      refine mkr_ok (ws := [.int (-a), .int b]) (zs := []) (a := -a) (b := b) ?_ rfl rfl hb bb9 (by decide) rfl
      rw [e_cons, neg0 (v5 X)]; simp only [DD.R.bind_ok]; rw [e_cons, v6 X]; rfl
    have r3 := isr q a b hb hq zq ba9 bb9
    have rr : ∀ g (p : Rat), orD (usrD 34 fn_Ratio_eq) g (rW q) (rW p) X = .ok (.bl (decide (q = p))) X := fun g p => o_rr (ratio_eq .r)
    have ri : ∀ g, orD (usrD 34 fn_Ratio_eq) (orD (usrL 34 fn_Ratio_eq) g) (rW q) (.int a) X = .ok (.bl (decide (a = a * b))) X := fun g => by
      rw [o_ri (ratio_eq .i)]
      refine congrArg (fun b : Bool => DD.R.ok (W.bl b) X) ?_
      rw [Bool.eq_iff_iff, decide_eq_true_iff, decide_eq_true_iff, hq, ia, div_eq hb one, Int.mul_one]
    have c1 : decide (q = q) = true := by simp
    have c2 : b + 1 ≠ 0 → decide (q = Rat.divInt a (b + 1)) = decide (a = 0) := fun h => by
      rw [Bool.eq_iff_iff, decide_eq_true_iff, decide_eq_true_iff, hq, div_eq hb h, Int.mul_add, Int.mul_one]
      omega
    have c3 : decide (q = Rat.divInt (a + 1) b) = false := by
      refine decide_eq_false ?_
      rw [hq, div_eq hb hb, Int.add_mul, Int.one_mul]
      omega
    have c4 : decide (q = Rat.divInt (-a) b) = decide (a = 0) := by
      rw [Bool.eq_iff_iff, decide_eq_true_iff, decide_eq_true_iff, hq, div_eq hb hb, Int.neg_mul]
      constructor
      · intro h
        have : a * b = 0 := by omega
        rcases Int.mul_eq_zero.mp this with h | h
        · exact h
        · exact absurd h hb
      · rintro rfl; simp
    have bo : usrBool 34 fn_Ratio_bool [rW q] X = .ok (.bl (!decide (a = 0))) X := by
      unfold usrBool
      simp only []
      rw [if_pos isOf_rW, ratio_bool]
      refine congrArg (fun b : Bool => DD.R.ok (W.bl b) X) ?_
      have h0 : q.num = 0 ↔ a = 0 := by
        rw [Rat.num_eq_zero, hq]
        have := div_eq (a := a) (b := b) (c := 0) (d := 1) hb one
        rw [← ia 0] at this
        have e0 : ((0 : Int) : Rat) = 0 := by simp
        rw [e0] at this
        rw [this]; omega
      by_cases ha : a = 0
      · have := h0.mpr ha
        rw [this, ha]; rfl
      · have h1 : q.num ≠ 0 := fun z => ha (h0.mp z)
        rw [decide_eq_false ha]
        simpa using h1
    have st : usrStr 34 fn_Ratio_str [rW q] X = .ok (.str (txtQ q)) X := by
      unfold usrStr
      simp only []
      rw [if_pos isOf_rW, ratio_str zq]
    have tx := text_ok (S := X) hb ba9 bb9 hq
    have nt : ∀ X, neD (.str (txtQ q)) (.str (txtQ q)) X = .ok (.bl false) X := fun X => by
      have d : dat dDep (.str (txtQ q)) = true := by
        have e : dDep = 15 + 1 := rfl
        rw [e]; simp only [dat]; exact ok_txt q
      rw [e_ne d d]; simp [eqW]
    have nb : ∀ (x : Bool) X, neD (.bl x) (.bl x) X = .ok (.bl false) X := fun x X => by rw [e_neB]; simp
    -- the two statements under conditions
    obtain ⟨s8, hs8⟩ : ∃ d, d = (dIfS (dtAnd (dTest (dOp iLt (dBi absF (dCons (dVar 5) dNil)) (dOp iPow (dC (.int 10)) (dC (.int 39))))) (dTest (dOp iLt (dBi absF (dCons (dVar 6) dNil)) (dOp iPow (dC (.int 10)) (dC (.int 39))))))
    (dIfS (dTest (dOp (isB true) (dOp (orD (usrD 34 fn_Ratio_eq) (orD (usrL 34 fn_Ratio_eq) (orD (usrR 34 fn_Ratio_eq) eqD))) (dVar 4) d8) (dC (.bl true))))
    (dRet (dC (.bl false)))
    dNext)
    dNext) := ⟨_, rfl⟩
    have e8 : s8 t6 X = .nx t6 X := by
      rw [hs8]
      generalize hy : dIfS _ _ _ _ _ = y
      have rr := fun g => rr g q
      rw [c1] at rr
      generalize rW q = Q at v4 m8 rr
      by_cases hA : (if a < 0 then -a else a) < 1000000000000000000000000000000000000000
      · by_cases hB : (if b < 0 then -b else b) < 1000000000000000000000000000000000000000
        · simp -implicitDefEqProofs [v5, v6, v4, absF, p39, hA, hB, m8, rr, isB] at hy
          exact hy.symm
        · simp -implicitDefEqProofs [v5, v6, v4, absF, p39, hA, hB, m8, rr, isB] at hy
          exact hy.symm
      · simp -implicitDefEqProofs [v5, v6, v4, absF, p39, hA, m8, rr, isB] at hy
        exact hy.symm
    obtain ⟨s9, hs9⟩ : ∃ d, d = (dIfS (dtAnd (dTest (dOp neD (dVar 6) (dNeg (dC (.int 1))))) (dTest (dOp neD (dOp (orD (usrD 34 fn_Ratio_eq) (orD (usrL 34 fn_Ratio_eq) (orD (usrR 34 fn_Ratio_eq) eqD))) (dVar 4) d9) (dOp eqD (dVar 5) (dC (.int 0))))))
    (dRet (dC (.bl false)))
    dNext) := ⟨_, rfl⟩
    have e9 : s9 t6 X = .nx t6 X := by
      rw [hs9]
      generalize hy : dIfS _ _ _ _ _ = y
      by_cases hm : b = -1
      · have n1 : ∀ X, neD (.int b) (.int (-1)) X = .ok (.bl false) X := fun X => by rw [e_neI, decide_eq_true hm]; rfl
        generalize rW q = Q at v4
        simp -implicitDefEqProofs [v5, v6, v4, n1] at hy
        exact hy.symm
      · have n1 : ∀ X, neD (.int b) (.int (-1)) X = .ok (.bl true) X := fun X => by rw [e_neI, decide_eq_false hm]; rfl
        have m9 := m9 (by omega)
        have rr := fun g => rr g (Rat.divInt a (b + 1))
        rw [c2 (by omega)] at rr
        have ez : ∀ X, eqD (.int a) (.int 0) X = .ok (.bl (decide (a = 0))) X := fun X => e_eqI
        generalize rW (Rat.divInt a (b + 1)) = Q2 at m9 rr
        generalize rW q = Q at v4 rr
        generalize decide (a = 0) = bz at ez rr
        simp -implicitDefEqProofs [v5, v6, v4, n1, m9, rr, ez, nb] at hy
        exact hy.symm
    rw [← hs8, ← hs9]
    clear hs8 hs9
    have rrA := fun g => rr g (Rat.divInt (a + 1) b)
    have rrB := fun g => rr g (Rat.divInt (-a) b)
    rw [c3] at rrA
    rw [c4] at rrB
    have ez : ∀ X, eqD (.int a) (.int 0) X = .ok (.bl (decide (a = 0))) X := fun X => e_eqI
    have nz : ∀ X, neD (.int a) (.int 0) X = .ok (.bl (!decide (a = 0))) X := fun X => e_neI
    have eab : ∀ X, eqD (.int a) (.int (a * b)) X = .ok (.bl (decide (a = a * b))) X := fun X => e_eqI
    have hbz : ∀ X, eqD (.int b) (.int 0) X = .ok (.bl false) X := fun X => by rw [e_eqI, decide_eq_false hb]
    refine ⟨some (.ref S.length), some (.int f), some (rW q), some (.int a), some (.int b), X, .inl ?_⟩
    rw [← ht6]
    have stp : ∀ rest : DS, (dSeq (dAsg (dCall fn_l_built_2 (dCons (dVar 5) (dCons (dVar 6) dNil))) (gN 4)) rest) [some w0, some (.int k), some (.ref S.length), some (.int f), x4, some (.int a), some (.int b)] X = rest t6 X := fun rest => by
      rw [ht6]
      generalize hy : dSeq _ _ _ _ = y
      generalize rW q = Q at bu ⊢
      simp -implicitDefEqProofs [bu] at hy
      exact hy.symm
    have stp0 : ∀ (s0 rest : DS), (dSeq (dIfS (dTest (dOp eqD (dVar 6) (dC (.int 0)))) s0 dNext) rest) [some w0, some (.int k), some (.ref S.length), some (.int f), x4, some (.int a), some (.int b)] X = rest [some w0, some (.int k), some (.ref S.length), some (.int f), x4, some (.int a), some (.int b)] X := fun s0 rest => by
      generalize hy : dSeq _ _ _ _ = y
      simp -implicitDefEqProofs [hbz] at hy
      exact hy.symm
    rw [stp0, stp]
    clear stp stp0 ht6
    generalize hy : dSeq _ _ _ _ = y
    generalize rW (Rat.divInt (a + 1) b) = QA at mA rrA
    generalize rW (Rat.divInt (-a) b) = QB at mB rrB
    generalize rW q = Q at v4 m7 r3 rrA rrB ri bo st
    generalize txtQ q = TX at st tx nt
    generalize decide (a = 0) = bz at ez nz rrB bo
    generalize decide (a = a * b) = bab at eab ri
    simp -implicitDefEqProofs [v4, v5, v6, r3, m7, t1, e8, e9, mA, rrA, isB, mB, rrB, ez, nb, ri, mlab, eab, bo, nz, st, tx, nt] at hy
    exact hy.symm
end
theorem law_true : ∀ ns : List Int, ns.length ≤ 63 → (∀ z ∈ ns, PySem.Builtin.Int.intBits z ≤ 1048576) → ∃ S', U.fn_law_60 [.scr (ns.map W.int)] [] = .ok (.bl true) S' := by
  intro ns hns _
  generalize hx : U.fn_law_60 _ _ = x
  unfold U.fn_law_60 at hx
  rw [dFn_eq] at hx
  generalize hy : U.b_law_60 _ _ = y at hx
  unfold U.b_law_60 at hy
  obtain ⟨m, hm⟩ : ∃ m : Int, m = if (if (ns.length : Int) < 40 then (ns.length : Int) else 40) > 1 then (if (ns.length : Int) < 40 then (ns.length : Int) else 40) else 1 := ⟨_, rfl⟩
  have m0 : 0 ≤ m := by rw [hm]; split <;> omega
  have m1 : m ≤ 40 := by rw [hm]; split <;> (try split) <;> omega
  simp -implicitDefEqProofs [← hm, rgI (show -1000000 ≤ m by omega) (by omega)] at hy
  obtain ⟨t', X, e6, x1, x2, x3, x4, x5, x6, rfl⟩ := forL_inv (g := gN 1) (b := b_law_60_l0) (DD.intsFrom 0 m.toNat)
    (fun _ t X => ∃ x1 x2 x3 x4 x5 x6 : Option W, t = [some (W.scr (List.map W.int ns)), x1, x2, x3, x4, x5, x6])
    (fun k w t X hw ⟨x1, x2, x3, x4, x5, x6, ht⟩ => by
      subst ht
      obtain ⟨hk, rfl⟩ := intsFrom_mem hw
      obtain ⟨y2, y3, y4, y5, y6, S', e⟩ := turn_ok (ns := ns) (k := 0 + k) (x2 := x2) (x3 := x3) (x4 := x4) (x5 := x5) (x6 := x6) (S := X) (by omega) (by omega)
      exact ⟨_, _, e, _, _, _, _, _, _, rfl⟩)
    (t := [some (W.scr (List.map W.int ns)), none, none, none, none, none, none]) (S := []) ⟨_, _, _, _, _, _, rfl⟩
  simp -implicitDefEqProofs [e6] at hy
  subst hy
  exact ⟨_, hx.symm⟩
end Zk43
open PySem PySem.W PySem.Calls PyProof.Rows
set_option maxHeartbeats 0 in
theorem PySem.Challenge.cw_steppedtests_k43_ratios_built_holds : PySem.Challenge.rw_steppedtests_k43_ratios_built.Holds := by
  w_on; o_law
  refine HandSHeadRun.head_any (r := OpenLaw.row PySem.Challenge.rw_steppedtests_k43_ratios_built) (q := view (OpenLaw.row PySem.Challenge.rw_steppedtests_k43_ratios_built).prog [18]) (H := Zk43.hk) (ob := Zk43.ob) (M := 20000) (loose := Zk43.loose) (d := HandSHeadRun.topDef (OpenLaw.row PySem.Challenge.rw_steppedtests_k43_ratios_built).prog 18) (kwd := []) Zk43.ob_eq
    (by kernel_rfl) (fun s => by kernel_rfl) Zk43.run (by kernel_rfl) (by kernel_rfl) (by kernel_rfl) (by rfl) (by first | assumption | decide +kernel) (by decide +kernel) ⟨rfl, rfl, rfl, rfl, rfl, by decide +kernel⟩ ?hw ?hc
  case hw => w_witness2
  case hc =>
    refine LamX.walk_ofTsE (l := PySem.Challenge.rw_steppedtests_k43_ratios_built) (n := 63) (k := 6) (x := "_law_script") (CX := fun w => L2.CX (PySem.Challenge.rw_steppedtests_k43_ratios_built).prog w) rfl (by decide) (by kernel_rfl) ⟨rfl, by decide, by decide⟩ ?F (fun w H s e s' => DD.cx_end _ w H s e s')
    intro w mg fa h Y G hmg0
    obtain ⟨K, KX, ct, cx, tt⟩ := Y
    have hmg : mg ("law" : PySem.Str) = some (.ref fa) := by
      have e : (HandSHeadRun.topDef (OpenLaw.row PySem.Challenge.rw_steppedtests_k43_ratios_built).prog 18).name = ("law" : PySem.Str) := by kernel_rfl
      rw [← e]
      exact hmg0
    have T := Zk43.tx_of KX G ct.d cx
    have e := hmg.symm.trans T.g_law
    cases e
    exact ⟨K, KX, Zk43.law_ok T Zk43.law_true⟩
