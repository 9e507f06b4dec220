import PyProof.Rows.All
import Wide.All
import OpenK.AllK
import Wide.FinOn
import HandS.ForMost
import HandS.ForExc
import HandS.ForSpec
import KE.KeyNested
import HandS.Lambda
import HandS.NoneIn
import HandS.CallSlots
import HandS.Defaults
import HandS.Wide
import HandS.IsInst
import PyProof.Rows.InDataRows
import HandS.TupAny
import HandS.Flow
import HandS.HeadHook4
import HandS.HeadWalk
import HandS.Head2
import HandS.Star
import HandS.WordsExc
import KE.KOpsOwn
import HandS.Sort
import PyProof.ListRange
import HandS.ExcInit
import HandS.ExcField
import HandS.ExcIs
import HandS.TryOnly
import HandS.TryMany
import KE.KExcIs
import HandS.Style
import HandS.MakeKwOnly
import PyProof.CollectIter
import PyProof.WalksMore
import HandS.ExcValue
import KE.GoesMore
import KE.GoesEnum
import HandS.More
import HandS.RaiseMore
import PyProof.ExcBaseAll.ValueError
import HandS.Rev
import HandS.Zip
import HandS.SortInts
import HandS.Conv
import HandS.DictComp
import KE.GoesZip
import KE.LtData
import HandS.TupMul
import PyProof.Rows.Range3
import PyProof.Conv_bool
import KE.DataFind
import HandS.Nested
import HandS.HotCalls
import KE.KTupSum
import PyProof.DictDisplay
import HandS.GenList
import PyProof.Rows.TupIter
import HandS.SetBool
import HandS.Strs
import PyProof.SetRoads
import HandS.Property
import HandS.FStr
import KE.KCallOwn
import HandS.Text
import HandS.Codes
import HandS.Iter
import HandS.SortKw
import KE.GoesEnumKw
import KE.BitLaws
import PySem.Challenge.RW_steppedtests_k72_web_written_and_read
set_option Elab.async false
set_option linter.all false
set_option maxRecDepth 100000
set_option maxHeartbeats 2000000
/-! A layer of pure values and a small store over the hand layer: every def is turned into a function of values. -/
namespace DD
open PySem PySem.Spec PyProof.Rows L2
/-- a value: what never changes is held as it is; what changes stands in the store -/
inductive W where
  | non | bl (b : Bool) | int (i : Int) | str (x : Str)
  | ref (i : Nat)
  | tup (l : List W) | lst (l : List W) | scr (l : List W)
  | dic (ks : List Key) (l : List W)
  | dn (ks l : List W)
  | obj (c : Nat) (ns : List Str) (l : List W)
  | cls (c : Nat) | ty (n : String)
  | lam
  | exn (c : Nat) (ns : List Str) (l : List W)
/-- an object of the store -/
inductive O where
  | dead
  | lst (l : List W)
  | dic (ks : List Key) (l : List W)
  | dn (ks l : List W)
  | ins (c : Nat) (ns : List Str) (l : List W)
abbrev Sto := List O
mutual
def lowW (n : Nat) : W → Bool
  | .ref i => decide (i < n)
  | .tup l => lowL n l
  | .lst l => lowL n l
  | .scr l => lowL n l
  | .dic _ l => lowL n l
  | .dn ks l => lowL n ks && lowL n l
  | .obj _ _ l => lowL n l
  | .exn _ _ l => lowL n l
  | _ => true
def lowL (n : Nat) : List W → Bool
  | [] => true
  | w :: l => lowW n w && lowL n l
end
def lowO (n : Nat) : O → Bool
  | .dead => true
  | .lst l => lowL n l
  | .dic _ l => lowL n l
  | .dn ks l => lowL n ks && lowL n l
  | .ins _ _ l => lowL n l
/-- where the store's things lie; and things in the making, that nothing may lean on -/
structure Rh where
  f : Nat → Addr
  z : Addr → Prop
instance : CoeFun Rh (fun _ => Nat → Addr) := ⟨Rh.f⟩
/-- the live addresses -/
def Lv (S : Sto) (r : Rh) (a : Addr) : Prop := (∃ i o, S[i]? = some o ∧ o ≠ .dead ∧ r i = a) ∨ r.z a
/-- a lambda that has been handed on: its function object, what is tracked, what is known to be at which address, what it has caught -/
structure LI where
  f : Addr
  own : List (Addr × HO)
  keep : List (Addr × Obj)
  ws : List W
  vs : List V
/-- an object as it stands -/
def PinO (p : Addr × Obj) : HO := .frz p.2 (.ext fun h => h.get? p.1 = some p.2)
/-- where one stands: the written part and the classes -/
structure Gx where
  K : PySem.W.Frag
  cm : Nat → Addr
  w : World
  /-- the tables of the defs that make lambdas: where, and the lambdas' name -/
  T : List (Addr × Str) := []
  /-- the lambda that has been handed on -/
  lm : Option Addr := none
  /-- what is told of it -/
  li : Option LI := none
/-- an error's object as it stands -/
def ExV (a : Addr) (oe : Obj) : HO := .ext fun h => h.get? a = some oe
/-- what may be held by a value or the store -/
def Kd : HO → Prop
  | .tbl _ => False
  | .frz _ (.ext _) => False
  | _ => True
/-- no table -/
def Nt : HO → Prop
  | .tbl _ => False
  | _ => True
theorem Kd.nt {u : HO} (h : Kd u) : Nt u := by
  cases u <;> first | exact trivial | exact h
/-! ### dicts whose keys are tuples, nested -/
mutual
/-- a value as a key -/
def nkW : W → Option NestedKey
  | .non => some .none
  | .bl b => some (.num (if b then 1 else 0))
  | .int i => some (.num i)
  | .str x => some (.text x)
  | .tup l => (nkL l).map .tup
  | _ => none
def nkL : List W → Option (List NestedKey)
  | [] => some []
  | w :: l => match nkW w, nkL l with
    | some k, some ks => some (k :: ks)
    | _, _ => none
end
/-- a row of such a dict: the key, where it lies, the value -/
abbrev Row := NestedKey × Addr × V
def rowE (w : World) (x : NestedKey × Addr × Value) : DictEntry := ⟨x.1.hash w, .ref x.2.1, x.2.2⟩
abbrev RowsR : List Row → List (NestedKey × Addr × Value) → Prop := Paired fun p q => p.1 = q.1 ∧ p.2.1 = q.2.1 ∧ RelV p.2.2 q.2.2
def DnAt (w : World) (a : Addr) (rows : List Row) (ob : Obj) (h : Heap) : Prop := h.get? a = some ob ∧ rows.length ≤ sizeLine ∧ (a == sysModules) = false ∧ ∃ xs : List (NestedKey × Addr × Value), RowsR rows xs ∧ (∀ x ∈ xs, x.1.depth ≤ 8) ∧
  ∃ es ep, ob.ExactDict ∧ ob.data = .dict es ep ∧ es.toList = xs.map (rowE w) ∧ (xs.map (·.1)).Nodup
def DnO (w : World) (a : Addr) (rows : List Row) (ob : Obj) : HO := .ext (DnAt w a rows ob)
/-- the keys of the rows, as values -/
def NkOk (ks : List W) (rows : List Row) : Prop := ks.map nkW = rows.map fun x => some x.1
section
variable (G : Gx) (H : Hp) (S : Sto) (r : Rh)
/-- a thing at a that no store reaches -/
def Own (a : Addr) (u : HO) : Prop := H a = some u ∧ ¬ Lv S r a
def TupAt (a : Addr) (vs : List V) : Prop := Own H S r a (.tup vs) ∨ ∃ (o : Obj) (its : Array Value) (n : Nat), G.K.lookup a = some o ∧ o.cls = .type "tuple" ∧ o.data = .seq its n ∧ its.size ≤ sizeLine ∧ Vals vs its.toList
def ScrAt (a : Addr) (vs : List V) : Prop := (∃ o, Own H S r a (.frz o (.lst vs))) ∨ Own H S r a (.lst vs) ∨ ∃ (o : Obj) (its : Array Value) (n : Nat), G.K.lookup a = some o ∧ o.cls = .type "list" ∧ o.dict = none ∧ o.data = .seq its n ∧ its.size ≤ sizeLine ∧ Vals vs its.toList
mutual
inductive RW : W → V → Prop
  | non : RW .non .non
  | bl (b : Bool) : RW (.bl b) (.bl b)
  | int (i : Int) : RW (.int i) (.int i)
  | str (x : Str) : RW (.str x) (.str x)
  | ref {i : Nat} : i < S.length → RW (.ref i) (.ref (r i))
  | tup {a : Addr} {ws : List W} {vs : List V} : TupAt G H S r a vs → RWs ws vs → RW (.tup ws) (.ref a)
  | lst {a : Addr} {ws : List W} {vs : List V} : Own H S r a (.lst vs) → RWs ws vs → RW (.lst ws) (.ref a)
  | scr {a : Addr} {ws : List W} {vs : List V} : ScrAt G H S r a vs → RWs ws vs → RW (.scr ws) (.ref a)
  | dic {a : Addr} {ks : List Key} {ws : List W} {vs : List V} : Own H S r a (.dK (ks.zip vs)) → ks.length = ws.length → RWs ws vs → RW (.dic ks ws) (.ref a)
  | dn {a : Addr} {rows : List Row} {ob : Obj} {ks ws : List W} : Own H S r a (DnO G.w a rows ob) → NkOk ks rows → RWs ks (rows.map fun x => .ref x.2.1) → RWs ws (rows.map fun x => x.2.2) → RW (.dn ks ws) (.ref a)
  | obj {a dx : Addr} {c : Nat} {ns : List Str} {ws : List W} {vs : List V} : Own H S r a (.ins (G.cm c) dx (ns.zip vs)) → ns.length = ws.length → RWs ws vs → RW (.obj c ns ws) (.ref a)
  | cls (c : Nat) : RW (.cls c) (.ref (G.cm c))
  | ty (n : String) : RW (.ty n) (.ty n)
  | lam {f : Addr} : G.lm = some f → RW .lam (.ref f)
  | exn {a : Addr} {oe : Obj} {c : Nat} {ns : List Str} {ws : List W} {vs : List V} : Own H S r a (ExV a oe) → oe.cls = .ref (G.cm c) → (∃ fs, oe.data = .fields fs) → (ns = [] ∧ ws = [] ∧ oe.dict = none ∨ ∃ dx, oe.dict = some dx ∧ Own H S r dx (.xd (ns.zip vs)) ∧ ns.length = ws.length) → RWs ws vs → RW (.exn c ns ws) (.ref a)
inductive RWs : List W → List V → Prop
  | nil : RWs [] []
  | cons {w : W} {ws : List W} {v : V} {vs : List V} : RW w v → RWs ws vs → RWs (w :: ws) (v :: vs)
end
/-- an object of the store at a and what stands for it -/
inductive RO (a : Addr) : O → HO → Prop
  | lst {ws : List W} {vs : List V} : RWs G H S r ws vs → RO a (.lst ws) (.lst vs)
  | dic {ks : List Key} {ws : List W} {vs : List V} : ks.length = ws.length → RWs G H S r ws vs → RO a (.dic ks ws) (.dK (ks.zip vs))
  | dn {rows : List Row} {ob : Obj} {ks ws : List W} : NkOk ks rows → RWs G H S r ks (rows.map fun x => .ref x.2.1) → RWs G H S r ws (rows.map fun x => x.2.2) → RO a (.dn ks ws) (DnO G.w a rows ob)
  | ins {c : Nat} {dx : Addr} {ns : List Str} {ws : List W} {vs : List V} : ns.length = ws.length → RWs G H S r ws vs → RO a (.ins c ns ws) (.ins (G.cm c) dx (ns.zip vs))
/-- a code table: the code objects that it tells bear the name q -/
def TabR (P : Addr) (q : Str) : Prop := ∃ ps : Array Value, Own H S r P (.tbl ps) ∧ PySem.TriplesOk ps.toList ∧ ∀ (pos : Pos) (cv : Value), PySem.codeAmong pos ps.toList = some cv → ∃ c, cv = .ref c ∧ Own H S r c (LamX.CodeO c q)
/-- the lambda that has been handed on stands -/
def LamR (li : LI) : Prop := (∀ p ∈ li.keep, Own H S r p.1 (PinO p)) ∧ (∀ p ∈ li.own, Kd p.2 ∧ Own H S r p.1 p.2) ∧ RWs G H S r li.ws li.vs ∧ ∀ n, lowL n li.ws = true
/-- the store stands -/
structure Rl : Prop where
  at_ : ∀ i o, S[i]? = some o → o ≠ .dead → ∃ ho, H (r i) = some ho ∧ RO G H S r (r i) o ho
  inj : ∀ i j o u, S[i]? = some o → o ≠ .dead → S[j]? = some u → u ≠ .dead → r i = r j → i = j
  zs : ∀ a, r.z a → ∃ o, H a = some o
  dz : ∀ i o, S[i]? = some o → o ≠ .dead → ¬ r.z (r i)
  tab : ∀ p ∈ G.T, TabR H S r p.1 p.2
  lam : ∀ li, G.li = some li → LamR G H S r li
end
/-- from one state to a later one -/
structure Ev (H : Hp) (S : Sto) (r : Rh) (H' : Hp) (S' : Sto) (r' : Rh) : Prop where
  len : S.length ≤ S'.length
  rho : ∀ i, i < S.length → r' i = r i
  keep : ∀ a o, Nt o → H a = some o → ¬ Lv S r a → H' a = some o
  tbs : ∀ a ps, H a = some (.tbl ps) → ¬ Lv S r a → ∃ more, H' a = some (.tbl (ps ++ more))
  live : ∀ a, Lv S' r' a → Lv S r a ∨ H a = none
  zz : r'.z = r.z
  kz : ∀ a o, H a = some o → r.z a → H' a = some o
theorem Ev.refl {H : Hp} {S : Sto} {r : Rh} : Ev H S r H S r := ⟨Nat.le_refl _, fun _ _ => rfl, fun _ _ _ e _ => e, fun _ _ e _ => ⟨#[], by simpa using e⟩, fun _ l => .inl l, rfl, fun _ _ e _ => e⟩
theorem Ev.trans {H H1 H2 : Hp} {S S1 S2 : Sto} {r r1 r2 : Rh} (a : Ev H S r H1 S1 r1) (b : Ev H1 S1 r1 H2 S2 r2) : Ev H S r H2 S2 r2 where
  len := Nat.le_trans a.len b.len
  rho := fun i hi => (b.rho i (Nat.lt_of_lt_of_le hi a.len)).trans (a.rho i hi)
  keep := fun c o nt e n => b.keep c o nt (a.keep c o nt e n) fun l => (a.live c l).elim n fun z => by rw [e] at z; cases z
  tbs := fun c ps e n => by
    obtain ⟨m1, e1⟩ := a.tbs c ps e n
    obtain ⟨m2, e2⟩ := b.tbs c _ e1 fun l => (a.live c l).elim n fun z => by rw [e] at z; cases z
    exact ⟨m1 ++ m2, by rw [← Array.append_assoc]; exact e2⟩
  live := fun c l => by
    rcases b.live c l with l | z
    · exact a.live c l
    · by_cases l1 : Lv S r c
      · exact .inl l1
      · cases e : H c with
        | none => exact .inr rfl
        | some o =>
          by_cases nt : Nt o
          · have := a.keep c o nt e l1
            rw [z] at this; cases this
          · cases o with
            | tbl ps =>
              obtain ⟨more, this⟩ := a.tbs c ps e l1
              rw [z] at this; cases this
            | _ => exact absurd trivial nt
  zz := b.zz.trans a.zz
  kz := fun c o e z => b.kz c o (a.kz c o e z) (by rw [a.zz]; exact z)
section
variable {G : Gx} {H H' : Hp} {S S' : Sto} {r r' : Rh}
theorem Own.ev {a : Addr} {u : HO} (o : Own H S r a u) (e : Ev H S r H' S' r') (nt : Nt u := by exact trivial) : Own H' S' r' a u :=
  ⟨e.keep a u nt o.1 o.2, fun l => (e.live a l).elim o.2 fun z => by rw [o.1] at z; cases z⟩
theorem TupAt.ev {a : Addr} {vs : List V} (t : TupAt G H S r a vs) (e : Ev H S r H' S' r') : TupAt G H' S' r' a vs := by
  rcases t with t | t
  · exact .inl (t.ev e)
  · exact .inr t
theorem ScrAt.ev {a : Addr} {vs : List V} (t : ScrAt G H S r a vs) (e : Ev H S r H' S' r') : ScrAt G H' S' r' a vs := by
  rcases t with ⟨o, t⟩ | t | t
  · exact .inl ⟨o, t.ev e⟩
  · exact .inr (.inl (t.ev e))
  · exact .inr (.inr t)
theorem TupAt.sq {a : Addr} {vs : List V} (t : TupAt G H S r a vs) : SqT G.K H a vs := by
  rcases t with t | t
  · exact .inl (.inl t.1)
  · exact .inr t
theorem ScrAt.sq {a : Addr} {vs : List V} (t : ScrAt G H S r a vs) : SqL G.K H a vs := by
  rcases t with ⟨o, t⟩ | t | t
  · exact .inl (.inr ⟨o, t.1⟩)
  · exact .inl (.inl t.1)
  · exact .inr t
/-- what a later state must keep for values to stay -/
structure Mp (H : Hp) (S : Sto) (r : Rh) (H' : Hp) (S' : Sto) (r' : Rh) : Prop where
  own : ∀ a u, Own H S r a u → (k : Kd u := by exact trivial) → Own H' S' r' a u
  rho : ∀ i, i < S.length → r' i = r i
  len : S.length ≤ S'.length
theorem Ev.mp (e : Ev H S r H' S' r') : Mp H S r H' S' r' := ⟨fun a u o k => o.ev e k.nt, e.rho, e.len⟩
theorem Mp.trans {H2 : Hp} {S2 : Sto} {r2 : Rh} (a : Mp H S r H' S' r') (b : Mp H' S' r' H2 S2 r2) : Mp H S r H2 S2 r2 :=
  ⟨fun c u o k => b.own c u (a.own c u o k) k, fun i hi => (b.rho i (Nat.lt_of_lt_of_le hi a.len)).trans (a.rho i hi), Nat.le_trans a.len b.len⟩
theorem TupAt.mp {a : Addr} {vs : List V} (t : TupAt G H S r a vs) (e : Mp H S r H' S' r') : TupAt G H' S' r' a vs := by
  rcases t with t | t
  · exact .inl (e.own _ _ t)
  · exact .inr t
theorem ScrAt.mp {a : Addr} {vs : List V} (t : ScrAt G H S r a vs) (e : Mp H S r H' S' r') : ScrAt G H' S' r' a vs := by
  rcases t with ⟨o, t⟩ | t | t
  · exact .inl ⟨o, e.own _ _ t⟩
  · exact .inr (.inl (e.own _ _ t))
  · exact .inr (.inr t)
mutual
theorem RW.mp {w : W} {v : V} (e : Mp H S r H' S' r') : RW G H S r w v → RW G H' S' r' w v
  | .non => .non
  | .bl b => .bl b
  | .int i => .int i
  | .str x => .str x
  | .ref (i := i) h => by
    rw [← e.rho i h]
    exact .ref (Nat.lt_of_lt_of_le h e.len)
  | .tup h q => .tup (h.mp e) (RWs.mp e q)
  | .lst h q => .lst (e.own _ _ h) (RWs.mp e q)
  | .scr h q => .scr (h.mp e) (RWs.mp e q)
  | .dic h l q => .dic (e.own _ _ h) l (RWs.mp e q)
  | .dn h l q q2 => .dn (e.own _ _ h) l (RWs.mp e q) (RWs.mp e q2)
  | .obj h l q => .obj (e.own _ _ h) l (RWs.mp e q)
  | .cls c => .cls c
  | .ty n => .ty n
  | .lam h => .lam h
  | .exn h1 h2 h3 h4 q => .exn (e.own _ _ h1) h2 h3 (h4.imp id fun ⟨dx, e1, o, l⟩ => ⟨dx, e1, e.own _ _ o, l⟩) (RWs.mp e q)
theorem RWs.mp {w : List W} {v : List V} (e : Mp H S r H' S' r') : RWs G H S r w v → RWs G H' S' r' w v
  | .nil => .nil
  | .cons a b => .cons (RW.mp e a) (RWs.mp e b)
end
theorem RW.ev {w : W} {v : V} (q : RW G H S r w v) (e : Ev H S r H' S' r') : RW G H' S' r' w v := q.mp e.mp
theorem RWs.ev {w : List W} {v : List V} (q : RWs G H S r w v) (e : Ev H S r H' S' r') : RWs G H' S' r' w v := q.mp e.mp
theorem RWs.length : ∀ {ws : List W} {vs : List V}, RWs G H S r ws vs → ws.length = vs.length
  | _, _, .nil => rfl
  | _, _, .cons _ t => congrArg Nat.succ t.length
theorem RWs.get : ∀ {ws : List W} {vs : List V} {i : Nat} {w : W}, RWs G H S r ws vs → ws[i]? = some w → ∃ v, vs[i]? = some v ∧ RW G H S r w v
  | _, _, _, _, .nil, e => by simp at e
  | _, _, 0, _, .cons a _, e => by simp at e; subst e; exact ⟨_, rfl, a⟩
  | _, _, i + 1, w, .cons _ t, e => by
    obtain ⟨v, h1, h2⟩ := RWs.get (i := i) (w := w) t (by simpa using e)
    exact ⟨v, by simpa using h1, h2⟩
theorem RWs.append : ∀ {ws us : List W} {vs xs : List V}, RWs G H S r ws vs → RWs G H S r us xs → RWs G H S r (ws ++ us) (vs ++ xs)
  | _, _, _, _, .nil, q => q
  | _, _, _, _, .cons a t, q => .cons a (t.append q)
theorem RWs.take : ∀ {ws : List W} {vs : List V} (n : Nat), RWs G H S r ws vs → RWs G H S r (ws.take n) (vs.take n)
  | _, _, 0, _ => .nil
  | _, _, _ + 1, .nil => .nil
  | _, _, n + 1, .cons a t => .cons a (t.take n)
theorem RWs.drop : ∀ {ws : List W} {vs : List V} (n : Nat), RWs G H S r ws vs → RWs G H S r (ws.drop n) (vs.drop n)
  | _, _, 0, q => q
  | _, _, _ + 1, .nil => .nil
  | _, _, n + 1, .cons _ t => t.drop n
theorem RWs.set {w : W} {v : V} (q : RW G H S r w v) : ∀ {ws : List W} {vs : List V} (i : Nat), RWs G H S r ws vs → RWs G H S r (ws.set i w) (vs.set i v)
  | _, _, _, .nil => .nil
  | _, _, 0, .cons _ t => .cons q t
  | _, _, i + 1, .cons a t => .cons a (t.set q i)
theorem RWs.snoc {ws : List W} {vs : List V} {w : W} {v : V} (q : RWs G H S r ws vs) (a : RW G H S r w v) : RWs G H S r (ws ++ [w]) (vs ++ [v]) := q.append (.cons a .nil)
/-- a fresh thing that no store holds -/
theorem Ev.fresh {p : Addr} {o : HO} (x : H p = none) (rl : Rl G H S r) : Ev H S r (upd H p o) S r where
  len := Nat.le_refl _
  rho := fun _ _ => rfl
  keep := fun a u _ e _ => by rw [upd_ne (ne_of_none e x)]; exact e
  tbs := fun a ps e _ => ⟨#[], by rw [upd_ne (ne_of_none e x)]; simpa using e⟩
  live := fun _ l => .inl l
  zz := rfl
  kz := fun a u e _ => by rw [upd_ne (ne_of_none e x)]; exact e
theorem Rl.notLv {p : Addr} (rl : Rl G H S r) (x : H p = none) : ¬ Lv S r p := by
  rintro (⟨i, o, e, d, z⟩ | z)
  · obtain ⟨ho, h1, _⟩ := rl.at_ i o e d
    rw [z, x] at h1; cases h1
  · obtain ⟨o, h⟩ := rl.zs p z
    rw [x] at h; cases h
theorem RO.mp {a : Addr} {o : O} {ho : HO} (q : RO G H S r a o ho) (e : Mp H S r H' S' r') : RO G H' S' r' a o ho := by
  cases q with
  | lst q => exact .lst (q.mp e)
  | dic l q => exact .dic l (q.mp e)
  | dn l q q2 => exact .dn l (q.mp e) (q2.mp e)
  | ins l q => exact .ins l (q.mp e)
theorem RO.ev {a : Addr} {o : O} {ho : HO} (q : RO G H S r a o ho) (e : Ev H S r H' S' r') : RO G H' S' r' a o ho := q.mp e.mp
theorem TabR.mo {P : Addr} {q : Str} (t : TabR H S r P q) (m : ∀ a u, Own H S r a u → Own H' S' r' a u) : TabR H' S' r' P q := by
  obtain ⟨ps, h1, h2, h3⟩ := t
  exact ⟨ps, m _ _ h1, h2, fun pos cv hc => let ⟨c, e1, o⟩ := h3 pos cv hc; ⟨c, e1, m _ _ o⟩⟩
theorem LamR.mo {li : LI} (t : LamR G H S r li) (m : ∀ a u, Own H S r a u → Own H' S' r' a u) (h1 : ∀ i, i < S.length → r' i = r i) (h2 : S.length ≤ S'.length) : LamR G H' S' r' li :=
  ⟨fun p hp => m _ _ (t.1 p hp), fun p hp => ⟨(t.2.1 p hp).1, m _ _ (t.2.1 p hp).2⟩, t.2.2.1.mp ⟨fun a u ow _ => m a u ow, h1, h2⟩, t.2.2.2⟩
theorem Own.up {p a : Addr} {o u : HO} (x : H p = none) (ow : Own H S r a u) : Own (upd H p o) S r a u := ⟨by rw [upd_ne (ne_of_none ow.1 x)]; exact ow.1, ow.2⟩
theorem Rl.fresh {p : Addr} {o : HO} (x : H p = none) (rl : Rl G H S r) : Rl G (upd H p o) S r where
  at_ := fun i u e d => by
    obtain ⟨ho, h1, h2⟩ := rl.at_ i u e d
    exact ⟨ho, by rw [upd_ne (ne_of_none h1 x)]; exact h1, h2.ev (Ev.fresh x rl)⟩
  inj := rl.inj
  zs := fun a z => by
    obtain ⟨u, h⟩ := rl.zs a z
    exact ⟨u, by rw [upd_ne (ne_of_none h x)]; exact h⟩
  dz := rl.dz
  tab := fun p hp => (rl.tab p hp).mo fun _ _ ow => ow.up x
  lam := fun li e => (rl.lam li e).mo (fun _ _ ow => ow.up x) (fun _ _ => rfl) (Nat.le_refl _)
theorem Own.new {p : Addr} {o : HO} (x : H p = none) (rl : Rl G H S r) : Own (upd H p o) S r p o := ⟨upd_same, rl.notLv x⟩
/-- a new thing of the store -/
def put (r : Rh) (n : Nat) (p : Addr) : Rh := ⟨fun i => if i = n then p else r i, r.z⟩
theorem put_same {n : Nat} {p : Addr} : put r n p n = p := if_pos rfl
theorem put_ne {n i : Nat} {p : Addr} (h : i ≠ n) : put r n p i = r i := if_neg h
theorem lv_snoc {p a : Addr} {o : O} (l : Lv (S ++ [o]) (put r S.length p) a) : Lv S r a ∨ a = p := by
  rcases l with ⟨i, u, e, d, z⟩ | z
  case inr => exact .inl (.inr z)
  by_cases hi : i < S.length
  · rw [List.getElem?_append_left hi] at e
    rw [put_ne (Nat.ne_of_lt hi)] at z
    exact .inl (.inl ⟨i, u, e, d, z⟩)
  · have := (List.getElem?_eq_some_iff.mp e).1
    simp only [List.length_append, List.length_cons, List.length_nil] at this
    have hi : i = S.length := by omega
    subst hi
    rw [put_same] at z
    exact .inr z.symm
theorem Ev.snoc {p : Addr} {o : O} {ho : HO} (x : H p = none) : Ev H S r (upd H p ho) (S ++ [o]) (put r S.length p) where
  len := by rw [List.length_append]; exact Nat.le_add_right _ _
  rho := fun i hi => put_ne (Nat.ne_of_lt hi)
  keep := fun a u _ e _ => by rw [upd_ne (ne_of_none e x)]; exact e
  tbs := fun a ps e _ => ⟨#[], by rw [upd_ne (ne_of_none e x)]; simpa using e⟩
  live := fun a l => by
    rcases lv_snoc l with l | rfl
    · exact .inl l
    · exact .inr x
  zz := rfl
  kz := fun a u e _ => by rw [upd_ne (ne_of_none e x)]; exact e
theorem Own.snoc {p a : Addr} {o : O} {ho u : HO} (x : H p = none) (ow : Own H S r a u) : Own (upd H p ho) (S ++ [o]) (put r S.length p) a u :=
  ⟨by rw [upd_ne (ne_of_none ow.1 x)]; exact ow.1, fun l => (lv_snoc l).elim ow.2 fun e => by have q := ow.1; rw [e, x] at q; cases q⟩
theorem Rl.snoc {p : Addr} {o : O} {ho : HO} (x : H p = none) (rl : Rl G H S r) (n : RO G H S r p o ho) : Rl G (upd H p ho) (S ++ [o]) (put r S.length p) where
  at_ := fun i u e d => by
    by_cases hi : i < S.length
    · rw [List.getElem?_append_left hi] at e
      obtain ⟨hu, h1, h2⟩ := rl.at_ i u e d
      exact ⟨hu, by rw [put_ne (Nat.ne_of_lt hi), upd_ne (ne_of_none h1 x)]; exact h1, by rw [put_ne (Nat.ne_of_lt hi)]; exact h2.ev (Ev.snoc x)⟩
    · have := (List.getElem?_eq_some_iff.mp e).1
      simp only [List.length_append, List.length_cons, List.length_nil] at this
      have hi : i = S.length := by omega
      subst hi
      have e : u = o := by simpa using e.symm
      subst e
      exact ⟨ho, by rw [put_same]; exact upd_same, by rw [put_same]; exact n.ev (Ev.snoc x)⟩
  inj := fun i j o1 o2 e1 d1 e2 d2 z => by
    have key : ∀ (k : Nat) (u : O), (S ++ [o])[k]? = some u → u ≠ .dead → (k < S.length ∧ S[k]? = some u) ∨ k = S.length := fun k u e d => by
      by_cases hk : k < S.length
      · rw [List.getElem?_append_left hk] at e; exact .inl ⟨hk, e⟩
      · have := (List.getElem?_eq_some_iff.mp e).1
        simp only [List.length_append, List.length_cons, List.length_nil] at this
        exact .inr (by omega)
    rcases key i o1 e1 d1 with ⟨hi, a1⟩ | hi
    · rcases key j o2 e2 d2 with ⟨hj, a2⟩ | hj
      · rw [put_ne (Nat.ne_of_lt hi), put_ne (Nat.ne_of_lt hj)] at z
        exact rl.inj i j o1 o2 a1 d1 a2 d2 z
      · subst hj
        rw [put_ne (Nat.ne_of_lt hi), put_same] at z
        obtain ⟨hu, h1, _⟩ := rl.at_ i o1 a1 d1
        rw [z, x] at h1; cases h1
    · rcases key j o2 e2 d2 with ⟨hj, a2⟩ | hj
      · subst hi
        rw [put_ne (Nat.ne_of_lt hj), put_same] at z
        obtain ⟨hu, h1, _⟩ := rl.at_ j o2 a2 d2
        rw [← z, x] at h1; cases h1
      · omega
  zs := fun a z => by
    obtain ⟨u, h⟩ := rl.zs a z
    exact ⟨u, by rw [upd_ne (ne_of_none h x)]; exact h⟩
  dz := fun i u e d => by
    by_cases hi : i < S.length
    · rw [List.getElem?_append_left hi] at e
      rw [put_ne (Nat.ne_of_lt hi)]
      exact rl.dz i u e d
    · have := (List.getElem?_eq_some_iff.mp e).1
      simp only [List.length_append, List.length_cons, List.length_nil] at this
      have hi : i = S.length := by omega
      subst hi
      rw [put_same]
      intro z
      obtain ⟨u, h⟩ := rl.zs p z
      rw [x] at h; cases h
  tab := fun q hq => (rl.tab q hq).mo fun _ _ ow => ow.snoc x
  lam := fun li e => (rl.lam li e).mo (fun _ _ ow => ow.snoc x) (fun i hi => put_ne (Nat.ne_of_lt hi)) (by rw [List.length_append]; exact Nat.le_add_right _ _)
/-- a thing of the store changes -/
theorem lv_set {i : Nat} {o u : O} {a : Addr} (e : S[i]? = some u) (d : u ≠ .dead) (l : Lv (S.set i o) r a) : Lv S r a := by
  rcases l with ⟨j, x, e1, d1, z⟩ | z
  case inr => exact .inr z
  by_cases hj : i = j
  · subst hj
    exact .inl ⟨i, u, e, d, z⟩
  · rw [List.getElem?_set_ne hj] at e1
    exact .inl ⟨j, x, e1, d1, z⟩
theorem Ev.set {i : Nat} {o u : O} {ho : HO} (rl : Rl G H S r) (e : S[i]? = some u) (d : u ≠ .dead) : Ev H S r (upd H (r i) ho) (S.set i o) r where
  len := by rw [List.length_set]; exact Nat.le_refl _
  rho := fun _ _ => rfl
  keep := fun a x _ h n => by rw [upd_ne fun z => n (.inl ⟨i, u, e, d, z.symm⟩)]; exact h
  tbs := fun a ps h n => ⟨#[], by rw [upd_ne fun z => n (.inl ⟨i, u, e, d, z.symm⟩)]; simpa using h⟩
  live := fun a l => .inl (lv_set e d l)
  zz := rfl
  kz := fun a x h z => by rw [upd_ne fun q => rl.dz i u e d (by rw [← q]; exact z)]; exact h
theorem Own.set {i : Nat} {a : Addr} {o u : O} {ho v : HO} (e : S[i]? = some u) (d : u ≠ .dead) (ow : Own H S r a v) : Own (upd H (r i) ho) (S.set i o) r a v :=
  ⟨by rw [upd_ne fun z => ow.2 (.inl ⟨i, u, e, d, z.symm⟩)]; exact ow.1, fun l => ow.2 (lv_set e d l)⟩
theorem Rl.set {i : Nat} {o u : O} {ho : HO} (rl : Rl G H S r) (e : S[i]? = some u) (d : u ≠ .dead) (n : RO G H S r (r i) o ho) : Rl G (upd H (r i) ho) (S.set i o) r where
  at_ := fun j x e1 d1 => by
    by_cases hj : i = j
    · subst hj
      have hl : i < S.length := (List.getElem?_eq_some_iff.mp e).1
      rw [List.getElem?_set_self hl] at e1
      cases e1
      exact ⟨ho, upd_same, n.ev (Ev.set rl e d)⟩
    · rw [List.getElem?_set_ne hj] at e1
      obtain ⟨hx, h1, h2⟩ := rl.at_ j x e1 d1
      exact ⟨hx, by rw [upd_ne fun z => hj (rl.inj i j u x e d e1 d1 z.symm)]; exact h1, h2.ev (Ev.set rl e d)⟩
  inj := fun j k o1 o2 e1 d1 e2 d2 z => by
    have key : ∀ (k : Nat) (y : O), (S.set i o)[k]? = some y → y ≠ .dead → ∃ y', S[k]? = some y' ∧ y' ≠ .dead := fun k y q dq => by
      by_cases hk : i = k
      · subst hk; exact ⟨u, e, d⟩
      · rw [List.getElem?_set_ne hk] at q; exact ⟨y, q, dq⟩
    obtain ⟨y1, a1, b1⟩ := key j o1 e1 d1
    obtain ⟨y2, a2, b2⟩ := key k o2 e2 d2
    exact rl.inj j k y1 y2 a1 b1 a2 b2 z
  zs := fun a z => by
    obtain ⟨u, h⟩ := rl.zs a z
    by_cases q : a = r i
    · subst q; exact ⟨_, upd_same⟩
    · exact ⟨u, by rw [upd_ne q]; exact h⟩
  dz := fun k y q dq => by
    by_cases hk : i = k
    · subst hk; exact rl.dz i u e d
    · rw [List.getElem?_set_ne hk] at q; exact rl.dz k y q dq
  tab := fun q hq => (rl.tab q hq).mo fun _ _ ow => ow.set e d
  lam := fun li h => (rl.lam li h).mo (fun _ _ ow => ow.set e d) (fun _ _ => rfl) (by rw [List.length_set]; exact Nat.le_refl _)
end
/-! ### cutting the store, and freezing -/
section
variable {G : Gx} {H H' : Hp} {S S' : Sto} {r r' : Rh}
mutual
theorem RW.low {w : W} {v : V} : RW G H S r w v → lowW S.length w = true
  | .non => by simp [lowW]
  | .bl b => by simp [lowW]
  | .int i => by simp [lowW]
  | .str x => by simp [lowW]
  | .ref h => by simp [lowW, h]
  | .tup _ q => by simp only [lowW]; exact RWs.low q
  | .lst _ q => by simp only [lowW]; exact RWs.low q
  | .scr _ q => by simp only [lowW]; exact RWs.low q
  | .dic _ _ q => by simp only [lowW]; exact RWs.low q
  | .dn _ _ q q2 => by simp only [lowW, Bool.and_eq_true]; exact ⟨RWs.low q, RWs.low q2⟩
  | .obj _ _ q => by simp only [lowW]; exact RWs.low q
  | .cls c => by simp [lowW]
  | .ty n => by simp [lowW]
  | .lam _ => by simp [lowW]
  | .exn _ _ _ _ q => by simp only [lowW]; exact RWs.low q
theorem RWs.low {w : List W} {v : List V} : RWs G H S r w v → lowL S.length w = true
  | .nil => by simp [lowL]
  | .cons a b => by simp only [lowL, Bool.and_eq_true]; exact ⟨RW.low a, RWs.low b⟩
end
theorem Lv.cut {n : Nat} {a : Addr} (l : Lv (S.take n) r a) : Lv S r a := by
  rcases l with ⟨i, o, e, d, z⟩ | z
  case inr => exact .inr z
  rw [List.getElem?_take] at e
  split at e
  · exact .inl ⟨i, o, e, d, z⟩
  · cases e
theorem Own.cut {n : Nat} {a : Addr} {u : HO} (o : Own H S r a u) : Own H (S.take n) r a u := ⟨o.1, fun l => o.2 l.cut⟩
theorem TupAt.cut {n : Nat} {a : Addr} {vs : List V} (o : TupAt G H S r a vs) : TupAt G H (S.take n) r a vs := o.elim (fun o => .inl o.cut) .inr
theorem ScrAt.cut {n : Nat} {a : Addr} {vs : List V} (o : ScrAt G H S r a vs) : ScrAt G H (S.take n) r a vs := o.elim (fun ⟨z, o⟩ => .inl ⟨z, o.cut⟩) fun o => o.elim (fun o => .inr (.inl o.cut)) fun o => .inr (.inr o)
mutual
theorem RW.cut {n : Nat} {w : W} {v : V} (hn : n ≤ S.length) : RW G H S r w v → lowW n w = true → RW G H (S.take n) r w v
  | .non, _ => .non
  | .bl b, _ => .bl b
  | .int i, _ => .int i
  | .str x, _ => .str x
  | .ref h, l => .ref (by rw [List.length_take]; simp only [lowW, decide_eq_true_eq] at l; omega)
  | .tup h q, l => .tup h.cut (RWs.cut hn q (by simpa only [lowW] using l))
  | .lst h q, l => .lst h.cut (RWs.cut hn q (by simpa only [lowW] using l))
  | .scr h q, l => .scr h.cut (RWs.cut hn q (by simpa only [lowW] using l))
  | .dic h e q, l => .dic h.cut e (RWs.cut hn q (by simpa only [lowW] using l))
  | .dn h e q q2, l => by
    simp only [lowW, Bool.and_eq_true] at l
    exact .dn h.cut e (RWs.cut hn q l.1) (RWs.cut hn q2 l.2)
  | .obj h e q, l => .obj h.cut e (RWs.cut hn q (by simpa only [lowW] using l))
  | .cls c, _ => .cls c
  | .ty n, _ => .ty n
  | .lam h, _ => .lam h
  | .exn h1 h2 h3 h4 q, l => .exn h1.cut h2 h3 (h4.imp id fun ⟨dx, e1, o, l⟩ => ⟨dx, e1, o.cut, l⟩) (RWs.cut hn q (by simpa only [lowW] using l))
theorem RWs.cut {n : Nat} {w : List W} {v : List V} (hn : n ≤ S.length) : RWs G H S r w v → lowL n w = true → RWs G H (S.take n) r w v
  | .nil, _ => .nil
  | .cons a b, l => by
    simp only [lowL, Bool.and_eq_true] at l
    exact .cons (RW.cut hn a l.1) (RWs.cut hn b l.2)
end
theorem RO.cut {n : Nat} {a : Addr} {o : O} {ho : HO} (hn : n ≤ S.length) (q : RO G H S r a o ho) (l : lowO n o = true) : RO G H (S.take n) r a o ho := by
  cases q with
  | lst q => exact .lst (q.cut hn l)
  | dic e q => exact .dic e (q.cut hn l)
  | dn e q q2 =>
    simp only [lowO, Bool.and_eq_true] at l
    exact .dn e (q.cut hn l.1) (q2.cut hn l.2)
  | ins e q => exact .ins e (q.cut hn l)
theorem Rl.cut {n : Nat} (rl : Rl G H S r) (hn : n ≤ S.length) (l : ∀ i o, i < n → S[i]? = some o → lowO n o = true) : Rl G H (S.take n) r where
  at_ := fun i o e d => by
    rw [List.getElem?_take] at e
    split at e
    · rename_i hi
      obtain ⟨ho, h1, h2⟩ := rl.at_ i o e d
      exact ⟨ho, h1, h2.cut hn (l i o hi e)⟩
    · cases e
  inj := fun i j o u e1 d1 e2 d2 z => by
    rw [List.getElem?_take] at e1 e2
    split at e1
    · split at e2
      · exact rl.inj i j o u e1 d1 e2 d2 z
      · cases e2
    · cases e1
  zs := rl.zs
  dz := fun i o e d => by
    rw [List.getElem?_take] at e
    split at e
    · exact rl.dz i o e d
    · cases e
  tab := fun q hq => (rl.tab q hq).mo fun _ _ ow => ow.cut
  lam := fun li h => let t := rl.lam li h; ⟨fun p hp => (t.1 p hp).cut, fun p hp => ⟨(t.2.1 p hp).1, (t.2.1 p hp).2.cut⟩, t.2.2.1.cut hn (t.2.2.2 n), t.2.2.2⟩
theorem Ev.cut {n : Nat} (e : Ev H S r H' S' r') (h1 : S.length ≤ n) (h2 : n ≤ S'.length) : Ev H S r H' (S'.take n) r' where
  len := by rw [List.length_take]; omega
  rho := e.rho
  keep := e.keep
  tbs := e.tbs
  live := fun a l => e.live a l.cut
  zz := e.zz
  kz := e.kz
theorem RO.low {a : Addr} {o : O} {ho : HO} (q : RO G H S r a o ho) : lowO S.length o = true := by
  cases q with
  | lst q => exact q.low
  | dic e q => exact q.low
  | dn e q q2 => simp only [lowO, Bool.and_eq_true]; exact ⟨q.low, q2.low⟩
  | ins e q => exact q.low
theorem Rl.low {i : Nat} {o : O} (rl : Rl G H S r) (e : S[i]? = some o) : lowO S.length o = true := by
  by_cases d : o = .dead
  · subst d; rfl
  · obtain ⟨ho, _, h2⟩ := rl.at_ i o e d
    exact h2.low
/-- a thing of the store is from now on held as a value -/
theorem lv_dead {i : Nat} {a : Addr} (l : Lv (S.set i .dead) r a) : Lv S r a ∧ ((∃ j o, j ≠ i ∧ S[j]? = some o ∧ o ≠ .dead ∧ r j = a) ∨ r.z a) := by
  rcases l with ⟨j, x, e1, d1, z⟩ | z
  case inr => exact ⟨.inr z, .inr z⟩
  by_cases hj : i = j
  · subst hj
    have hl : i < (S.set i O.dead).length := (List.getElem?_eq_some_iff.mp e1).1
    rw [List.length_set] at hl
    rw [List.getElem?_set_self hl] at e1
    cases e1
    exact absurd rfl d1
  · rw [List.getElem?_set_ne hj] at e1
    exact ⟨.inl ⟨j, x, e1, d1, z⟩, .inl ⟨j, x, fun q => hj q.symm, e1, d1, z⟩⟩
theorem Ev.kill {i : Nat} : Ev H S r H (S.set i .dead) r where
  len := by rw [List.length_set]; exact Nat.le_refl _
  rho := fun _ _ => rfl
  keep := fun a x _ h n => h
  tbs := fun a ps h _ => ⟨#[], by simpa using h⟩
  live := fun a l => .inl (lv_dead l).1
  zz := rfl
  kz := fun a x h _ => h
theorem Own.kill {i : Nat} {a : Addr} {u : HO} (ow : Own H S r a u) : Own H (S.set i .dead) r a u := ⟨ow.1, fun l => ow.2 (lv_dead l).1⟩
theorem Rl.kill {i : Nat} (rl : Rl G H S r) : Rl G H (S.set i .dead) r where
  at_ := fun j x e1 d1 => by
    by_cases hj : i = j
    · subst hj
      have hl : i < (S.set i O.dead).length := (List.getElem?_eq_some_iff.mp e1).1
      rw [List.length_set] at hl
      rw [List.getElem?_set_self hl] at e1
      cases e1
      exact absurd rfl d1
    · rw [List.getElem?_set_ne hj] at e1
      obtain ⟨hx, h1, h2⟩ := rl.at_ j x e1 d1
      exact ⟨hx, h1, h2.ev Ev.kill⟩
  inj := fun j k o1 o2 e1 d1 e2 d2 z => by
    have key : ∀ (k : Nat) (y : O), (S.set i .dead)[k]? = some y → y ≠ .dead → S[k]? = some y := fun k y q dq => by
      by_cases hk : i = k
      · subst hk
        have hl : i < (S.set i O.dead).length := (List.getElem?_eq_some_iff.mp q).1
        rw [List.length_set] at hl
        rw [List.getElem?_set_self hl] at q
        cases q
        exact absurd rfl dq
      · rw [List.getElem?_set_ne hk] at q; exact q
    exact rl.inj j k o1 o2 (key j o1 e1 d1) d1 (key k o2 e2 d2) d2 z
  zs := rl.zs
  dz := fun k y q dq => by
    by_cases hk : i = k
    · subst hk
      have hl : i < (S.set i O.dead).length := (List.getElem?_eq_some_iff.mp q).1
      rw [List.length_set] at hl
      rw [List.getElem?_set_self hl] at q
      cases q
      exact absurd rfl dq
    · rw [List.getElem?_set_ne hk] at q; exact rl.dz k y q dq
  tab := fun q hq => (rl.tab q hq).mo fun _ _ ow => ow.kill
  lam := fun li h => (rl.lam li h).mo (fun _ _ ow => ow.kill) (fun _ _ => rfl) (by rw [List.length_set]; exact Nat.le_refl _)
theorem Rl.own {i : Nat} {o : O} {ho : HO} (rl : Rl G H S r) (e : S[i]? = some o) (d : o ≠ .dead) (h : H (r i) = some ho) : Own H (S.set i .dead) r (r i) ho :=
  ⟨h, fun l => by
    obtain ⟨_, ⟨j, x, hj, e1, d1, z⟩ | z⟩ := lv_dead l
    · exact hj (rl.inj j i x o e1 d1 e d z)
    · exact rl.dz i o e d z⟩
/-! ### things in the making -/
def Rh.add (r : Rh) (D : Addr) : Rh := ⟨r.f, fun a => r.z a ∨ a = D⟩
theorem Rl.add {D : Addr} {o : HO} (rl : Rl G H S r) (x : H D = none) : Rl G (upd H D o) S (r.add D) := by
  have mo : ∀ a u, Own H S r a u → Own (upd H D o) S (r.add D) a u := fun a u ow => ⟨by rw [upd_ne (ne_of_none ow.1 x)]; exact ow.1, by
    rintro (⟨i, o, e, d, z⟩ | z | z)
    · exact ow.2 (.inl ⟨i, o, e, d, z⟩)
    · exact ow.2 (.inr z)
    · exact ne_of_none ow.1 x z⟩
  have m : Mp H S r (upd H D o) S (r.add D) := ⟨fun a u ow _ => mo a u ow, fun _ _ => rfl, Nat.le_refl _⟩
  refine ⟨fun i u e d => ?_, rl.inj, fun a z => ?_, fun i u e d => ?_, fun q hq => (rl.tab q hq).mo mo, fun li h => (rl.lam li h).mo mo (fun _ _ => rfl) (Nat.le_refl _)⟩
  · obtain ⟨ho, h1, h2⟩ := rl.at_ i u e d
    exact ⟨ho, by rw [show (r.add D) i = r i from rfl, upd_ne (ne_of_none h1 x)]; exact h1, h2.mp m⟩
  · by_cases q : a = D
    · subst q; exact ⟨_, upd_same⟩
    · rcases z with z | z
      · obtain ⟨u, h⟩ := rl.zs a z
        exact ⟨u, by rw [upd_ne q]; exact h⟩
      · exact absurd z q
  · rintro (z | z)
    · exact rl.dz i u e d z
    · obtain ⟨ho, h1, h2⟩ := rl.at_ i u e d
      rw [show r.f i = D from z, x] at h1; cases h1
/-- a thing in the making is changed -/
theorem Own.poke {D a : Addr} {o u : HO} (z : r.z D) (ow : Own H S r a u) : Own (upd H D o) S r a u :=
  ⟨by rw [upd_ne fun q => ow.2 (.inr (by rw [q]; exact z))]; exact ow.1, ow.2⟩
theorem Mp.poke {D : Addr} {o : HO} (z : r.z D) : Mp H S r (upd H D o) S r :=
  ⟨fun a u ow _ => ow.poke z, fun _ _ => rfl, Nat.le_refl _⟩
theorem Rl.poke {D : Addr} {o : HO} (rl : Rl G H S r) (z : r.z D) : Rl G (upd H D o) S r := by
  refine ⟨fun i u e d => ?_, rl.inj, fun a q => ?_, rl.dz, fun q hq => (rl.tab q hq).mo fun _ _ ow => ow.poke z, fun li h => (rl.lam li h).mo (fun _ _ ow => ow.poke z) (fun _ _ => rfl) (Nat.le_refl _)⟩
  · obtain ⟨ho, h1, h2⟩ := rl.at_ i u e d
    exact ⟨ho, by rw [upd_ne fun q => rl.dz i u e d (by rw [q]; exact z)]; exact h1, h2.mp (.poke z)⟩
  · by_cases e : a = D
    · subst e; exact ⟨_, upd_same⟩
    · obtain ⟨u, h⟩ := rl.zs a q
      exact ⟨u, by rw [upd_ne e]; exact h⟩
theorem Ev.poke {D : Addr} {o : HO} (e : Ev H S r H' S' r') (x : H D = none) : Ev H S r (upd H' D o) S' r' where
  len := e.len
  rho := e.rho
  keep := fun a u nt h n => by rw [upd_ne (ne_of_none h x)]; exact e.keep a u nt h n
  tbs := fun a ps h n => by rw [upd_ne (ne_of_none h x)]; exact e.tbs a ps h n
  live := e.live
  zz := e.zz
  kz := fun a u h z => by rw [upd_ne (ne_of_none h x)]; exact e.kz a u h z
/-- fewer things in the making -/
theorem Own.less {f : Nat → Addr} {z z' : Addr → Prop} (h : ∀ a, z' a → z a) {a : Addr} {u : HO} (ow : Own H S ⟨f, z⟩ a u) : Own H S ⟨f, z'⟩ a u := ⟨ow.1, fun l => ow.2 (l.elim .inl fun q => .inr (h a q))⟩
theorem Mp.less {f : Nat → Addr} {z z' : Addr → Prop} (h : ∀ a, z' a → z a) : Mp H S ⟨f, z⟩ H S ⟨f, z'⟩ :=
  ⟨fun a u ow _ => ⟨ow.1, fun l => ow.2 (l.elim .inl fun q => .inr (h a q))⟩, fun _ _ => rfl, Nat.le_refl _⟩
theorem Rl.less {f : Nat → Addr} {z z' : Addr → Prop} (rl : Rl G H S ⟨f, z⟩) (h : ∀ a, z' a → z a) : Rl G H S ⟨f, z'⟩ :=
  ⟨fun i u e d => let ⟨ho, h1, h2⟩ := rl.at_ i u e d; ⟨ho, h1, h2.mp (.less h)⟩, rl.inj, fun a q => rl.zs a (h a q), fun i u e d q => rl.dz i u e d (h _ q), fun q hq => (rl.tab q hq).mo fun _ _ ow => ow.less h, fun li e => (rl.lam li e).mo (fun _ _ ow => ow.less h) (fun _ _ => rfl) (Nat.le_refl _)⟩
theorem Ev.less {f f' : Nat → Addr} {z z' : Addr → Prop} (e : Ev H S ⟨f, z⟩ H' S' ⟨f', z⟩) (rl : Rl G H' S' ⟨f', z⟩) (h : ∀ a, z' a → z a) : Ev H S ⟨f, z'⟩ H' S' ⟨f', z'⟩ where
  len := e.len
  rho := e.rho
  keep := fun a u nt x n => by
    by_cases q : z a
    · exact e.kz a u x q
    · exact e.keep a u nt x fun l => n (l.elim .inl fun w => absurd w q)
  tbs := fun a ps x n => by
    by_cases q : z a
    · exact ⟨#[], by simpa using e.kz a _ x q⟩
    · exact e.tbs a ps x fun l => n (l.elim .inl fun w => absurd w q)
  live := fun a l => by
    rcases l with l | l
    · rcases e.live a (.inl l) with (w | w) | w
      · exact .inl (.inl w)
      · obtain ⟨i, o, e1, d1, z1⟩ := l
        have w : z a := w
        exact absurd (show z (f' i) by rw [show f' i = a from z1]; exact w) (rl.dz i o e1 d1)
      · exact .inr w
    · exact .inl (.inr l)
  zz := rfl
  kz := fun a u x q => e.kz a u x (h a q)
end
end DD
namespace DD
open PySem PySem.Spec PyProof.Rows L2
abbrev Lo := List (Option W)
/-- what an expression comes to -/
inductive R (α : Type) where
  | ok (a : α) (S : Sto)
  | er (c : Nat) (ns : List Str) (ws : List W) (S : Sto)
  | no
def R.bind {α β : Type} (x : R α) (f : α → Sto → R β) : R β :=
  match x with
  | .ok a S => f a S
  | .er c ns ws S => .er c ns ws S
  | .no => .no
@[simp] theorem R.bind_ok {α β : Type} (a : α) (S : Sto) (f : α → Sto → R β) : (R.ok a S).bind f = f a S := rfl
@[simp] theorem R.bind_er {α β : Type} (c : Nat) (ns : List Str) (ws : List W) (S : Sto) (f : α → Sto → R β) : (R.er c ns ws S : R α).bind f = .er c ns ws S := rfl
@[simp] theorem R.bind_no {α β : Type} (f : α → Sto → R β) : (R.no : R α).bind f = .no := rfl
/-- what a statement comes to -/
inductive F where
  | nx (t : Lo) (S : Sto) | rt (w : W) (S : Sto) | bk (t : Lo) (S : Sto) | ct (t : Lo) (S : Sto)
  | er (c : Nat) (ns : List Str) (ws : List W) (t : Lo) (S : Sto)
  | no
abbrev DX := Lo → Sto → R W
abbrev DT := Lo → Sto → R Bool
abbrev DA := Lo → Sto → R (List W)
abbrev DS := Lo → Sto → F
abbrev DG := W → Lo → Sto → R Lo
section
variable (G : Gx) (xv : Nat → Value)
/-- the slots -/
inductive RLo (H : Hp) (S : Sto) (r : Rh) : Lo → L2.St → Prop
  | nil : RLo H S r [] []
  | non {o : Option V} {t : Lo} {s : L2.St} : RLo H S r t s → RLo H S r (none :: t) (o :: s)
  | som {w : W} {v : V} {t : Lo} {s : L2.St} : RW G H S r w v → RLo H S r t s → RLo H S r (some w :: t) (some v :: s)
/-- an exception's own dict -/
def Xd (H : Hp) (S : Sto) (r : Rh) (d : Option Addr) (ns : List Str) (ws : List W) : Prop :=
  (ns = [] ∧ ws = [] ∧ d = none) ∨ ∃ a vs, d = some a ∧ Own H S r a (.xd (ns.zip vs)) ∧ ns.length = ws.length ∧ RWs G H S r ws vs
end
section
variable (G : Gx) (xv : Nat → Value) (Wx : WX)
/-- how an expression's end is wanted -/
def OutE {α β : Type} (rel : Hp → Sto → Rh → α → β → Prop) (s : L2.St) (H : Hp) (S : Sto) (r : Rh) (x : R α) (Q : β → Hp → Prop) : Prop :=
  match x with
  | .ok w S' => ∀ r' H' v, Ev H S r H' S' r' → Rl G H' S' r' → rel H' S' r' w v → Q v H'
  | .er c ns ws S' => ∀ r' H' d, Ev H S r H' S' r' → Rl G H' S' r' → Xd G H' S' r' d ns ws → Wx (xv c) d s H'
  | .no => False
def toX {α β : Type} (rel : Hp → Sto → Rh → α → β → Prop) (d : Lo → Sto → R α) : L2.St → Hp → (β → Hp → Prop) → Prop := fun s H Q =>
  ∃ r t S, RLo G H S r t s ∧ Rl G H S r ∧ OutE G xv Wx rel s H S r (d t S) Q
abbrev toE (d : DX) : TE := toX G xv Wx (fun H S r w v => RW G H S r w v) d
abbrev toT (d : DT) : TT := toX G xv Wx (fun _ _ _ (w : Bool) v => w = v) d
abbrev toA (d : DA) : TA := toX G xv Wx (fun H S r w v => RWs G H S r w v) d
/-- how a statement's end is wanted -/
def OutS (H : Hp) (S : Sto) (r : Rh) (x : F) (D : Ends) : Prop :=
  match x with
  | .nx t S' => ∀ r' H' s, Ev H S r H' S' r' → Rl G H' S' r' → RLo G H' S' r' t s → D.nx s H'
  | .bk t S' => ∀ r' H' s, Ev H S r H' S' r' → Rl G H' S' r' → RLo G H' S' r' t s → D.bk s H'
  | .ct t S' => ∀ r' H' s, Ev H S r H' S' r' → Rl G H' S' r' → RLo G H' S' r' t s → D.ct s H'
  | .rt w S' => ∀ r' H' v, Ev H S r H' S' r' → Rl G H' S' r' → RW G H' S' r' w v → D.rt v H'
  | .er c ns ws t S' => ∀ r' H' s d, Ev H S r H' S' r' → Rl G H' S' r' → RLo G H' S' r' t s → Xd G H' S' r' d ns ws → Wx (xv c) d s H'
  | .no => False
def toS (d : DS) : TS := fun D s H => ∃ r t S, RLo G H S r t s ∧ Rl G H S r ∧ OutS G xv Wx H S r (d t S) D
def toG (d : DG) : TG := fun v s H Q => ∃ r t S w, RLo G H S r t s ∧ Rl G H S r ∧ RW G H S r w v ∧ OutE G xv (fun _ _ _ _ => False) (fun H' S' r' t' s' => RLo G H' S' r' t' s') s H S r (d w t S) Q
end
/-- what stands around a piece of a def -/
structure Cok (G : Gx) (X : Cx) (Wx : WX) : Prop where
  kk : X.K = G.K
  ww : X.w = G.w
  tk : Takes X Wx
  po : PassesOwn (model X.prog X.w) X.A X.env X.xe
  calm : X.calm = true
  nd : X.N.Nodup
section
variable {G : Gx} {xv : Nat → Value} {Wx : WX} {X : Cx} {H H' : Hp} {S S' : Sto} {r r' : Rh}
theorem RLo.mp : ∀ {t : Lo} {s : L2.St}, RLo G H S r t s → Mp H S r H' S' r' → RLo G H' S' r' t s
  | _, _, .nil, _ => .nil
  | _, _, .non q, e => .non (q.mp e)
  | _, _, .som a q, e => .som (a.mp e) (q.mp e)
theorem RLo.ev {t : Lo} {s : L2.St} (q : RLo G H S r t s) (e : Ev H S r H' S' r') : RLo G H' S' r' t s := q.mp e.mp
theorem RLo.get : ∀ {t : Lo} {s : L2.St} {i : Nat} {w : W}, RLo G H S r t s → t[i]? = some (some w) → ∃ v, s[i]? = some (some v) ∧ RW G H S r w v
  | _, _, _, _, .nil, e => by simp at e
  | _, _, 0, _, .non _, e => by simp at e
  | _, _, 0, _, .som a _, e => by simp at e; subst e; exact ⟨_, rfl, a⟩
  | _, _, i + 1, w, .non q, e => by
    obtain ⟨v, h1, h2⟩ := RLo.get (i := i) (w := w) q (by simpa using e)
    exact ⟨v, by simpa using h1, h2⟩
  | _, _, i + 1, w, .som _ q, e => by
    obtain ⟨v, h1, h2⟩ := RLo.get (i := i) (w := w) q (by simpa using e)
    exact ⟨v, by simpa using h1, h2⟩
theorem RLo.set {w : W} {v : V} (a : RW G H S r w v) : ∀ {t : Lo} {s : L2.St} (i : Nat), RLo G H S r t s → RLo G H S r (t.set i (some w)) (s.set i (some v))
  | _, _, _, .nil => .nil
  | _, _, 0, .non q => .som a q
  | _, _, 0, .som _ q => .som a q
  | _, _, i + 1, .non q => .non (q.set a i)
  | _, _, i + 1, .som b q => .som b (q.set a i)
theorem RLo.unset {o : Option V} : ∀ {t : Lo} {s : L2.St} (i : Nat), RLo G H S r t s → RLo G H S r (t.set i none) (s.set i o)
  | _, _, _, .nil => .nil
  | _, _, 0, .non q => .non q
  | _, _, 0, .som _ q => .non q
  | _, _, i + 1, .non q => .non (q.unset i)
  | _, _, i + 1, .som b q => .som b (q.unset i)
theorem RLo.vals : ∀ {ws : List W} {vs : List V} (n : Nat), RWs G H S r ws vs → RLo G H S r (ws.map some ++ List.replicate n none) (vs.map some ++ List.replicate n none)
  | _, _, 0, .nil => .nil
  | _, _, n + 1, .nil => .non (RLo.vals n .nil)
  | _, _, n, .cons a q => .som a (RLo.vals n q)
theorem Xd.ev {d : Option Addr} {ns : List Str} {ws : List W} (x : Xd G H S r d ns ws) (e : Ev H S r H' S' r') : Xd G H' S' r' d ns ws := by
  rcases x with x | ⟨a, vs, h1, h2, h3, h4⟩
  · exact .inl x
  · exact .inr ⟨a, vs, h1, h2.ev e, h3, h4.ev e⟩
/-- the end of a part is the end of the whole -/
theorem OutE.from {α β : Type} {rel : Hp → Sto → Rh → α → β → Prop} {s : L2.St} {x : R α} {Q : β → Hp → Prop} (e : Ev H S r H' S' r') (o : OutE G xv Wx rel s H S r x Q) : OutE G xv Wx rel s H' S' r' x Q := by
  cases x with
  | ok a S1 => exact fun r1 H1 v e1 l q => o r1 H1 v (e.trans e1) l q
  | er c ns ws S1 => exact fun r1 H1 d e1 l q => o r1 H1 d (e.trans e1) l q
  | no => exact o
theorem OutS.from {x : F} {D : Ends} (e : Ev H S r H' S' r') (o : OutS G xv Wx H S r x D) : OutS G xv Wx H' S' r' x D := by
  cases x with
  | nx t S1 => exact fun r1 H1 v e1 l q => o r1 H1 v (e.trans e1) l q
  | bk t S1 => exact fun r1 H1 v e1 l q => o r1 H1 v (e.trans e1) l q
  | ct t S1 => exact fun r1 H1 v e1 l q => o r1 H1 v (e.trans e1) l q
  | rt t S1 => exact fun r1 H1 v e1 l q => o r1 H1 v (e.trans e1) l q
  | er c ns ws t S1 => exact fun r1 H1 s d e1 l q x => o r1 H1 s d (e.trans e1) l q x
  | no => exact o
/-- a part, then the rest -/
theorem toX.bind {α β γ δ : Type} {rel : Hp → Sto → Rh → α → β → Prop} {rel' : Hp → Sto → Rh → γ → δ → Prop} {d : Lo → Sto → R α} {f : α → Sto → R γ} {t : Lo} {s : L2.St} {Q : β → Hp → Prop} {Q' : δ → Hp → Prop}
    (l : RLo G H S r t s) (rl : Rl G H S r) (o : OutE G xv Wx rel' s H S r ((d t S).bind f) Q')
    (h : ∀ a S' r' H' b, d t S = .ok a S' → Ev H S r H' S' r' → Rl G H' S' r' → RLo G H' S' r' t s → rel H' S' r' a b → OutE G xv Wx rel' s H' S' r' (f a S') Q' → Q b H') : toX G xv Wx rel d s H Q := by
  refine ⟨r, t, S, l, rl, ?_⟩
  cases e : d t S with
  | ok a S1 =>
    rw [e, R.bind_ok] at o
    exact fun r1 H1 v e1 l1 q => h a S1 r1 H1 v e e1 l1 (l.ev e1) q (o.from e1)
  | er c ns ws S1 =>
    rw [e] at o
    exact o
  | no =>
    rw [e] at o
    exact o
theorem PEi {e : Expr} {t t' : TE} (h : PE X e t) (i : ∀ s H Q, t' s H Q → t s H Q) : PE X e t' := ⟨fun pins s σ H Q I q => h.run pins s σ H Q I (i _ _ _ q)⟩
theorem PTi {e : Expr} {t t' : TT} (h : PT X e t) (i : ∀ s H Q, t' s H Q → t s H Q) : PT X e t' := ⟨fun pins s σ H Q I q => h.run pins s σ H Q I (i _ _ _ q)⟩
theorem PWi {e : Expr} {t t' : TT} (h : PW X e t) (i : ∀ s H Q, t' s H Q → t s H Q) : PW X e t' := ⟨fun w pins s σ H Q I q => h.run w pins s σ H Q I (i _ _ _ q)⟩
theorem PAi {e : List Expr} {t t' : TA} (h : PA X e t) (i : ∀ s H Q, t' s H Q → t s H Q) : PA X e t' := ⟨fun w pins s σ H Q I q => h.run w pins s σ H Q I (i _ _ _ q)⟩
theorem PSi {e : Stmt} {t t' : TS} (h : PS X e t) (i : ∀ D s H, t' D s H → t D s H) : PS X e t' := ⟨fun pins s σ H Q I q => h.run pins s σ H Q I (i _ _ _ q)⟩
theorem PSsi {e : List Stmt} {t t' : TS} (h : PSs X e t) (i : ∀ D s H, t' D s H → t D s H) : PSs X e t' := ⟨fun pins s σ H Q I q => h.run pins s σ H Q I (i _ _ _ q)⟩
/-! ### expressions -/
def dVar (i : Nat) : DX := fun t S => match t[i]? with
  | some (some w) => .ok w S
  | _ => .no
def dC (w : W) : DX := fun _ S => .ok w S
theorem de_var {x : Str} {pos : Pos} (i : Nat) (hN : X.N[i]? = some x := by rfl) (hv : Vis X.env.scope x := by first | exact Or.inl rfl | exact Or.inr (Or.inl rfl) | exact Or.inr (Or.inr rfl)) (hd : (x == ("__debug__" : Str)) = false := by decide) (hcd : (x == ("__classdict__" : Str)) = false := by decide) :
    PE X (.Name x pos) (toE G xv Wx (dVar i)) := PEi (pe_var (i := i) hN hv hd hcd) fun s H Q ⟨r, t, S, l, rl, o⟩ => by
  unfold dVar at o
  cases e : t[i]? with
  | none => rw [e] at o; exact o.elim
  | some w =>
    cases w with
    | none => rw [e] at o; exact o.elim
    | some w =>
      rw [e] at o
      obtain ⟨v, h1, h2⟩ := l.get e
      exact ⟨v, h1, o r H v .refl rl h2⟩
theorem toC {w : W} {v : V} (h : ∀ H S r, RW G H S r w v) : ∀ s H Q, toE G xv Wx (dC w) s H Q → tC v s H Q := fun s H Q ⟨r, t, S, l, rl, o⟩ => o r H v .refl rl (h H S r)
theorem de_int {i j pos} : PE X (.Constant (.int i) j pos) (toE G xv Wx (dC (.int i))) := PEi pe_int (toC fun _ _ _ => .int i)
theorem de_bl {i j pos} : PE X (.Constant (.bool i) j pos) (toE G xv Wx (dC (.bl i))) := PEi pe_bl (toC fun _ _ _ => .bl i)
theorem de_str {i j pos} : PE X (.Constant (.str i) j pos) (toE G xv Wx (dC (.str i))) := PEi pe_str (toC fun _ _ _ => .str i)
theorem de_non {j pos} : PE X (.Constant .none j pos) (toE G xv Wx (dC .non)) := PEi pe_non (toC fun _ _ _ => .non)
theorem de_gint {x : Str} {i : Int} {pos : Pos} (hm : ∃ t, X.mg x = some (.int i t)) (hg : Gl X x := by rfl) (hd : (x == ("__debug__" : Str)) = false := by decide) : PE X (.Name x pos) (toE G xv Wx (dC (.int i))) := by
  obtain ⟨t, e⟩ := hm
  exact PEi (pe_glob (v := .int i) hg e ⟨t, rfl⟩ hd) (toC fun _ _ _ => .int i)
theorem de_gstr {x : Str} {i : Str} {pos : Pos} (hm : ∃ t, X.mg x = some (.str i t)) (hg : Gl X x := by rfl) (hd : (x == ("__debug__" : Str)) = false := by decide) : PE X (.Name x pos) (toE G xv Wx (dC (.str i))) := by
  obtain ⟨t, e⟩ := hm
  exact PEi (pe_glob (v := .str i) hg e ⟨t, rfl⟩ hd) (toC fun _ _ _ => .str i)
theorem de_gcls {x : Str} {c : Nat} {pos : Pos} (hm : X.mg x = some (.ref (G.cm c))) (hg : Gl X x := by rfl) (hd : (x == ("__debug__" : Str)) = false := by decide) : PE X (.Name x pos) (toE G xv Wx (dC (.cls c))) :=
  PEi (pe_glob (v := .ref (G.cm c)) hg hm rfl hd) (toC fun _ _ _ => .cls c)
/-- two places -/
abbrev D2 := W → W → Sto → R W
def toR2 (G : Gx) (xv : Nat → Value) (f : D2) : R2 := fun x y H Q => ∃ r S a b, Rl G H S r ∧ RW G H S r a x ∧ RW G H S r b y ∧ OutE G xv (fun _ _ _ _ => False) (fun H S r w v => RW G H S r w v) [] H S r (f a b S) Q
def dOp (f : D2) (da db : DX) : DX := fun t S => (da t S).bind fun a S1 => (db t S1).bind fun b S2 => match f a b S2 with
  | .ok w S3 => .ok w S3
  | _ => .no
theorem toOp {f : D2} {da db : DX} (s : L2.St) (H : Hp) (Q : VK) : toE G xv Wx (dOp f da db) s H Q → tOp (toR2 G xv f) (toE G xv Wx da) (toE G xv Wx db) s H Q := by
  rintro ⟨r, t, S, l, rl, o⟩
  refine toX.bind l rl o fun a S1 r1 H1 x _ e1 rl1 l1 qa o1 => ?_
  refine toX.bind l1 rl1 o1 fun b S2 r2 H2 y _ e2 rl2 l2 qb o2 => ?_
  refine ⟨r2, S2, a, b, rl2, qa.ev e2, qb, ?_⟩
  cases e : f a b S2 with
  | ok w S3 => rw [e] at o2; exact o2
  | er c ns ws S3 => rw [e] at o2; exact o2.elim
  | no => rw [e] at o2; exact o2.elim
theorem de_op {a b : Expr} {op : Operator} {f : D2} {da db : DX} {pos : Pos} (ho : OpR X (binaryOp op) (toR2 G xv f)) (ha : PE X a (toE G xv Wx da)) (hb : PE X b (toE G xv Wx db)) : PE X (.BinOp a op b pos) (toE G xv Wx (dOp f da db)) :=
  PEi (pe_op ho ha hb) toOp
theorem de_cmp {a b : Expr} {op : CmpOp} {f : D2} {da db : DX} {pos : Pos} (ho : OpR X (compareOp op) (toR2 G xv f)) (ha : PE X a (toE G xv Wx da)) (hb : PE X b (toE G xv Wx db)) (hm : behindInMarks op b = false := by first | exact nomark _ | rfl) : PE X (.Compare a [op] [b] pos) (toE G xv Wx (dOp f da db)) :=
  PEi (pe_cmpR ho ha hb hm) toOp
def dTest (d : DX) : DT := fun t S => match d t S with
  | .ok (.bl b) S1 => .ok b S1
  | .er c ns ws S1 => .er c ns ws S1
  | _ => .no
theorem toTest {d : DX} {te : TE} (h : ∀ s H Q, toE G xv Wx d s H Q → te s H Q) (s : L2.St) (H : Hp) (Q : Bool → Hp → Prop) : toT G xv Wx (dTest d) s H Q → tTest te s H Q := by
  rintro ⟨r, t, S, l, rl, o⟩
  refine h s H _ ⟨r, t, S, l, rl, ?_⟩
  unfold dTest at o
  cases e : d t S with
  | ok w S1 =>
    rw [e] at o
    cases w with
    | bl b =>
      intro r1 H1 v e1 rl1 q
      cases q
      exact ⟨b, rfl, o r1 H1 b e1 rl1 rfl⟩
    | _ => exact o.elim
  | er c ns ws S1 => rw [e] at o; exact o
  | no => rw [e] at o; exact o.elim
theorem dt_cmp {a b : Expr} {op : CmpOp} {f : D2} {da db : DX} {pos : Pos} (ho : OpR X (compareOp op) (toR2 G xv f)) (ha : PE X a (toE G xv Wx da)) (hb : PE X b (toE G xv Wx db)) (hm : behindInMarks op b = false := by first | exact nomark _ | rfl) : PT X (.Compare a [op] [b] pos) (toT G xv Wx (dTest (dOp f da db))) :=
  PTi (pt_cmpR ho ha hb hm) (toTest toOp)
/-- a chain of two comparisons -/
def dChain (f g : D2) (da db dc : DX) : DX := fun t S => (da t S).bind fun a S1 => (db t S1).bind fun b S2 => match f a b S2 with
  | .ok (.bl true) S3 => (dc t S3).bind fun c S4 => match g b c S4 with
    | .ok w S5 => .ok w S5
    | _ => .no
  | .ok (.bl false) S3 => .ok (.bl false) S3
  | _ => .no
theorem toChain {f g : D2} {da db dc : DX} (s : L2.St) (H : Hp) (Q : VK) : toE G xv Wx (dChain f g da db dc) s H Q → tChain (toR2 G xv f) (toR2 G xv g) (toE G xv Wx da) (toE G xv Wx db) (toE G xv Wx dc) s H Q := by
  rintro ⟨r, t, S, l, rl, o⟩
  refine toX.bind l rl o fun a S1 r1 H1 x _ e1 rl1 l1 qa o1 => ?_
  refine toX.bind l1 rl1 o1 fun b S2 r2 H2 y _ e2 rl2 l2 qb o2 => ?_
  refine ⟨r2, S2, a, b, rl2, qa.ev e2, qb, ?_⟩
  cases e : f a b S2 with
  | ok w S3 =>
    rw [e] at o2
    intro r3 H3 v e3 rl3 q
    cases w with
    | bl k =>
      cases q
      refine ⟨k, rfl, ?_⟩
      cases k with
      | true =>
        rw [if_pos rfl]
        refine toX.bind (l2.ev e3) rl3 (OutE.from e3 o2) fun c S4 r4 H4 z _ e4 rl4 l4 qc o4 => ?_
        refine ⟨r4, S4, b, c, rl4, (qb.ev e3).ev e4, qc, ?_⟩
        cases e' : g b c S4 with
        | ok w S5 => rw [e'] at o4; exact o4
        | er c ns ws S5 => rw [e'] at o4; exact o4.elim
        | no => rw [e'] at o4; exact o4.elim
      | false =>
        rw [if_neg Bool.false_ne_true]
        exact o2 r3 H3 _ e3 rl3 (.bl false)
    | _ => exact o2.elim
  | er c ns ws S3 => rw [e] at o2; exact o2.elim
  | no => rw [e] at o2; exact o2.elim
theorem de_chain {a b c : Expr} {op op' : CmpOp} {f g : D2} {da db dc : DX} {pos : Pos} (ho : OpR X (compareOp op) (toR2 G xv f)) (ho' : OpR X (compareOp op') (toR2 G xv g)) (ha : PE X a (toE G xv Wx da)) (hb : PE X b (toE G xv Wx db)) (hc : PE X c (toE G xv Wx dc))
    (hm : lastMarks [op, op'] [b, c] = false := by with_unfolding_all rfl) : PE X (.Compare a [op, op'] [b, c] pos) (toE G xv Wx (dChain f g da db dc)) := PEi (pe_chain ho ho' ha hb hc hm) toChain
theorem dt_chain {a b c : Expr} {op op' : CmpOp} {f g : D2} {da db dc : DX} {pos : Pos} (ho : OpR X (compareOp op) (toR2 G xv f)) (ho' : OpR X (compareOp op') (toR2 G xv g)) (ha : PE X a (toE G xv Wx da)) (hb : PE X b (toE G xv Wx db)) (hc : PE X c (toE G xv Wx dc))
    (hm : lastMarks [op, op'] [b, c] = false := by with_unfolding_all rfl) : PT X (.Compare a [op, op'] [b, c] pos) (toT G xv Wx (dTest (dChain f g da db dc))) := PTi (pt_chain ho ho' ha hb hc hm) (toTest toChain)
/-- tests joined -/
def dtAnd (a b : DT) : DT := fun t S => (a t S).bind fun k S1 => if k = true then b t S1 else .ok false S1
def dtOr (a b : DT) : DT := fun t S => (a t S).bind fun k S1 => if k = true then .ok true S1 else b t S1
def dtNot (a : DT) : DT := fun t S => (a t S).bind fun k S1 => .ok (!k) S1
theorem dt_not {a : Expr} {d : DT} {pos : Pos} (ha : PT X a (toT G xv Wx d)) : PT X (.UnaryOp .Not a pos) (toT G xv Wx (dtNot d)) := PTi (pt_not ha) fun s H Q ⟨r, t, S, l, rl, o⟩ =>
  toX.bind l rl o fun k S1 r1 H1 b _ e1 rl1 l1 q o1 => by subst q; exact o1 r1 H1 (!k) .refl rl1 rfl
theorem dw_and1 {a : Expr} {d : DT} {pos : Pos} (ha : PT X a (toT G xv Wx d)) : PW X (.BoolOp .And [a] pos) (toT G xv Wx d) := pw_and1 ha
theorem dw_or1 {a : Expr} {d : DT} {pos : Pos} (ha : PT X a (toT G xv Wx d)) : PW X (.BoolOp .Or [a] pos) (toT G xv Wx d) := pw_or1 ha
theorem dw_and {a b : Expr} {rest : List Expr} {d e : DT} {pos : Pos} (ha : PT X a (toT G xv Wx d)) (hb : PW X (.BoolOp .And (b :: rest) pos) (toT G xv Wx e)) : PW X (.BoolOp .And (a :: b :: rest) pos) (toT G xv Wx (dtAnd d e)) := PWi (pw_and ha hb) fun s H Q ⟨r, t, S, l, rl, o⟩ =>
  toX.bind l rl o fun k S1 r1 H1 b _ e1 rl1 l1 q o1 => by
    subst q
    cases k with
    | true => exact ⟨r1, t, S1, l1, rl1, o1⟩
    | false => exact o1 r1 H1 false .refl rl1 rfl
theorem dw_or {a b : Expr} {rest : List Expr} {d e : DT} {pos : Pos} (ha : PT X a (toT G xv Wx d)) (hb : PW X (.BoolOp .Or (b :: rest) pos) (toT G xv Wx e)) : PW X (.BoolOp .Or (a :: b :: rest) pos) (toT G xv Wx (dtOr d e)) := PWi (pw_or ha hb) fun s H Q ⟨r, t, S, l, rl, o⟩ =>
  toX.bind l rl o fun k S1 r1 H1 b _ e1 rl1 l1 q o1 => by
    subst q
    cases k with
    | true => exact o1 r1 H1 true .refl rl1 rfl
    | false => exact ⟨r1, t, S1, l1, rl1, o1⟩
def dIf (c : DT) (a b : DX) : DX := fun t S => (c t S).bind fun k S1 => if k = true then a t S1 else b t S1
theorem de_if {c a b : Expr} {dc : DT} {da db : DX} {pos : Pos} (hc : PT X c (toT G xv Wx dc)) (ha : PE X a (toE G xv Wx da)) (hb : PE X b (toE G xv Wx db)) : PE X (.IfExp c a b pos) (toE G xv Wx (dIf dc da db)) := PEi (pe_ifExp hc ha hb) fun s H Q ⟨r, t, S, l, rl, o⟩ =>
  toX.bind l rl o fun k S1 r1 H1 b _ e1 rl1 l1 q o1 => by
    subst q
    cases k with
    | true => exact ⟨r1, t, S1, l1, rl1, o1⟩
    | false => exact ⟨r1, t, S1, l1, rl1, o1⟩
theorem de_one {op} {a : Expr} {d : DX} {pos : Pos} (ha : PE X a (toE G xv Wx d)) : PE X (.BoolOp op [a] pos) (toE G xv Wx d) := pe_one ha
/-! ### argument lists -/
def dNil : DA := fun _ S => .ok [] S
def dCons (a : DX) (b : DA) : DA := fun t S => (a t S).bind fun w S1 => (b t S1).bind fun ws S2 => .ok (w :: ws) S2
theorem da_nil : PA X [] (toA G xv Wx dNil) := PAi pa_nil fun s H Q ⟨r, t, S, l, rl, o⟩ => o r H [] .refl rl .nil
theorem da_cons {e : Expr} {es : List Expr} {d : DX} {ds : DA} (h1 : PE X e (toE G xv Wx d)) (h2 : PA X es (toA G xv Wx ds)) (he : starEach (e :: es) X.env = (false, eval e X.env) :: starEach es X.env := by rfl) : PA X (e :: es) (toA G xv Wx (dCons d ds)) :=
  PAi (pa_cons h1 h2 he) fun s H Q ⟨r, t, S, l, rl, o⟩ => toX.bind l rl o fun w S1 r1 H1 v _ e1 rl1 l1 q o1 => toX.bind l1 rl1 o1 fun ws S2 r2 H2 vs _ e2 rl2 l2 qs o2 => o2 r2 H2 _ .refl rl2 (.cons (q.ev e2) qs)
/-- a tuple is a value; a list that is never changed, too -/
def dTup (d : DA) : DX := fun t S => (d t S).bind fun ws S1 => if ws.length ≤ sizeLine then .ok (.tup ws) S1 else .no
def dLst (d : DA) : DX := fun t S => (d t S).bind fun ws S1 => if ws.length ≤ sizeLine then .ok (.lst ws) S1 else .no
/-- a list that will be changed -/
def dNewL (d : DA) : DX := fun t S => (d t S).bind fun ws S1 => if ws.length ≤ sizeLine then .ok (.ref S1.length) (S1 ++ [.lst ws]) else .no
theorem de_tup {es : List Expr} {x1} {d : DA} {pos : Pos} (h : PA X es (toA G xv Wx d)) : PE X (.Tuple es x1 pos) (toE G xv Wx (dTup d)) := PEi (pe_tup h) fun s H Q ⟨r, t, S, l, rl, o⟩ =>
  toX.bind l rl o fun ws S1 r1 H1 vs _ e1 rl1 l1 q o1 => by
    by_cases hl : ws.length ≤ sizeLine
    · rw [if_pos hl] at o1
      exact ⟨by rw [← q.length]; exact hl, fun p hp => o1 r1 _ _ (Ev.fresh hp rl1) (rl1.fresh hp) (.tup (.inl (Own.new hp rl1)) (q.ev (Ev.fresh hp rl1)))⟩
    · rw [if_neg hl] at o1; exact o1.elim
theorem de_lst {es : List Expr} {d : DA} {pos : Pos} (h : PA X es (toA G xv Wx d)) : PE X (.List es pos) (toE G xv Wx (dLst d)) := PEi (pe_lst h) fun s H Q ⟨r, t, S, l, rl, o⟩ =>
  toX.bind l rl o fun ws S1 r1 H1 vs _ e1 rl1 l1 q o1 => by
    by_cases hl : ws.length ≤ sizeLine
    · rw [if_pos hl] at o1
      exact ⟨by rw [← q.length]; exact hl, fun p hp => o1 r1 _ _ (Ev.fresh hp rl1) (rl1.fresh hp) (.lst (Own.new hp rl1) (q.ev (Ev.fresh hp rl1)))⟩
    · rw [if_neg hl] at o1; exact o1.elim
theorem de_newL {es : List Expr} {d : DA} {pos : Pos} (h : PA X es (toA G xv Wx d)) : PE X (.List es pos) (toE G xv Wx (dNewL d)) := PEi (pe_lst h) fun s H Q ⟨r, t, S, l, rl, o⟩ =>
  toX.bind l rl o fun ws S1 r1 H1 vs _ e1 rl1 l1 q o1 => by
    by_cases hl : ws.length ≤ sizeLine
    · rw [if_pos hl] at o1
      refine ⟨by rw [← q.length]; exact hl, fun p hp => ?_⟩
      refine o1 _ _ _ (Ev.snoc hp) (rl1.snoc hp (.lst q)) ?_
      have := RW.ref (G := G) (H := upd H1 p (.lst vs)) (S := S1 ++ [.lst ws]) (r := put r1 S1.length p) (i := S1.length) (by simp)
      rw [put_same] at this
      exact this
    · rw [if_neg hl] at o1; exact o1.elim
/-- an expression's thing of the store is held as a value from here on -/
def dFrz (d : DX) : DX := fun t S => (d t S).bind fun w S1 => match w with
  | .ref i => match S1[i]? with
    | some (.lst ws) => .ok (.lst ws) (S1.set i .dead)
    | some (.dic ks ws) => .ok (.dic ks ws) (S1.set i .dead)
    | some (.dn ks ws) => .ok (.dn ks ws) (S1.set i .dead)
    | some (.ins c ns ws) => .ok (.obj c ns ws) (S1.set i .dead)
    | _ => .no
  | w => .ok w S1
theorem de_frz {e : Expr} {d : DX} (h : PE X e (toE G xv Wx d)) : PE X e (toE G xv Wx (dFrz d)) := PEi h fun s H Q ⟨r, t, S, l, rl, o⟩ =>
  toX.bind l rl o fun w S1 r1 H1 v _ e1 rl1 l1 q o1 => by
    cases w with
    | ref i =>
      cases q with
      | ref hi =>
        simp only [] at o1
        cases e : S1[i]? with
        | none => rw [e] at o1; exact o1.elim
        | some u =>
          rw [e] at o1
          cases u with
          | dead => exact o1.elim
          | lst ws =>
            obtain ⟨ho, h1, h2⟩ := rl1.at_ i _ e (fun z => by cases z)
            cases h2 with
            | lst q => exact o1 r1 H1 _ Ev.kill rl1.kill (.lst (rl1.own e (fun z => by cases z) h1) (q.ev Ev.kill))
          | dic ks ws =>
            obtain ⟨ho, h1, h2⟩ := rl1.at_ i _ e (fun z => by cases z)
            cases h2 with
            | dic z q => exact o1 r1 H1 _ Ev.kill rl1.kill (.dic (rl1.own e (fun z => by cases z) h1) z (q.ev Ev.kill))
          | dn ks ws =>
            obtain ⟨ho, h1, h2⟩ := rl1.at_ i _ e (fun z => by cases z)
            cases h2 with
            | dn z q q2 => exact o1 r1 H1 _ Ev.kill rl1.kill (.dn (rl1.own e (fun z => by cases z) h1) z (q.ev Ev.kill) (q2.ev Ev.kill))
          | ins c ns ws =>
            obtain ⟨ho, h1, h2⟩ := rl1.at_ i _ e (fun z => by cases z)
            cases h2 with
            | ins z q => exact o1 r1 H1 _ Ev.kill rl1.kill (.obj (rl1.own e (fun z => by cases z) h1) z (q.ev Ev.kill))
    | _ => exact o1 r1 H1 v .refl rl1 q
end
end DD
namespace DD
open PySem PySem.Spec PyProof.Rows L2
section
variable {G : Gx} {xv : Nat → Value} {Wx : WX} {X : Cx} {H H' : Hp} {S S' : Sto} {r r' : Rh}
/-! ### statements -/
def R.toF {α : Type} (x : R α) (t : Lo) (k : α → Sto → F) : F :=
  match x with
  | .ok a S => k a S
  | .er c ns ws S => .er c ns ws t S
  | .no => .no
@[simp] theorem R.toF_ok {α : Type} (a : α) (S : Sto) (t : Lo) (k : α → Sto → F) : (R.ok a S).toF t k = k a S := rfl
@[simp] theorem R.toF_er {α : Type} (c : Nat) (ns : List Str) (ws : List W) (S : Sto) (t : Lo) (k : α → Sto → F) : (R.er c ns ws S : R α).toF t k = .er c ns ws t S := rfl
@[simp] theorem R.toF_no {α : Type} (t : Lo) (k : α → Sto → F) : (R.no : R α).toF t k = .no := rfl
theorem toX.bindS {α β : Type} {rel : Hp → Sto → Rh → α → β → Prop} {d : Lo → Sto → R α} {k : α → Sto → F} {t : Lo} {s : L2.St} {Q : β → Hp → Prop} {D : Ends}
    (l : RLo G H S r t s) (rl : Rl G H S r) (o : OutS G xv Wx H S r ((d t S).toF t k) D)
    (h : ∀ a S' r' H' b, d t S = .ok a S' → Ev H S r H' S' r' → Rl G H' S' r' → RLo G H' S' r' t s → rel H' S' r' a b → OutS G xv Wx H' S' r' (k a S') D → Q b H') : toX G xv Wx rel d s H Q := by
  refine ⟨r, t, S, l, rl, ?_⟩
  cases e : d t S with
  | ok a S1 =>
    rw [e, R.toF_ok] at o
    exact fun r1 H1 v e1 l1 q => h a S1 r1 H1 v e e1 l1 (l.ev e1) q (o.from e1)
  | er c ns ws S1 =>
    rw [e] at o
    exact fun r1 H1 d e1 rl1 x => o r1 H1 s d e1 rl1 (l.ev e1) x
  | no =>
    rw [e] at o
    exact o
def F.andThen (x : F) (k : Lo → Sto → F) : F :=
  match x with
  | .nx t S => k t S
  | x => x
def dNext : DS := fun t S => .nx t S
def dSeq (a b : DS) : DS := fun t S => (a t S).andThen b
def dDrop (d : DX) : DS := fun t S => (d t S).toF t fun _ S1 => .nx t S1
def dRet (d : DX) : DS := fun t S => (d t S).toF t fun w S1 => .rt w S1
def dIfS (c : DT) (a b : DS) : DS := fun t S => (c t S).toF t fun k S1 => if k = true then a t S1 else b t S1
theorem dss_nil : PSs X [] (toS G xv Wx dNext) := PSsi pss_nil fun D s H ⟨r, t, S, l, rl, o⟩ => o r H s .refl rl l
theorem dss_cons {st : Stmt} {rest : List Stmt} {a b : DS} (h1 : PS X st (toS G xv Wx a)) (h2 : PSs X rest (toS G xv Wx b)) : PSs X (st :: rest) (toS G xv Wx (dSeq a b)) := PSsi (pss_cons h1 h2) fun D s H ⟨r, t, S, l, rl, o⟩ => by
  refine ⟨r, t, S, l, rl, ?_⟩
  unfold dSeq at o
  cases e : a t S with
  | nx t1 S1 =>
    rw [e] at o
    exact fun r1 H1 s1 e1 rl1 l1 => ⟨r1, t1, S1, l1, rl1, OutS.from e1 o⟩
  | rt w S1 => rw [e] at o; exact o
  | bk t1 S1 => rw [e] at o; exact o
  | ct t1 S1 => rw [e] at o; exact o
  | er c ns ws t1 S1 => rw [e] at o; exact o
  | no => rw [e] at o; exact o
theorem dss_one {st : Stmt} {a : DS} (h1 : PS X st (toS G xv Wx a)) : PSs X [st] (toS G xv Wx a) := pss_one h1
theorem ds_expr {e : Expr} {d : DX} {pos : Pos} (he : PE X e (toE G xv Wx d)) (hs : swapsWith e none pos.line X.env = pure false := by rfl) : PS X (.Expr e pos) (toS G xv Wx (dDrop d)) := PSi (ps_expr he hs) fun D s H ⟨r, t, S, l, rl, o⟩ =>
  toX.bindS l rl o fun w S1 r1 H1 v _ e1 rl1 l1 q o1 => o1 r1 H1 s .refl rl1 l1
theorem ds_ret {e : Expr} {d : DX} {pos : Pos} (he : PE X e (toE G xv Wx d)) : PS X (.Return (some e) pos) (toS G xv Wx (dRet d)) := PSi (ps_ret he) fun D s H ⟨r, t, S, l, rl, o⟩ =>
  toX.bindS l rl o fun w S1 r1 H1 v _ e1 rl1 l1 q o1 => o1 r1 H1 v .refl rl1 q
theorem ds_if {c : Expr} {a b : List Stmt} {dc : DT} {da db : DS} {pos : Pos} (hc : PT X c (toT G xv Wx dc)) (ha : PSs X a (toS G xv Wx da)) (hb : PSs X b (toS G xv Wx db)) : PS X (.If c a b pos) (toS G xv Wx (dIfS dc da db)) := PSi (ps_if hc ha hb) fun D s H ⟨r, t, S, l, rl, o⟩ =>
  toX.bindS l rl o fun k S1 r1 H1 v _ e1 rl1 l1 q o1 => by
    subst q
    cases k with
    | true => exact ⟨r1, t, S1, l1, rl1, o1⟩
    | false => exact ⟨r1, t, S1, l1, rl1, o1⟩
/-! ### targets -/
theorem PGi {e : Expr} {t t' : TG} (h : PG X e t) (i : ∀ v s H Q, t' v s H Q → t v s H Q) : PG X e t' := ⟨fun pins s σ H v u Q I rv q => h.run pins s σ H v u Q I rv (i _ _ _ _ q)⟩
theorem PGsi {e : List Expr} {t t' : TGs} (h : PGs X e t) (i : ∀ v s H Q, t' v s H Q → t v s H Q) : PGs X e t' := ⟨fun pins s σ H v u Q I rv q => h.run pins s σ H v u Q I rv (i _ _ _ _ q)⟩
abbrev DGs := List W → Lo → Sto → R Lo
def toGs (G : Gx) (xv : Nat → Value) (d : DGs) : TGs := fun vs s H Q => ∃ r t S ws, RLo G H S r t s ∧ Rl G H S r ∧ RWs G H S r ws vs ∧ OutE G xv (fun _ _ _ _ => False) (fun H' S' r' t' s' => RLo G H' S' r' t' s') s H S r (d ws t S) Q
def gN (i : Nat) : DG := fun w t S => .ok (t.set i (some w)) S
def gsNil : DGs := fun ws t S => match ws with
  | [] => .ok t S
  | _ => .no
def gsCons (g : DG) (gs : DGs) : DGs := fun ws t S => match ws with
  | w :: ws => (g w t S).bind fun t1 S1 => gs ws t1 S1
  | [] => .no
def gTp (n : Nat) (gs : DGs) : DG := fun w t S => match w with
  | .tup ws => if ws.length = n then gs ws t S else .no
  | _ => .no
theorem dg_name {i : Nat} {x : Str} {pos : Pos} (c : Cok G X Wx) (hi : X.N[i]? = some x := by rfl) (hx : Loc X.env.scope x := by first | exact Or.inl rfl | exact Or.inr rfl) (hf : X.fn x = true ∨ X.env.scope.names.lookup x = some .local := by first | exact .inl rfl | exact .inr rfl) : PG X (.Name x pos) (toG G xv (gN i)) :=
  PGi (pg_name c.nd hi hx hf) fun v s H Q ⟨r, t, S, w, l, rl, q, o⟩ => o r H _ .refl rl (l.set q i)
theorem dgs_nil : PGs X [] (toGs G xv gsNil) := PGsi pgs_nil fun vs s H Q ⟨r, t, S, ws, l, rl, q, o⟩ => by
  cases q with
  | nil => exact ⟨rfl, o r H _ .refl rl l⟩
  | cons _ _ => exact o.elim
theorem dgs_cons {e : Expr} {es : List Expr} {g : DG} {gs : DGs} (h1 : PG X e (toG G xv g)) (h2 : PGs X es (toGs G xv gs)) (hs : (assignEach (e :: es) X.env).map (·.2) = assign e X.env :: (assignEach es X.env).map (·.2) := by rfl) : PGs X (e :: es) (toGs G xv (gsCons g gs)) :=
  PGsi (pgs_cons h1 h2 hs) fun vs s H Q ⟨r, t, S, ws, l, rl, q, o⟩ => by
    cases q with
    | nil => exact o.elim
    | @cons w ws' v vs' a b =>
      refine ⟨_, _, rfl, r, t, S, _, l, rl, a, ?_⟩
      simp only [gsCons] at o
      cases e : g w t S with
      | ok t1 S1 =>
        rw [e, R.bind_ok] at o
        exact fun r1 H1 s1 e1 rl1 l1 => ⟨r1, t1, S1, _, l1, rl1, b.ev e1, by
          cases e2 : gs ws' t1 S1 with
          | ok t2 S2 =>
            rw [e2] at o
            exact fun r2 H2 s2 e2 rl2 l2 => o r2 H2 s2 (e1.trans e2) rl2 l2
          | er c ns us S2 =>
            rw [e2] at o
            exact fun r2 H2 d e2 rl2 x => o r2 H2 d (e1.trans e2) rl2 x
          | no => rw [e2] at o; exact o⟩
      | er c ns us S1 =>
        rw [e] at o
        exact o
      | no => rw [e] at o; exact o
theorem dg_tup {es : List Expr} {k : Nat} {gs : DGs} {n : Nat} {pos : Pos} (c : Cok G X Wx) (h : PGs X es (toGs G xv gs)) (hn : (assignEach es X.env).length = n := by rfl) (hst : (assignEach es X.env).findIdx? (·.1) = none := by rfl) : PG X (.Tuple es k pos) (toG G xv (gTp n gs)) :=
  PGi (pg_tup c.calm h hn hst) fun v s H Q ⟨r, t, S, w, l, rl, q, o⟩ => by
    cases w with
    | tup ws =>
      cases q with
      | @tup a _ vs ta q =>
        simp only [gTp] at o
        by_cases hl : ws.length = n
        · rw [if_pos hl] at o
          exact ⟨a, vs, rfl, by rw [c.kk]; exact ta.sq, by rw [← q.length]; exact hl, r, t, S, ws, l, rl, q, o⟩
        · rw [if_neg hl] at o; exact o.elim
    | _ => exact o.elim
/-- target = value -/
def dAsg (d : DX) (g : DG) : DS := fun t S => (d t S).toF t fun w S1 => match g w t S1 with
  | .ok t' S2 => .nx t' S2
  | _ => .no
theorem outG {g : DG} {w : W} {t : Lo} {s : L2.St} {D : Ends} (o : OutS G xv Wx H S r (match g w t S with
  | .ok t' S2 => F.nx t' S2
  | _ => .no) D) : OutE G xv (fun _ _ _ _ => False) (fun H' S' r' t' s' => RLo G H' S' r' t' s') s H S r (g w t S) D.nx := by
  cases e : g w t S with
  | ok t' S2 => rw [e] at o; exact o
  | er c ns ws S2 => rw [e] at o; exact o.elim
  | no => rw [e] at o; exact o.elim
theorem ds_asg {tg e : Expr} {d : DX} {g : DG} {pos : Pos} (he : PE X e (toE G xv Wx d)) (hg : PG X tg (toG G xv g)) (hs : swapsWithSole [tg] e pos.line X.env = pure false := by rfl) (hw : swappedStores [tg] e X.env = pure none := by rfl)
    (h1 : (assignEach [tg] X.env).map (·.2) = [assign tg X.env] := by rfl) : PS X (.Assign [tg] e pos) (toS G xv Wx (dAsg d g)) := PSi (ps_asg he hg hs hw h1) fun D s H ⟨r, t, S, l, rl, o⟩ =>
  toX.bindS l rl o fun w S1 r1 H1 v _ e1 rl1 l1 q o1 => ⟨r1, t, S1, w, l1, rl1, q, outG o1⟩
theorem ds_set {i : Nat} {x : Str} {e : Expr} {d : DX} {pos pos' : Pos} (c : Cok G X Wx) (he : PE X e (toE G xv Wx d)) (hi : X.N[i]? = some x := by rfl) (hx : Loc X.env.scope x := by first | exact Or.inl rfl | exact Or.inr rfl) (hs : swapsWith e (some (.Name x pos')) pos.line X.env = pure false := by rfl) (hf : X.fn x = true ∨ X.env.scope.names.lookup x = some .local := by first | exact .inl rfl | exact .inr rfl) :
    PS X (.Assign [.Name x pos'] e pos) (toS G xv Wx (dAsg d (gN i))) := PSi (ps_set c.nd hi hx he hs hf) fun D s H ⟨r, t, S, l, rl, o⟩ =>
  toX.bindS l rl o fun w S1 r1 H1 v _ e1 rl1 l1 q o1 => o1 r1 H1 _ .refl rl1 (l1.set q i)
/-- a, b = x, y -/
def dPar (i j : Nat) (d : DA) : DS := fun t S => (d t S).toF t fun ws S1 => match ws with
  | [a, b] => .nx ((t.set i (some a)).set j (some b)) S1
  | _ => .no
theorem ds_par {i j : Nat} {x y : Str} {a b : Expr} {d : DA} {px py pt pos : Pos} {kt k2 pt2} (c : Cok G X Wx) (ha : PA X [a, b] (toA G xv Wx d)) (hi : X.N[i]? = some x := by rfl) (hj : X.N[j]? = some y := by rfl) (hij : i ≠ j := by decide)
    (hx : X.env.scope.names.lookup x = some .local := by rfl) (hy : X.env.scope.names.lookup y = some .local := by rfl)
    (hw : swappedStores [.Tuple [.Name x px, .Name y py] kt pt] (.Tuple [a, b] k2 pt2) X.env = pure (some [x, y]) := by rfl)
    (hs : swapsWithSole [.Tuple [.Name x px, .Name y py] kt pt] (.Tuple [a, b] k2 pt2) pos.line X.env = pure false := by rfl) : PS X (.Assign [.Tuple [.Name x px, .Name y py] kt pt] (.Tuple [a, b] k2 pt2) pos) (toS G xv Wx (dPar i j d)) := PSi (ps_par c.calm c.nd hi hj hij hx hy ha hw hs) fun D s H ⟨r, t, S, l, rl, o⟩ =>
  toX.bindS l rl o fun ws S1 r1 H1 vs _ e1 rl1 l1 q o1 => by
    cases q with
    | nil => exact o1.elim
    | cons a q =>
      cases q with
      | nil => exact o1.elim
      | cons b q =>
        cases q with
        | nil => exact ⟨_, _, rfl, o1 r1 H1 _ .refl rl1 ((l1.set a i).set b j)⟩
        | cons _ _ => exact o1.elim
/-! ### while -/
/-! ### for -/
/-- the walked thing yields the values ws, one after another, whatever happens meanwhile -/
structure ItOk (G : Gx) (H : Hp) (S : Sto) (r : Rh) (J : It) (ws : List W) : Prop where
  go : ∀ H1 S1 r1, Mp H S r H1 S1 r1 → Rl G H1 S1 r1 → ∀ i w, ws[i]? = some w → J.go i H1
  yld : ∀ H1 S1 r1, Mp H S r H1 S1 r1 → Rl G H1 S1 r1 → ∀ i w, ws[i]? = some w → ∀ x H2, J.yld i H1 x H2 → Ev H1 S1 r1 H2 S1 r1 ∧ Rl G H2 S1 r1 ∧ RW G H2 S1 r1 w x
  stop : ∀ H1 S1 r1, Mp H S r H1 S1 r1 → Rl G H1 S1 r1 → ∀ i, ws.length ≤ i → J.stop i H1
abbrev toI (G : Gx) (xv : Nat → Value) (Wx : WX) (d : DA) : TI := toX G xv Wx (fun H S r w J => ItOk G H S r J w) d
theorem PIi {tg e : Expr} {t t' : TI} (h : PI X tg e t) (i : ∀ s H Q, t' s H Q → t s H Q) : PI X tg e t' := ⟨fun pins s σ H Q I q => h.run pins s σ H Q I (i _ _ _ q)⟩
def forL (g : DG) (b : DS) : List W → Lo → Sto → F
  | [], t, S => .nx t S
  | w :: ws, t, S => match g w t S with
    | .ok t1 S1 => match b t1 S1 with
      | .nx t2 S2 => forL g b ws t2 S2
      | .ct t2 S2 => forL g b ws t2 S2
      | .bk t2 S2 => .nx t2 S2
      | x => x
    | _ => .no
def dFor (d : DA) (g : DG) (b : DS) : DS := fun t S => (d t S).toF t fun ws S1 => forL g b ws t S1
theorem ds_for {tg iter : Expr} {body : List Stmt} {d : DA} {g : DG} {db : DS} {pos : Pos} (k : Cok G X Wx) (hi : PI X tg iter (toI G xv Wx d)) (hg : PG X tg (toG G xv g)) (hb : PSs X body (toS G xv Wx db))
    (hs : ∀ x, foldedSetIterable iter X.env x = pure x := by intro _; rfl) : PS X (.For tg iter body [] pos) (toS G xv Wx (dFor d g db)) := PSi (ps_for k.po k.calm hi hg hb hs) fun D s H ⟨r, t, S, l, rl, o⟩ => by
  refine toX.bindS l rl o fun ws S1 r1 H1 J _ e1 rl1 l1 q o1 => ?_
  refine ⟨fun i m s2 H2 => ∃ r2 t2 S2, m + i = ws.length ∧ Ev H1 S1 r1 H2 S2 r2 ∧ Rl G H2 S2 r2 ∧ RLo G H2 S2 r2 t2 s2 ∧ OutS G xv Wx H2 S2 r2 (forL g db (ws.drop i) t2 S2) D, ⟨ws.length, r1, t, S1, rfl, .refl, rl1, l1, o1⟩, ?_⟩
  rintro i m s2 H2 ⟨r2, t2, S2, hm, e2, rl2, l2, o2⟩
  by_cases hi : i < ws.length
  · have hw : ws[i]? = some ws[i] := List.getElem?_eq_getElem hi
    rw [List.drop_eq_getElem_cons hi] at o2
    unfold forL at o2
    refine .inr ⟨q.go H2 S2 r2 e2.mp rl2 i _ hw, fun s3 H3 => ∃ r3 t3 S3, Ev H1 S1 r1 H3 S3 r3 ∧ Rl G H3 S3 r3 ∧ RLo G H3 S3 r3 t3 s3 ∧ OutS G xv Wx H3 S3 r3 (forL g db (ws.drop (i + 1)) t3 S3) D, fun s3 H3 ⟨r3, t3, S3, e3, rl3, l3, o3⟩ => ⟨m - 1, by omega, r3, t3, S3, by omega, e3, rl3, l3, o3⟩, fun x H3 hy => ?_⟩
    obtain ⟨e3, rl3, qx⟩ := q.yld H2 S2 r2 e2.mp rl2 i _ hw x H3 hy
    refine ⟨r2, t2, S2, ws[i], l2.ev e3, rl3, qx, ?_⟩
    have o3 := OutS.from e3 o2
    cases eg : g ws[i] t2 S2 with
    | er c ns us S4 => rw [eg] at o3; exact o3.elim
    | no => rw [eg] at o3; exact o3.elim
    | ok t4 S4 =>
      simp only [eg] at o3
      refine fun r4 H4 s4 e4 rl4 l4 => ⟨r4, t4, S4, l4, rl4, ?_⟩
      have o4 := OutS.from e4 o3
      cases eb : db t4 S4 with
      | nx t5 S5 => rw [eb] at o4; exact fun r5 H5 s5 e5 rl5 l5 => ⟨r5, t5, S5, ((e2.trans e3).trans e4).trans e5, rl5, l5, OutS.from e5 o4⟩
      | ct t5 S5 => rw [eb] at o4; exact fun r5 H5 s5 e5 rl5 l5 => ⟨r5, t5, S5, ((e2.trans e3).trans e4).trans e5, rl5, l5, OutS.from e5 o4⟩
      | bk t5 S5 => rw [eb] at o4; exact o4
      | rt w S5 => rw [eb] at o4; exact o4
      | er c ns us t5 S5 => rw [eb] at o4; exact o4
      | no => rw [eb] at o4; exact o4
  · have hl : ws.length ≤ i := Nat.le_of_not_lt hi
    rw [List.drop_eq_nil_of_le hl] at o2
    exact .inl ⟨q.stop H2 S2 r2 e2.mp rl2 i hl, o2 r2 H2 s2 .refl rl2 l2⟩
theorem itl {a : Addr} {ws : List W} {vs : List V} (hs : ∀ H1 S1 r1, Mp H S r H1 S1 r1 → SqL G.K H1 a vs) (q : RWs G H S r ws vs) : ItOk G H S r (Itl G.K a) ws where
  go := fun H1 S1 r1 e rl i w hw => by
    obtain ⟨v, h1, _⟩ := q.get hw
    exact ⟨vs, v, hs H1 S1 r1 e, h1⟩
  yld := fun H1 S1 r1 e rl i w hw x H2 hy => by
    obtain ⟨v, h1, h2⟩ := q.get hw
    obtain ⟨rfl, f⟩ := hy
    have := f vs (hs _ S1 r1 e)
    rw [h1] at this
    cases this
    exact ⟨.refl, rl, h2.mp e⟩
  stop := fun H1 S1 r1 e rl i hi => ⟨vs, hs H1 S1 r1 e, by rw [← q.length]; exact hi⟩
theorem itt {a : Addr} {ws : List W} {vs : List V} (ta : TupAt G H S r a vs) (q : RWs G H S r ws vs) : ItOk G H S r (Itt G.K a) ws where
  go := fun H1 S1 r1 e rl i w hw => by
    obtain ⟨v, h1, _⟩ := q.get hw
    exact ⟨vs, v, (ta.mp e).sq, h1⟩
  yld := fun H1 S1 r1 e rl i w hw x H2 hy => by
    obtain ⟨v, h1, h2⟩ := q.get hw
    obtain ⟨rfl, f⟩ := hy
    have := f vs (ta.mp e).sq
    rw [h1] at this
    cases this
    exact ⟨.refl, rl, h2.mp e⟩
  stop := fun H1 S1 r1 e rl i hi => ⟨vs, (ta.mp e).sq, by rw [← q.length]; exact hi⟩
end
end DD
namespace DD
open PySem PySem.Spec PyProof.Rows L2
section
variable {G : Gx} {xv : Nat → Value} {Wx : WX} {X : Cx} {H H' : Hp} {S S' : Sto} {r r' : Rh}
/-- no exception is let out -/
abbrev W0 : WX := fun _ _ _ _ => False
theorem Cok.blk (k : Cok G X Wx) (s : Shared) (H : Hp) (scope : Scope) (cenv : Env) (fp : List Addr) : Cok G (X.blk s H scope cenv fp) W0 :=
  ⟨k.kk, k.ww, fun _ _ ⟨_, _, _, _, _, _, _, _, _, _, _, _, _, _, _, _, w⟩ => w.elim, PassesOwn.never, k.calm, k.nd⟩
/-! ### comprehensions -/
def wipeW (t : Lo) : List Nat → Lo
  | [] => t
  | v :: vs => (wipeW t vs).set v none
theorem RLo.wipe {t : Lo} {s : L2.St} (q : RLo G H S r t s) : ∀ vs : List Nat, RLo G H S r (wipeW t vs) (wipe s vs)
  | [] => q
  | v :: vs => (q.wipe vs).unset v
theorem wipe_set {i : Nat} {v : Option V} : ∀ {vs : List Nat} {s : L2.St}, i ∈ vs → wipe (s.set i v) vs = wipe s vs
  | [], s, h => by simp at h
  | k :: vs, s, h => by
    unfold wipe
    by_cases hk : i = k
    · subst hk
      by_cases hi : i ∈ vs
      · rw [wipe_set hi]
      · have : ∀ (us : List Nat) (s : L2.St), i ∉ us → wipe (s.set i v) us = (wipe s us).set i v := by
          intro us
          induction us with
          | nil => intro s _; rfl
          | cons u us ih =>
            intro s hu
            simp only [List.mem_cons, not_or] at hu
            unfold wipe
            rw [ih s hu.2, List.set_comm _ _ hu.1]
        rw [this vs s hi, List.set_set]
    · rw [wipe_set ((List.mem_cons.mp h).resolve_left hk)]
theorem wipe_comm {v : Nat} : ∀ {vs : List Nat} {s : L2.St}, wipe (s.set v none) vs = (wipe s vs).set v none
  | [], s => rfl
  | k :: vs, s => by
    unfold wipe
    rw [wipe_comm]
    by_cases h : v = k
    · subst h; rfl
    · rw [List.set_comm _ _ h]
theorem wipe_wipe : ∀ {vs : List Nat} {s : L2.St}, wipe (wipe s vs) vs = wipe s vs
  | [], s => rfl
  | k :: vs, s => by
    show (wipe ((wipe s vs).set k none) vs).set k none = (wipe s vs).set k none
    rw [wipe_comm, wipe_wipe, List.set_set]
/-- the places of a target that is a name or a flat tuple of names -/
inductive Tg where
  | nm (i : Nat) | tp (is : List Nat) | sq (is : List Nat)
def gNs : List Nat → TGs
  | [] => gNil
  | i :: is => gCons (gName i) (gNs is)
def Tg.toTG (K : PySem.W.Frag) : Tg → TG
  | .nm i => gName i
  | .tp is => gTup K is.length (gNs is)
  | .sq is => fun v s H Q => gTup K is.length (gNs is) v s H Q ∨ gUnl K is.length (gNs is) v s H Q
def Tg.places : Tg → List Nat
  | .nm i => [i]
  | .tp is => is
  | .sq is => is
def setAll : Lo → List Nat → List W → Lo
  | t, i :: is, w :: ws => setAll (t.set i (some w)) is ws
  | t, _, _ => t
def Tg.put : Tg → W → Lo → Option Lo
  | .nm i, w, t => some (t.set i (some w))
  | .tp is, .tup ws, t => if ws.length = is.length then some (setAll t is ws) else none
  | .tp _, _, _ => none
  | .sq is, .tup ws, t => if ws.length = is.length then some (setAll t is ws) else none
  | .sq is, .lst ws, t => if ws.length = is.length then some (setAll t is ws) else none
  | .sq _, _, _ => none
theorem gNs_ok {vs : List Nat} {Q : L2.St → Hp → Prop} : ∀ {is : List Nat} {ws : List W} {xs : List V} {t : Lo} {s : L2.St}, (∀ i ∈ is, i ∈ vs) → RWs G H S r ws xs → RLo G H S r t s → ws.length = is.length → (∀ s', RLo G H S r (setAll t is ws) s' → wipe s' vs = wipe s vs → Q s' H) → gNs is xs s H Q
  | [], [], _, t, s, _, .nil, l, _, h => ⟨rfl, h s l rfl⟩
  | i :: is, w :: ws, _, t, s, hi, .cons a q, l, hl, h => by
    refine ⟨_, _, rfl, ?_⟩
    refine gNs_ok (fun j hj => hi j (List.mem_cons_of_mem _ hj)) q (l.set a i) (by simpa using hl) fun s' l' hw => h s' l' ?_
    rw [hw, wipe_set (hi i (List.mem_cons_self ..))]
  | [], _ :: _, _, _, _, _, _, _, hl, _ => by simp at hl
  | _ :: _, [], _, _, _, _, _, _, hl, _ => by simp at hl
theorem Tg.ok {vs : List Nat} {Q : L2.St → Hp → Prop} {g : Tg} {w : W} {x : V} {t t' : Lo} {s : L2.St} (hi : ∀ i ∈ g.places, i ∈ vs) (q : RW G H S r w x) (l : RLo G H S r t s) (e : g.put w t = some t')
    (h : ∀ s', RLo G H S r t' s' → wipe s' vs = wipe s vs → Q s' H) : g.toTG G.K x s H Q := by
  cases g with
  | nm i =>
    cases e
    exact h _ (l.set q i) (wipe_set (hi i (List.mem_cons_self ..)))
  | tp is =>
    cases w with
    | tup ws =>
      cases q with
      | @tup a _ xs ta q =>
        simp only [Tg.put] at e
        split at e
        · rename_i hl
          cases e
          exact ⟨a, xs, rfl, ta.sq, by rw [← q.length]; exact hl, gNs_ok hi q l hl h⟩
        · cases e
    | _ => cases e
  | sq is =>
    cases w with
    | tup ws =>
      cases q with
      | @tup a _ xs ta q =>
        simp only [Tg.put] at e
        split at e
        · rename_i hl
          cases e
          exact .inl ⟨a, xs, rfl, ta.sq, by rw [← q.length]; exact hl, gNs_ok hi q l hl h⟩
        · cases e
    | lst ws =>
      cases q with
      | @lst a _ xs ow q =>
        simp only [Tg.put] at e
        split at e
        · rename_i hl
          cases e
          exact .inr ⟨a, xs, rfl, .inl (.inl ow.1), by rw [← q.length]; exact hl, gNs_ok hi q l hl h⟩
        · cases e
    | _ => cases e
def lcL (g : Tg) (tt : DT) (te : DX) (t0 : Lo) : List W → List W → Sto → R W
  | [], acc, S => .ok (.lst acc) S
  | w :: ws, acc, S => match g.put w t0 with
    | some t1 => match tt t1 S with
      | .ok true S2 => match te t1 S2 with
        | .ok x S3 => if acc.length < sizeLine then lcL g tt te t0 ws (acc ++ [x]) S3 else .no
        | _ => .no
      | .ok false S2 => lcL g tt te t0 ws acc S2
      | _ => .no
    | none => .no
def dLc (d : DA) (g : Tg) (tt : DT) (te : DX) (vs : List Nat) : DX := fun t S => (d t S).bind fun ws S1 => lcL g tt te (wipeW t vs) ws [] S1
theorem toLc {d : DA} {g : Tg} {tt : DT} {te : DX} {vs : List Nat} (hv : ∀ i ∈ g.places, i ∈ vs) (s : L2.St) (H : Hp) (Q : VK) : toE G xv Wx (dLc d g tt te vs) s H Q → tLc (toI G xv Wx d) (g.toTG G.K) (toT G xv W0 tt) (toE G xv W0 te) vs s H Q := by
  rintro ⟨r, t, S, l, rl, o⟩
  refine toX.bind l rl o fun ws S1 r1 H1 J _ e1 rl1 l1 q o1 => ?_
  intro D hD
  obtain ⟨f1, z1⟩ := r1
  have hz1 : ¬ z1 D := fun z => by
    obtain ⟨u, h⟩ := rl1.zs D z
    rw [hD] at h; cases h
  have sub : ∀ a, z1 a → (z1 a ∨ a = D) := fun a h => .inl h
  -- from the base into a state with D
  have inn : ∀ {H2 : Hp} {S2 : Sto} {f2 : Nat → Addr}, Ev H1 S1 ⟨f1, z1⟩ H2 S2 ⟨f2, z1⟩ → Mp H1 S1 ⟨f1, z1⟩ H2 S2 ⟨f2, fun a => z1 a ∨ a = D⟩ := fun {H2 S2 f2} e2 =>
    ⟨fun a u ow k => ⟨(ow.ev e2 k.nt).1, fun lv => by
      rcases lv with lv | lv | lv
      · exact (ow.ev e2 k.nt).2 (.inl lv)
      · exact (ow.ev e2 k.nt).2 (.inr lv)
      · exact ne_of_none ow.1 hD lv⟩, e2.rho, e2.len⟩
  refine ⟨fun i m H2 => ∃ (f2 : Nat → Addr) (S2 : Sto) (acc : List W) (av : List V), m + i = ws.length ∧ Ev H1 S1 ⟨f1, z1⟩ H2 S2 ⟨f2, z1⟩ ∧ Rl G H2 S2 ⟨f2, fun a => z1 a ∨ a = D⟩ ∧ H2 D = some (.lst av) ∧ RWs G H2 S2 ⟨f2, fun a => z1 a ∨ a = D⟩ acc av ∧
      OutE G xv Wx (fun H S r w v => RW G H S r w v) s H1 S1 ⟨f1, z1⟩ (lcL g tt te (wipeW t vs) (ws.drop i) acc S2) Q,
    ⟨ws.length, f1, S1, [], [], rfl, Ev.fresh hD rl1, rl1.add hD, upd_same, .nil, o1⟩, ?_⟩
  rintro i m H2 ⟨f2, S2, acc, av, hm, e2, rl2, d2, qa, o2⟩
  by_cases hi : i < ws.length
  · have hw : ws[i]? = some ws[i] := List.getElem?_eq_getElem hi
    rw [List.drop_eq_getElem_cons hi] at o2
    unfold lcL at o2
    refine .inr ⟨q.go H2 S2 _ (inn e2) rl2 i _ hw, fun H3 => ∃ (f3 : Nat → Addr) (S3 : Sto) (acc : List W) (av : List V), Ev H1 S1 ⟨f1, z1⟩ H3 S3 ⟨f3, z1⟩ ∧ Rl G H3 S3 ⟨f3, fun a => z1 a ∨ a = D⟩ ∧ H3 D = some (.lst av) ∧ RWs G H3 S3 ⟨f3, fun a => z1 a ∨ a = D⟩ acc av ∧
      OutE G xv Wx (fun H S r w v => RW G H S r w v) s H1 S1 ⟨f1, z1⟩ (lcL g tt te (wipeW t vs) (ws.drop (i + 1)) acc S3) Q, fun H3 ⟨f3, S3, acc, av, a1, a2, a3, a4, a5⟩ => ⟨m - 1, by omega, f3, S3, acc, av, by omega, a1, a2, a3, a4, a5⟩, fun x H3 hy => ?_⟩
    obtain ⟨e3, rl3, qx⟩ := q.yld H2 S2 _ (inn e2) rl2 i _ hw x H3 hy
    have b3 : Ev H1 S1 ⟨f1, z1⟩ H3 S2 ⟨f2, z1⟩ := e2.trans (e3.less rl3 sub)
    have d3 : H3 D = some (.lst av) := e3.kz D _ d2 (.inr rfl)
    have l3 : RLo G H3 S2 ⟨f2, fun a => z1 a ∨ a = D⟩ (wipeW t vs) (wipe s vs) := (l1.mp (inn b3)).wipe vs
    cases eg : g.put ws[i] (wipeW t vs) with
    | none => rw [eg] at o2; exact o2.elim
    | some t4 =>
      simp only [eg] at o2
      refine Tg.ok hv qx l3 eg fun s4 l4 w4 => ⟨by rw [w4, wipe_wipe], _, t4, S2, l4, rl3, ?_⟩
      cases et : tt t4 S2 with
      | er c ns us S5 => simp only [et] at o2; exact o2.elim
      | no => simp only [et] at o2; exact o2.elim
      | ok k S5 =>
        rintro ⟨f5, z5⟩ H5 k' e5 rl5 rfl
        have hz5 : z5 = fun a => z1 a ∨ a = D := e5.zz
        subst hz5
        have b5 : Ev H1 S1 ⟨f1, z1⟩ H5 S5 ⟨f5, z1⟩ := b3.trans (e5.less rl5 sub)
        have d5 : H5 D = some (.lst av) := e5.kz D _ d3 (.inr rfl)
        have qa5 := (qa.ev e3).ev e5
        cases k with
        | false =>
          simp only [et] at o2
          rw [if_neg Bool.false_ne_true]
          exact ⟨f5, S5, acc, av, b5, rl5, d5, qa5, o2⟩
        | true =>
          simp only [et] at o2
          rw [if_pos rfl]
          refine ⟨_, t4, S5, l4.ev e5, rl5, ?_⟩
          cases ee : te t4 S5 with
          | er c ns us S6 => simp only [ee] at o2; exact o2.elim
          | no => simp only [ee] at o2; exact o2.elim
          | ok y S6 =>
            simp only [ee] at o2
            rintro ⟨f6, z6⟩ H6 v e6 rl6 qy
            have hz6 : z6 = fun a => z1 a ∨ a = D := e6.zz
            subst hz6
            have b6 : Ev H1 S1 ⟨f1, z1⟩ H6 S6 ⟨f6, z1⟩ := b5.trans (e6.less rl6 sub)
            have d6 : H6 D = some (.lst av) := e6.kz D _ d5 (.inr rfl)
            have qa6 := qa5.ev e6
            have hl : av.length = acc.length := qa6.length.symm
            by_cases hs : acc.length < sizeLine
            · rw [if_pos hs] at o2
              have mp : Mp H6 S6 ⟨f6, fun a => z1 a ∨ a = D⟩ (upd H6 D (.lst (av ++ [v]))) S6 ⟨f6, fun a => z1 a ∨ a = D⟩ := Mp.poke (.inr rfl)
              exact ⟨av, d6, by rw [hl]; exact hs, f6, S6, acc ++ [y], av ++ [v], b6.poke hD, rl6.poke (.inr rfl), upd_same, (qa6.mp mp).snoc (qy.mp mp), o2⟩
            · rw [if_neg hs] at o2; exact o2.elim
  · have hl : ws.length ≤ i := Nat.le_of_not_lt hi
    rw [List.drop_eq_nil_of_le hl] at o2
    refine .inl ⟨q.stop H2 S2 _ (inn e2) rl2 i hl, o2 ⟨f2, z1⟩ H2 _ e2 (rl2.less sub) (.lst ⟨d2, ?_⟩ (qa.mp (.less sub)))⟩
    rintro (⟨j, u, e, d, z⟩ | z)
    · exact rl2.dz j u e d (.inr z)
    · exact hz1 z
def dYes : DT := fun _ S => .ok true S
theorem dts_nil : PTs X [] (toT G xv Wx dYes) := ⟨fun pins s σ H Q I h => pts_nil.run pins s σ H Q I (by
  obtain ⟨r, t, S, l, rl, o⟩ := h
  exact o r H true .refl rl rfl)⟩
theorem dts_one {c : Expr} {d : DT} (h : PT X c (toT G xv Wx d)) : PTs X [c] (toT G xv Wx d) := pts_one h
/-! ### what is walked -/
def intsFrom (lo : Int) : Nat → List W
  | 0 => []
  | n + 1 => .int lo :: intsFrom (lo + 1) n
theorem intsFrom_length : ∀ (n : Nat) (lo : Int), (intsFrom lo n).length = n
  | 0, _ => rfl
  | n + 1, lo => congrArg Nat.succ (intsFrom_length n (lo + 1))
theorem intsFrom_get : ∀ (n : Nat) (lo : Int) (i : Nat) (w : W), (intsFrom lo n)[i]? = some w → i < n ∧ w = .int (lo + i)
  | 0, _, _, _, e => by simp [intsFrom] at e
  | n + 1, lo, 0, w, e => by
    simp [intsFrom] at e; subst e
    exact ⟨Nat.succ_pos n, by simp⟩
  | n + 1, lo, i + 1, w, e => by
    simp only [intsFrom, List.getElem?_cons_succ] at e
    obtain ⟨h1, h2⟩ := intsFrom_get n (lo + 1) i w e
    refine ⟨Nat.succ_lt_succ h1, ?_⟩
    rw [h2]
    congr 1
    omega
theorem itr {lo : Int} {n : Nat} : ItOk G H S r (Itr lo n) (intsFrom lo n) where
  go := fun H1 S1 r1 e rl i w hw => (intsFrom_get n lo i w hw).1
  yld := fun H1 S1 r1 e rl i w hw x H2 hy => by
    obtain ⟨rfl, rfl⟩ := hy
    obtain ⟨_, rfl⟩ := intsFrom_get n lo i w hw
    exact ⟨.refl, rl, .int _⟩
  stop := fun H1 S1 r1 e rl i hi => by rw [intsFrom_length] at hi; exact hi
def dRange1 (d : DA) : DA := fun t S => (d t S).bind fun ws S1 => match ws with
  | [.int j] => if -(2 ^ 62) ≤ j ∧ j < 2 ^ 62 then .ok (intsFrom 0 j.toNat) S1 else .no
  | _ => .no
def dRange2 (d : DA) : DA := fun t S => (d t S).bind fun ws S1 => match ws with
  | [.int i, .int j] => if -(2 ^ 62) ≤ i ∧ i < 2 ^ 62 ∧ -(2 ^ 62) ≤ j ∧ j < 2 ^ 62 then .ok (intsFrom i (j - i).toNat) S1 else .no
  | _ => .no
theorem di_range1 {tg a : Expr} {d : DA} {p pos : Pos} (ha : PA X [a] (toA G xv Wx d)) (hm : X.mg "range" = none) (hg : Gl X "range" := by rfl) (hs : starEach [a] X.env = [(false, eval a X.env)] := by rfl) : PI X tg (.Call (.Name "range" p) [a] [] pos) (toI G xv Wx (dRange1 d)) :=
  PIi (pi_range1 hg hm ha hs) fun s H Q ⟨r, t, S, l, rl, o⟩ => toX.bind l rl o fun ws S1 r1 H1 vs _ e1 rl1 l1 q o1 => by
    cases q with
    | nil => exact o1.elim
    | cons a q =>
      cases q with
      | nil =>
        cases a with
        | int j =>
          simp only [] at o1
          split at o1
          · rename_i h
            exact ⟨j, rfl, h.1, h.2, o1 r1 H1 _ .refl rl1 itr⟩
          · exact o1.elim
        | _ => exact o1.elim
      | cons _ _ => cases a <;> exact o1.elim
end
end DD
namespace DD
open PySem PySem.Spec PyProof.Rows L2
abbrev Fn := List W → Sto → R W
section
variable {G : Gx} {xv : Nat → Value} {Wx : WX} {X : Cx} {H H' : Hp} {S S' : Sto} {r r' : Rh}
/-! ### cutting what a call has left behind -/
/-- what stood ahead has no hold on what is newer -/
def GcS (S S' : Sto) : Prop := S.length ≤ S'.length ∧ ∀ i, i < S.length → S'[i]? = S[i]? ∨ ∃ o, S'[i]? = some o ∧ lowO S.length o = true
open Classical in
noncomputable def gcR (S : Sto) (x : R W) : R W :=
  match x with
  | .ok w S' => if GcS S S' ∧ lowW S.length w = true then .ok w (S'.take S.length) else .no
  | .er c ns ws S' => if GcS S S' ∧ lowL S.length ws = true then .er c ns ws (S'.take S.length) else .no
  | .no => .no
theorem GcS.low (g : GcS S S') (rl : Rl G H S r) : ∀ i o, i < S.length → S'[i]? = some o → lowO S.length o = true := fun i o hi e => by
  rcases g.2 i hi with z | ⟨u, e1, l⟩
  · rw [e] at z
    exact rl.low z.symm
  · rw [e] at e1; cases e1; exact l
theorem Xd.cut {n : Nat} {d : Option Addr} {ns : List Str} {ws : List W} (x : Xd G H S r d ns ws) (hn : n ≤ S.length) (l : lowL n ws = true) : Xd G H (S.take n) r d ns ws := by
  rcases x with x | ⟨a, vs, h1, h2, h3, h4⟩
  · exact .inl x
  · exact .inr ⟨a, vs, h1, h2.cut, h3, h4.cut hn l⟩
theorem outGc {s : L2.St} {x : R W} {Q : VK} (rl : Rl G H S r) (o : OutE G xv Wx (fun H S r w v => RW G H S r w v) s H S r (gcR S x) Q) : OutE G xv Wx (fun H S r w v => RW G H S r w v) s H S r x Q := by
  cases x with
  | no => exact o
  | ok w S1 =>
    unfold gcR at o
    simp only [] at o
    split at o
    · rename_i g
      exact fun r1 H1 v e1 rl1 q => o r1 H1 v (e1.cut (Nat.le_refl _) g.1.1) (rl1.cut g.1.1 (g.1.low rl)) (q.cut g.1.1 g.2)
    · exact o.elim
  | er c ns ws S1 =>
    unfold gcR at o
    simp only [] at o
    split at o
    · rename_i g
      exact fun r1 H1 d e1 rl1 q => o r1 H1 d (e1.cut (Nat.le_refl _) g.1.1) (rl1.cut g.1.1 (g.1.low rl)) (q.cut g.1.1 g.2)
    · exact o.elim
noncomputable def dGc (d : DX) : DX := fun t S => gcR S (d t S)
theorem de_gc {e : Expr} {d : DX} (h : PE X e (toE G xv Wx d)) : PE X e (toE G xv Wx (dGc d)) := PEi h fun s H Q ⟨r, t, S, l, rl, o⟩ => ⟨r, t, S, l, rl, outGc rl o⟩
/-! ### defs -/
def dFn (n : Nat) (b : DS) : Fn := fun ws S => match b (ws.map some ++ List.replicate (n - ws.length) none) S with
  | .nx _ S1 => .ok .non S1
  | .rt w S1 => .ok w S1
  | .er c ns us _ S1 => .er c ns us S1
  | _ => .no
noncomputable def gcF (f : Fn) : Fn := fun ws S => gcR S (f ws S)
def spF (G : Gx) (xv : Nat → Value) (n : Nat) (fn : Fn) : Sp := fun vs H Q E => vs.length = n ∧ ∃ r S ws, RWs G H S r ws vs ∧ Rl G H S r ∧ OutE G xv (fun c d _ H => E c d H) (fun H S r w v => RW G H S r w v) [] H S r (fn ws S) Q
/-- a def as its callers see it -/
structure DefOk (P : Program) (w : World) (K : PySem.W.Frag) (mg : Str → Option Value) (base : Heap) (G : Gx) (xv : Nat → Value) (f : Addr) (k : Nat) (n : Nat) (fn : Fn) : Prop where
  ex : ∃ (fd : FuncData) (ps : List Str), ps.length = n ∧ FnOk P w K mg base (L2.CX P w) k f fd ps (spF G xv n fn) ∧ Binds K fd ps []
  kp : PySem.W.keepIn K (.ref f) = true
theorem DefOk.mono {P : Program} {w : World} {K : PySem.W.Frag} {mg : Str → Option Value} {base : Heap} {f : Addr} {j k n : Nat} {fn : Fn} (h : DefOk P w K mg base G xv f j n fn) (le : j ≤ k) : DefOk P w K mg base G xv f k n fn :=
  ⟨let ⟨fd, ps, a, b, c⟩ := h.ex; ⟨fd, ps, a, b.mono le, c⟩, h.kp⟩
theorem DefOk.gc {P : Program} {w : World} {K : PySem.W.Frag} {mg : Str → Option Value} {base : Heap} {f : Addr} {k n : Nat} {fn : Fn} (h : DefOk P w K mg base G xv f k n fn) : DefOk P w K mg base G xv f k n (gcF fn) :=
  ⟨let ⟨fd, ps, a, b, c⟩ := h.ex; ⟨fd, ps, a, b.imp fun vs H Q E ⟨l, r, S, ws, q, rl, o⟩ => ⟨l, r, S, ws, q, rl, outGc rl o⟩, c⟩, h.kp⟩
theorem outFn {b : DS} {n : Nat} {ws : List W} {Q : VK} {E : XK} (o : OutE G xv (fun c d _ H => E c d H) (fun H S r w v => RW G H S r w v) [] H S r (dFn n b ws S) Q) :
    OutS G xv (fun c d _ H => E c d H) H S r (b (ws.map some ++ List.replicate (n - ws.length) none) S) { nx := fun _ H' => Q .non H', rt := Q } := by
  unfold dFn at o
  generalize b (ws.map some ++ List.replicate (n - ws.length) none) S = x at o
  cases x with
  | nx t S1 => exact fun r1 H1 s e rl l => o r1 H1 _ e rl .non
  | rt w S1 => exact o
  | bk t S1 => exact o.elim
  | ct t S1 => exact o.elim
  | er c ns us t S1 => exact fun r1 H1 s d e rl l x => o r1 H1 d e rl x
  | no => exact o.elim
theorem fn_ok {P : Program} {w : World} {K : PySem.W.Frag} {mg : Str → Option Value} {base : Heap} {cm : Nat → Addr} {TB : List (Addr × Str)} {lm : Option Addr} {li : Option LI} {x qual : Str} {params : Arguments} {body : List Stmt} {scope : Scope} {dvs : List V} {kws : List (Str × V)} {f : Addr} {fd : FuncData} {N ps : List Str} {k : Nat} {d : DS}
    (F : FunD K x qual params body scope dvs kws f fd) (Sc : FnScope N ps scope)
    (hd : ∀ (cdv : Value) (A : Around) (outer : List Env) (s : Shared) (H : Hp) (E : XK), Room k (A.deeper (envOfC qual scope s.heap.objs.size f cdv)) → Cok ⟨K, cm, w, TB, lm, li⟩ (cxOf (L2.CX P w) P w K mg base N qual scope f cdv A outer s H E) (fun c d _ H => E c d H) →
      PSs (cxOf (L2.CX P w) P w K mg base N qual scope f cdv A outer s H E) body (toS ⟨K, cm, w, TB, lm, li⟩ xv (fun c d _ H => E c d H) d)) : FnOk P w K mg base (L2.CX P w) (k + 1) f fd ps (spF ⟨K, cm, w, TB, lm, li⟩ xv ps.length (dFn N.length d)) := by
  refine F.ok Sc (fun vs H Q E h => h.1) fun cdv A outer s H vs Q E hr ⟨l, r, S, ws, q, rl, o⟩ => ⟨_, hd cdv A outer s H E hr ⟨rfl, rfl, takes_of rfl rfl rfl rfl, passes_of rfl, rfl, Sc.nd⟩, r, _, S, ?_, rl, outFn o⟩
  have : ws.length = vs.length := q.length
  unfold L2.start
  rw [← this]
  exact RLo.vals _ q
theorem def_ok {P : Program} {w : World} {K : PySem.W.Frag} {mg : Str → Option Value} {base : Heap} {cm : Nat → Addr} {TB : List (Addr × Str)} {lm : Option Addr} {li : Option LI} {x qual : Str} {params : Arguments} {body : List Stmt} {scope : Scope} {kws : List (Str × V)} {f : Addr} {fd : FuncData} {N ps : List Str} {k : Nat} {d : DS}
    (F : FunD K x qual params body scope [] kws f fd) (Sc : FnScope N ps scope)
    (hb : ∀ (kV doc pm : Value) (an : Option Addr) (cdv ct : Value) (us : List Value), us.length = ps.length → bindArgs (PySem.W.fnOf x qual params body scope .none kV doc pm an cdv ct) ⟨us, []⟩ = pure (ps.zip us))
    (hd : ∀ (cdv : Value) (A : Around) (outer : List Env) (s : Shared) (H : Hp) (E : XK), Room k (A.deeper (envOfC qual scope s.heap.objs.size f cdv)) → Cok ⟨K, cm, w, TB, lm, li⟩ (cxOf (L2.CX P w) P w K mg base N qual scope f cdv A outer s H E) (fun c d _ H => E c d H) →
      PSs (cxOf (L2.CX P w) P w K mg base N qual scope f cdv A outer s H E) body (toS ⟨K, cm, w, TB, lm, li⟩ xv (fun c d _ H => E c d H) d)) : DefOk P w K mg base ⟨K, cm, w, TB, lm, li⟩ xv f (k + 1) ps.length (dFn N.length d) :=
  ⟨⟨fd, ps, rfl, fn_ok F Sc hd, F.bindsN hb⟩, F.kp⟩
/-! ### calls -/
def dCall (fn : Fn) (d : DA) : DX := fun t S => (d t S).bind fun ws S1 => fn ws S1
theorem spOut {s : L2.St} {fn : Fn} {n : Nat} {ws : List W} {vs : List V} {Q : VK} (hl : vs.length = n) (q : RWs G H S r ws vs) (rl : Rl G H S r) (o : OutE G xv Wx (fun H S r w v => RW G H S r w v) s H S r (fn ws S) Q) : spF G xv n fn vs H Q (WE Wx s) := by
  refine ⟨hl, r, S, ws, q, rl, ?_⟩
  cases e : fn ws S with
  | ok w S1 => rw [e] at o; exact o
  | er c ns us S1 => rw [e] at o; exact o
  | no => rw [e] at o; exact o.elim
theorem de_call {x : Str} {p pos : Pos} {e : Expr} {es : List Expr} {d : DA} {f : Addr} {k n : Nat} {fn : Fn} (c : Cok G X Wx) (h : DefOk X.prog X.w X.K X.mg X.base G xv f k n fn) (hm : X.mg x = some (.ref f)) (hr : Room k X.A) (ha : PA X (e :: es) (toA G xv Wx d)) (hn : (e :: es).length = n := by rfl) (hg : Gl X x := by rfl)
    (hdb : (x == ("__debug__" : Str)) = false := by decide) (he : starEach (e :: es) X.env = (false, eval e X.env) :: starEach es X.env := by rfl) (hpl : (backTo pos (starEach es X.env)).any (·.1) = false := by rfl)
    (hlen : ∀ t S ws S', d t S = .ok ws S' → ws.length = (e :: es).length) : PE X (.Call (.Name x p) (e :: es) [] pos) (toE G xv Wx (dCall fn d)) := by
  obtain ⟨⟨fd, ps, hl, F, b⟩, kp⟩ := h
  refine PEi (pe_callSD (dvs := []) F hr hg hm kp b .nil (fun σ => passAt c.tk σ) ha hdb he hpl) fun s H Q ⟨r, t, S, l, rl, o⟩ => ?_
  refine toX.bind l rl o fun ws S1 r1 H1 vs e1 ev rl1 l1 q o1 => ?_
  rw [List.append_nil]
  exact spOut (by rw [← q.length, hlen t S ws S1 e1, hn]) q rl1 o1
theorem dNil_len : ∀ t S ws S', dNil t S = .ok ws S' → ws.length = 0 := fun t S ws S' e => by cases e; rfl
theorem dCons_len {a : DX} {b : DA} {n : Nat} (h : ∀ t S ws S', b t S = .ok ws S' → ws.length = n) : ∀ t S ws S', dCons a b t S = .ok ws S' → ws.length = n + 1 := fun t S ws S' e => by
  unfold dCons at e
  cases e1 : a t S with
  | ok w S1 =>
    rw [e1] at e
    simp only [R.bind_ok] at e
    cases e2 : b t S1 with
    | ok us S2 =>
      rw [e2] at e
      simp only [R.bind_ok, R.ok.injEq] at e
      rw [← e.1]
      exact congrArg Nat.succ (h t S1 us S2 e2)
    | er c ns us S2 => rw [e2] at e; cases e
    | no => rw [e2] at e; cases e
  | er c ns us S1 => rw [e1] at e; cases e
  | no => rw [e1] at e; cases e
/-! ### instances -/
/-- C(..) -/
def dMake (c : Nat) (fn : Fn) (d : DA) : DX := fun t S => (d t S).bind fun ws S1 => match fn (.ref S1.length :: ws) (S1 ++ [.ins c [] []]) with
  | .ok .non S2 => .ok (.ref S1.length) S2
  | .er k ns us S2 => .er k ns us S2
  | _ => .no
theorem outMake {s : L2.St} {c : Nat} {fn : Fn} {n : Nat} {ws : List W} {vs : List V} {Q : VK} (hl : vs.length + 1 = n) (q : RWs G H S r ws vs) (rl : Rl G H S r)
    (o : OutE G xv Wx (fun H S r w v => RW G H S r w v) s H S r (match fn (.ref S.length :: ws) (S ++ [.ins c [] []]) with
      | .ok .non S2 => .ok (.ref S.length) S2
      | .er k ns us S2 => .er k ns us S2
      | _ => .no) Q) (x dx : Addr) (nx : H x = none) (nd : H dx = none) (ne : dx ≠ x) :
    spF G xv n fn (.ref x :: vs) (upd (upd H dx (.own x)) x (.ins (G.cm c) dx [])) (fun v H2 => v = .non ∧ Q (.ref x) H2) (WE Wx s) := by
  have nx' : upd H dx (.own x) x = none := by rw [upd_ne ne.symm]; exact nx
  have e1 : Ev H S r (upd H dx (.own x)) S r := Ev.fresh nd rl
  have rl1 := rl.fresh (o := .own x) nd
  have e2 : Ev (upd H dx (.own x)) S r (upd (upd H dx (.own x)) x (.ins (G.cm c) dx [])) (S ++ [.ins c [] []]) (put r S.length x) := Ev.snoc nx'
  have rl2 := rl1.snoc (o := .ins c [] []) (ho := .ins (G.cm c) dx []) nx' (.ins (ns := []) (ws := []) (vs := []) rfl .nil)
  have e := e1.trans e2
  have qx : RW G (upd (upd H dx (.own x)) x (.ins (G.cm c) dx [])) (S ++ [.ins c [] []]) (put r S.length x) (.ref S.length) (.ref x) := by
    have := RW.ref (G := G) (H := upd (upd H dx (.own x)) x (.ins (G.cm c) dx [])) (S := S ++ [.ins c [] []]) (r := put r S.length x) (i := S.length) (by simp)
    rw [put_same] at this
    exact this
  refine ⟨by rw [List.length_cons]; exact hl, _, _, _, .cons qx (q.ev e), rl2, ?_⟩
  cases ef : fn (.ref S.length :: ws) (S ++ [.ins c [] []]) with
  | no => rw [ef] at o; exact o.elim
  | er k ns us S2 => rw [ef] at o; exact fun r3 H3 d e3 rl3 x3 => o r3 H3 d (e.trans e3) rl3 x3
  | ok w S2 =>
    rw [ef] at o
    cases w with
    | non =>
      intro r3 H3 v e3 rl3 q3
      cases q3
      refine ⟨rfl, o r3 H3 _ (e.trans e3) rl3 ?_⟩
      exact qx.ev e3
    | _ => exact o.elim
/-! ### fields -/
def fget (ns : List Str) (ws : List W) (f : Str) : Option W := (ns.zip ws).lookup f
def fput (ns : List Str) (ws : List W) (f : Str) (w : W) : List Str × List W := match ns, ws with
  | n :: ns, u :: us => if n = f then (n :: ns, w :: us) else let p := fput ns us f w; (n :: p.1, u :: p.2)
  | _, _ => ([f], [w])
theorem fget_ok {f : Str} {w : W} : ∀ {ns : List Str} {ws : List W} {vs : List V}, RWs G H S r ws vs → fget ns ws f = some w → ∃ v, (ns.zip vs).lookup f = some v ∧ RW G H S r w v
  | [], _, _, _, e => by simp [fget] at e
  | _ :: _, _, _, .nil, e => by simp [fget] at e
  | n :: ns, _, _, .cons a q, e => by
    simp only [fget, List.zip_cons_cons, List.lookup_cons] at e ⊢
    by_cases h : (f == n) = true
    · simp only [h] at e ⊢
      cases e
      exact ⟨_, rfl, a⟩
    · have h : (f == n) = false := by simpa using h
      simp only [h] at e ⊢
      exact fget_ok q e
theorem fput_ok {f : Str} {w : W} {v : V} (a : RW G H S r w v) : ∀ {ns : List Str} {ws : List W} {vs : List V}, ns.length = ws.length → RWs G H S r ws vs → ∃ vs', putF f v (ns.zip vs) = (fput ns ws f w).1.zip vs' ∧ (fput ns ws f w).1.length = (fput ns ws f w).2.length ∧ RWs G H S r (fput ns ws f w).2 vs'
  | [], [], _, _, .nil => ⟨[v], by simp [fput, putF], by simp [fput], .cons a .nil⟩
  | n :: ns, u :: us, _, hl, .cons (v := x) (vs := xs) b q => by
    by_cases h : n = f
    · refine ⟨v :: xs, ?_, ?_, ?_⟩
      · simp [fput, h, putF]
      · simp [fput, h] at hl ⊢; exact hl
      · simp only [fput, h, if_pos]; exact .cons a q
    · obtain ⟨vs', h1, h2, h3⟩ := fput_ok (f := f) a (ns := ns) (ws := us) (vs := xs) (by simpa using hl) q
      refine ⟨x :: vs', ?_, ?_, ?_⟩
      · simp [fput, h, putF, h1]
      · simp [fput, h, h2]
      · simp only [fput, h, if_neg, not_false_eq_true]; exact .cons b h3
  | [], _ :: _, _, hl, _ => by simp at hl
  | _ :: _, [], _, hl, _ => by simp at hl
def fieldOf (cs : List Nat) (f : Str) (w : W) (S : Sto) : Option W :=
  match w with
  | .obj c ns ws => if cs.contains c = true then fget ns ws f else none
  | .ref i => match S[i]? with
    | some (.ins c ns ws) => if cs.contains c = true then fget ns ws f else none
    | _ => none
  | _ => none
/-- o.f, of instances of the classes cs -/
def dFld (cs : List Nat) (f : Str) (d : DX) : DX := fun t S => (d t S).bind fun w S1 => match fieldOf cs f w S1 with
  | some x => .ok x S1
  | none => .no
theorem de_fld {cs : List Nat} {f : Str} {e : Expr} {d : DX} {pos : Pos} (h : PE X e (toE G xv Wx d)) (hc : ∀ c ∈ cs, Cls X.K (G.cm c) ∧ NoAttr X.K (G.cm c) f) (hb : attributeBase e f X.env (eval e X.env) = eval e X.env := by rfl) : PE X (.Attribute e f pos) (toE G xv Wx (dFld cs f d)) := PEi (pe_fld h hb) fun s H Q ⟨r, t, S, l, rl, o⟩ =>
  toX.bind l rl o fun w S1 r1 H1 v _ e1 rl1 l1 q o1 => by
    cases w with
    | obj c ns ws =>
      simp only [fieldOf] at o1
      by_cases hm : cs.contains c = true
      · rw [if_pos hm] at o1
        cases ef : fget ns ws f with
        | none => rw [ef] at o1; exact o1.elim
        | some x =>
          rw [ef] at o1
          cases q with
          | obj ow hl q =>
            obtain ⟨v, h1, h2⟩ := fget_ok q ef
            have hc := hc c (by simpa using hm)
            exact ⟨_, _, _, _, v, rfl, ow.1, hc.1, hc.2, h1, o1 r1 H1 v .refl rl1 h2⟩
      · rw [if_neg hm] at o1; exact o1.elim
    | ref i =>
      simp only [fieldOf] at o1
      cases es : S1[i]? with
      | none => rw [es] at o1; exact o1.elim
      | some u =>
        rw [es] at o1
        cases u with
        | ins c ns ws =>
          simp only [] at o1
          by_cases hm : cs.contains c = true
          · rw [if_pos hm] at o1
            cases ef : fget ns ws f with
            | none => rw [ef] at o1; exact o1.elim
            | some x =>
              rw [ef] at o1
              obtain ⟨ho, h1, h2⟩ := rl1.at_ i _ es (fun z => by cases z)
              cases q with
              | ref hi =>
                cases h2 with
                | ins hl q =>
                  obtain ⟨v, h3, h4⟩ := fget_ok q ef
                  have hc := hc c (by simpa using hm)
                  exact ⟨_, _, _, _, v, rfl, h1, hc.1, hc.2, h3, o1 r1 H1 v .refl rl1 h4⟩
          · rw [if_neg hm] at o1; exact o1.elim
        | _ => exact o1.elim
    | _ => exact o1.elim
def dSetF (cs : List Nat) (f : Str) (o e : DX) : DS := fun t S => (e t S).toF t fun v S1 => (o t S1).toF t fun w S2 => match w with
  | .ref i => match S2[i]? with
    | some (.ins c ns ws) => if cs.contains c = true ∧ ns.length < 1000 then .nx t (S2.set i (.ins c (fput ns ws f v).1 (fput ns ws f v).2)) else .no
    | _ => .no
  | _ => .no
theorem ds_fld {cs : List Nat} {f : Str} {o e : Expr} {dob de : DX} {pos pos' : Pos} (ho : PE X o (toE G xv Wx dob)) (he : PE X e (toE G xv Wx de)) (hc : ∀ c ∈ cs, Cls X.K (G.cm c) ∧ NoAttr X.K (G.cm c) f) (hs : swapsWith e (some (.Attribute o f pos')) pos.line X.env = pure false := by rfl) :
    PS X (.Assign [.Attribute o f pos'] e pos) (toS G xv Wx (dSetF cs f dob de)) := PSi (ps_fld ho he hs) fun D s H ⟨r, t, S, l, rl, o⟩ =>
  toX.bindS l rl o fun v S1 r1 H1 x _ e1 rl1 l1 q o1 => toX.bindS l1 rl1 o1 fun w S2 r2 H2 y _ e2 rl2 l2 qw o2 => by
    cases w with
    | ref i =>
      simp only [] at o2
      cases es : S2[i]? with
      | none => rw [es] at o2; exact o2.elim
      | some u =>
        rw [es] at o2
        cases u with
        | ins c ns ws =>
          simp only [] at o2
          split at o2
          · rename_i hm
            obtain ⟨ho, h1, h2⟩ := rl2.at_ i _ es (fun z => by cases z)
            cases qw with
            | ref hi =>
              cases h2 with
              | @ins _ dx _ _ vs hl q' =>
                have hc := hc c (by simpa using hm.1)
                obtain ⟨vs', p1, p2, p3⟩ := fput_ok (f := f) (q.ev e2) hl q'
                refine ⟨_, _, dx, _, rfl, h1, hc.1, hc.2, by rw [List.length_zip]; omega, ?_⟩
                rw [p1]
                exact o2 r2 _ _ (Ev.set rl2 es (fun z => by cases z)) (rl2.set es (fun z => by cases z) (.ins p2 p3)) (l2.ev (Ev.set rl2 es (fun z => by cases z)))
          · exact o2.elim
        | _ => exact o2.elim
    | _ => exact o2.elim
end
end DD
namespace DD
open PySem PySem.Spec PyProof.Rows L2
section
variable {G : Gx} {xv : Nat → Value} {Wx : WX} {X : Cx} {H H' : Hp} {S S' : Sto} {r r' : Rh}
/-! ### ints -/
def intD (C : Int → Int → Bool) (g : Int → Int → W) : D2 := fun a b S => match a, b with
  | .int i, .int j => if C i j = true then .ok (g i j) S else .no
  | _, _ => .no
def orD (f g : D2) : D2 := fun a b S => match f a b S with
  | .no => g a b S
  | x => x
theorem op_or {sem : Value → Value → Sem Value} {f g : D2} (hf : OpR X sem (toR2 G xv f)) (hg : OpR X sem (toR2 G xv g)) : OpR X sem (toR2 G xv (orD f g)) := by
  intro pins s σ H x y v u Q I rx ry ⟨r, S, a, b, rl, qa, qb, o⟩
  unfold orD at o
  cases e : f a b S with
  | ok w S1 => rw [e] at o; exact hf pins s σ H x y v u Q I rx ry ⟨r, S, a, b, rl, qa, qb, by rw [e]; exact o⟩
  | er c ns ws S1 => rw [e] at o; exact hf pins s σ H x y v u Q I rx ry ⟨r, S, a, b, rl, qa, qb, by rw [e]; exact o⟩
  | no => rw [e] at o; exact hg pins s σ H x y v u Q I rx ry ⟨r, S, a, b, rl, qa, qb, o⟩
theorem op_intD {sem : Value → Value → Sem Value} {C : Int → Int → Bool} {g : Int → Int → W} {gv : Int → Int → V} (hg : ∀ H S r i j, RW G H S r (g i j) (gv i j)) (h : OpR X sem (rI (fun i j => C i j = true) gv)) : OpR X sem (toR2 G xv (intD C g)) := by
  intro pins s σ H x y v u Q I rx ry ⟨r, S, a, b, rl, qa, qb, o⟩
  cases a with
  | int i =>
    cases b with
    | int j =>
      cases qa
      cases qb
      simp only [intD] at o
      split at o
      · rename_i hc
        exact h pins s σ H _ _ v u Q I rx ry ⟨i, j, rfl, rfl, hc, o r H _ .refl rl (hg H S r i j)⟩
      · exact o.elim
    | _ => exact o.elim
  | _ => exact o.elim
theorem opC {sem : Value → Value → Sem Value} {C C' : Int → Int → Prop} {g : Int → Int → V} (h : OpR X sem (rI C g)) (hi : ∀ i j, C' i j → C i j) : OpR X sem (rI C' g) := by
  intro pins s σ H x y v u Q I rx ry ⟨i, j, e1, e2, c, q⟩
  exact h pins s σ H x y v u Q I rx ry ⟨i, j, e1, e2, hi i j c, q⟩
theorem opC0 {sem : Value → Value → Sem Value} {C' : Int → Int → Prop} {g : Int → Int → V} (h : OpR X sem (rI0 g)) : OpR X sem (rI C' g) := by
  intro pins s σ H x y v u Q I rx ry ⟨i, j, e1, e2, c, q⟩
  exact h pins s σ H x y v u Q I rx ry ⟨i, j, e1, e2, q⟩
theorem opV {sem : Value → Value → Sem Value} {C : Int → Int → Prop} {g g' : Int → Int → V} (h : OpR X sem (rI C g)) (e : ∀ i j, C i j → g' i j = g i j) : OpR X sem (rI C g') := by
  intro pins s σ H x y v u Q I rx ry ⟨i, j, e1, e2, c, q⟩
  exact h pins s σ H x y v u Q I rx ry ⟨i, j, e1, e2, c, by rw [← e i j c]; exact q⟩
theorem opU {sem : Value → Value → Sem Value} {C C' : Int → Int → Prop} {g : Int → Int → V} (h : OpR X sem (rI C g)) (h' : OpR X sem (rI C' g)) : OpR X sem (rI (fun i j => C i j ∨ C' i j) g) := by
  intro pins s σ H x y v u Q I rx ry ⟨i, j, e1, e2, c, q⟩
  rcases c with c | c
  · exact h pins s σ H x y v u Q I rx ry ⟨i, j, e1, e2, c, q⟩
  · exact h' pins s σ H x y v u Q I rx ry ⟨i, j, e1, e2, c, q⟩
def yes2 : Int → Int → Bool := fun _ _ => true
def iAdd : D2 := intD yes2 fun i j => .int (i + j)
def iSub : D2 := intD yes2 fun i j => .int (i - j)
def mulOk (i j : Int) : Bool := decide (-(2 ^ 64) < i ∧ i < 2 ^ 64) || decide (-(2 ^ 64) < j ∧ j < 2 ^ 64) || decide (i.natAbs.log2 + j.natAbs.log2 < 1000000)
def iMul : D2 := intD mulOk fun i j => .int (i * j)
def divOk (_ j : Int) : Bool := decide (j ≠ 0) && decide (j.natAbs.log2 < 9000)
def fdiv (i j : Int) : Int := if 0 < j then i / j else i.fdiv j
def fmod (i j : Int) : Int := if 0 < j then i % j else i.fmod j
def iDiv : D2 := intD divOk fun i j => .int (fdiv i j)
def iMod : D2 := intD (fun _ j => decide (j ≠ 0)) fun i j => .int (fmod i j)
def powOk (i j : Int) : Bool := decide (0 ≤ j) && decide (j ≤ 1000000) && decide (i.natAbs < 2 ^ 64)
def iPow : D2 := intD powOk fun i j => .int (i ^ j.toNat)
def iShl : D2 := intD powOk fun i j => .int (i * 2 ^ j.toNat)
def iShr : D2 := intD (fun _ j => decide (0 ≤ j)) fun i j => .int (i / 2 ^ j.toNat)
def iAnd : D2 := intD yes2 fun i j => .int (Builtin.bitAnd i j)
def iOr : D2 := intD yes2 fun i j => .int (Builtin.bitOr i j)
def iLt : D2 := intD yes2 fun i j => .bl (decide (i < j))
def iLe : D2 := intD yes2 fun i j => .bl (decide (i ≤ j))
def iGt : D2 := intD yes2 fun i j => .bl (decide (j < i))
def iGe : D2 := intD yes2 fun i j => .bl (decide (j ≤ i))
theorem o_add : OpR X (binaryOp .Add) (toR2 G xv iAdd) := op_intD (fun _ _ _ _ _ => .int _) (opC0 op_add)
theorem o_sub : OpR X (binaryOp .Sub) (toR2 G xv iSub) := op_intD (fun _ _ _ _ _ => .int _) (opC0 op_sub)
theorem o_mul : OpR X (binaryOp .Mult) (toR2 G xv iMul) := op_intD (fun _ _ _ _ _ => .int _) (opC (opU op_mul op_mulW) fun i j h => by
  simp only [mulOk, Bool.or_eq_true, decide_eq_true_eq] at h
  exact h)
theorem o_div : OpR X (binaryOp .FloorDiv) (toR2 G xv iDiv) := op_intD (fun _ _ _ _ _ => .int _) (gv := fun i j => .int (fdiv i j)) (opV (g := fun i j => .int (i.fdiv j)) (opI fun i j _ _ _ _ _ hc q => by
    simp only [divOk, Bool.and_eq_true, decide_eq_true_eq] at hc
    exact floordiv_int hc.1 q (.inl (PyProof.noPylong_of_log2 hc.2))) fun i j c => by
  unfold fdiv
  split
  · rw [Int.fdiv_eq_ediv_of_nonneg i (by omega)]
  · rfl)
theorem o_mod : OpR X (binaryOp .Mod) (toR2 G xv iMod) := op_intD (fun _ _ _ _ _ => .int _) (gv := fun i j => .int (fmod i j)) (opV (opC op_modN fun i j h => of_decide_eq_true h) fun i j c => by
  unfold fmod
  split
  · rw [Int.fmod_eq_emod_of_nonneg i (by omega)]
  · rfl)
theorem powC {i j : Int} (h : powOk i j = true) : CPow i j := by
  simp only [powOk, Bool.and_eq_true, decide_eq_true_eq] at h
  exact ⟨h.1.1, h.1.2, h.2⟩
theorem o_pow : OpR X (binaryOp .Pow) (toR2 G xv iPow) := op_intD (fun _ _ _ _ _ => .int _) (opC op_pow fun i j h => powC h)
theorem o_shl : OpR X (binaryOp .LShift) (toR2 G xv iShl) := op_intD (fun _ _ _ _ _ => .int _) (opC op_shl fun i j h => powC h)
theorem o_shr : OpR X (binaryOp .RShift) (toR2 G xv iShr) := op_intD (fun _ _ _ _ _ => .int _) (opC op_shr fun i j h => of_decide_eq_true h)
theorem o_and : OpR X (binaryOp .BitAnd) (toR2 G xv iAnd) := op_intD (fun _ _ _ _ _ => .int _) (opC0 op_and)
theorem o_or : OpR X (binaryOp .BitOr) (toR2 G xv iOr) := op_intD (fun _ _ _ _ _ => .int _) (opC0 L2.op_or)
theorem o_lt : OpR X (compareOp .Lt) (toR2 G xv iLt) := op_intD (fun _ _ _ _ _ => .bl _) (opC0 op_lt)
theorem o_le : OpR X (compareOp .LtE) (toR2 G xv iLe) := op_intD (fun _ _ _ _ _ => .bl _) (opC0 op_le)
theorem o_gt : OpR X (compareOp .Gt) (toR2 G xv iGt) := op_intD (fun _ _ _ _ _ => .bl _) (opC0 op_gt)
theorem o_ge : OpR X (compareOp .GtE) (toR2 G xv iGe) := op_intD (fun _ _ _ _ _ => .bl _) (opC0 op_ge)
/-! ### reading lists and tuples, of the store or not -/
def seqL (S : Sto) : W → Option (List W)
  | .lst ws => some ws
  | .scr ws => some ws
  | .ref i => match S[i]? with
    | some (.lst ws) => some ws
    | _ => none
  | _ => none
def seqT : W → Option (List W)
  | .tup ws => some ws
  | _ => none
theorem seqL_ok {w : W} {v : V} {ws : List W} (rl : Rl G H S r) (q : RW G H S r w v) (e : seqL S w = some ws) : ∃ a vs, v = .ref a ∧ SqL G.K H a vs ∧ RWs G H S r ws vs := by
  cases w with
  | lst us =>
    cases e
    cases q with
    | lst ow q => exact ⟨_, _, rfl, .inl (.inl ow.1), q⟩
  | scr us =>
    cases e
    cases q with
    | scr ow q => exact ⟨_, _, rfl, ow.sq, q⟩
  | ref i =>
    simp only [seqL] at e
    cases e1 : S[i]? with
    | none => rw [e1] at e; cases e
    | some o =>
      rw [e1] at e
      cases o with
      | lst us =>
        cases e
        obtain ⟨ho, h1, h2⟩ := rl.at_ i _ e1 (fun z => by cases z)
        cases q with
        | ref hi =>
          cases h2 with
          | lst q => exact ⟨_, _, rfl, .inl (.inl h1), q⟩
      | _ => cases e
  | _ => cases e
theorem seqT_ok {w : W} {v : V} {ws : List W} (q : RW G H S r w v) (e : seqT w = some ws) : ∃ a vs, v = .ref a ∧ SqT G.K H a vs ∧ RWs G H S r ws vs := by
  cases w with
  | tup us =>
    cases e
    cases q with
    | tup ta q => exact ⟨_, _, rfl, ta.sq, q⟩
  | _ => cases e
theorem RWs.atI {ws : List W} {vs : List V} {i : Int} {w : W} (q : RWs G H S r ws vs) (e : L2.atI ws i = some w) : ∃ v, L2.atI vs i = some v ∧ RW G H S r w v := by
  unfold L2.atI at e ⊢
  rw [← q.length]
  cases e1 : ixN ws.length i with
  | none => rw [e1] at e; cases e
  | some j =>
    rw [e1] at e
    exact q.get e
/-! ### items -/
def ixD : D2 := fun a b S => match b with
  | .int i => match seqL S a with
    | some ws => match L2.atI ws i with
      | some w => .ok w S
      | none => .no
    | none => match seqT a with
      | some ws => match L2.atI ws i with
        | some w => .ok w S
        | none => .no
      | none => .no
  | _ => .no
theorem ixR_ixD (hk : X.K = G.K) : IxR X (toR2 G xv ixD) := by
  intro value slice pins s σ H x y v u Q I rx ry ⟨r, S, a, b, rl, qa, qb, o⟩ hs
  cases b with
  | int i =>
    cases qb
    simp only [ixD] at o
    cases e : seqL S a with
    | some ws =>
      rw [e] at o
      simp only [] at o
      obtain ⟨p, vs, rfl, hq, q⟩ := seqL_ok rl qa e
      cases e1 : L2.atI ws i with
      | none => rw [e1] at o; exact o.elim
      | some w =>
        rw [e1] at o
        obtain ⟨z, h1, h2⟩ := q.atI e1
        exact ix_list value slice pins s σ H _ _ v u Q I rx ry ⟨p, vs, i, z, rfl, rfl, by rw [hk]; exact hq, h1, o r H z .refl rl h2⟩ hs
    | none =>
      rw [e] at o
      simp only [] at o
      cases e2 : seqT a with
      | none => rw [e2] at o; exact o.elim
      | some ws =>
        rw [e2] at o
        simp only [] at o
        obtain ⟨p, vs, rfl, hq, q⟩ := seqT_ok qa e2
        cases e1 : L2.atI ws i with
        | none => rw [e1] at o; exact o.elim
        | some w =>
          rw [e1] at o
          obtain ⟨z, h1, h2⟩ := q.atI e1
          exact ix_tup value slice pins s σ H _ _ v u Q I rx ry ⟨p, vs, i, z, rfl, rfl, by rw [hk]; exact hq, h1, o r H z .refl rl h2⟩ hs
  | _ => exact o.elim
theorem de_ix {a b : Expr} {da db : DX} {pos : Pos} (c : Cok G X Wx) (ha : PE X a (toE G xv Wx da)) (hb : PE X b (toE G xv Wx db)) (hs : PlainIx b := by intro _ _; rfl) : PE X (.Subscript a b pos) (toE G xv Wx (dOp ixD da db)) :=
  PEi (pe_ix (ixR_ixD c.kk) ha hb hs) toOp
/-- xs[i] = e, of a list of the store -/
def gIx (da db : DX) : DG := fun w t S => match da t S with
  | .ok (.ref p) S1 => match db t S1 with
    | .ok (.int i) S2 => match S2[p]? with
      | some (.lst ws) => match ixN ws.length i with
        | some j => .ok t (S2.set p (.lst (ws.set j w)))
        | none => .no
      | _ => .no
    | _ => .no
  | _ => .no
theorem dg_ix {a b : Expr} {da db : DX} {pos : Pos} (ck : Cok G X Wx) (ha : PE X a (toE G xv Wx da)) (hb : PE X b (toE G xv Wx db)) (hs : ∀ v, assign (.Subscript a b pos) X.env v = (do
      let ov ← holding [v] (eval a X.env)
      let iv ← holding [v, ov] (eval b X.env)
      standAt pos
      holding [v, ov, iv] (setItem ov iv v)
      release [v, ov, iv] []) := by intro _; rfl) : PG X (.Subscript a b pos) (toG G xv (gIx da db)) :=
  PGi (pg_sub ha hb set_list hs) fun v s H Q ⟨r, t, S, w, l, rl, q, o⟩ => by
    refine ⟨r, t, S, l, rl, ?_⟩
    unfold gIx at o
    cases e : da t S with
    | no => rw [e] at o; exact o.elim
    | er c ns ws S1 => rw [e] at o; exact o.elim
    | ok p S1 =>
      rw [e] at o
      intro r1 H1 pv e1 rl1 qp
      cases p with
      | ref p =>
        cases qp with
        | ref hp =>
          refine ⟨r1, t, S1, l.ev e1, rl1, ?_⟩
          simp only [] at o
          cases eb : db t S1 with
          | no => rw [eb] at o; exact o.elim
          | er c ns ws S2 => rw [eb] at o; exact o.elim
          | ok i S2 =>
            rw [eb] at o
            intro r2 H2 iv e2 rl2 qi
            cases i with
            | int i =>
              cases qi
              simp only [] at o
              cases e3 : S2[p]? with
              | none => rw [e3] at o; exact o.elim
              | some u =>
                rw [e3] at o
                cases u with
                | lst ws =>
                  simp only [] at o
                  cases e4 : ixN ws.length i with
                  | none => rw [e4] at o; exact o.elim
                  | some j =>
                    rw [e4] at o
                    obtain ⟨ho, h1, h2⟩ := rl2.at_ p _ e3 (fun z => by cases z)
                    cases h2 with
                    | @lst _ vs qs =>
                      refine ⟨r1 p, vs, i, j, rfl, rfl, by rw [← e2.rho p hp]; exact h1, by rw [← qs.length]; exact e4, ?_⟩
                      have ev := (e1.trans e2).trans (Ev.set (o := .lst (ws.set j w)) (ho := .lst (vs.set j v)) rl2 e3 (fun z => by cases z))
                      rw [← e2.rho p hp]
                      exact o r2 _ s ev (rl2.set e3 (fun z => by cases z) (.lst (qs.set ((q.ev e1).ev e2) j))) (l.ev ev)
                | _ => exact o.elim
            | _ => exact o.elim
      | _ => exact o.elim
/-! ### data, compared -/
mutual
def eqW : W → W → Bool
  | .non, .non => true
  | .bl a, .bl b => a == b
  | .bl a, .int j => (if a then 1 else 0) == j
  | .int i, .bl b => i == (if b then 1 else 0)
  | .int i, .int j => i == j
  | .str x, .str y => x == y
  | .lst xs, .lst ys => eqWs xs ys
  | .lst xs, .scr ys => eqWs xs ys
  | .scr xs, .lst ys => eqWs xs ys
  | .scr xs, .scr ys => eqWs xs ys
  | .tup xs, .tup ys => eqWs xs ys
  | _, _ => false
def eqWs : List W → List W → Bool
  | [], [] => true
  | x :: xs, y :: ys => eqW x y && eqWs xs ys
  | _, _ => false
end
mutual
def toD : W → PyData
  | .bl b => .bool b
  | .int i => .int i
  | .str x => .str x
  | .tup l => .tuple (toDs l)
  | .lst l => .list (toDs l)
  | .scr l => .list (toDs l)
  | _ => .none
def toDs : List W → List PyData
  | [] => []
  | w :: l => toD w :: toDs l
end
/-- plain data of a depth of n at most -/
def dat : Nat → W → Bool
  | _, .non => true
  | _, .bl _ => true
  | _, .int _ => true
  | _, .str x => PyData.strOk x
  | n + 1, .tup l => l.all (dat n)
  | n + 1, .lst l => l.all (dat n)
  | n + 1, .scr l => l.all (dat n)
  | _, _ => false
theorem dat_lay : ∀ {n : Nat} {w : W}, dat n w = true → (toD w).canLay0 = true ∧ (toD w).depth ≤ n
  | _, .non, _ => by simp [toD, PyData.canLay0, PyData.depth]
  | _, .bl _, _ => by simp [toD, PyData.canLay0, PyData.depth]
  | _, .int _, _ => by simp [toD, PyData.canLay0, PyData.depth]
  | n, .str x, h => by
    have h : PyData.strOk x = true := by cases n <;> exact h
    simp [toD, PyData.canLay0, PyData.depth, h]
  | 0, .tup l, h => by simp [dat] at h
  | 0, .lst l, h => by simp [dat] at h
  | 0, .scr l, h => by simp [dat] at h
  | n + 1, .tup l, h => by
    have ⟨a, b⟩ := go n l h
    simp only [toD, PyData.canLay0, PyData.depth]
    exact ⟨a, by omega⟩
  | n + 1, .lst l, h => by
    have ⟨a, b⟩ := go n l h
    simp only [toD, PyData.canLay0, PyData.depth]
    exact ⟨a, by omega⟩
  | n + 1, .scr l, h => by
    have ⟨a, b⟩ := go n l h
    simp only [toD, PyData.canLay0, PyData.depth]
    exact ⟨a, by omega⟩
  | n, .ref _, h => by cases n <;> simp [dat] at h
  | n, .dic _ _, h => by cases n <;> simp [dat] at h
  | n, .dn _ _, h => by cases n <;> simp [dat] at h
  | n, .obj _ _ _, h => by cases n <;> simp [dat] at h
  | n, .cls _, h => by cases n <;> simp [dat] at h
  | n, .ty _, h => by cases n <;> simp [dat] at h
  | n, .lam, h => by cases n <;> simp [dat] at h
  | n, .exn _ _ _, h => by cases n <;> simp [dat] at h
where
  go (n : Nat) : ∀ (l : List W), l.all (dat n) = true → PyData.canLayAll0 (toDs l) = true ∧ PyData.depthAll (toDs l) ≤ n
    | [], _ => by simp [toDs, PyData.canLayAll0, PyData.depthAll]
    | w :: l, h => by
      simp only [List.all_cons, Bool.and_eq_true] at h
      have ⟨a, b⟩ := dat_lay h.1
      have ⟨c, d⟩ := go n l h.2
      simp only [toDs, PyData.canLayAll0, PyData.depthAll, a, c, Bool.and_self, true_and]
      exact Nat.max_le.mpr ⟨b, d⟩
theorem dat_shaped {n : Nat} {w : W} (h : dat n w = true) (hn : n ≤ 64) : SeqAt.shaped (toD w) = true := by
  have ⟨a, b⟩ := dat_lay h
  unfold SeqAt.shaped
  rw [a, Bool.true_and]
  exact decide_eq_true (by omega)
theorem dat_dp : ∀ {n : Nat} {w : W} {v : V}, dat n w = true → RW G H S r w v → Dp G.K H v (toD w)
  | _, .non, _, _, .non => by simp only [toD]; exact .non
  | _, .bl _, _, _, .bl b => by simp only [toD]; exact .bl b
  | _, .int _, _, _, .int b => by simp only [toD]; exact .int b
  | _, .str _, _, _, .str b => by simp only [toD]; exact .str b
  | n + 1, .tup l, _, h, .tup ta q => by simp only [toD]; exact .tup ta.sq (go n l _ h q)
  | n + 1, .lst l, _, h, .lst ow q => by simp only [toD]; exact .lst (.inl (.inl ow.1)) (go n l _ h q)
  | n + 1, .scr l, _, h, .scr ow q => by simp only [toD]; exact .lst ow.sq (go n l _ h q)
  | 0, .tup l, _, h, _ => by simp [dat] at h
  | 0, .lst l, _, h, _ => by simp [dat] at h
  | 0, .scr l, _, h, _ => by simp [dat] at h
  | n, .ref _, _, h, _ => by cases n <;> simp [dat] at h
  | n, .dic _ _, _, h, _ => by cases n <;> simp [dat] at h
  | n, .dn _ _, _, h, _ => by cases n <;> simp [dat] at h
  | n, .obj _ _ _, _, h, _ => by cases n <;> simp [dat] at h
  | n, .cls _, _, h, _ => by cases n <;> simp [dat] at h
  | n, .ty _, _, h, _ => by cases n <;> simp [dat] at h
  | n, .lam, _, h, _ => by cases n <;> simp [dat] at h
  | n, .exn _ _ _, _, h, _ => by cases n <;> simp [dat] at h
where
  go (n : Nat) : ∀ (l : List W) (vs : List V), l.all (dat n) = true → RWs G H S r l vs → DpAll G.K H vs (toDs l)
    | [], _, _, .nil => by simp only [toDs]; exact .nil
    | w :: l, _, h, .cons a q => by
      simp only [List.all_cons, Bool.and_eq_true] at h
      simp only [toDs]
      exact .cons (dat_dp h.1 a) (go n l _ h.2 q)
theorem eqvs_eqWs {n m : Nat} (ih : ∀ {a b : W}, dat n a = true → dat m b = true → PyData.eqv (toD a) (toD b) = eqW a b) : ∀ (l k : List W), l.all (dat n) = true → k.all (dat m) = true → PyData.eqvAll (toDs l) (toDs k) = eqWs l k
  | [], [], _, _ => by simp [toDs, PyData.eqvAll, eqWs]
  | [], _ :: _, _, _ => by simp [toDs, PyData.eqvAll, eqWs]
  | _ :: _, [], _, _ => by simp [toDs, PyData.eqvAll, eqWs]
  | a :: l, b :: k, h, g => by
    simp only [List.all_cons, Bool.and_eq_true] at h g
    simp only [toDs, PyData.eqvAll, eqWs, ih h.1 g.1, eqvs_eqWs ih l k h.2 g.2]
theorem eqv_eqW : ∀ {n m : Nat} {a b : W}, dat n a = true → dat m b = true → PyData.eqv (toD a) (toD b) = eqW a b := by
  intro n
  induction n with
  | zero =>
    intro m a b h g
    cases a <;> cases b <;> first | (simp [dat] at h; done) | (cases m <;> simp [dat] at g; done) | simp [toD, PyData.eqv, eqW]
  | succ n ih =>
    intro m a b h g
    cases m with
    | zero => cases a <;> cases b <;> first | (simp [dat] at h; done) | (simp [dat] at g; done) | simp [toD, PyData.eqv, eqW]
    | succ m =>
      cases a <;> cases b <;> first
        | (simp [dat] at h; done)
        | (simp [dat] at g; done)
        | (simp only [toD, PyData.eqv, eqW]; exact eqvs_eqWs (fun h g => ih h g) _ _ h g)
        | simp [toD, PyData.eqv, eqW]
/-- a list of the store as it stands -/
def lookS (S : Sto) : W → W
  | .ref i => match S[i]? with
    | some (.lst ws) => .lst ws
    | _ => .ref i
  | w => w
theorem look_dp {n : Nat} {w : W} {v : V} (rl : Rl G H S r) (h : dat n (lookS S w) = true) (q : RW G H S r w v) : Dp G.K H v (toD (lookS S w)) := by
  cases w with
  | ref i =>
    simp only [lookS] at h ⊢
    cases e1 : S[i]? with
    | none => simp only [e1] at h; cases n <;> simp [dat] at h
    | some o =>
      simp only [e1] at h ⊢
      cases o with
      | lst us =>
        obtain ⟨ho, h1, h2⟩ := rl.at_ i _ e1 (fun z => by cases z)
        cases q with
        | ref hi =>
          cases h2 with
          | lst q =>
            cases n with
            | zero => simp [dat] at h
            | succ n =>
              simp only [toD]
              exact .lst (.inl (.inl h1)) (dat_dp.go n us _ h q)
      | _ => cases n <;> simp [dat] at h
  | _ => exact dat_dp h q
/-- the depth of data that we compare -/
def dDep : Nat := 16
def eqD : D2 := fun a b S => if (dat dDep (lookS S a) && dat dDep (lookS S b)) = true then .ok (.bl (eqW (lookS S a) (lookS S b))) S else .no
def neD : D2 := fun a b S => if (dat dDep (lookS S a) && dat dDep (lookS S b)) = true then .ok (.bl (!eqW (lookS S a) (lookS S b))) S else .no
theorem o_eq (hk : X.K = G.K) (hu : X.A.units + 64 < cLine) : OpR X (compareOp .Eq) (toR2 G xv eqD) := by
  intro pins s σ H x y v u Q I rx ry ⟨r, S, a, b, rl, qa, qb, o⟩
  unfold eqD at o
  split at o
  · rename_i h
    rw [Bool.and_eq_true] at h
    refine op_eqD hu pins s σ H x y v u Q I rx ry ⟨_, _, by rw [hk]; exact look_dp rl h.1 qa, by rw [hk]; exact look_dp rl h.2 qb, dat_shaped h.1 (by decide), dat_shaped h.2 (by decide), ?_⟩
    rw [eqv_eqW h.1 h.2]
    exact o r H _ .refl rl (.bl _)
  · exact o.elim
theorem o_ne (hk : X.K = G.K) (hu : X.A.units + 64 < cLine) : OpR X (compareOp .NotEq) (toR2 G xv neD) := by
  intro pins s σ H x y v u Q I rx ry ⟨r, S, a, b, rl, qa, qb, o⟩
  unfold neD at o
  split at o
  · rename_i h
    rw [Bool.and_eq_true] at h
    refine op_neD hu pins s σ H x y v u Q I rx ry ⟨_, _, by rw [hk]; exact look_dp rl h.1 qa, by rw [hk]; exact look_dp rl h.2 qb, dat_shaped h.1 (by decide), dat_shaped h.2 (by decide), ?_⟩
    rw [eqv_eqW h.1 h.2]
    exact o r H _ .refl rl (.bl _)
  · exact o.elim
/-! ### in, not in -/
def inW (w : W) (ws : List W) : Bool := ws.any fun y => eqW y w
def inD : D2 := fun a b S => match lookS S b with
  | .lst ws => if (dat dDep a && ws.all (dat dDep)) = true then .ok (.bl (inW a ws)) S else .no
  | .tup ws => if (dat dDep a && ws.all (dat dDep)) = true then .ok (.bl (inW a ws)) S else .no
  | _ => .no
def notInD : D2 := fun a b S => match lookS S b with
  | .lst ws => if (dat dDep a && ws.all (dat dDep)) = true then .ok (.bl (!inW a ws)) S else .no
  | .tup ws => if (dat dDep a && ws.all (dat dDep)) = true then .ok (.bl (!inW a ws)) S else .no
  | _ => .no
theorem any_inW {a : W} {ws : List W} (h : dat dDep a = true) : ws.all (dat dDep) = true → ((toDs ws).any fun y => PyData.eqv y (toD a)) = inW a ws := by
  unfold inW
  induction ws with
  | nil => intro _; simp [toDs]
  | cons w ws ih =>
    intro g
    simp only [List.all_cons, Bool.and_eq_true] at g
    simp only [toDs, List.any_cons, eqv_eqW g.1 h, ih g.2]
theorem in_room {A : Around} {a : W} {ws : List W} (h : dat dDep a = true) (hu : A.units + 64 < cLine) : A.units + 1 + min (PyData.depthAll (toDs ws)) (toD a).depth < cLine := by
  have h1 := (dat_lay h).2
  have h2 : min (PyData.depthAll (toDs ws)) (toD a).depth ≤ (toD a).depth := Nat.min_le_right _ _
  have h3 : dDep = 16 := rfl
  omega
theorem o_in (hk : X.K = G.K) (hu : X.A.units + 64 < cLine) : OpR X (compareOp .In) (toR2 G xv inD) := by
  intro pins s σ H x y v u Q I rx ry ⟨r, S, a, b, rl, qa, qb, o⟩
  unfold inD at o
  cases e : lookS S b with
  | lst ws =>
    rw [e] at o
    simp only [] at o
    split at o
    · rename_i h
      rw [Bool.and_eq_true] at h
      have hd : dat (dDep + 1) (lookS S b) = true := by rw [e]; exact h.2
      have d1 := look_dp rl hd qb
      rw [e] at d1
      simp only [toD] at d1
      obtain ⟨as, r1⟩ := Dp.reads I _ x v (by rw [hk]; exact dat_dp h.1 qa) rx
      obtain ⟨bs, r2⟩ := Dp.reads I _ y u (by rw [hk]; exact d1) ry
      refine SeqAt.in_list_reads r2 r1 (dat_lay.go dDep ws h.2).1 (dat_lay h.1).1 (in_room h.1 hu) ⟨.bl _, H, I, rfl, ?_⟩
      rw [any_inW h.1 h.2]
      exact o r H _ .refl rl (.bl _)
    · exact o.elim
  | tup ws =>
    rw [e] at o
    simp only [] at o
    split at o
    · rename_i h
      rw [Bool.and_eq_true] at h
      have hd : dat (dDep + 1) (lookS S b) = true := by rw [e]; exact h.2
      have d1 := look_dp rl hd qb
      rw [e] at d1
      simp only [toD] at d1
      obtain ⟨as, r1⟩ := Dp.reads I _ x v (by rw [hk]; exact dat_dp h.1 qa) rx
      obtain ⟨bs, r2⟩ := Dp.reads I _ y u (by rw [hk]; exact d1) ry
      refine SeqAt.in_tuple_reads r2 r1 (dat_lay.go dDep ws h.2).1 (dat_lay h.1).1 (in_room h.1 hu) ⟨.bl _, H, I, rfl, ?_⟩
      rw [any_inW h.1 h.2]
      exact o r H _ .refl rl (.bl _)
    · exact o.elim
  | _ => rw [e] at o; exact o.elim
theorem o_notIn (hk : X.K = G.K) (hu : X.A.units + 64 < cLine) : OpR X (compareOp .NotIn) (toR2 G xv notInD) := by
  intro pins s σ H x y v u Q I rx ry ⟨r, S, a, b, rl, qa, qb, o⟩
  unfold notInD at o
  cases e : lookS S b with
  | lst ws =>
    rw [e] at o
    simp only [] at o
    split at o
    · rename_i h
      rw [Bool.and_eq_true] at h
      have hd : dat (dDep + 1) (lookS S b) = true := by rw [e]; exact h.2
      have d1 := look_dp rl hd qb
      rw [e] at d1
      simp only [toD] at d1
      obtain ⟨as, r1⟩ := Dp.reads I _ x v (by rw [hk]; exact dat_dp h.1 qa) rx
      obtain ⟨bs, r2⟩ := Dp.reads I _ y u (by rw [hk]; exact d1) ry
      refine SeqAt.notIn_list_reads r2 r1 (dat_lay.go dDep ws h.2).1 (dat_lay h.1).1 (in_room h.1 hu) ⟨.bl _, H, I, rfl, ?_⟩
      rw [any_inW h.1 h.2]
      exact o r H _ .refl rl (.bl _)
    · exact o.elim
  | tup ws =>
    rw [e] at o
    simp only [] at o
    split at o
    · rename_i h
      rw [Bool.and_eq_true] at h
      have hd : dat (dDep + 1) (lookS S b) = true := by rw [e]; exact h.2
      have d1 := look_dp rl hd qb
      rw [e] at d1
      simp only [toD] at d1
      obtain ⟨as, r1⟩ := Dp.reads I _ x v (by rw [hk]; exact dat_dp h.1 qa) rx
      obtain ⟨bs, r2⟩ := Dp.reads I _ y u (by rw [hk]; exact d1) ry
      refine SeqAt.notIn_tuple_reads r2 r1 (dat_lay.go dDep ws h.2).1 (dat_lay h.1).1 (in_room h.1 hu) ⟨.bl _, H, I, rfl, ?_⟩
      rw [any_inW h.1 h.2]
      exact o r H _ .refl rl (.bl _)
    · exact o.elim
  | _ => rw [e] at o; exact o.elim
end
end DD
namespace DD
open PySem PySem.Spec PyProof.Rows L2
section
variable {G : Gx} {xv : Nat → Value} {Wx : WX} {X : Cx} {H H' : Hp} {S S' : Sto} {r r' : Rh}
/-! ### truth -/
def truW (S : Sto) : W → Option Bool
  | .non => some false
  | .bl b => some b
  | .int i => some (i != 0)
  | .str x => if x.length ≤ sizeLine then some ((x.length : Int) != 0) else none
  | .tup l => some (!l.isEmpty)
  | .lst l => some (!l.isEmpty)
  | .scr l => some (!l.isEmpty)
  | .dic ks l => some (!l.isEmpty)
  | .ref i => match S[i]? with
    | some (.lst l) => some (!l.isEmpty)
    | some (.dic ks l) => some (!l.isEmpty)
    | _ => none
  | _ => none
theorem RWs.isEmpty {ws : List W} {vs : List V} (q : RWs G H S r ws vs) : vs.isEmpty = ws.isEmpty := by cases q <;> rfl
theorem zip_isEmpty {ks : List Key} {ws : List W} {vs : List V} (hl : ks.length = ws.length) (q : RWs G H S r ws vs) : (ks.zip vs).isEmpty = ws.isEmpty := by
  cases q with
  | nil => simp
  | cons a b =>
    cases ks with
    | nil => simp at hl
    | cons k ks => rfl
theorem truW_ok {w : W} {v : V} {k : Bool} (rl : Rl G H S r) (q : RW G H S r w v) (e : truW S w = some k) : TruV G.K v H k := by
  cases q with
  | non => cases e; rfl
  | bl b => cases e; rfl
  | int i => cases e; rfl
  | str x =>
    simp only [truW] at e
    split at e
    · rename_i h; cases e; exact ⟨h, rfl⟩
    · cases e
  | tup ta q => cases e; exact .inr (.inl ⟨_, ta.sq, by rw [q.isEmpty]⟩)
  | lst ow q => cases e; exact .inl ⟨_, .inl (.inl ow.1), by rw [q.isEmpty]⟩
  | scr ow q => cases e; exact .inl ⟨_, ow.sq, by rw [q.isEmpty]⟩
  | dic ow hl q => cases e; exact .inr (.inr ⟨_, ow.1, by rw [zip_isEmpty hl q]⟩)
  | dn _ _ _ _ => cases e
  | @ref i hi =>
    simp only [truW] at e
    cases e1 : S[i]? with
    | none => rw [e1] at e; cases e
    | some o =>
      rw [e1] at e
      cases o with
      | lst us =>
        cases e
        obtain ⟨ho, h1, h2⟩ := rl.at_ i _ e1 (fun z => by cases z)
        cases h2 with
        | lst q => exact .inl ⟨_, .inl (.inl h1), by rw [q.isEmpty]⟩
      | dic ks us =>
        cases e
        obtain ⟨ho, h1, h2⟩ := rl.at_ i _ e1 (fun z => by cases z)
        cases h2 with
        | dic hl q => exact .inr (.inr ⟨_, h1, by rw [zip_isEmpty hl q]⟩)
      | _ => cases e
  | obj _ _ _ => cases e
  | cls _ => cases e
  | ty _ => cases e
  | lam _ => cases e
  | exn _ _ _ _ _ => cases e
def dTru (d : DX) : DT := fun t S => (d t S).bind fun w S1 => match truW S1 w with
  | some k => .ok k S1
  | none => .no
theorem dt_truth {a : Expr} {d : DX} (c : Cok G X Wx) (ha : PE X a (toE G xv Wx d)) (he : ∀ whole, isTrue a X.env whole = (do let v ← whole; standAt a.pos; holding [v] (truthy v)) := by intro _; rfl) : PT X a (toT G xv Wx (dTru d)) := PTi (pt_truth ha he) fun s H Q ⟨r, t, S, l, rl, o⟩ =>
  toX.bind l rl o fun w S1 r1 H1 v _ e1 rl1 l1 q o1 => by
    cases e : truW S1 w with
    | none => rw [e] at o1; exact o1.elim
    | some k =>
      rw [e] at o1
      exact ⟨k, by rw [c.kk]; exact truW_ok rl1 q e, o1 r1 H1 k .refl rl1 rfl⟩
/-- not x, by truth -/
def dNotT (d : DX) : DX := fun t S => (d t S).bind fun w S1 => match truW S1 w with
  | some k => .ok (.bl (!k)) S1
  | none => .no
/-- x and y, x or y, by truth -/
def dAndT (a b : DX) : DX := fun t S => (a t S).bind fun w S1 => match truW S1 w with
  | some true => b t S1
  | some false => .ok w S1
  | none => .no
def dOrT (a b : DX) : DX := fun t S => (a t S).bind fun w S1 => match truW S1 w with
  | some true => .ok w S1
  | some false => b t S1
  | none => .no
theorem de_andT {a b : Expr} {rest : List Expr} {d e : DX} {pos : Pos} (c : Cok G X Wx) (ha : PE X a (toE G xv Wx d)) (hb : PE X (.BoolOp .And (b :: rest) pos) (toE G xv Wx e)) : PE X (.BoolOp .And (a :: b :: rest) pos) (toE G xv Wx (dAndT d e)) := PEi (pe_andT ha hb) fun s H Q ⟨r, t, S, l, rl, o⟩ =>
  toX.bind l rl o fun w S1 r1 H1 v _ e1 rl1 l1 q o1 => by
    cases e : truW S1 w with
    | none => rw [e] at o1; exact o1.elim
    | some k =>
      rw [e] at o1
      refine ⟨k, by rw [c.kk]; exact truW_ok rl1 q e, ?_⟩
      cases k with
      | true => exact ⟨r1, t, S1, l1, rl1, o1⟩
      | false => exact o1 r1 H1 _ .refl rl1 q
/-! ### built-ins -/
def toC1 (G : Gx) (xv : Nat → Value) (f : Fn) : List V → Hp → VK → Prop := fun vs H Q => ∃ r S ws, Rl G H S r ∧ RWs G H S r ws vs ∧ OutE G xv W0 (fun H S r w v => RW G H S r w v) [] H S r (f ws S) Q
def dBi (f : Fn) (d : DA) : DX := fun t S => (d t S).bind fun ws S1 => match f ws S1 with
  | .ok w S2 => .ok w S2
  | _ => .no
theorem toBi {f : Fn} {d : DA} (s : L2.St) (H : Hp) (Q : VK) : toE G xv Wx (dBi f d) s H Q → tCB (toC1 G xv f) (toA G xv Wx d) s H Q := by
  rintro ⟨r, t, S, l, rl, o⟩
  refine toX.bind l rl o fun ws S1 r1 H1 vs _ e1 rl1 l1 q o1 => ⟨r1, S1, ws, rl1, q, ?_⟩
  cases e : f ws S1 with
  | ok w S2 => rw [e] at o1; exact o1
  | er c ns us S2 => rw [e] at o1; exact o1.elim
  | no => rw [e] at o1; exact o1.elim
theorem de_callB {x : Str} {id : String} {e : Expr} {es : List Expr} {f : Fn} {d : DA} {p pos : Pos} (hc : CallR X (.builtin id) (toC1 G xv f)) (hv : bootBuiltins x = some (.builtin id)) (hm : X.mg x = none) (ha : PA X (e :: es) (toA G xv Wx d)) (hg : Gl X x := by rfl) (hn : x ≠ "__name__" := by decide) (hdb : (x == ("__debug__" : Str)) = false := by decide)
    (he : starEach (e :: es) X.env = (false, eval e X.env) :: starEach es X.env := by rfl) (hpl : (backTo pos (starEach es X.env)).any (·.1) = false := by rfl) : PE X (.Call (.Name x p) (e :: es) [] pos) (toE G xv Wx (dBi f d)) :=
  PEi (pe_callB hc hg hm hv ha hn hdb he hpl) toBi
theorem de_callTy {x : Str} {T : String} {e : Expr} {es : List Expr} {f : Fn} {d : DA} {p pos : Pos} (hc : CallR X (.type T) (toC1 G xv f)) (hv : bootBuiltins x = some (.type T)) (hm : X.mg x = none) (ha : PA X (e :: es) (toA G xv Wx d)) (hg : Gl X x := by rfl) (hn : x ≠ "__name__" := by decide) (hdb : (x == ("__debug__" : Str)) = false := by decide)
    (he : starEach (e :: es) X.env = (false, eval e X.env) :: starEach es X.env := by rfl) (hpl : (backTo pos (starEach es X.env)).any (·.1) = false := by rfl) : PE X (.Call (.Name x p) (e :: es) [] pos) (toE G xv Wx (dBi f d)) :=
  PEi (pe_callTy hc hg hm hv ha hn hdb he hpl) toBi
/-! len -/
def lenF : Fn := fun ws S => match ws with
  | [.str x] => if x.length ≤ sizeLine then .ok (.int x.length) S else .no
  | [w] => match seqL S w with
    | some l => .ok (.int l.length) S
    | none => match seqT w with
      | some l => .ok (.int l.length) S
      | none => .no
  | _ => .no
theorem c_len (hk : X.K = G.K) : CallR X (.builtin "len") (toC1 G xv lenF) := by
  intro pins s σ H xs us Q I rv ⟨r, S, ws, rl, q, o⟩
  cases q with
  | nil => exact o.elim
  | @cons w ws v vs a q =>
    cases q with
    | cons _ _ => cases w <;> exact o.elim
    | nil =>
      have seq : ∀ w', w = w' → (∀ x, w' ≠ .str x) → OutE G xv W0 (fun H S r w v => RW G H S r w v) [] H S r (match seqL S w with
          | some l => .ok (.int l.length) S
          | none => match seqT w with
            | some l => .ok (.int l.length) S
            | none => .no) Q → wpAny (model X.prog X.w) X.A (call (.builtin "len") us) (EP X pins σ Q) X.xe s := fun w' _ _ o => by
        cases e : seqL S w with
        | some l =>
          rw [e] at o
          obtain ⟨p, vs, rfl, hq, q⟩ := seqL_ok rl a e
          exact call_len_seq pins s σ H _ us Q I rv ⟨p, vs, rfl, .inl (by rw [hk]; exact hq), by rw [← q.length]; exact o r H _ .refl rl (.int _)⟩
        | none =>
          rw [e] at o
          simp only [] at o
          cases e2 : seqT w with
          | none => rw [e2] at o; exact o.elim
          | some l =>
            rw [e2] at o
            obtain ⟨p, vs, rfl, hq, q⟩ := seqT_ok a e2
            exact call_len_seq pins s σ H _ us Q I rv ⟨p, vs, rfl, .inr (by rw [hk]; exact hq), by rw [← q.length]; exact o r H _ .refl rl (.int _)⟩
      cases w with
      | str x =>
        cases a
        simp only [lenF] at o
        split at o
        · rename_i h
          exact call_len_str pins s σ H _ us Q I rv ⟨x, rfl, h, o r H _ .refl rl (.int _)⟩
        · exact o.elim
      | _ => exact seq _ rfl (fun x z => by cases z) o
/-! ints -/
def absF : Fn := fun ws S => match ws with
  | [.int i] => .ok (.int (if i < 0 then -i else i)) S
  | _ => .no
theorem c_abs : CallR X (.builtin "abs") (toC1 G xv absF) := by
  intro pins s σ H xs us Q I rv ⟨r, S, ws, rl, q, o⟩
  cases q with
  | nil => exact o.elim
  | @cons w ws v vs a q =>
    cases q with
    | cons _ _ => cases w <;> exact o.elim
    | nil =>
      cases w with
      | int i => cases a; exact call_abs pins s σ H _ us Q I rv ⟨i, rfl, o r H _ .refl rl (.int _)⟩
      | _ => exact o.elim
def intF : Fn := fun ws S => match ws with
  | [.int i] => .ok (.int i) S
  | [.bl k] => .ok (.int (if k then 1 else 0)) S
  | _ => .no
theorem c_int : CallR X (.type "int") (toC1 G xv intF) := by
  intro pins s σ H xs us Q I rv ⟨r, S, ws, rl, q, o⟩
  cases q with
  | nil => exact o.elim
  | @cons w ws v vs a q =>
    cases q with
    | cons _ _ => cases w <;> exact o.elim
    | nil =>
      cases w with
      | int i => cases a; exact call_int1 pins s σ H _ us Q I rv (.inl ⟨i, rfl, o r H _ .refl rl (.int _)⟩)
      | bl i => cases a; exact call_int1 pins s σ H _ us Q I rv (.inr ⟨i, rfl, o r H _ .refl rl (.int _)⟩)
      | _ => exact o.elim
def strF : Fn := fun ws S => match ws with
  | [.int i] => if i.natAbs.log2 < 1920 then .ok (.str (toString i)) S else .no
  | _ => .no
theorem c_str : CallR X (.type "str") (toC1 G xv strF) := by
  intro pins s σ H xs us Q I rv ⟨r, S, ws, rl, q, o⟩
  cases q with
  | nil => exact o.elim
  | @cons w ws v vs a q =>
    cases q with
    | cons _ _ => cases w <;> exact o.elim
    | nil =>
      cases w with
      | int i =>
        cases a
        simp only [strF] at o
        split at o
        · rename_i h; exact call_str_int pins s σ H _ us Q I rv ⟨i, rfl, h, o r H _ .refl rl (.str _)⟩
        · exact o.elim
      | _ => exact o.elim
def twoI (f : Int → Int → R W) : List W → R W
  | [.int i, .int j] => f i j
  | _ => .no
def max2F : Fn := fun ws S => twoI (fun i j => .ok (.int (if j > i then j else i)) S) ws
def min2F : Fn := fun ws S => twoI (fun i j => .ok (.int (if j < i then j else i)) S) ws
theorem two_ints {ws : List W} {vs : List V} {f : Int → Int → R W} {C : R W → Prop} (hno : ¬ C .no) (q : RWs G H S r ws vs) (o : C (twoI f ws)) : ∃ i j, ws = [.int i, .int j] ∧ vs = [.int i, .int j] ∧ C (f i j) := by
  cases q with
  | nil => exact absurd o hno
  | @cons w ws v vs a q =>
    cases q with
    | nil => cases w <;> exact absurd o hno
    | @cons w2 ws2 v2 vs2 b q =>
      cases q with
      | cons _ _ => cases w <;> first | exact absurd o hno | (cases w2 <;> exact absurd o hno)
      | nil =>
        cases w with
        | int i =>
          cases w2 with
          | int j => cases a; cases b; exact ⟨i, j, rfl, rfl, o⟩
          | _ => exact absurd o hno
        | _ => exact absurd o hno
theorem c_min2 (hc : X.calm = true) : CallR X (.builtin "min") (toC1 G xv min2F) := by
  intro pins s σ H xs us Q I rv ⟨r, S, ws, rl, q, o⟩
  obtain ⟨i, j, rfl, rfl, o⟩ := two_ints (C := fun x => OutE G xv W0 (fun H S r w v => RW G H S r w v) [] H S r x Q) (fun z => z) q o
  exact call_min2 hc pins s σ H _ us Q I rv ⟨i, j, rfl, o r H _ .refl rl (.int _)⟩
/-! list(..), tuple(..) -/
def listF : Fn := fun ws S => match ws with
  | [w] => match seqL S w with
    | some l => .ok (.lst l) S
    | none => match seqT w with
      | some l => .ok (.lst l) S
      | none => .no
  | _ => .no
/-- list(..), to be changed -/
def newListF : Fn := fun ws S => match ws with
  | [w] => match seqL S w with
    | some l => .ok (.ref S.length) (S ++ [.lst l])
    | none => match seqT w with
      | some l => .ok (.ref S.length) (S ++ [.lst l])
      | none => .no
  | _ => .no
def tupleF : Fn := fun ws S => match ws with
  | [w] => match seqL S w with
    | some l => .ok (.tup l) S
    | none => match seqT w with
      | some l => .ok (.tup l) S
      | none => .no
  | _ => .no
theorem newRef {p : Addr} {o : O} {ho : HO} : RW G (upd H p ho) (S ++ [o]) (put r S.length p) (.ref S.length) (.ref p) := by
  have := RW.ref (G := G) (H := upd H p ho) (S := S ++ [o]) (r := put r S.length p) (i := S.length) (by simp)
  rw [put_same] at this
  exact this
theorem c_tuple (hk : X.K = G.K) : CallR X (.type "tuple") (toC1 G xv tupleF) := by
  intro pins s σ H xs us Q I rv ⟨r, S, ws, rl, q, o⟩
  cases q with
  | nil => exact o.elim
  | @cons w ws v vs a q =>
    cases q with
    | cons _ _ => exact o.elim
    | nil =>
      simp only [tupleF] at o
      cases e : seqL S w with
      | some l =>
        rw [e] at o
        obtain ⟨p, vs, rfl, hq, q⟩ := seqL_ok rl a e
        exact call_tuple_of pins s σ H _ us Q I rv ⟨p, vs, rfl, .inl ⟨by rw [hk]; exact hq, fun l hl => o r _ _ (Ev.fresh hl rl) (rl.fresh hl) (.tup (.inl (Own.new hl rl)) (q.ev (Ev.fresh hl rl)))⟩⟩
      | none =>
        rw [e] at o
        simp only [] at o
        cases w with
        | tup l =>
          simp only [seqT] at o
          cases a with
          | tup ta q => exact call_tuple_of pins s σ H _ us Q I rv ⟨_, _, rfl, .inr ⟨by rw [hk]; exact ta.sq, o r H _ .refl rl (.tup ta q)⟩⟩
        | _ => exact o.elim
/-! all, any -/
def blsOf : List W → Option (List Bool)
  | [] => some []
  | .bl b :: l => (blsOf l).map (b :: ·)
  | _ => none
theorem blsOf_ok : ∀ {ws : List W} {vs : List V} {bs : List Bool}, RWs G H S r ws vs → blsOf ws = some bs → vs = bs.map V.bl
  | [], _, _, .nil, e => by cases e; rfl
  | w :: ws, _, bs, .cons a q, e => by
    cases w with
    | bl b =>
      cases a
      simp only [blsOf] at e
      cases e1 : blsOf ws with
      | none => rw [e1] at e; cases e
      | some l =>
        rw [e1] at e
        cases e
        rw [blsOf_ok q e1]
        rfl
    | _ => cases e
def allF : Fn := fun ws S => match ws with
  | [w] => match seqL S w with
    | some l => match blsOf l with
      | some bs => .ok (.bl (bs.all id)) S
      | none => .no
    | none => .no
  | _ => .no
theorem c_all (hk : X.K = G.K) (hc : X.calm = true) : CallR X (.builtin "all") (toC1 G xv allF) := by
  intro pins s σ H xs us Q I rv ⟨r, S, ws, rl, q, o⟩
  cases q with
  | nil => exact o.elim
  | @cons w ws v vs a q =>
    cases q with
    | cons _ _ => exact o.elim
    | nil =>
      simp only [allF] at o
      cases e : seqL S w with
      | none => rw [e] at o; exact o.elim
      | some l =>
        rw [e] at o
        simp only [] at o
        obtain ⟨p, vs, rfl, hq, q⟩ := seqL_ok rl a e
        cases eb : blsOf l with
        | none => rw [eb] at o; exact o.elim
        | some bs =>
          rw [eb] at o
          have hv := blsOf_ok q eb
          subst hv
          exact cr_all hc pins s σ H _ us Q I rv ⟨p, bs, rfl, by rw [hk]; exact hq, o r H _ .refl rl (.bl _)⟩
/-! sum of ints -/
/-! isinstance -/
/-- a kind of value: a built-in one or a class of one's own -/
inductive Ki where
  | b (n : String) | c (k : Nat)
  deriving DecidableEq
def Ki.v (cm : Nat → Addr) : Ki → Value
  | .b n => .type n
  | .c k => .ref (cm k)
def kiW (S : Sto) : W → Option Ki
  | .non => some (.b "NoneType")
  | .bl _ => some (.b "bool")
  | .int _ => some (.b "int")
  | .str _ => some (.b "str")
  | .tup _ => some (.b "tuple")
  | .lst _ => some (.b "list")
  | .scr _ => some (.b "list")
  | .dic _ _ => some (.b "dict")
  | .obj c _ _ => some (.c c)
  | .ref i => match S[i]? with
    | some (.lst _) => some (.b "list")
    | some (.dic _ _) => some (.b "dict")
    | some (.ins c _ _) => some (.c c)
    | _ => none
  | _ => none
def kiC : W → Option Ki
  | .ty n => some (.b n)
  | .cls c => some (.c c)
  | _ => none
/-- what isinstance asks of an own class -/
structure InsK (K : PySem.W.Frag) (C : Addr) : Prop where
  cl : Cls K C
  ha : PySem.W.findIn K (.ref C) "__class__" = some (some (.builtin "object.__class__"))
  hn : PySem.W.specialIn K (.builtin "object.__class__") "__get__" = some (some (.builtin "getset_descriptor.__get__"))
  htk : PySem.W.takesIn K (.builtin "object.__class__") = some true
  hm : PySem.W.mroIn K C (.type "object") = some true
def isiF (T : Ki → Ki → Option Bool) : Fn := fun ws S => match ws with
  | [w, c] => match kiW S w, kiC c with
    | some a, some b => match T a b with
      | some k => .ok (.bl k) S
      | none => .no
    | _, _ => .no
  | _ => .no
theorem kiW_ok {w : W} {v : V} {k : Ki} (rl : Rl G H S r) (hI : ∀ c, k = .c c → InsK G.K (G.cm c)) (q : RW G H S r w v) (e : kiW S w = some k) : TyX G.K H v (k.v G.cm) := by
  cases q with
  | non => cases e; exact .base .non
  | bl b => cases e; exact .base (.bl b)
  | int b => cases e; exact .base (.int b)
  | str b => cases e; exact .base (.str b)
  | tup ta q =>
    cases e
    rcases ta with ow | ⟨o, its, n, h1, h2, _⟩
    · exact .base (.tup ow.1)
    · exact .kTuple h1 h2
  | lst ow q => cases e; exact .base (.lst ow.1)
  | scr ta q =>
    cases e
    rcases ta with ⟨o, ow⟩ | ow | ⟨o, its, n, h1, h2, _⟩
    · exact .base (.frz ow.1)
    · exact .base (.lst ow.1)
    · exact .kList h1 h2
  | dic ow hl q => cases e; exact .base (.dK ow.1)
  | dn _ _ _ _ => cases e
  | obj ow hl q =>
    cases e
    have i := hI _ rfl
    exact .base (.ins ow.1 i.cl i.ha i.hn i.htk i.hm)
  | @ref i hi =>
    simp only [kiW] at e
    cases e1 : S[i]? with
    | none => rw [e1] at e; cases e
    | some o =>
      rw [e1] at e
      cases o with
      | lst us =>
        cases e
        obtain ⟨ho, h1, h2⟩ := rl.at_ i _ e1 (fun z => by cases z)
        cases h2 with
        | lst q => exact .base (.lst h1)
      | dic ks us =>
        cases e
        obtain ⟨ho, h1, h2⟩ := rl.at_ i _ e1 (fun z => by cases z)
        cases h2 with
        | dic hl q => exact .base (.dK h1)
      | ins c ns us =>
        cases e
        obtain ⟨ho, h1, h2⟩ := rl.at_ i _ e1 (fun z => by cases z)
        cases h2 with
        | ins hl q =>
          have i := hI _ rfl
          exact .base (.ins h1 i.cl i.ha i.hn i.htk i.hm)
      | dead => cases e
      | dn _ _ => cases e
  | cls _ => cases e
  | ty _ => cases e
  | lam _ => cases e
  | exn _ _ _ _ _ => cases e
theorem c_isi {T : Ki → Ki → Option Bool} (hk : X.K = G.K) (hT : ∀ a b k, T a b = some k → PySem.W.kitOne G.K (a.v G.cm) (b.v G.cm) = some k ∧ ∀ c, a = .c c → InsK G.K (G.cm c)) : CallR X (.builtin "isinstance") (toC1 G xv (isiF T)) := by
  intro pins s σ H xs us Q I rv ⟨r, S, ws, rl, q, o⟩
  cases q with
  | nil => exact o.elim
  | @cons w ws v vs a q =>
    cases q with
    | nil => exact o.elim
    | @cons c ws v2 vs b q =>
      cases q with
      | cons _ _ => exact o.elim
      | nil =>
        simp only [isiF] at o
        cases e1 : kiW S w with
        | none => rw [e1] at o; exact o.elim
        | some x =>
          cases e2 : kiC c with
          | none => rw [e1, e2] at o; exact o.elim
          | some y =>
            rw [e1, e2] at o
            simp only [] at o
            cases e3 : T x y with
            | none => rw [e3] at o; exact o.elim
            | some k =>
              rw [e3] at o
              obtain ⟨h1, h2⟩ := hT x y k e3
              have hc : ClsV v2 (y.v G.cm) := by
                cases c with
                | ty n => cases b; cases e2; exact .ty n
                | cls c => cases b; cases e2; exact .own _
                | _ => cases e2
              exact call_isi pins s σ H _ us Q I rv ⟨v, v2, _, _, k, rfl, hc, by rw [hk]; exact kiW_ok rl h2 a e1, by rw [hk]; exact h1, o r H _ .refl rl (.bl _)⟩
/-! ### lists joined, repeated; texts joined -/
def catD : D2 := fun a b S => match a, b with
  | .lst xs, .lst ys => if xs.length + ys.length ≤ sizeLine then .ok (.lst (xs ++ ys)) S else .no
  | _, _ => .no
theorem o_cat : OpR X (binaryOp .Add) (toR2 G xv catD) := by
  intro pins s σ H x y v u Q I rx ry ⟨r, S, a, b, rl, qa, qb, o⟩
  cases a with
  | lst ws =>
    cases b with
    | lst us =>
      cases qa with
      | lst ow q =>
        cases qb with
        | lst ow' q' =>
          simp only [catD] at o
          split at o
          · rename_i h
            exact op_cat pins s σ H _ _ v u Q I rx ry ⟨_, _, _, _, rfl, rfl, ow.1, ow'.1, by rw [← q.length, ← q'.length]; exact h, fun p hp => o r _ _ (Ev.fresh hp rl) (rl.fresh hp) (.lst (Own.new hp rl) ((q.append q').ev (Ev.fresh hp rl)))⟩
          · exact o.elim
    | _ => exact o.elim
  | _ => exact o.elim
def catT : D2 := fun a b S => match a, b with
  | .tup xs, .tup ys => if xs.length + ys.length ≤ sizeLine then .ok (.tup (xs ++ ys)) S else .no
  | _, _ => .no
theorem o_catT (hk : X.K = G.K) : OpR X (binaryOp .Add) (toR2 G xv catT) := by
  intro pins s σ H x y v u Q I rx ry ⟨r, S, a, b, rl, qa, qb, o⟩
  cases a with
  | tup ws =>
    cases b with
    | tup us =>
      cases qa with
      | @tup _ _ xs ta q =>
        cases qb with
        | @tup _ _ ys tb q' =>
          simp only [catT] at o
          split at o
          · rename_i h
            refine op_catA pins s σ H _ _ v u Q I rx ry ⟨_, _, _, _, rfl, rfl, by rw [hk]; exact ta.sq, by rw [hk]; exact tb.sq, by rw [← q.length, ← q'.length]; exact h, fun z => ?_, fun _ z => ?_, fun _ z p hp => ?_⟩
            · subst z; cases q
              rw [List.nil_append] at o
              exact o r H _ .refl rl (.tup tb q')
            · subst z; cases q'
              rw [List.append_nil] at o
              exact o r H _ .refl rl (.tup ta q)
            · exact o r _ _ (Ev.fresh hp rl) (rl.fresh hp) (.tup (.inl (Own.new hp rl)) ((q.append q').ev (Ev.fresh hp rl)))
          · exact o.elim
    | _ => exact o.elim
  | _ => exact o.elim
def catS : D2 := fun a b S => match a, b with
  | .str x, .str y => if x.length + y.length ≤ sizeLine then .ok (.str (x ++ y)) S else .no
  | _, _ => .no
theorem o_catS : OpR X (binaryOp .Add) (toR2 G xv catS) := by
  intro pins s σ H x y v u Q I rx ry ⟨r, S, a, b, rl, qa, qb, o⟩
  cases a with
  | str i =>
    cases b with
    | str j =>
      cases qa
      cases qb
      simp only [catS] at o
      split at o
      · rename_i h
        exact op_add_str pins s σ H _ _ v u Q I rx ry ⟨_, _, rfl, rfl, h, o r H _ .refl rl (.str _)⟩
      · exact o.elim
    | _ => exact o.elim
  | _ => exact o.elim
/-- a list times a number; new: it will be changed -/
def repD (new : Bool) : D2 := fun a b S => match a, b with
  | .lst xs, .int k => if -(2 ^ 63) ≤ k ∧ k < 2 ^ 63 ∧ xs.length * k.toNat ≤ sizeLine then (if new = true then .ok (.ref S.length) (S ++ [.lst (List.replicate k.toNat xs).flatten]) else .ok (.lst (List.replicate k.toNat xs).flatten) S) else .no
  | _, _ => .no
theorem RWs.rep {ws : List W} {vs : List V} (q : RWs G H S r ws vs) : ∀ n : Nat, RWs G H S r (List.replicate n ws).flatten (List.replicate n vs).flatten
  | 0 => .nil
  | n + 1 => by
    rw [List.replicate_succ, List.replicate_succ, List.flatten_cons, List.flatten_cons]
    exact q.append (q.rep n)
theorem o_rep {new : Bool} : OpR X (binaryOp .Mult) (toR2 G xv (repD new)) := by
  intro pins s σ H x y v u Q I rx ry ⟨r, S, a, b, rl, qa, qb, o⟩
  cases a with
  | lst ws =>
    cases b with
    | int k =>
      cases qa with
      | lst ow q =>
        cases qb
        simp only [repD] at o
        split at o
        · rename_i h
          refine op_rep pins s σ H _ _ v u Q I rx ry ⟨_, k, _, rfl, rfl, ow.1, h.1, h.2.1, by rw [← q.length]; exact h.2.2, fun p hp => ?_⟩
          cases new with
          | false => exact o r _ _ (Ev.fresh hp rl) (rl.fresh hp) (.lst (Own.new hp rl) ((q.rep _).ev (Ev.fresh hp rl)))
          | true => exact o _ _ _ (Ev.snoc hp) (rl.snoc hp (.lst (q.rep _))) newRef
        · exact o.elim
    | _ => exact o.elim
  | _ => exact o.elim
/-! ### is, is not -/
def isNone (neg : Bool) (d : DX) : DX := fun t S => (d t S).bind fun w S1 => match w with
  | .non => .ok (.bl (!neg)) S1
  | _ => .ok (.bl neg) S1
/-! ### signs -/
def dNeg (d : DX) : DX := fun t S => (d t S).bind fun w S1 => match w with
  | .int i => .ok (.int (-i)) S1
  | _ => .no
theorem de_neg {a : Expr} {d : DX} {pos : Pos} (ha : PE X a (toE G xv Wx d)) : PE X (.UnaryOp .USub a pos) (toE G xv Wx (dNeg d)) := PEi (pe_un un_neg ha) fun s H Q ⟨r, t, S, l, rl, o⟩ =>
  toX.bind l rl o fun w S1 r1 H1 v _ e1 rl1 l1 q o1 => by
    cases w with
    | int i => cases q; exact ⟨i, rfl, o1 r1 H1 _ .refl rl1 (.int _)⟩
    | _ => exact o1.elim
/-! ### methods of lists of the store -/
def toM (G : Gx) (xv : Nat → Value) (f : W → List W → Sto → R W) : V → List V → Hp → VK → Prop := fun x vs H Q => ∃ r S w ws, Rl G H S r ∧ RW G H S r w x ∧ RWs G H S r ws vs ∧ OutE G xv W0 (fun H S r w v => RW G H S r w v) [] H S r (f w ws S) Q
def appendM : W → List W → Sto → R W := fun w ws S => match w, ws with
  | .ref p, [y] => match S[p]? with
    | some (.lst xs) => if xs.length < sizeLine then .ok .non (S.set p (.lst (xs ++ [y]))) else .no
    | _ => .no
  | _, _ => .no
theorem m_append : MtR X "list.append" (toM G xv appendM) := by
  intro pins s σ H x xs v us Q I rx rv ⟨r, S, w, ws, rl, qw, q, o⟩
  cases w with
  | ref p =>
    cases q with
    | nil => exact o.elim
    | @cons y ws yv vs a q =>
      cases q with
      | cons _ _ => exact o.elim
      | nil =>
        simp only [appendM] at o
        cases e : S[p]? with
        | none => rw [e] at o; exact o.elim
        | some u =>
          rw [e] at o
          cases u with
          | lst zs =>
            simp only [] at o
            split at o
            · rename_i h
              obtain ⟨ho, h1, h2⟩ := rl.at_ p _ e (fun z => by cases z)
              cases qw with
              | ref hp =>
                cases h2 with
                | @lst _ zv qz =>
                  refine mt_append pins s σ H _ _ v us Q I rx rv ⟨r p, zv, yv, rfl, rfl, h1, by rw [← qz.length]; exact h, ?_⟩
                  exact o r _ _ (Ev.set rl e (fun z => by cases z)) (rl.set e (fun z => by cases z) (.lst (qz.snoc a))) .non
            · exact o.elim
          | _ => exact o.elim
  | _ => exact o.elim
def dMt (f : W → List W → Sto → R W) (o : DX) (d : DA) : DX := fun t S => (o t S).bind fun w S1 => match seqL S1 w with
  | some _ => (d t S1).bind fun ws S2 => match f w ws S2 with
    | .ok x S3 => .ok x S3
    | _ => .no
  | none => .no
theorem outMt {f : W → List W → Sto → R W} {w : W} {ws : List W} {s : L2.St} {Q : VK} (o : OutE G xv Wx (fun H S r w v => RW G H S r w v) s H S r (match f w ws S with
  | .ok x S3 => .ok x S3
  | _ => .no) Q) : OutE G xv W0 (fun H S r w v => RW G H S r w v) [] H S r (f w ws S) Q := by
  cases e : f w ws S with
  | ok x S3 => rw [e] at o; exact o
  | er c ns us S3 => rw [e] at o; exact o.elim
  | no => rw [e] at o; exact o.elim
theorem de_mtL {o e : Expr} {es : List Expr} {name : Str} {id : String} {f : W → List W → Sto → R W} {dob : DX} {d : DA} {apos cpos : Pos} (c : Cok G X Wx) (slot : Slot "list" name id) (hty : typeOf (.builtin id) = pure (.type "method_descriptor")) (hm : MtR X id (toM G xv f)) (ho : PE X o (toE G xv Wx dob)) (ha : PA X (e :: es) (toA G xv Wx d))
    (hbase : attributeBase o name X.env (eval o X.env) = eval o X.env := by rfl)
    (hfew : ((backTo cpos (starEach (e :: es) X.env)).all (fun x => !x.1) && (backToKw cpos (keywordEach [] X.env)).all (fun x => x.1.isSome)
      && decide ((e :: es).length + ([] : List Keyword).length + (if ([] : List Keyword).isEmpty then 0 else 1) < 30)) = true := by rfl)
    (hline : (apos.endLine == cpos.line) = true := by rfl) (hs : starEach (e :: es) X.env = (false, eval e X.env) :: starEach es X.env := by rfl) (hplain : (backTo cpos (starEach es X.env)).any (·.1) = false := by rfl) :
    PE X (.Call (.Attribute o name apos) (e :: es) [] cpos) (toE G xv Wx (dMt f dob d)) :=
  PEi (pe_bm PySem.F.plainAttrs_list slot hty hm ho ha hbase hfew hline hs hplain) fun s H Q ⟨r, t, S, l, rl, o⟩ =>
    toX.bind l rl o fun w S1 r1 H1 v _ e1 rl1 l1 q o1 => by
      cases e : seqL S1 w with
      | none => rw [e] at o1; exact o1.elim
      | some us =>
        rw [e] at o1
        obtain ⟨p, vs, rfl, hq, _⟩ := seqL_ok rl1 q e
        refine ⟨.inl ⟨rfl, vs, by rw [c.kk]; exact hq⟩, ?_⟩
        exact toX.bind l1 rl1 o1 fun ws S2 r2 H2 vs _ e2 rl2 l2 qs o2 => ⟨r2, S2, w, ws, rl2, q.ev e2, qs, outMt o2⟩
/-! ### slices -/
def cutW (xs : List W) (lo hi : Option Int) : List W := (xs.drop (HT.sIx xs.length 0 lo)).take (HT.sIx xs.length xs.length hi - HT.sIx xs.length 0 lo)
theorem RWs.cutW {ws : List W} {vs : List V} (q : RWs G H S r ws vs) (lo hi : Option Int) : RWs G H S r (DD.cutW ws lo hi) (cutV vs lo hi) := by
  unfold DD.cutW cutV
  rw [← q.length]
  exact (q.drop _).take _
abbrev DO := Lo → Sto → R (Option Int)
abbrev toO (G : Gx) (xv : Nat → Value) (Wx : WX) (d : DO) : TO := toX G xv Wx (fun _ _ _ (w : Option Int) v => w = v) d
def dNoP : DO := fun _ S => .ok none S
def dPart (d : DX) : DO := fun t S => (d t S).bind fun w S1 => match w with
  | .int i => .ok (some i) S1
  | _ => .no
theorem POi {e : Option Expr} {t t' : TO} (h : PO X e t) (i : ∀ s H Q, t' s H Q → t s H Q) : PO X e t' := ⟨fun pins s σ H Q I q => h.run pins s σ H Q I (i _ _ _ q)⟩
theorem do_none : PO X none (toO G xv Wx dNoP) := POi po_none fun s H Q ⟨r, t, S, l, rl, o⟩ => o r H none .refl rl rfl
theorem do_some {e : Expr} {d : DX} (h : PE X e (toE G xv Wx d)) : PO X (some e) (toO G xv Wx (dPart d)) := POi (po_some h) fun s H Q ⟨r, t, S, l, rl, o⟩ =>
  toX.bind l rl o fun w S1 r1 H1 v _ e1 rl1 l1 q o1 => by
    cases w with
    | int i => cases q; exact ⟨i, rfl, o1 r1 H1 _ .refl rl1 rfl⟩
    | _ => exact o1.elim
/-- a slice of a list is a new list (held as a value), of a tuple a tuple -/
def slW (w : W) (lo hi : Option Int) (S : Sto) : R W := match seqL S w with
  | some ws => .ok (.lst (cutW ws lo hi)) S
  | none => match seqT w with
    | some ws => .ok (.tup (cutW ws lo hi)) S
    | none => .no
def dSl (d : DX) (lo hi : DO) : DX := fun t S => (d t S).bind fun w S1 => (lo t S1).bind fun a S2 => (hi t S2).bind fun b S3 => match slW w a b S3 with
  | .ok x S4 => .ok x S4
  | _ => .no
theorem de_sl {e : Expr} {lo hi : Option Expr} {d : DX} {dl dh : DO} {p2 pos : Pos} (c : Cok G X Wx) (he : PE X e (toE G xv Wx d)) (hl : PO X lo (toO G xv Wx dl)) (hh : PO X hi (toO G xv Wx dh)) : PE X (.Subscript e (.Slice lo hi none p2) pos) (toE G xv Wx (dSl d dl dh)) :=
  PEi (pe_slice (SlR.or sl_list sl_tupA) he hl hh) fun s H Q ⟨r, t, S, l, rl, o⟩ =>
    toX.bind l rl o fun w S1 r1 H1 v _ e1 rl1 l1 q o1 => toX.bind l1 rl1 o1 fun a S2 r2 H2 av _ e2 rl2 l2 qa o2 => toX.bind l2 rl2 o2 fun b S3 r3 H3 bv _ e3 rl3 l3 qb o3 => by
      subst qa
      subst qb
      have qw := (q.ev e2).ev e3
      unfold slW at o3
      cases e : seqL S3 w with
      | some ws =>
        simp only [e] at o3
        obtain ⟨p, vs, rfl, hq, qs⟩ := seqL_ok rl3 qw e
        exact .inl ⟨p, vs, rfl, by rw [c.kk]; exact hq, fun p hp => o3 r3 _ _ (Ev.fresh hp rl3) (rl3.fresh hp) (.lst (Own.new hp rl3) ((qs.cutW a b).ev (Ev.fresh hp rl3)))⟩
      | none =>
        simp only [e] at o3
        cases e2 : seqT w with
        | none => simp only [e2] at o3; exact o3.elim
        | some ws =>
          simp only [e2] at o3
          obtain ⟨p, vs, rfl, hq, qs⟩ := seqT_ok qw e2
          refine .inr ⟨p, vs, rfl, by rw [c.kk]; exact hq, fun hw => ?_, fun hw p hp => o3 r3 _ _ (Ev.fresh hp rl3) (rl3.fresh hp) (.tup (.inl (Own.new hp rl3)) ((qs.cutW a b).ev (Ev.fresh hp rl3)))⟩
          have e3 : cutW ws a b = ws := by
            unfold cutW
            rw [qs.length, hw.1, hw.2, ← qs.length]
            simp
          rw [e3] at o3
          cases w with
          | tup us =>
            cases e2
            exact o3 r3 H3 _ .refl rl3 qw
          | _ => cases e2
end
end DD
namespace DD
open PySem PySem.Spec PyProof.Rows L2
section
variable {G : Gx} {xv : Nat → Value} {Wx : WX} {X : Cx} {H H' : Hp} {S S' : Sto} {r r' : Rh}
/-! ### sums of several kinds -/
def addD : D2 := orD iAdd (orD catD (orD catS catT))
theorem o_addD (hk : X.K = G.K) : OpR X (binaryOp .Add) (toR2 G xv addD) := op_or o_add (op_or o_cat (op_or o_catS (o_catT hk)))
def mulD (new : Bool) : D2 := orD iMul (repD new)
theorem o_mulD {new : Bool} : OpR X (binaryOp .Mult) (toR2 G xv (mulD new)) := op_or o_mul o_rep
theorem dt_isNone {a : Expr} {d : DX} {pos pos' : Pos} {j} (ha : PE X a (toE G xv Wx d)) : PT X (.Compare a [.Is] [.Constant .none j pos'] pos) (toT G xv Wx (dTest (isNone false d))) := PTi (pt_cmp (pc_isN ha) rfl) fun s H Q ⟨r, t, S, l, rl, o⟩ => by
  refine ⟨r, t, S, l, rl, ?_⟩
  unfold dTest isNone at o
  cases e : d t S with
  | no => rw [e] at o; exact o
  | er c ns ws S1 => rw [e] at o; exact o
  | ok w S1 =>
    rw [e] at o
    intro r1 H1 v e1 rl1 q
    cases q with
    | non => exact ⟨true, rfl, o r1 H1 true e1 rl1 rfl⟩
    | _ => exact ⟨false, rfl, o r1 H1 false e1 rl1 rfl⟩
theorem dt_notNone {a : Expr} {d : DX} {pos pos' : Pos} {j} (ha : PE X a (toE G xv Wx d)) : PT X (.Compare a [.IsNot] [.Constant .none j pos'] pos) (toT G xv Wx (dTest (isNone true d))) := PTi (pt_cmp (pc_notN ha) rfl) fun s H Q ⟨r, t, S, l, rl, o⟩ => by
  refine ⟨r, t, S, l, rl, ?_⟩
  unfold dTest isNone at o
  cases e : d t S with
  | no => rw [e] at o; exact o
  | er c ns ws S1 => rw [e] at o; exact o
  | ok w S1 =>
    rw [e] at o
    intro r1 H1 v e1 rl1 q
    cases q with
    | non => exact ⟨false, rfl, o r1 H1 false e1 rl1 rfl⟩
    | _ => exact ⟨true, rfl, o r1 H1 true e1 rl1 rfl⟩
/-- a list, the script, a tuple, one kind or the other -/
def dSeqI (d : DX) : DA := fun t S => (d t S).bind fun w S1 => match w with
  | .lst ws => .ok ws S1
  | .scr ws => .ok ws S1
  | .tup ws => .ok ws S1
  | _ => .no
theorem PIor {tg e : Expr} {t t' : TI} (h : PI X tg e t) (h' : PI X tg e t') : PI X tg e (fun s H R => t s H R ∨ t' s H R) := ⟨fun pins s σ H Q I q => q.elim (h.run pins s σ H Q I) (h'.run pins s σ H Q I)⟩
theorem di_seq {tg e : Expr} {d : DX} (k : Cok G X Wx) (he : PE X e (toE G xv Wx d)) : PI X tg e (toI G xv Wx (dSeqI d)) := by
  have key : PI X tg e (fun s H R => toE G xv Wx d s H fun x H1 => (∃ a, x = .ref a ∧ (∃ xs, SqL X.K H1 a xs) ∧ R (Itl X.K a) H1) ∨ (∃ a, x = .ref a ∧ (∃ xs, SqT X.K H1 a xs) ∧ R (Itt X.K a) H1)) := by
    refine ⟨fun pins s σ H R I h => ?_⟩
    refine thn (he.run pins s σ H _ I h) fun v s1 ⟨x, H1, I1, r1, q1⟩ => ?_
    rcases q1 with q1 | q1
    · obtain ⟨a, e, ⟨xs, hq⟩, q⟩ := q1
      subst e
      cases r1
      obtain ⟨its, rv, p, hz⟩ := I1.list hq
      refine wpAny_pyIter_list p.isList ?_
      refine ⟨s1.heap.objs.size, [s1.heap.objs.size], _, _, H1, rfl, I1.kept (t' := s1.toks) fun b o e => Heap.get?_push_of_some _ e, turn_list a _, ⟨_, Heap.get?_push_size _ rfl, rfl, rfl⟩, fun b hb => ?_, q⟩
      have e : b = s1.heap.objs.size := by simpa using hb
      subst e
      exact I1.fpOk (Nat.le_refl _) (I1.hok.fresh (Nat.le_refl _))
    · obtain ⟨a, e, ⟨xs, hq⟩, q⟩ := q1
      subst e
      cases r1
      obtain ⟨its, rv, p, hz⟩ := I1.tuple hq
      refine wpAny_pyIter_tuple (show s1.heap.IsTuple a its.toArray from p) ?_
      refine ⟨s1.heap.objs.size, [s1.heap.objs.size], _, _, H1, rfl, I1.kept (t' := s1.toks) fun b o e => Heap.get?_push_of_some _ e, turn_tuple a _, ⟨_, Heap.get?_push_size _ rfl, rfl, rfl⟩, fun b hb => ?_, q⟩
      have e : b = s1.heap.objs.size := by simpa using hb
      subst e
      exact I1.fpOk (Nat.le_refl _) (I1.hok.fresh (Nat.le_refl _))
  refine PIi key fun s H Q ⟨r, t, S, l, rl, o⟩ => ?_
  refine toX.bind l rl o fun w S1 r1 H1 v _ e1 rl1 l1 q o1 => ?_
  rw [k.kk]
  cases w with
  | lst ws =>
    cases q with
    | lst ow q => exact .inl ⟨_, rfl, ⟨_, .inl (.inl ow.1)⟩, o1 r1 H1 _ .refl rl1 (itl (fun H2 S2 r2 e2 => .inl (.inl (e2.own _ _ ow).1)) q)⟩
  | scr ws =>
    cases q with
    | scr ow q => exact .inl ⟨_, rfl, ⟨_, ow.sq⟩, o1 r1 H1 _ .refl rl1 (itl (fun H2 S2 r2 e2 => (ow.mp e2).sq) q)⟩
  | tup ws =>
    cases q with
    | tup ta q => exact .inr ⟨_, rfl, ⟨_, ta.sq⟩, o1 r1 H1 _ .refl rl1 (itt ta q)⟩
  | _ => exact o1.elim
end
/-! ### isinstance of built-in kinds -/
/-! ### the end -/
theorem ints_rw {G : Gx} {H : Hp} {S : Sto} {r : Rh} : ∀ ns : List Int, RWs G H S r (ns.map W.int) (ns.map V.int)
  | [] => .nil
  | n :: ns => .cons (.int n) (ints_rw ns)
theorem scr_rw {G : Gx} {H : Hp} {a : Addr} {ns : List Int} (h : SqL G.K H a (ns.map V.int)) : RW G H [] ⟨fun _ => 0, fun _ => False⟩ (.scr (ns.map W.int)) (.ref a) := by
  have nl : ¬ Lv [] ⟨fun _ => 0, fun _ => False⟩ a := by
    rintro (⟨i, o, e, _⟩ | z)
    · simp at e
    · exact z
  refine .scr ?_ (ints_rw ns)
  rcases h with (h | ⟨o, h⟩) | h
  · exact .inr (.inl ⟨h, nl⟩)
  · exact .inl ⟨o, h, nl⟩
  · exact .inr (.inr h)
theorem rl_nil {G : Gx} {H : Hp} (ht : ∀ p ∈ G.T, TabR H [] ⟨fun _ => 0, fun _ => False⟩ p.1 p.2 := by intro p h; cases h) (hl : ∀ li, G.li = some li → LamR G H [] ⟨fun _ => 0, fun _ => False⟩ li := by intro li h; cases h) : Rl G H [] ⟨fun _ => 0, fun _ => False⟩ := ⟨fun i o e => by simp at e, fun i j o u e => by simp at e, fun a z => z.elim, fun i o e => by simp at e, ht, hl⟩
/-- the law's own promise, by its mirror -/
theorem law_at {l : PySem.W.OpenLaw} {w : World} {K : PySem.W.Frag} {cm : Nat → Addr} {xv : Nat → Value} {k : Nat} {x : Str} {mg : Str → Option Value} {f : Addr} {h : Heap} {fn : Fn}
    (hb : ∃ fd : FuncData, (∀ (s : Shared) (u : Value), BindsTo s fd ⟨[u], []⟩ [(x, u)]) ∧ ∀ base : Heap, K.In base → base.Ns mainGlobals mg → FnOk l.prog w K mg base (L2.CX l.prog w) k f fd [x] (spF ⟨K, cm, w, [], none, none⟩ xv 1 fn))
    (hl : ∀ ns : List Int, ns.length ≤ 63 → (∀ z ∈ ns, Builtin.Int.intBits z ≤ 1048576) → ∃ S', fn [.scr (ns.map W.int)] [] = .ok (.bl true) S') : LamX.LawAtS l w K (L2.CX l.prog w) k 63 x mg f h := by
  obtain ⟨fd, b, F⟩ := hb
  refine ⟨fd, [], _, by simp, by simp, by simp, b, fun H a ns hn hbits _ hS => ?_, fun base h1 h2 _ => F base h1 h2⟩
  obtain ⟨S', e⟩ := hl ns hn hbits
  refine ⟨rfl, _, [], _, .cons (scr_rw hS) .nil, rl_nil, ?_⟩
  rw [e]
  intro r' H' v _ _ q
  cases q
  rfl
theorem cx_end (P : Program) (w : World) (H : Hp) (s : Shared) (e : Value) (s' : Shared) : L2.CX P w [] H s (fun _ _ _ => False) e s' → False := fun ⟨_, _, _, _, _, _, _, _, _, _, _, _, z⟩ => z
end DD
namespace DD
open PySem PySem.Spec PyProof.Rows L2
section
variable {G : Gx} {xv : Nat → Value} {Wx : WX} {X : Cx} {H H' : Hp} {S S' : Sto} {r r' : Rh}
/-! ### dicts of the store: int and text keys -/
def keyW : W → Option Key
  | .int i => some (.inl i)
  | .str x => some (.inr x)
  | _ => none
def dGetW (ks : List Key) (ws : List W) (k : Key) : Option W := match ks, ws with
  | a :: ks, w :: ws => if a = k then some w else dGetW ks ws k
  | _, _ => none
def dPutW (ks : List Key) (ws : List W) (k : Key) (x : W) : List Key × List W := match ks, ws with
  | a :: ks, w :: ws => if a = k then (a :: ks, x :: ws) else let p := dPutW ks ws k x; (a :: p.1, w :: p.2)
  | _, _ => ([k], [x])
/-- what a dict holds: of the store or a value -/
def dicOf (S : Sto) : W → Option (List Key × List W)
  | .dic ks ws => some (ks, ws)
  | .ref i => match S[i]? with
    | some (.dic ks ws) => some (ks, ws)
    | _ => none
  | _ => none
def dDIn (neg : Bool) (k d : DX) : DX := fun t S => (k t S).bind fun y S1 => (d t S1).bind fun w S2 => match dicOf S2 w, keyW y with
  | some p, some k => .ok (.bl (neg != (dGetW p.1 p.2 k).isSome)) S2
  | _, _ => .no
/-- d[k] = v -/
def dDPut (d k v : DX) : DS := fun t S => (v t S).toF t fun x S1 => (d t S1).toF t fun w S2 => (k t S2).toF t fun y S3 => match w with
  | .ref i => match S3[i]?, keyW y with
    | some (.dic ks ws), some k => if ks.Nodup ∧ ks.length < 1000000 then .nx t (S3.set i (.dic (dPutW ks ws k x).1 (dPutW ks ws k x).2)) else .no
    | _, _ => .no
  | _ => .no
/-! ### starred parts of a display -/
def seqA (S : Sto) (w : W) : Option (List W) := match seqL S w with
  | some l => some l
  | none => seqT w
def dStar (a : DX) (b : DA) : DA := fun t S => (a t S).bind fun w S1 => match seqA S1 w with
  | some l => (b t S1).bind fun ws S2 => .ok (l ++ ws) S2
  | none => .no
theorem seqA_ok {w : W} {v : V} {ws : List W} (rl : Rl G H S r) (q : RW G H S r w v) (e : seqA S w = some ws) : ∃ a vs, v = .ref a ∧ (SqT G.K H a vs ∨ SqL G.K H a vs) ∧ RWs G H S r ws vs := by
  unfold seqA at e
  cases e1 : seqL S w with
  | some l =>
    rw [e1] at e
    cases e
    obtain ⟨a, vs, h1, h2, h3⟩ := seqL_ok rl q e1
    exact ⟨a, vs, h1, .inr h2, h3⟩
  | none =>
    rw [e1] at e
    obtain ⟨a, vs, h1, h2, h3⟩ := seqT_ok q e
    exact ⟨a, vs, h1, .inl h2, h3⟩
theorem da_star {e : Expr} {es : List Expr} {d : DX} {ds : DA} {p : Pos} (c : Cok G X Wx) (h1 : PE X e (toE G xv Wx d)) (h2 : PA X es (toA G xv Wx ds)) (hs : starEach (.Starred e p :: es) X.env = (true, eval e X.env) :: starEach es X.env := by rfl) : PA X (.Starred e p :: es) (toA G xv Wx (dStar d ds)) :=
  PAi (StX.pa_star h1 h2 hs) fun s H Q ⟨r, t, S, l, rl, o⟩ => toX.bind l rl o fun w S1 r1 H1 v _ e1 rl1 l1 q o1 => by
    cases e : seqA S1 w with
    | none => rw [e] at o1; exact o1.elim
    | some us =>
      rw [e] at o1
      obtain ⟨a, vs, rfl, hq, qs⟩ := seqA_ok rl1 q e
      exact ⟨a, vs, rfl, by rw [c.kk]; exact hq, toX.bind l1 rl1 o1 fun ws S2 r2 H2 ys _ e2 rl2 l2 qw o2 => o2 r2 H2 _ .refl rl2 ((qs.ev e2).append qw)⟩
/-! ### operators of own classes -/
/-- an instance of the class c -/
def isOf (c : Nat) (w : W) (S : Sto) : Bool := match w with
  | .obj c' _ _ => decide (c' = c)
  | .ref i => match S[i]? with
    | some (.ins c' _ _) => decide (c' = c)
    | _ => false
  | _ => false
theorem isOf_ok {c : Nat} {w : W} {v : V} (rl : Rl G H S r) (q : RW G H S r w v) (h : isOf c w S = true) : ∃ a dx fs, v = .ref a ∧ H a = some (.ins (G.cm c) dx fs) := by
  cases w with
  | obj c' ns ws =>
    simp only [isOf, decide_eq_true_eq] at h
    subst h
    cases q with
    | obj ow hl q => exact ⟨_, _, _, rfl, ow.1⟩
  | ref i =>
    simp only [isOf] at h
    cases e : S[i]? with
    | none => rw [e] at h; cases h
    | some u =>
      rw [e] at h
      cases u with
      | ins c' ns ws =>
        simp only [decide_eq_true_eq] at h
        subst h
        obtain ⟨ho, h1, h2⟩ := rl.at_ i _ e (fun z => by cases z)
        cases q with
        | ref hi =>
          cases h2 with
          | ins hl q => exact ⟨_, _, _, rfl, h1⟩
      | _ => cases h
  | _ => cases h
theorem inst_at {pins : List (Addr × Obj)} {σ : L2.St} {s : Shared} {a C dx : Addr} {fs : List (Str × V)} (I : Inv X pins σ H s) (e : H a = some (.ins C dx fs)) : ∃ od, PySem.W.InstAt s.heap a (PySem.W.instObj C dx) C (some od) := by
  obtain ⟨mA, O, _⟩ := ins_get I.hok e
  obtain ⟨od, J, _⟩ := O.look
  exact ⟨od, J⟩
/-- the callee of an operator: nothing is let out -/
theorem run_op {pins : List (Addr × Obj)} {σ : L2.St} {s : Shared} {f : Addr} {k n : Nat} {fn : Fn} {ws : List W} {vs : List V} {us : List Value} {Q : VK} (h : DefOk X.prog X.w X.K X.mg X.base G xv f k n fn) (hr : Room k X.A) (I : Inv X pins σ H s) (hv : Vals vs us) (hl : vs.length = n) (q : RWs G H S r ws vs) (rl : Rl G H S r)
    (o : OutE G xv W0 (fun H S r w v => RW G H S r w v) [] H S r (fn ws S) Q) : wpAny (model X.prog X.w) X.A (call (.ref f) us) (EP X pins σ Q) X.xe s := by
  obtain ⟨⟨fd, ps, hp, F, b⟩, kp⟩ := h
  have sp : spF G xv n fn vs H Q E0 := ⟨hl, r, S, ws, q, rl, by
    cases e : fn ws S with
    | ok w S1 => rw [e] at o; exact o
    | er c ns us S1 => rw [e] at o; exact o
    | no => rw [e] at o; exact o⟩
  exact run_fn (ds := []) (dvs := []) (E := E0) F hr b .nil passL I hv (by rw [List.append_nil]; exact sp)
def usrD (c : Nat) (fn : Fn) : D2 := fun a b S => if (isOf c a S && isOf c b S) = true then fn [a, b] S else .no
theorem o_usrC {op : CmpOp} {c : Nat} {f : Addr} {k : Nat} {fn : Fn} {m : Str} (hk : X.K = G.K) (h : DefOk X.prog X.w X.K X.mg X.base G xv f k 2 fn) (hr : Room k X.A) (M : Meth G.K (G.cm c) m f) (hop : ∀ a b, compareOp op a b = richCompare op a b := by intro _ _; rfl) (hm : (cmpInfo op).2.1 = m := by rfl) : OpR X (compareOp op) (toR2 G xv (usrD c fn)) := by
  intro pins s σ H x y v u Q I rx ry ⟨r, S, a, b, rl, qa, qb, o⟩
  unfold usrD at o
  split at o
  · rename_i hi
    rw [Bool.and_eq_true] at hi
    obtain ⟨p, dx, fs, rfl, e1⟩ := isOf_ok rl qa hi.1
    obtain ⟨p', dx', fs', rfl, e2⟩ := isOf_ok rl qb hi.2
    cases (show v = Value.ref p from rx)
    cases (show u = Value.ref p' from ry)
    obtain ⟨od, J⟩ := inst_at I e1
    obtain ⟨od', J'⟩ := inst_at I e2
    obtain ⟨m, hF⟩ := I.fr
    subst hm
    rw [hop]
    refine PySem.W.cmp_K (op := op) (K := X.K) (tb := .ref (G.cm c)) hr.units0 hF I.ok.mod.kin J J'.type (by unfold PySem.W.notFirst; simp) (by rw [hk]; exact M.at_) (by rw [hk]; exact M.fn) ?_
    refine wpAny_mono (run_op (vs := [.ref p, .ref p']) h hr I (.cons rfl (.cons rfl .nil)) rfl (.cons qa (.cons qb .nil)) rl o) (fun w s' z => ?_) fun _ _ z => z
    obtain ⟨z', H', I', rz, qz⟩ := z
    cases w <;> first | exact ⟨z', H', I', rz, qz⟩ | (cases z' <;> first | exact nomatch rz | (obtain ⟨t, e⟩ := rz; exact nomatch e))
  · exact o.elim
/-! ### x op= e -/
def dAug (i : Nat) (f : D2) (d : DX) : DS := fun t S => match t[i]? with
  | some (some a) => (d t S).toF t fun b S1 => match f a b S1 with
    | .ok w S2 => .nx (t.set i (some w)) S2
    | _ => .no
  | _ => .no
theorem ds_aug {i : Nat} {x : Str} {e : Expr} {op : Operator} {f : D2} {d : DX} {pos pos' : Pos} (c : Cok G X Wx) (ho : OpR X (inplaceOp op) (toR2 G xv f)) (he : PE X e (toE G xv Wx d)) (hi : X.N[i]? = some x := by rfl) (hx : Loc X.env.scope x := by first | exact Or.inl rfl | exact Or.inr rfl)
    (hf : X.fn x = true ∨ X.env.scope.names.lookup x = some .local := by first | exact .inl rfl | exact .inr rfl) : PS X (.AugAssign (.Name x pos') op e pos) (toS G xv Wx (dAug i f d)) :=
  PSi (ps_aug c.nd hi hx he (show PIp X op (toR2 G xv f) from ho) hf) fun D s H ⟨r, t, S, l, rl, o⟩ => by
    unfold dAug at o
    cases ei : t[i]? with
    | none => rw [ei] at o; exact o.elim
    | some a =>
      cases a with
      | none => rw [ei] at o; exact o.elim
      | some a =>
        rw [ei] at o
        obtain ⟨v, h1, h2⟩ := l.get ei
        refine ⟨v, h1, ?_⟩
        refine toX.bindS l rl o fun b S1 r1 H1 bv _ e1 rl1 l1 q o1 => ⟨r1, S1, a, b, rl1, h2.ev e1, q, ?_⟩
        cases ef : f a b S1 with
        | ok w S2 => rw [ef] at o1; exact fun r2 H2 z e2 rl2 q2 => o1 r2 H2 _ e2 rl2 ((l1.ev e2).set q2 i)
        | er c ns ws S2 => rw [ef] at o1; exact o1.elim
        | no => rw [ef] at o1; exact o1.elim
theorem io_or : OpR X (inplaceOp .BitOr) (toR2 G xv iOr) := op_intD (fun _ _ _ _ _ => .int _) (opC0 iop_or)
/-! ### enumerate, ranges by steps -/
def enumFrom (n : Int) : List W → List W
  | [] => []
  | w :: ws => .tup [.int n, w] :: enumFrom (n + 1) ws
theorem enumFrom_get : ∀ {ws : List W} {n : Int} {i : Nat} {x : W}, (enumFrom n ws)[i]? = some x → ∃ w, ws[i]? = some w ∧ x = .tup [.int (n + i), w]
  | [], _, _, _, e => by simp [enumFrom] at e
  | w :: ws, n, 0, x, e => by simp [enumFrom] at e; exact ⟨w, rfl, by rw [← e]; simp⟩
  | w :: ws, n, i + 1, x, e => by
    simp only [enumFrom, List.getElem?_cons_succ] at e
    obtain ⟨y, h1, h2⟩ := enumFrom_get e
    refine ⟨y, by simpa using h1, ?_⟩
    rw [h2]
    have : n + 1 + (i : Int) = n + ((i + 1 : Nat) : Int) := by push_cast; omega
    rw [this]
theorem enumFrom_length : ∀ (ws : List W) (n : Int), (enumFrom n ws).length = ws.length
  | [], _ => rfl
  | w :: ws, n => by simp [enumFrom, enumFrom_length ws]
def dEnum (d : DA) : DA := fun t S => (d t S).bind fun ws S1 => match ws with
  | [.lst l] => .ok (enumFrom 0 l) S1
  | [.scr l] => .ok (enumFrom 0 l) S1
  | _ => .no
theorem ite_ok {a : Addr} {ws : List W} {vs : List V} (hs : ∀ H1 S1 r1, Mp H S r H1 S1 r1 → SqL G.K H1 a vs) (q : RWs G H S r ws vs) : ItOk G H S r (Ite G.K a) (enumFrom 0 ws) where
  go := fun H1 S1 r1 e rl i w hw => by
    obtain ⟨x, hx, _⟩ := enumFrom_get hw
    obtain ⟨v, h1, _⟩ := q.get hx
    exact ⟨vs, v, hs H1 S1 r1 e, h1⟩
  yld := fun H1 S1 r1 e rl i w hw x H2 hy => by
    obtain ⟨y, hx, rfl⟩ := enumFrom_get hw
    obtain ⟨v, h1, h2⟩ := q.get hx
    obtain ⟨T, x1, rfl, nT, rfl, f⟩ := hy
    have := f vs (hs _ S1 r1 e)
    rw [h1] at this
    cases this
    refine ⟨Ev.fresh nT rl, rl.fresh nT, .tup (.inl (Own.new nT rl)) (.cons ?_ (.cons ((h2.mp e).ev (Ev.fresh nT rl)) .nil))⟩
    have e0 : (0 : Int) + (i : Int) = (i : Int) := by omega
    rw [e0]
    exact .int _
  stop := fun H1 S1 r1 e rl i hi => ⟨vs, hs H1 S1 r1 e, by rw [← q.length]; rw [enumFrom_length] at hi; exact hi⟩
theorem di_enum {e : Expr} {d : DA} {p pos tpos : Pos} {elts : List Expr} {kk : Nat} (c : Cok G X Wx) (ha : PA X [e] (toA G xv Wx d)) (hm : X.mg "enumerate" = none) (hg : Gl X "enumerate" := by rfl) (hs : starEach [e] X.env = [(false, eval e X.env)] := by rfl) :
    PI X (.Tuple elts kk tpos) (.Call (.Name "enumerate" p) [e] [] pos) (toI G xv Wx (dEnum d)) := PIi (pi_enum hg hm ha hs) fun s H Q ⟨r, t, S, l, rl, o⟩ => toX.bind l rl o fun ws S1 r1 H1 vs _ e1 rl1 l1 q o1 => by
  cases q with
  | nil => exact o1.elim
  | @cons w ws v vs a q =>
    cases q with
    | cons _ _ => cases w <;> exact o1.elim
    | nil =>
      rw [c.kk]
      cases w with
      | lst us =>
        cases a with
        | lst ow q => exact ⟨_, _, rfl, .inl (.inl ow.1), o1 r1 H1 _ .refl rl1 (ite_ok (fun H2 S2 r2 e2 => .inl (.inl (e2.own _ _ ow).1)) q)⟩
      | scr us =>
        cases a with
        | scr ow q => exact ⟨_, _, rfl, ow.sq, o1 r1 H1 _ .refl rl1 (ite_ok (fun H2 S2 r2 e2 => (ow.mp e2).sq) q)⟩
      | _ => exact o1.elim
def intsDown (hi : Int) : Nat → List W
  | 0 => []
  | n + 1 => .int hi :: intsDown (hi - 1) n
theorem intsDown_length : ∀ (n : Nat) (lo : Int), (intsDown lo n).length = n
  | 0, _ => rfl
  | n + 1, lo => congrArg Nat.succ (intsDown_length n (lo - 1))
theorem intsDown_get : ∀ (n : Nat) (hi : Int) (i : Nat) (w : W), (intsDown hi n)[i]? = some w → i < n ∧ w = .int (hi + (i : Nat) * (-1))
  | 0, _, _, _, e => by simp [intsDown] at e
  | n + 1, hi, 0, w, e => by
    simp [intsDown] at e; subst e
    exact ⟨Nat.succ_pos n, by simp⟩
  | n + 1, hi, i + 1, w, e => by
    simp only [intsDown, List.getElem?_cons_succ] at e
    obtain ⟨h1, h2⟩ := intsDown_get n (hi - 1) i w e
    refine ⟨Nat.succ_lt_succ h1, ?_⟩
    rw [h2]
    congr 1
    push_cast
    omega
def threeI (f : Int → Int → Int → R (List W)) : List W → R (List W)
  | [.int i, .int j, .int c] => f i j c
  | _ => .no
theorem three_ints {ws : List W} {vs : List V} {f : Int → Int → Int → R (List W)} {C : R (List W) → Prop} (hno : ¬ C .no) (q : RWs G H S r ws vs) (o : C (threeI f ws)) : ∃ i j c, ws = [.int i, .int j, .int c] ∧ vs = [.int i, .int j, .int c] ∧ C (f i j c) := by
  cases q with
  | nil => exact absurd o hno
  | @cons w ws v vs a q =>
    cases q with
    | nil => cases w <;> exact absurd o hno
    | @cons w2 ws2 v2 vs2 b q =>
      cases q with
      | nil => cases w <;> first | exact absurd o hno | (cases w2 <;> exact absurd o hno)
      | @cons w3 ws3 v3 vs3 c q =>
        cases q with
        | cons _ _ => cases w <;> first | exact absurd o hno | (cases w2 <;> first | exact absurd o hno | (cases w3 <;> exact absurd o hno))
        | nil =>
          cases w with
          | int i =>
            cases w2 with
            | int j =>
              cases w3 with
              | int k => cases a; cases b; cases c; exact ⟨i, j, k, rfl, rfl, o⟩
              | _ => exact absurd o hno
            | _ => exact absurd o hno
          | _ => exact absurd o hno
def dRangeD (d : DA) : DA := fun t S => (d t S).bind fun ws S1 => threeI (fun i j c => if c = -1 ∧ -(2 ^ 62) ≤ i ∧ i < 2 ^ 62 ∧ -(2 ^ 62) ≤ j ∧ j < 2 ^ 62 then .ok (intsDown i (i - j).toNat) S1 else .no) ws
theorem itd {hi : Int} {n : Nat} : ItOk G H S r (Itc hi (-1) n) (intsDown hi n) where
  go := fun H1 S1 r1 e rl i w hw => (intsDown_get n hi i w hw).1
  yld := fun H1 S1 r1 e rl i w hw x H2 hy => by
    obtain ⟨rfl, rfl⟩ := hy
    obtain ⟨_, rfl⟩ := intsDown_get n hi i w hw
    exact ⟨.refl, rl, .int _⟩
  stop := fun H1 S1 r1 e rl i h => by rw [intsDown_length] at h; exact h
theorem di_rangeD {tg a b c : Expr} {d : DA} {p pos : Pos} (ha : PA X [a, b, c] (toA G xv Wx d)) (hm : X.mg "range" = none) (hg : Gl X "range" := by rfl) (hs : starEach [a, b, c] X.env = (false, eval a X.env) :: starEach [b, c] X.env := by rfl) (hpl : (backTo pos (starEach [b, c] X.env)).any (·.1) = false := by rfl) :
    PI X tg (.Call (.Name "range" p) [a, b, c] [] pos) (toI G xv Wx (dRangeD d)) := PIi (pi_range3 hg hm ha hs hpl) fun s H Q ⟨r, t, S, l, rl, o⟩ => toX.bind l rl o fun ws S1 r1 H1 vs _ e1 rl1 l1 q o1 => by
  obtain ⟨i, j, c, rfl, rfl, o2⟩ := three_ints (C := fun x => OutE G xv Wx (fun H S r w J => ItOk G H S r J w) s H1 S1 r1 x Q) (fun z => z) q o1
  split at o2
  · rename_i h
    obtain ⟨rfl, hb⟩ := h
    exact ⟨i, j, -1, (i - j).toNat, rfl, RgC.neg hb.1 hb.2.1 hb.2.2.1 hb.2.2.2, o2 r1 H1 _ .refl rl1 itd⟩
  · exact o2.elim
/-! ### is True, is False -/
/-! ### list(range(n)), list(range(a, b)) -/
/-! ### one or the other -/
end
end DD
namespace DD
open PySem PySem.Spec PyProof.Rows L2
section
variable {G : Gx} {xv : Nat → Value} {Wx : WX} {X : Cx} {H H' : Hp} {S S' : Sto} {r r' : Rh}
/-! ### a list of the store is walked: it must stay as it is meanwhile -/
structure ItG (G : Gx) (H : Hp) (S : Sto) (r : Rh) (J : It) (p : Nat) (ws : List W) : Prop where
  go : ∀ H1 S1 r1, Mp H S r H1 S1 r1 → Rl G H1 S1 r1 → S1[p]? = some (.lst ws) → ∀ i w, ws[i]? = some w → J.go i H1
  yld : ∀ H1 S1 r1, Mp H S r H1 S1 r1 → Rl G H1 S1 r1 → S1[p]? = some (.lst ws) → ∀ i w, ws[i]? = some w → ∀ x H2, J.yld i H1 x H2 → Ev H1 S1 r1 H2 S1 r1 ∧ Rl G H2 S1 r1 ∧ RW G H2 S1 r1 w x
  stop : ∀ H1 S1 r1, Mp H S r H1 S1 r1 → Rl G H1 S1 r1 → S1[p]? = some (.lst ws) → ∀ i, ws.length ≤ i → J.stop i H1
abbrev toIR (G : Gx) (xv : Nat → Value) (Wx : WX) (d : Lo → Sto → R (Nat × List W)) : TI := toX G xv Wx (fun H S r w J => ItG G H S r J w.1 w.2) d
def dSeqR (d : DX) : Lo → Sto → R (Nat × List W) := fun t S => (d t S).bind fun w S1 => match w with
  | .ref p => match S1[p]? with
    | some (.lst ws) => .ok (p, ws) S1
    | _ => .no
  | _ => .no
theorem itG {p : Nat} {ws : List W} (hp : p < S.length) : ItG G H S r (Itl G.K (r p)) p ws where
  go := fun H1 S1 r1 e rl hg i w hw => by
    obtain ⟨ho, h1, h2⟩ := rl.at_ p _ hg (fun z => by cases z)
    cases h2 with
    | lst q =>
      obtain ⟨v, h3, _⟩ := q.get hw
      exact ⟨_, v, .inl (.inl (by rw [← e.rho p hp]; exact h1)), h3⟩
  yld := fun H1 S1 r1 e rl hg i w hw x H2 hy => by
    obtain ⟨ho, h1, h2⟩ := rl.at_ p _ hg (fun z => by cases z)
    cases h2 with
    | lst q =>
      obtain ⟨v, h3, h4⟩ := q.get hw
      obtain ⟨rfl, f⟩ := hy
      have := f _ (.inl (.inl (by rw [← e.rho p hp]; exact h1)))
      rw [h3] at this
      cases this
      exact ⟨.refl, rl, h4⟩
  stop := fun H1 S1 r1 e rl hg i hi => by
    obtain ⟨ho, h1, h2⟩ := rl.at_ p _ hg (fun z => by cases z)
    cases h2 with
    | lst q => exact ⟨_, .inl (.inl (by rw [← e.rho p hp]; exact h1)), by rw [← q.length]; exact hi⟩
theorem di_seqR {tg e : Expr} {d : DX} (k : Cok G X Wx) (he : PE X e (toE G xv Wx d)) : PI X tg e (toIR G xv Wx (dSeqR d)) := PIi (pi_list he) fun s H Q ⟨r, t, S, l, rl, o⟩ =>
  toX.bind l rl o fun w S1 r1 H1 v _ e1 rl1 l1 q o1 => by
    rw [k.kk]
    cases w with
    | ref p =>
      simp only [] at o1
      cases es : S1[p]? with
      | none => rw [es] at o1; exact o1.elim
      | some u =>
        rw [es] at o1
        cases u with
        | lst ws =>
          obtain ⟨ho, h1, h2⟩ := rl1.at_ p _ es (fun z => by cases z)
          cases q with
          | ref hi =>
            cases h2 with
            | lst q => exact ⟨_, rfl, ⟨_, .inl (.inl h1)⟩, o1 r1 H1 _ .refl rl1 (itG (List.getElem?_eq_some_iff.mp es).1)⟩
        | _ => exact o1.elim
    | _ => exact o1.elim
open Classical in
noncomputable def forLR (g : DG) (b : DS) (p : Nat) (us : List W) : List W → Lo → Sto → F
  | [], t, S => if S[p]? = some (.lst us) then .nx t S else .no
  | w :: ws, t, S => if S[p]? = some (.lst us) then match g w t S with
    | .ok t1 S1 => match b t1 S1 with
      | .nx t2 S2 => forLR g b p us ws t2 S2
      | .ct t2 S2 => forLR g b p us ws t2 S2
      | .bk t2 S2 => .nx t2 S2
      | x => x
    | _ => .no
    else .no
noncomputable def dForR (d : Lo → Sto → R (Nat × List W)) (g : DG) (b : DS) : DS := fun t S => (d t S).toF t fun ws S1 => forLR g b ws.1 ws.2 ws.2 t S1
open Classical in
noncomputable def lcLR (g : Tg) (tt : DT) (te : DX) (t0 : Lo) (p : Nat) (us : List W) : List W → List W → Sto → R W
  | [], acc, S => if S[p]? = some (.lst us) then .ok (.lst acc) S else .no
  | w :: ws, acc, S => if S[p]? = some (.lst us) then match g.put w t0 with
    | some t1 => match tt t1 S with
      | .ok true S2 => match te t1 S2 with
        | .ok x S3 => if acc.length < sizeLine then lcLR g tt te t0 p us ws (acc ++ [x]) S3 else .no
        | _ => .no
      | .ok false S2 => lcLR g tt te t0 p us ws acc S2
      | _ => .no
    | none => .no
    else .no
noncomputable def dLcR (d : Lo → Sto → R (Nat × List W)) (g : Tg) (tt : DT) (te : DX) (vs : List Nat) : DX := fun t S => (d t S).bind fun ws S1 => lcLR g tt te (wipeW t vs) ws.1 ws.2 ws.2 [] S1
theorem toLcR {d : Lo → Sto → R (Nat × List W)} {g : Tg} {tt : DT} {te : DX} {vs : List Nat} (hv : ∀ i ∈ g.places, i ∈ vs) (s : L2.St) (H : Hp) (Q : VK) : toE G xv Wx (dLcR d g tt te vs) s H Q → tLc (toIR G xv Wx d) (g.toTG G.K) (toT G xv W0 tt) (toE G xv W0 te) vs s H Q := by
  rintro ⟨r, t, S, l, rl, o⟩
  refine toX.bind l rl o fun pw S1 r1 H1 J _ e1 rl1 l1 q o1 => ?_
  obtain ⟨p, ws⟩ := pw
  intro D hD
  obtain ⟨f1, z1⟩ := r1
  have hz1 : ¬ z1 D := fun z => by
    obtain ⟨u, h⟩ := rl1.zs D z
    rw [hD] at h; cases h
  have sub : ∀ a, z1 a → (z1 a ∨ a = D) := fun a h => .inl h
  -- from the base into a state with D
  have inn : ∀ {H2 : Hp} {S2 : Sto} {f2 : Nat → Addr}, Ev H1 S1 ⟨f1, z1⟩ H2 S2 ⟨f2, z1⟩ → Mp H1 S1 ⟨f1, z1⟩ H2 S2 ⟨f2, fun a => z1 a ∨ a = D⟩ := fun {H2 S2 f2} e2 =>
    ⟨fun a u ow k => ⟨(ow.ev e2 k.nt).1, fun lv => by
      rcases lv with lv | lv | lv
      · exact (ow.ev e2 k.nt).2 (.inl lv)
      · exact (ow.ev e2 k.nt).2 (.inr lv)
      · exact ne_of_none ow.1 hD lv⟩, e2.rho, e2.len⟩
  refine ⟨fun i m H2 => ∃ (f2 : Nat → Addr) (S2 : Sto) (acc : List W) (av : List V), m + i = ws.length ∧ Ev H1 S1 ⟨f1, z1⟩ H2 S2 ⟨f2, z1⟩ ∧ Rl G H2 S2 ⟨f2, fun a => z1 a ∨ a = D⟩ ∧ H2 D = some (.lst av) ∧ RWs G H2 S2 ⟨f2, fun a => z1 a ∨ a = D⟩ acc av ∧
      OutE G xv Wx (fun H S r w v => RW G H S r w v) s H1 S1 ⟨f1, z1⟩ (lcLR g tt te (wipeW t vs) p ws (ws.drop i) acc S2) Q,
    ⟨ws.length, f1, S1, [], [], rfl, Ev.fresh hD rl1, rl1.add hD, upd_same, .nil, o1⟩, ?_⟩
  rintro i m H2 ⟨f2, S2, acc, av, hm, e2, rl2, d2, qa, o2⟩
  by_cases hi : i < ws.length
  · have hw : ws[i]? = some ws[i] := List.getElem?_eq_getElem hi
    rw [List.drop_eq_getElem_cons hi] at o2
    unfold lcLR at o2
    split at o2
    · rename_i hG
      refine .inr ⟨q.go H2 S2 _ (inn e2) rl2 hG i _ hw, fun H3 => ∃ (f3 : Nat → Addr) (S3 : Sto) (acc : List W) (av : List V), Ev H1 S1 ⟨f1, z1⟩ H3 S3 ⟨f3, z1⟩ ∧ Rl G H3 S3 ⟨f3, fun a => z1 a ∨ a = D⟩ ∧ H3 D = some (.lst av) ∧ RWs G H3 S3 ⟨f3, fun a => z1 a ∨ a = D⟩ acc av ∧
        OutE G xv Wx (fun H S r w v => RW G H S r w v) s H1 S1 ⟨f1, z1⟩ (lcLR g tt te (wipeW t vs) p ws (ws.drop (i + 1)) acc S3) Q, fun H3 ⟨f3, S3, acc, av, a1, a2, a3, a4, a5⟩ => ⟨m - 1, by omega, f3, S3, acc, av, by omega, a1, a2, a3, a4, a5⟩, fun x H3 hy => ?_⟩
      obtain ⟨e3, rl3, qx⟩ := q.yld H2 S2 _ (inn e2) rl2 hG i _ hw x H3 hy
      have b3 : Ev H1 S1 ⟨f1, z1⟩ H3 S2 ⟨f2, z1⟩ := e2.trans (e3.less rl3 sub)
      have d3 : H3 D = some (.lst av) := e3.kz D _ d2 (.inr rfl)
      have l3 : RLo G H3 S2 ⟨f2, fun a => z1 a ∨ a = D⟩ (wipeW t vs) (wipe s vs) := (l1.mp (inn b3)).wipe vs
      cases eg : g.put ws[i] (wipeW t vs) with
      | none => rw [eg] at o2; exact o2.elim
      | some t4 =>
        simp only [eg] at o2
        refine Tg.ok hv qx l3 eg fun s4 l4 w4 => ⟨by rw [w4, wipe_wipe], _, t4, S2, l4, rl3, ?_⟩
        cases et : tt t4 S2 with
        | er c ns us S5 => simp only [et] at o2; exact o2.elim
        | no => simp only [et] at o2; exact o2.elim
        | ok k S5 =>
          rintro ⟨f5, z5⟩ H5 k' e5 rl5 rfl
          have hz5 : z5 = fun a => z1 a ∨ a = D := e5.zz
          subst hz5
          have b5 : Ev H1 S1 ⟨f1, z1⟩ H5 S5 ⟨f5, z1⟩ := b3.trans (e5.less rl5 sub)
          have d5 : H5 D = some (.lst av) := e5.kz D _ d3 (.inr rfl)
          have qa5 := (qa.ev e3).ev e5
          cases k with
          | false =>
            simp only [et] at o2
            rw [if_neg Bool.false_ne_true]
            exact ⟨f5, S5, acc, av, b5, rl5, d5, qa5, o2⟩
          | true =>
            simp only [et] at o2
            rw [if_pos rfl]
            refine ⟨_, t4, S5, l4.ev e5, rl5, ?_⟩
            cases ee : te t4 S5 with
            | er c ns us S6 => simp only [ee] at o2; exact o2.elim
            | no => simp only [ee] at o2; exact o2.elim
            | ok y S6 =>
              simp only [ee] at o2
              rintro ⟨f6, z6⟩ H6 v e6 rl6 qy
              have hz6 : z6 = fun a => z1 a ∨ a = D := e6.zz
              subst hz6
              have b6 : Ev H1 S1 ⟨f1, z1⟩ H6 S6 ⟨f6, z1⟩ := b5.trans (e6.less rl6 sub)
              have d6 : H6 D = some (.lst av) := e6.kz D _ d5 (.inr rfl)
              have qa6 := qa5.ev e6
              have hl : av.length = acc.length := qa6.length.symm
              by_cases hs : acc.length < sizeLine
              · rw [if_pos hs] at o2
                have mp : Mp H6 S6 ⟨f6, fun a => z1 a ∨ a = D⟩ (upd H6 D (.lst (av ++ [v]))) S6 ⟨f6, fun a => z1 a ∨ a = D⟩ := Mp.poke (.inr rfl)
                exact ⟨av, d6, by rw [hl]; exact hs, f6, S6, acc ++ [y], av ++ [v], b6.poke hD, rl6.poke (.inr rfl), upd_same, (qa6.mp mp).snoc (qy.mp mp), o2⟩
              · rw [if_neg hs] at o2; exact o2.elim
    · exact o2.elim
  · have hl : ws.length ≤ i := Nat.le_of_not_lt hi
    rw [List.drop_eq_nil_of_le hl] at o2
    unfold lcLR at o2
    split at o2
    · rename_i hG
      refine .inl ⟨q.stop H2 S2 _ (inn e2) rl2 hG i hl, o2 ⟨f2, z1⟩ H2 _ e2 (rl2.less sub) (.lst ⟨d2, ?_⟩ (qa.mp (.less sub)))⟩
      rintro (⟨j, u, e, d, z⟩ | z)
      · exact rl2.dz j u e d (.inr z)
      · exact hz1 z
    · exact o2.elim
end
end DD
namespace DD
open PySem PySem.Spec PyProof.Rows L2
/-! ### errors of one's own -/
def oexB (K : PySem.W.Frag) (C : Addr) : Bool := (match K.lookup C with
  | some ⟨.type "type", _, .cls cd, sl⟩ => (match cd.mro, sl.toList with
    | .ref C' :: bm, [_, _, _, _, some (.builtin n), _] => C' == C && n == "ValueError.__new__" && !cd.hasDel && cd.hasDict && PySem.HandSPX.refsVE bm
    | _, _ => false)
  | _ => false) && decide (PySem.W.findIn K (.ref C) "__setattr__" = some (some (.builtin "object.__setattr__"))) && decide (PySem.W.subIn K (.ref C) (.type "BaseException") = some true) && decide (PySem.W.typeIn K (.ref C) = some (.type "type")) && PySem.W.keepIn K (.ref C)
theorem oexB_ok {K : PySem.W.Frag} {C : Addr} (h : oexB K C = true) : OexC K C := by
  unfold oexB at h
  rw [Bool.and_eq_true, Bool.and_eq_true, Bool.and_eq_true, Bool.and_eq_true] at h
  obtain ⟨⟨⟨⟨q, h2⟩, h3⟩, h4⟩, h5⟩ := h
  refine ⟨?_, of_decide_eq_true h2, of_decide_eq_true h3, of_decide_eq_true h4, h5⟩
  split at q
  · rename_i dd cd sl ho
    split at q
    · rename_i C' bm k0 k1 k2 k3 n k5 hm hs
      simp only [Bool.and_eq_true, beq_iff_eq, Bool.not_eq_true'] at q
      obtain ⟨⟨⟨⟨rfl, rfl⟩, hdel⟩, hd⟩, ht⟩ := q
      obtain ⟨nm, bs, mro, ns, qn, hd', sn, sub, ab, col, del⟩ := cd
      dsimp only at hm hdel hd
      subst hm hdel hd
      have hsl : sl = #[k0, k1, k2, k3, some (.builtin "ValueError.__new__"), k5] := by
        obtain ⟨l⟩ := sl
        simp only at hs
        rw [hs]
      subst hsl
      exact ⟨nm, qn, ns, bs, bm, sn, sub, ab, col, dd, k0, k1, k2, k3, k5, ho, ht⟩
    · cases q
  · cases q
/-- what the top says of an error class with an __init__ at fI -/
structure Exc1 (K : PySem.W.Frag) (C fI : Addr) (f : Str) : Prop where
  ox : OexC K C
  iC : PySem.W.findIn K (.ref C) "__init__" = some (some (.ref fI))
  tI : PySem.W.typeIn K (.ref fI) = some (.type "function")
  no : PySem.W.findIn K (.ref C) f = some none
/-- what __init__ does: self.f = f -/
def spX1 (C : Addr) (f : Str) : Sp := fun vs H Q _ => ∃ (a : Addr) (v : V), vs = [.ref a, v] ∧ H a = some (exo a C none) ∧ ∀ dx, H dx = none → dx ≠ a → Q .non (upd (upd H dx (exd dx [(f, v)])) a (exo a C (some dx)))
theorem init1_ok {P : Program} {w : World} {K : PySem.W.Frag} {mg : Str → Option Value} {base : Heap} {C fI : Addr} {f x y qual nm : Str} {params : Arguments} {body : List Stmt} {scope : Scope} {dvs : List V} {kws : List (Str × V)} {fd : FuncData}
    (F : FunD K nm qual params body scope dvs kws fI fd) (Sc : FnScope [x, y] [x, y] scope) (T : Exc1 K C fI f)
    (hb : ∀ (cdv : Value) (A : Around) (outer : List Env) (s : Shared) (H : Hp) (E : XK), PSs (cxOf (L2.CX P w) P w K mg base [x, y] qual scope fI cdv A outer s H E) body (tOst K f (tVar 0) (tVar 1))) : FnOk P w K mg base (L2.CX P w) 1 fI fd [x, y] (spX1 C f) := by
  refine F.ok Sc (fun vs H Q E h => ?_) fun cdv A outer s H vs Q E hr h => ⟨tOst K f (tVar 0) (tVar 1), hb cdv A outer s H E, ?_⟩
  · obtain ⟨a, v, rfl, _⟩ := h
    rfl
  · obtain ⟨a, v, rfl, ha, h⟩ := h
    exact ⟨_, rfl, _, rfl, a, C, rfl, T.ox, T.no, .inl ⟨ha, fun dx h1 h2 => h dx h1 h2⟩⟩
section
variable {G : Gx} {xv : Nat → Value} {Wx : WX} {X : Cx} {H H' : Hp} {S S' : Sto} {r r' : Rh}
/-- an __init__ that keeps its promise -/
def InitOk (P : Program) (w : World) (K : PySem.W.Frag) (mg : Str → Option Value) (base : Heap) (C fI : Addr) (f : Str) (k : Nat) : Prop := ∃ fd ps, ps.length = 2 ∧ FnOk P w K mg base (L2.CX P w) k fI fd ps (spX1 C f) ∧ Binds K fd ps []
theorem init1_ok' {P : Program} {w : World} {K : PySem.W.Frag} {mg : Str → Option Value} {base : Heap} {C fI : Addr} {f x y qual nm : Str} {params : Arguments} {body : List Stmt} {scope : Scope} {kws : List (Str × V)}
    (F : ∃ fd, FunD K nm qual params body scope [] kws fI fd) (Sc : FnScope [x, y] [x, y] scope) (T : Exc1 K C fI f)
    (hb : ∀ (cdv : Value) (A : Around) (outer : List Env) (s : Shared) (H : Hp) (E : XK), PSs (cxOf (L2.CX P w) P w K mg base [x, y] qual scope fI cdv A outer s H E) body (tOst K f (tVar 0) (tVar 1)))
    (hbi : ∀ fd, FunD K nm qual params body scope [] kws fI fd → Binds K fd [x, y] []) : InitOk P w K mg base C fI f 1 := by
  obtain ⟨fd, F⟩ := F
  exact ⟨fd, [x, y], rfl, init1_ok F Sc T hb, hbi fd F⟩
/-- raise C(e), C with the one field f -/
def dRaise1 (c : Nat) (f : Str) (e : DX) : DS := fun t S => (e t S).toF t fun v S1 => .er c [f] [v] t S1
theorem upd_raise {H : Hp} {a d : Addr} {u u' v w : HO} (ha : H a = none) (hd : H d = none) (ne : d ≠ a) : upd (del (upd (upd (upd H a u) d v) a u') a) d w = upd H d w := by
  funext b
  by_cases h : b = d
  · subst h; rw [upd_same, upd_same]
  · rw [upd_ne h, upd_ne h]
    by_cases h2 : b = a
    · subst h2; rw [del_same, ha]
    · rw [del_ne h2, upd_ne h2, upd_ne h, upd_ne h2]
theorem ds_raise1 {c : Nat} {x f : Str} {e : Expr} {de : DX} {fI : Addr} {j : Nat} {p pos pos2 : Pos} (k : Cok G X Wx) (T : Exc1 X.K (G.cm c) fI f) (hi : InitOk X.prog X.w X.K X.mg X.base (G.cm c) fI f j) (hr : Room (j + 1) X.A) (hm : X.mg x = some (.ref (G.cm c))) (hx : xv c = .ref (G.cm c))
    (he : PE X e (toE G xv Wx de)) (hg : Gl X x := by rfl) (hdb : (x == ("__debug__" : Str)) = false := by decide) (hs : starEach [e] X.env = (false, eval e X.env) :: starEach [] X.env := by rfl) :
    PS X (.Raise (some (.Call (.Name x p) [e] [] pos)) none pos2) (toS G xv Wx (dRaise1 c f de)) := by
  obtain ⟨fd, ps, hp, F, hb⟩ := hi
  have hx0 : Passes (L2.CX X.prog X.w) X (fun _ _ _ => False) := passL
  refine PSi (ps_raise k.calm k.tk (pmk_oex (dvs := []) (ta := toA G xv Wx (dCons de dNil)) T.ox T.iC T.tI F hr hb .nil hx0 hg hm (da_cons he da_nil hs) hdb hs rfl)) fun D s H ⟨r, t, S, l, rl, o⟩ => ?_
  unfold dRaise1 at o
  refine ⟨r, t, S, l, rl, ?_⟩
  unfold dCons
  cases ee : de t S with
  | no => rw [ee] at o; exact o.elim
  | er c' ns ws S1 =>
    rw [ee] at o
    exact fun r1 H1 d e1 rl1 xd => o r1 H1 s d e1 rl1 (l.ev e1) xd
  | ok w S1 =>
    rw [ee] at o
    intro r1 H1 vs e1 rl1 q
    cases q with
    | @cons _ _ v _ q1 qn =>
      cases qn
      refine ⟨by simp, fun a ha => ⟨a, v, rfl, upd_same, fun dx h1 h2 => ⟨rfl, dx, [(f, v)], upd_same, ?_, ?_, ?_⟩⟩⟩
      · rw [upd_ne h2, upd_same]
      · rw [upd_ne h2] at h1; exact h1
      · have hd1 : H1 dx = none := by rw [upd_ne h2] at h1; exact h1
        rw [upd_raise ha hd1 h2, ← hx]
        exact o r1 _ s (some dx) (e1.trans (Ev.fresh hd1 rl1)) (rl1.fresh hd1) ((l.ev e1).ev (Ev.fresh hd1 rl1)) (.inr ⟨dx, [v], rfl, Own.new hd1 rl1, rfl, .cons (q1.ev (Ev.fresh hd1 rl1)) .nil⟩)
theorem pvx {x : Str} {pos : Pos} (i : Nat) (hN : X.N[i]? = some x := by rfl) (hv : Vis X.env.scope x := by first | exact Or.inl rfl | exact Or.inr (Or.inl rfl) | exact Or.inr (Or.inr rfl)) (hd : (x == ("__debug__" : Str)) = false := by decide) (hcd : (x == ("__classdict__" : Str)) = false := by decide) : PE X (.Name x pos) (tVar i) := pe_var (i := i) hN hv hd hcd
/-! ### try .. except X as n -/
theorem RLo.setN {o : Option V} : ∀ {t : Lo} {s : L2.St} (i : Nat), RLo G H S r t s → RLo G H S r (t.set i none) (s.set i o)
  | _, _, _, .nil => .nil
  | _, _, 0, .non q => .non q
  | _, _, 0, .som _ q => .non q
  | _, _, i + 1, .non q => .non (q.setN i)
  | _, _, i + 1, .som a q => .som a (q.setN i)
theorem RLo.len : ∀ {t : Lo} {s : L2.St}, RLo G H S r t s → t.length = s.length
  | _, _, .nil => rfl
  | _, _, .non q => congrArg Nat.succ q.len
  | _, _, .som _ q => congrArg Nat.succ q.len
/-- in an except suite: the error at a, of the class cls, its own dict d, its name in slot i -/
def toXx (G : Gx) (xv : Nat → Value) (a : Addr) (cls : Value) (d : Option Addr) (i : Nat) {α β : Type} (rel : Hp → Sto → Rh → α → β → Prop) (e : Nat → List Str → List W → Lo → Sto → R α) : L2.St → Hp → (β → Hp → Prop) → Prop := fun s H Q =>
  ∃ r t S c ns ws, cls = xv c ∧ s[i]? = some (some (.ref a)) ∧ Xd G H S r d ns ws ∧ RLo G H S r t s ∧ Rl G H S r ∧ OutE G xv W0 rel s H S r (e c ns ws t S) Q
/-! what an except suite is made of -/
section
variable {a : Addr} {cls : Value} {d : Option Addr} {i : Nat}
theorem toXx.bind {α β γ δ : Type} {rel : Hp → Sto → Rh → α → β → Prop} {rel' : Hp → Sto → Rh → γ → δ → Prop} {f : α → Sto → R γ} {t : Lo} {s : L2.St} {Q : β → Hp → Prop} {Q' : δ → Hp → Prop} {e : Nat → List Str → List W → Lo → Sto → R α} {c : Nat} {ns : List Str} {ws : List W}
    (hc : cls = xv c) (hi : s[i]? = some (some (.ref a))) (x : Xd G H S r d ns ws) (l : RLo G H S r t s) (rl : Rl G H S r) (o : OutE G xv W0 rel' s H S r ((e c ns ws t S).bind f) Q')
    (h : ∀ u S' r' H' b, e c ns ws t S = .ok u S' → Ev H S r H' S' r' → Rl G H' S' r' → RLo G H' S' r' t s → Xd G H' S' r' d ns ws → rel H' S' r' u b → OutE G xv W0 rel' s H' S' r' (f u S') Q' → Q b H') : toXx G xv a cls d i rel e s H Q := by
  refine ⟨r, t, S, c, ns, ws, hc, hi, x, l, rl, ?_⟩
  cases ee : e c ns ws t S with
  | ok u S1 =>
    rw [ee] at o
    exact fun r1 H1 b e1 rl1 q => h u S1 r1 H1 b ee e1 rl1 (l.ev e1) (x.ev e1) q (OutE.from e1 o)
  | er c' ns' ws' S1 => rw [ee] at o; exact o
  | no => rw [ee] at o; exact o
end
/-! ### a for over a list of the store or a value -/
/-! ### xs[::-1] -/
end
end DD
namespace DD
open PySem PySem.Spec PyProof.Rows L2
end DD
namespace DD
open PySem PySem.Spec PyProof.Rows L2
section
variable {G : Gx} {xv : Nat → Value} {Wx : WX} {X : Cx} {H H' : Hp} {S S' : Sto} {r r' : Rh}
/-! ### defs with defaults and keywords -/
/-- a def whose parameters may be bound in several ways -/
structure DefG (P : Program) (w : World) (K : PySem.W.Frag) (mg : Str → Option Value) (base : Heap) (G : Gx) (xv : Nat → Value) (f : Addr) (k : Nat) (ps : List Str) (fn : Fn) (Fd : FuncData → Prop) : Prop where
  ex : ∃ fd : FuncData, Fd fd ∧ FnOk P w K mg base (L2.CX P w) k f fd ps (spF G xv ps.length fn)
  kp : PySem.W.keepIn K (.ref f) = true
theorem DefG.mono {P : Program} {w : World} {K : PySem.W.Frag} {mg : Str → Option Value} {base : Heap} {f : Addr} {j k : Nat} {ps : List Str} {fn : Fn} {Fd : FuncData → Prop} (h : DefG P w K mg base G xv f j ps fn Fd) (le : j ≤ k) : DefG P w K mg base G xv f k ps fn Fd :=
  ⟨let ⟨fd, a, b⟩ := h.ex; ⟨fd, a, b.mono le⟩, h.kp⟩
theorem DefG.gc {P : Program} {w : World} {K : PySem.W.Frag} {mg : Str → Option Value} {base : Heap} {f : Addr} {k : Nat} {ps : List Str} {fn : Fn} {Fd : FuncData → Prop} (h : DefG P w K mg base G xv f k ps fn Fd) : DefG P w K mg base G xv f k ps (gcF fn) Fd :=
  ⟨let ⟨fd, a, b⟩ := h.ex; ⟨fd, a, b.imp fun vs H Q E ⟨l, r, S, ws, q, rl, o⟩ => ⟨l, r, S, ws, q, rl, outGc rl o⟩⟩, h.kp⟩
theorem defG_ok {P : Program} {w : World} {K : PySem.W.Frag} {mg : Str → Option Value} {base : Heap} {cm : Nat → Addr} {TB : List (Addr × Str)} {lm : Option Addr} {li : Option LI} {x qual : Str} {params : Arguments} {body : List Stmt} {scope : Scope} {dvs : List V} {kws : List (Str × V)} {f : Addr} {fd : FuncData} {N ps : List Str} {k : Nat} {d : DS}
    (F : FunD K x qual params body scope dvs kws f fd) (Sc : FnScope N ps scope)
    (hd : ∀ (cdv : Value) (A : Around) (outer : List Env) (s : Shared) (H : Hp) (E : XK), Room k (A.deeper (envOfC qual scope s.heap.objs.size f cdv)) → Cok ⟨K, cm, w, TB, lm, li⟩ (cxOf (L2.CX P w) P w K mg base N qual scope f cdv A outer s H E) (fun c d _ H => E c d H) →
      PSs (cxOf (L2.CX P w) P w K mg base N qual scope f cdv A outer s H E) body (toS ⟨K, cm, w, TB, lm, li⟩ xv (fun c d _ H => E c d H) d)) : DefG P w K mg base ⟨K, cm, w, TB, lm, li⟩ xv f (k + 1) ps (dFn N.length d) (FunD K x qual params body scope dvs kws f) :=
  ⟨⟨fd, F, fn_ok F Sc hd⟩, F.kp⟩
/-- C(e, .., k = v, ..): aW puts the values into the parameters' order -/
def dBoth (aW : List W → List W → List W) (d dk : DA) : DA := fun t S => (d t S).bind fun ws S1 => (dk t S1).bind fun zs S2 => .ok (aW ws zs) S2
theorem dk_nil : PK X [] (toA G xv Wx dNil) := ⟨fun pos pins s σ H Q I h => pk_nil.run pos pins s σ H Q I (by
  obtain ⟨r, t, S, l, rl, o⟩ := h
  exact o r H [] .refl rl .nil)⟩
theorem dk_cons {nm : Option Str} {kpos : Pos} {e : Expr} {kws : List Keyword} {d : DX} {ds : DA} (h1 : PE X e (toE G xv Wx d)) (h2 : PK X kws (toA G xv Wx ds)) : PK X (⟨nm, e, kpos⟩ :: kws) (toA G xv Wx (dCons d ds)) := ⟨fun pos pins s σ H Q I h => (pk_cons h1 h2).run pos pins s σ H Q I (by
  obtain ⟨r, t, S, l, rl, o⟩ := h
  exact toX.bind l rl o fun w S1 r1 H1 v _ e1 rl1 l1 q o1 => toX.bind l1 rl1 o1 fun ws S2 r2 H2 vs _ e2 rl2 l2 qs o2 => o2 r2 H2 _ .refl rl2 (.cons (q.ev e2) qs))⟩
theorem run_makeKS {CX : CXT} {k n : Nat} {f C : Addr} {fd : FuncData} {ps ks : List Str} {sp : Sp} {E : XK} {g : List Value → List Value → List Value} {gV : List V → List V → List V} {pins : List (Addr × Obj)} {σ : L2.St} {H : Hp} {s : Shared} {Q : VK} {us ws : List Value} {vs zs : List V} (M : Mk X.K C f) (F : FnOk X.prog X.w X.K X.mg X.base CX k f fd ps sp) (hr : Room (k + 1) X.A) (hb : KBn X.K fd ps (n + 1) ks g gV) (hx : PassesAt CX X σ E)
    (I : Inv X pins σ H s) (r : Vals vs us) (rz : Vals zs ws) (l1 : vs.length = n) (l2 : zs.length = ks.length)
    (h : ∀ x dx, H x = none → H dx = none → dx ≠ x → sp (gV (.ref x :: vs) zs) (upd (upd H dx (.own x)) x (.ins C dx [])) (fun v H2 => v = .non ∧ Q (.ref x) H2) E) :
    wpAny (model X.prog X.w) X.A (call (.ref C) us (ks.zip ws)) (EP X pins σ Q) X.xe s := by
  have hq := h (s.heap.objs.size + 1) s.heap.objs.size (I.hok.fresh (Nat.le_succ _)) (I.hok.fresh (Nat.le_refl _)) (Nat.ne_of_lt (Nat.lt_succ_self _))
  have I2 := Inv.made (C := C) I
  have r1 : Vals (V.ref (s.heap.objs.size + 1) :: vs) (Value.ref (s.heap.objs.size + 1) :: us) := .cons rfl r
  have r2 := hb.rel r1 rz
  have n1 : (Value.ref (s.heap.objs.size + 1) :: us).length = n + 1 := by
    rw [List.length_cons, ← r.length, l1]
  refine wpAny_call (make_map (f := f) I.kIn M.makes M.init (beq_iff_eq.mp M.fn) (codeAny_mono (F.run _ X.stack _ _ ⟨Value.ref (s.heap.objs.size + 1) :: us, ks.zip ws⟩ (g (Value.ref (s.heap.objs.size + 1) :: us) ws) _ _ E (hr.make C us (ks.zip ws))
    (I2.env0.make C us (ks.zip ws)) (hb.to _ (Value.ref (s.heap.objs.size + 1) :: us) ws I2.kIn n1 (rz.length.symm.trans l2)) r2 hq) fun r s' hq' => ?_))
  cases r with
  | error e => exact hx pins _ _ e s' I2 hq'
  | ok fl =>
    cases fl with
    | ret u =>
      obtain ⟨v, H', I3, rv, ev, q3⟩ := I2.after hq'
      subst ev
      exact ⟨rv, ⟨V.ref (s.heap.objs.size + 1), H', I3, rfl, q3⟩⟩
    | next => exact False.elim hq'
    | brk => exact False.elim hq'
    | cont => exact False.elim hq'
/-- how the values of a call with keywords go into the parameters' order -/
structure Arr (G : Gx) (n m : Nat) (aW : List W → List W → List W) (gV : List V → List V → List V) : Prop where
  rel : ∀ {H : Hp} {S : Sto} {r : Rh} {x : V} {ws : List W} {vs : List V} {zs : List W} {us : List V}, RWs G H S r ws vs → RWs G H S r zs us → ws.length = n → zs.length = m → ∃ vs', gV (x :: vs) us = x :: vs' ∧ RWs G H S r (aW ws zs) vs'
theorem de_makeK {c : Nat} {x : Str} {p pos : Pos} {e : Expr} {es : List Expr} {kws : List Keyword} {d dk : DA} {f : Addr} {k : Nat} {ps ks : List Str} {fn : Fn} {Fd : FuncData → Prop} {aW : List W → List W → List W} {gV : List V → List V → List V} (ck : Cok G X Wx) (h : DefG X.prog X.w X.K X.mg X.base G xv f k ps fn Fd) (M : Mk X.K (G.cm c) f) (hm : X.mg x = some (.ref (G.cm c))) (hr : Room (k + 1) X.A)
    (hb : ∀ fd, Fd fd → ∃ g, KBn X.K fd ps ((e :: es).length + 1) ks g gV) (ar : Arr G (e :: es).length ks.length aW gV) (ha : PA X (e :: es) (toA G xv Wx d)) (hk : PK X kws (toA G xv Wx dk)) (hlen : ∀ t S ws S', d t S = .ok ws S' → ws.length = (e :: es).length) (hlk : ∀ t S ws S', dk t S = .ok ws S' → ws.length = ks.length)
    (hn : ∀ ws zs, ws.length = (e :: es).length → zs.length = ks.length → (aW ws zs).length + 1 = ps.length) (hg : Gl X x := by rfl)
    (hall : (backToKw pos (keywordEach kws X.env)).all (·.1.isSome) = true := by rfl) (hks : (backToKw pos (keywordEach kws X.env)).filterMap (·.1) = ks := by rfl) (hdb : (x == ("__debug__" : Str)) = false := by decide)
    (he : starEach (e :: es) X.env = (false, eval e X.env) :: starEach es X.env := by rfl) (hpl : ((backTo pos (starEach (e :: es) X.env)).any (·.1) || (backToKw pos (keywordEach kws X.env)).any (·.1.isNone)) = false := by rfl) :
    PE X (.Call (.Name x p) (e :: es) kws pos) (toE G xv Wx (dMake c fn (dBoth aW d dk))) := by
  obtain ⟨⟨fd, hF, F⟩, kp⟩ := h
  obtain ⟨g, b⟩ := hb fd hF
  refine ⟨fun pins s σ H Q I h => ?_⟩
  obtain ⟨r, t, S, l, rl, o⟩ := h
  have h1 : toA G xv Wx d σ H fun vs H1 => toA G xv Wx dk σ H1 fun zs H2 => vs.length = (e :: es).length ∧ zs.length = ks.length ∧ ∀ x dx, H2 x = none → H2 dx = none → dx ≠ x → spF G xv ps.length fn (gV (.ref x :: vs) zs) (upd (upd H2 dx (.own x)) x (.ins (G.cm c) dx [])) (fun v H2 => v = .non ∧ Q (.ref x) H2) (WE Wx σ) := by
    have o' : OutE G xv Wx (fun H S r w v => RW G H S r w v) σ H S r ((d t S).bind fun ws S1 => (dk t S1).bind fun zs S2 => match fn (.ref S2.length :: aW ws zs) (S2 ++ [.ins c [] []]) with
      | .ok .non S3 => .ok (.ref S2.length) S3
      | .er k ns us S3 => .er k ns us S3
      | _ => .no) Q := by
      unfold dMake dBoth at o
      cases ed : d t S with
      | no => rw [ed] at o; exact o
      | er c' ns' ws' S1 => rw [ed] at o; exact o
      | ok ws S1 =>
        rw [ed] at o
        simp only [R.bind_ok] at o ⊢
        cases ek : dk t S1 with
        | no => rw [ek] at o; exact o
        | er c' ns' ws' S1 => rw [ek] at o; exact o
        | ok zs S2 => rw [ek] at o; exact o
    refine toX.bind l rl o' fun ws S1 r1 H1 vs ew e1 rl1 l1 q o1 => toX.bind l1 rl1 o1 fun zs S2 r2 H2 us ez e2 rl2 l2 qz o2 => ⟨by rw [← q.length]; exact hlen t S ws S1 ew, by rw [← qz.length]; exact hlk t S1 zs S2 ez, ?_⟩
    intro x dx nx nd ne
    obtain ⟨vs', ev, q'⟩ := ar.rel (x := .ref x) (q.ev e2) qz (hlen t S ws S1 ew) (hlk t S1 zs S2 ez)
    rw [ev]
    exact outMake (by rw [← q'.length]; exact hn ws zs (hlen t S ws S1 ew) (hlk t S1 zs S2 ez)) q' rl2 o2 x dx nx nd ne
  refine wpAny_Call_Name_kw (ld_glob I hg hm ?_ hdb)
  refine PySem.W.callWith_KW (h₀ := X.base) I.ok.mod.kin M.kp hall (thn (ha.run pos pins s σ H _ I h1) fun us s1 ⟨vs, H1, I1, r, q⟩ => ?_) hpl he
  refine thn (hk.run pos pins s1 σ H1 _ I1 q) fun ws s2 ⟨zs, H2, I2, rz, q1, q2, q3⟩ => ⟨I2.kIn, ?_⟩
  rw [hks]
  exact run_makeKS M F hr b (passAt ck.tk σ) I2 r rz q1 q2 q3
end
end DD
namespace DD
open PySem PySem.Spec PyProof.Rows L2
/-! ### a, *b = t -/
section
variable {prog : Program} {w : World} {A : Around} {E : Value → Shared → Prop} {s : Shared}
theorem walksFrom (hh : A.handled = none) (I t : Addr) (hne : t ≠ I) (items : Array Value) (j : Nat) (hj : j ≤ items.size) :
    Walks prog w A I [I, t] [I] (items.size - j) (fun i v => items[j + i]? = some v) (fun i h => h.IsTupleIter I t (j + i) ∧ h.IsTuple t items) where
  sub := fun b hb => by simp at hb; simp [hb]
  frame := fun _ _ _ st hk => ⟨st.1.at fun o e => hk I (by simp) o e, st.2.at fun o e => hk t (by simp) o e⟩
  item := fun i s Q E hi st hQ => by
    have hlt : j + i < items.size := by omega
    refine wpAny_pyNext_tuple_item st.1 st.2 (x := items[j + i]) (by simp [hlt]) fun h' hit' hs' => ?_
    exact hQ _ h' s.toks (by simp [hlt]) ⟨hit', st.2.extBut hs'.extBut hne⟩ fun b o hb e => hs'.extBut b o (fun h => hb (by simp [h])) e
  done := fun s Q E st hQ => wpAny_pyNext_tuple_end hh st.1 st.2 (by simp; omega) fun h' he' => hQ h' s.toks fun b o hb e => he' b o (fun h => hb (by simp [h])) e
  self := fun _ _ _ _ st hQ => wpAny_pyIter_tupleiter st.1 hQ
theorem items_drop {items acc : Array Value} {j : Nat} (hj : j ≤ items.size) (h : ItemsOf (fun i v => items[j + i]? = some v) acc (items.size - j)) : acc.toList = items.toList.drop j := by
  refine List.ext_getElem? fun k => ?_
  rw [List.getElem?_drop]
  by_cases hk : k < acc.size
  · have e1 : acc[k]? = some acc[k] := by simp [hk]
    have e2 := h.2 k _ e1
    rw [Array.getElem?_toList, Array.getElem?_toList, e1, e2]
  · have : items.size ≤ j + k := by have := h.1; omega
    rw [Array.getElem?_toList, Array.getElem?_toList, Array.getElem?_eq_none (by omega), Array.getElem?_eq_none this]
theorem unpackItems_star {t : Addr} {items : Array Value} {j : Nat} {Q : List Value → Shared → Prop} (hh : A.handled = none) (ht : IsTup s.heap t items) (hj : j ≤ items.size) (hsz : items.size ≤ sizeLine)
    (hQ : ∀ h' tk l, (∀ b o, s.heap.get? b = some o → h'.get? b = some o) → s.heap.get? l = none → h'.get? l = some { cls := .type "list", data := .seq (items.toList.drop j).toArray } → Q (items.toList.take j ++ [.ref l]) { s with heap := h', toks := tk }) :
    wpAny (model prog w) A (unpackItems (.ref t) (j + 1) (some j)) Q E s := by
  have hlt : t ≠ s.heap.objs.size := by obtain ⟨o, ho, _⟩ := ht; exact Nat.ne_of_lt (Heap.lt_size ho)
  unfold unpackItems
  refine wpAny_bind ?_
  unfold notIterableAtAll
  refine wpAny_bind (wpAny_specialOf ht.typeIs slot_tuple_iter.lookup ?_)
  refine wpAny_pure ?_
  simp only [Bool.false_eq_true, if_false]
  refine wpAny_bind (wpAny_holding (iter_tuple ht ?_))
  refine wpAny_bind (wpAny_holding (draw_tuple hlt j 0 _ _ ⟨_, Heap.get?_push_size _ rfl, rfl, rfl⟩ (ht.push _) (by omega) fun h₁ hit₁ hs₁ => ?_))
  have ht₁ : IsTup h₁ t items := (ht.push _).extBut hs₁.extBut hlt
  rw [List.drop_zero]
  have hl : ¬ (items.toList.take j).length < j := by simp; omega
  rw [if_neg hl]
  refine wpAny_bind (wpAny_holding (wpAny_collect_iter (T := "tuple_iterator") (.inr (.inr (.inr rfl))) (walksFrom (A := A.in1) hh s.heap.objs.size t hlt items j hj).toS (fun i s st => st.1.typeIs) ⟨(by have z := hit₁; rw [Nat.zero_add] at z; exact z), ht₁⟩ ?_ (by simp) (fun s' acc mv io => ?_) (by omega)))
  · intro b hb
    simp at hb
    rcases hb with rfl | rfl
    · obtain ⟨o, ho, _⟩ := hit₁; exact Heap.lt_size ho
    · obtain ⟨o, ho, _⟩ := ht₁; exact Heap.lt_size ho
  · have hr := items_drop hj io
    rw [hr]
    have e0 : j + 1 - 1 - j = 0 := by omega
    rw [e0, if_neg (Nat.not_lt_zero _)]
    simp only [Nat.sub_zero, List.take_length, List.drop_length]
    obtain ⟨hp', g', d', t', os'⟩ := s'
    have hg : g' = s.gens := mv.gens
    have hd : d' = s.drawn := mv.drawn
    have ho : os' = s.os := mv.os
    subst hg hd ho
    have hk : ∀ b o, s.heap.get? b = some o → hp'.get? b = some o := fun b o e => by
      have hb : b ≠ s.heap.objs.size := Nat.ne_of_lt (Heap.lt_size e)
      exact mv.heap b o (by simp [hb]) (hs₁.extBut b o hb (Heap.get?_push_of_some _ e))
    have hsz' : (items.toList.drop j).length ≤ sizeLine := by simp; omega
    refine wpAny_bind ?_
    unfold newList
    refine wpAny_newObj_type ?_ (by first | size_fits | (simp; omega))
    refine wpAny_pure ?_
    rw [List.append_nil]
    refine hQ _ _ hp'.objs.size (fun b o e => Heap.get?_push_of_some _ (hk b o e)) ?_ (Heap.get?_push_size _ rfl)
    cases e : s.heap.get? hp'.objs.size with
    | none => rfl
    | some o => exact absurd (Heap.lt_size (hk _ _ e)) (Nat.lt_irrefl _)
end
section
variable {G : Gx} {xv : Nat → Value} {Wx : WX} {X : Cx} {H H' : Hp} {S S' : Sto} {r r' : Rh}
/-- a, .., *b = a tuple: j names ahead of the star -/
def gStarT (K : PySem.W.Frag) (j : Nat) (t : TGs) : TG := fun v σ H Q => ∃ a xs, v = .ref a ∧ SqT K H a xs ∧ j ≤ xs.length ∧ ∀ l, H l = none → t (xs.take j ++ [.ref l]) σ (upd H l (.lst (xs.drop j))) Q
theorem pg_star {es es' : List Expr} {k : Nat} {t : TGs} {j : Nat} {pos : Pos} (hc : X.calm = true) (h : PGs X es' t) (hn : (assignEach es X.env).length = j + 1 := by rfl) (hst : (assignEach es X.env).findIdx? (·.1) = some j := by rfl)
    (hm : (assignEach es X.env).map (·.2) = (assignEach es' X.env).map (·.2) := by rfl) : PG X (.Tuple es k pos) (gStarT X.K j t) := by
  refine ⟨fun pins s σ H v u Q I r hw => ?_⟩
  obtain ⟨a, xs, e1, hq, hl, hw⟩ := hw
  subst e1
  cases r
  obtain ⟨its, rv, ht, hz⟩ := I.tuple hq
  rw [assign_Tuple]
  refine wpAny_bind (wpAny_standAt ?_)
  unfold unpack
  have hlen := rv.length
  refine wpAny_bind (wpAny_holding ?_)
  rw [hn, hst]
  refine unpackItems_star (I.ok.hd hc) ht (by simp; omega) (by simp; omega) fun h' tk l kp nl hl' => ?_
  have hHl : H l = none := HOk.gone I.hok nl
  have I1 : Inv X pins σ (upd H l (.lst (xs.drop j))) { s with heap := h', toks := tk } := I.laidN kp nl hHl ⟨by simp; omega, its.drop j, 0, rv.drop j, hl'⟩
  rw [hm]
  exact h.run pins _ σ _ _ _ Q I1 ((rv.take j).append (.cons (show RelV (.ref l) (.ref l) from rfl) .nil)) (hw l hHl)
end
end DD
namespace DD
open PySem PySem.Spec PyProof.Rows L2
/-! ### isinstance of one own class -/
def isi1 (c : Nat) : Ki → Ki → Option Bool
  | .b x, .c d => if d = c then (if x = "NoneType" ∨ x = "bool" ∨ x = "int" ∨ x = "str" ∨ x = "tuple" ∨ x = "list" ∨ x = "dict" then some false else none) else none
  | .c a, .c d => if d = c ∧ a = c then some true else none
  | _, _ => none
theorem isi1_ok {K : PySem.W.Frag} {cm : Nat → Addr} {n : Nat} (h1 : PySem.W.kitOne K (.type "NoneType") (.ref (cm n)) = some false) (h2 : PySem.W.kitOne K (.type "bool") (.ref (cm n)) = some false) (h3 : PySem.W.kitOne K (.type "int") (.ref (cm n)) = some false) (h4 : PySem.W.kitOne K (.type "str") (.ref (cm n)) = some false)
    (h5 : PySem.W.kitOne K (.type "tuple") (.ref (cm n)) = some false) (h6 : PySem.W.kitOne K (.type "list") (.ref (cm n)) = some false) (h7 : PySem.W.kitOne K (.type "dict") (.ref (cm n)) = some false) (h8 : PySem.W.kitOne K (.ref (cm n)) (.ref (cm n)) = some true) (hI : InsK K (cm n)) :
    ∀ a b k, isi1 n a b = some k → PySem.W.kitOne K (a.v cm) (b.v cm) = some k ∧ ∀ c, a = .c c → InsK K (cm c) := by
  intro a b k e
  cases a with
  | b x =>
    cases b with
    | b y => simp [isi1] at e
    | c d =>
      simp only [isi1] at e
      split at e
      · rename_i h
        subst h
        split at e
        · rename_i hx
          cases e
          refine ⟨?_, fun c z => by cases z⟩
          rcases hx with rfl | rfl | rfl | rfl | rfl | rfl | rfl <;> assumption
        · cases e
      · cases e
  | c x =>
    cases b with
    | b y => simp [isi1] at e
    | c d =>
      simp only [isi1] at e
      split at e
      · rename_i h
        obtain ⟨rfl, rfl⟩ := h
        cases e
        exact ⟨h8, fun c z => by cases z; exact hI⟩
      · cases e
end DD
namespace DD
open PySem PySem.Spec PyProof.Rows L2
/-! ### enumerate(tuple) -/
set_option maxHeartbeats 1000000 in
theorem meets_enumerate_one {v : Value} {o : Obj} {H : Heap → Prop} (B : Begins v o H) :
    Meets (Builtin.«enumerate.__new__» ⟨[.type "enumerate", v], []⟩) (fun _ R s => H s.heap ∧
      R (.ok (.ret (.ref (s.heap.push o).objs.size))) { s with heap := (s.heap.push o).push { cls := .type "enumerate", data := .fields #[.none, .bool false, .ref s.heap.objs.size, rawInt 0, .none, .none] } }) :=
  .of_wp fun prog w A R s h => by
    obtain ⟨hp, g, d, tk, os⟩ := s; obtain ⟨h1, h⟩ := h
    have hsub := sub_enumerate
    have q1 : ∀ {A' : Around} {E : Value → Shared → Prop} {Q : Value → Shared → Prop}, Q (.ref hp.objs.size) ⟨hp.push o, g, d, tk, os⟩ → wpAny (model prog w) A' (pyIter v) Q E ⟨hp, g, d, tk, os⟩ :=
      fun q => B.iter prog w _ _ ⟨hp, g, d, tk, os⟩ _ h1 q
    wp_walk using q1
    refine wpAny_stack_any fun st => wpAny_pure ?_
    split
    · rename_i c _ _ _ _ _
      cases (c == Value.type "enumerate")
      · wp_walk using q1
        exact ⟨_, rfl, h⟩
      · wp_walk using q1
        exact ⟨_, rfl, h⟩
    · wp_walk using q1
      exact ⟨_, rfl, h⟩
section
variable {prog : Program} {w : World} {A : Around} {E : Value → Shared → Prop} {s : Shared}
theorem enum_begins_one {v : Value} {o : Obj} {H : Heap → Prop} {Q : Value → Shared → Prop} (B : Begins v o H) (h1 : H s.heap)
    (h : ∀ h', IsEnum h' (s.heap.objs.size + 1) s.heap.objs.size 0 .none → h'.get? s.heap.objs.size = some o → h'.objs.size = s.heap.objs.size + 2 →
      (∀ b o, s.heap.get? b = some o → h'.get? b = some o) → Q (.ref (s.heap.objs.size + 1)) { s with heap := h' }) :
    wpAny (model prog w) A (call (.type "enumerate") [v]) Q E s := by
  refine callType_new F.called_enumerate (by decide) (F.typeCall_enumerate_1 _) (F.newCall_enumerate_1 _) (fun obj => F.args_object_init_2 obj _) F.entry_enumerate_new
    (meets_enumerate_one B) ⟨h1, ?_⟩
  have hz : (s.heap.push o).objs.size = s.heap.objs.size + 1 := Heap.size_push ..
  show _ ∧ _
  rw [hz]
  have he : IsEnum ((s.heap.push o).push { cls := .type "enumerate", data := .fields #[.none, .bool false, .ref s.heap.objs.size, rawInt 0, .none, .none] }) (s.heap.objs.size + 1) s.heap.objs.size 0 .none := by
    have := Heap.get?_push_size (s.heap.push o) (o := { cls := .type "enumerate", data := .fields #[.none, .bool false, .ref s.heap.objs.size, rawInt 0, .none, .none] }) rfl
    rw [hz] at this; exact this
  refine ⟨⟨_, he, rfl⟩, h _ he (Heap.get?_push_of_some _ (Heap.get?_push_size _ B.free)) (by rw [Heap.size_push, hz]) fun b o x => Heap.get?_push_of_some _ (Heap.get?_push_of_some _ x)⟩
end
/-- the tuple at a, each item in a new pair -/
def IteT (K : PySem.W.Frag) (a : Addr) : It :=
  ⟨fun i H => ∃ (xs : List V) (x : V), SqT K H a xs ∧ xs[i]? = some x, fun i H v H' => ∃ T x, v = .ref T ∧ H T = none ∧ H' = upd H T (.tup [.int (i : Nat), x]) ∧ ∀ xs, SqT K H a xs → xs[i]? = some x, fun i H => ∃ xs : List V, SqT K H a xs ∧ xs.length ≤ i⟩
theorem turn_enumT {P : Program} {w : World} {K : PySem.W.Frag} {elts : List Expr} {kk : Nat} {tpos : Pos} (a e it : Addr) (hei : e ≠ it) (hai : a ≠ it) (hea : e ≠ a) :
    Turn P w K (.Tuple elts kk tpos) (IteT K a) [e, it] e (fun i h => (∃ old, IsEnum h e it ((i : Nat) : Int) old) ∧ h.IsTupleIter it a i) where
  mem := by simp
  obj := fun i h st b hb => by
    obtain ⟨⟨old, he⟩, ⟨o, ho, hc, hd⟩⟩ := st
    have e' : b = e ∨ b = it := by simpa using hb
    rcases e' with z | z
    · rw [z]; exact ⟨_, he, fun v q => nomatch q⟩
    · rw [z]; exact ⟨o, ho, fun v q => by rw [hd] at q; cases q⟩
  keep := fun i h h' st k => let ⟨⟨old, he⟩, hi⟩ := st; ⟨⟨old, k e (by simp) _ he⟩, hi.at fun o q => k it (by simp) o q⟩
  item := by
    intro X hP hw hK hc i pins s σ H E I hf st hg
    subst hP hw hK
    obtain ⟨⟨old, he⟩, hit⟩ := st
    obtain ⟨xs, x, hq, hx⟩ := hg
    obtain ⟨its, rv, p, hz⟩ := I.tuple hq
    obtain ⟨u, hu, ru⟩ := rv.get hx
    have hel : e < s.heap.objs.size := Heap.lt_size he
    have hil : it < s.heap.objs.size := by obtain ⟨_, q, _⟩ := hit; exact Heap.lt_size q
    have hu' : its.toArray[i]? = some u := by simpa using hu
    refine wpAny_pyNext_enum_itemD (n := its.toArray.size) (Draws.tuple (A := X.A.in1) (show X.A.in1.handled = none from I.ok.hd hc) it a hai its.toArray) he ⟨hit, p⟩ (by simpa using (List.getElem?_eq_some_iff.mp hu).1) hei (by simp [hei, hea]) fun y h' tk hP ho st' hT hsz hk => ?_
    have : y = u := by rw [hu'] at hP; cases hP; rfl
    subst this
    obtain ⟨hit', _⟩ := st'
    refine ⟨_, rfl, wpAny_letOwnedTupleGo_enum (s := { s with heap := h', toks := tk + 1 }) ho fun h'' he' sb => ?_⟩
    have hT2 : h''.get? s.heap.objs.size = some { cls := .type "tuple", data := .seq #[.int i tk, y] } := (sb.2 _ (Nat.ne_of_gt hel)).trans hT
    have new : ObjOk X.prog X.w (upd H s.heap.objs.size (.tup [.int (i : Nat), x])) h'' s.heap.objs.size (.tup [.int (i : Nat), x]) :=
      ⟨by show 2 ≤ sizeLine; decide, [.int i tk, y], .cons ⟨_, rfl⟩ (.cons ru .nil), ⟨_, hT2, rfl, _, rfl⟩⟩
    have I1 : Inv X pins σ (upd H s.heap.objs.size (.tup [.int (i : Nat), x])) { s with heap := h'', toks := tk + 1 } :=
      I.turnedNew (ch := [e, it]) (fun b ob hb q => (sb.2 b (fun z => hb (by simp [z]))).trans (hk b ob (fun z => hb (by simp [z])) (fun z => hb (by simp [z])) q)) hf (Nat.le_refl _) new
    refine ⟨.ref s.heap.objs.size, _, I1, rfl, ⟨_, x, rfl, I.hok.fresh (Nat.le_refl _), rfl, fun ys hy => by rw [I.tuple_inj hy hq]; exact hx⟩, ⟨⟨y, ?_⟩, hit'.at fun o q => (sb.2 it (Ne.symm hei)).trans q⟩, fun b hb => ?_⟩
    · have e1 : ((i + 1 : Nat) : Int) = (i : Int) + 1 := by omega
      rw [e1]; exact he'
    · have hb' : b < s.heap.objs.size := by
        have e' : b = e ∨ b = it := by simpa using hb
        rcases e' with z | z
        · rw [z]; exact hel
        · rw [z]; exact hil
      rw [upd_ne (Nat.ne_of_lt hb')]
      exact (hf b hb).1
  done := by
    intro X hP hw hK hc i pins s σ H E I hf st hg
    subst hP hw hK
    obtain ⟨⟨old, he⟩, hit⟩ := st
    obtain ⟨xs, hq, hx⟩ := hg
    obtain ⟨its, rv, p, hz⟩ := I.tuple hq
    obtain ⟨f0, f1, f2, f3, f4, f5⟩ := hf it (by simp)
    have hl := rv.length
    have hT : s.TypeIs (.ref e) "enumerate" := ⟨_, he, rfl⟩
    unfold pyNext
    refine wpAny_bind (wpAny_attempt (wpAny_callSpecial?_slot (name := Str.ofString "__next__") hT F.slot_enumerate_next
      (wpAny_call_entry F.slot_enumerate_next hT F.entry_enumerate_next ?_ (F.args_enumerate_next_1 _))))
    show wpAny _ _ (field (.ref e) 2 >>= _) _ _ _
    refine wpAny_bind (wpAny_field he rfl (x := .ref it) rfl ?_)
    refine wpAny_bind (wpAny_nextOf_tuple_end (I.ok.hd hc) hit (show s.heap.IsTuple a its.toArray from p) (by simp; omega) fun h' x eb hx' => ?_)
    obtain ⟨o, ho, hc'⟩ := hx'
    refine wpAny_bind (wpAny_isInstance (T := "StopIteration") (b := true) ⟨o, ho, hc'⟩ isSubtype_stop ?_)
    exact wpAny_pure ⟨rfl, I.turned (t' := s.toks) (fun b o hb q => eb b o hb q) f0 f1 f3 f4 f5⟩
  self := fun A i s Q E st h => let ⟨⟨_, he⟩, _⟩ := st; wpAny_pyIter_enum he h
def iEnumT (K : PySem.W.Frag) (ta : TA) : TI := fun σ H R => ta σ H fun vs H1 => ∃ a xs, vs = [.ref a] ∧ SqT K H1 a xs ∧ R (IteT K a) H1
theorem pi_enumT {X : Cx} {e : Expr} {ta : TA} {p pos tpos : Pos} {elts : List Expr} {kk : Nat} (hg : Gl X "enumerate") (hm : X.mg "enumerate" = none) (ha : PA X [e] ta) (hs : starEach [e] X.env = [(false, eval e X.env)] := by rfl) :
    PI X (.Tuple elts kk tpos) (.Call (.Name "enumerate" p) [e] [] pos) (iEnumT X.K ta) := by
  refine ⟨fun pins s σ H R I h => ?_⟩
  refine Call_ (ld_blt I hg hm boot_enumerate (PyProof.Rows.callWith_type1 (thn (ha.run pos pins s σ H _ I h) fun us s1 ⟨vs, H1, I1, r1, q1⟩ => ?_) hs rfl))
  obtain ⟨a, xs, ex, hq, q⟩ := q1
  subst ex
  cases r1 with
  | cons r rr =>
    cases rr
    cases r
    obtain ⟨its, rv, p', hz⟩ := I1.tuple hq
    have hal : a < s1.heap.objs.size := by obtain ⟨o, ho, _⟩ := p'; exact Heap.lt_size ho
    refine enum_begins_one (begins_tuple a its.toArray) p' fun h' he hit hsz hk => wpAny_pyIter_enum he ?_
    have I2 : Inv X pins σ H1 { s1 with heap := h' } := I1.kept (t' := s1.toks) hk
    refine ⟨s1.heap.objs.size + 1, [s1.heap.objs.size + 1, s1.heap.objs.size], _, _, H1, rfl, I2, turn_enumT a (s1.heap.objs.size + 1) s1.heap.objs.size (Nat.succ_ne_self _) (Nat.ne_of_lt hal) (Nat.ne_of_gt (Nat.lt_succ_of_lt hal)), ⟨⟨.none, he⟩, ⟨_, hit, rfl, rfl⟩⟩, fun b hb => ?_, q⟩
    have e' : b = s1.heap.objs.size + 1 ∨ b = s1.heap.objs.size := by simpa using hb
    have hle : s1.heap.objs.size ≤ b := by
      rcases e' with z | z
      · rw [z]; exact Nat.le_add_right _ _
      · rw [z]; exact Nat.le_refl _
    exact I1.fpOk hle (I1.hok.fresh hle)
section
variable {G : Gx} {xv : Nat → Value} {Wx : WX} {X : Cx} {H H' : Hp} {S S' : Sto} {r r' : Rh}
theorem iteT_ok {a : Addr} {ws : List W} {vs : List V} (ta : TupAt G H S r a vs) (q : RWs G H S r ws vs) : ItOk G H S r (IteT G.K a) (enumFrom 0 ws) where
  go := fun H1 S1 r1 e rl i w hw => by
    obtain ⟨x, hx, _⟩ := enumFrom_get hw
    obtain ⟨v, h1, _⟩ := q.get hx
    exact ⟨vs, v, (ta.mp e).sq, h1⟩
  yld := fun H1 S1 r1 e rl i w hw x H2 hy => by
    obtain ⟨y, hx, rfl⟩ := enumFrom_get hw
    obtain ⟨v, h1, h2⟩ := q.get hx
    obtain ⟨T, x1, rfl, nT, rfl, f⟩ := hy
    have := f vs (ta.mp e).sq
    rw [h1] at this
    cases this
    refine ⟨Ev.fresh nT rl, rl.fresh nT, .tup (.inl (Own.new nT rl)) (.cons ?_ (.cons ((h2.mp e).ev (Ev.fresh nT rl)) .nil))⟩
    have e0 : (0 : Int) + (i : Int) = (i : Int) := by omega
    rw [e0]
    exact .int _
  stop := fun H1 S1 r1 e rl i hi => ⟨vs, (ta.mp e).sq, by rw [← q.length]; rw [enumFrom_length] at hi; exact hi⟩
def dEnumT (d : DA) : DA := fun t S => (d t S).bind fun ws S1 => match ws with
  | [.tup l] => .ok (enumFrom 0 l) S1
  | _ => .no
theorem di_enumT {e : Expr} {d : DA} {p pos tpos : Pos} {elts : List Expr} {kk : Nat} (c : Cok G X Wx) (ha : PA X [e] (toA G xv Wx d)) (hm : X.mg "enumerate" = none) (hg : Gl X "enumerate" := by rfl) (hs : starEach [e] X.env = [(false, eval e X.env)] := by rfl) :
    PI X (.Tuple elts kk tpos) (.Call (.Name "enumerate" p) [e] [] pos) (toI G xv Wx (dEnumT d)) := PIi (pi_enumT hg hm ha hs) fun s H Q ⟨r, t, S, l, rl, o⟩ => toX.bind l rl o fun ws S1 r1 H1 vs _ e1 rl1 l1 q o1 => by
  cases q with
  | nil => exact o1.elim
  | @cons w ws v vs a q =>
    cases q with
    | cons _ _ => cases w <;> exact o1.elim
    | nil =>
      rw [c.kk]
      cases w with
      | tup us =>
        cases a with
        | tup ow q => exact ⟨_, _, rfl, ow.sq, o1 r1 H1 _ .refl rl1 (iteT_ok ow q)⟩
      | _ => exact o1.elim
/-- enumerate of a list or a tuple -/
def dEnumA (d : DA) : DA := fun t S => match d t S with
  | .ok [.tup _] _ => dEnumT d t S
  | _ => dEnum d t S
theorem di_enumA {e : Expr} {d : DA} {p pos tpos : Pos} {elts : List Expr} {kk : Nat} (c : Cok G X Wx) (ha : PA X [e] (toA G xv Wx d)) (hm : X.mg "enumerate" = none) (hg : Gl X "enumerate" := by rfl) (hs : starEach [e] X.env = [(false, eval e X.env)] := by rfl) :
    PI X (.Tuple elts kk tpos) (.Call (.Name "enumerate" p) [e] [] pos) (toI G xv Wx (dEnumA d)) := PIi (PIor (di_enum c ha hm hg hs) (di_enumT c ha hm hg hs)) fun s H Q ⟨r, t, S, l, rl, o⟩ => by
  unfold dEnumA at o
  split at o
  · exact .inr ⟨r, t, S, l, rl, o⟩
  · exact .inl ⟨r, t, S, l, rl, o⟩
/-! ### a, *b = t -/
def gStar (j : Nat) (gs : DGs) : DG := fun w t S => match w with
  | .tup ws => if j ≤ ws.length then gs (ws.take j ++ [.lst (ws.drop j)]) t S else .no
  | _ => .no
theorem dg_star {es es' : List Expr} {k : Nat} {gs : DGs} {j : Nat} {pos : Pos} (c : Cok G X Wx) (h : PGs X es' (toGs G xv gs)) (hn : (assignEach es X.env).length = j + 1 := by rfl) (hst : (assignEach es X.env).findIdx? (·.1) = some j := by rfl)
    (hm : (assignEach es X.env).map (·.2) = (assignEach es' X.env).map (·.2) := by rfl) : PG X (.Tuple es k pos) (toG G xv (gStar j gs)) :=
  PGi (pg_star c.calm h hn hst hm) fun v s H Q ⟨r, t, S, w, l, rl, q, o⟩ => by
    cases w with
    | tup ws =>
      cases q with
      | @tup a _ vs ta q =>
        simp only [gStar] at o
        by_cases hl : j ≤ ws.length
        · rw [if_pos hl] at o
          refine ⟨a, vs, rfl, by rw [c.kk]; exact ta.sq, by rw [← q.length]; exact hl, fun p hp => ?_⟩
          refine ⟨r, t, S, _, l.ev (Ev.fresh hp rl), rl.fresh hp, ?_, OutE.from (Ev.fresh hp rl) o⟩
          exact ((q.take j).ev (Ev.fresh hp rl)).append (.cons (.lst (Own.new hp rl) ((q.drop j).ev (Ev.fresh hp rl))) .nil)
        · rw [if_neg hl] at o; exact o.elim
    | _ => exact o.elim
/-! ### xs.insert(i, y) -/
def insertM : W → List W → Sto → R W := fun w ws S => match w, ws with
  | .ref p, [.int i, y] => match S[p]? with
    | some (.lst xs) => if xs.length < sizeLine ∧ 0 ≤ i ∧ i < 2 ^ 63 then .ok .non (S.set p (.lst (xs.take i.toNat ++ [y] ++ xs.drop i.toNat))) else .no
    | _ => .no
  | _, _ => .no
theorem m_insert : MtR X "list.insert" (toM G xv insertM) := by
  intro pins s σ H x xs v us Q I rx rv ⟨r, S, w, ws, rl, qw, q, o⟩
  cases w with
  | ref p =>
    cases q with
    | nil => exact o.elim
    | @cons y ws yv vs a q =>
      cases a with
      | int i =>
        cases q with
        | nil => exact o.elim
        | @cons z ws zv vs b q =>
          cases q with
          | cons _ _ => exact o.elim
          | nil =>
            simp only [insertM] at o
            cases e : S[p]? with
            | none => rw [e] at o; exact o.elim
            | some u =>
              rw [e] at o
              cases u with
              | lst zs =>
                simp only [] at o
                split at o
                · rename_i h
                  obtain ⟨ho, h1, h2⟩ := rl.at_ p _ e (fun z => by cases z)
                  cases qw with
                  | ref hp =>
                    cases h2 with
                    | @lst _ zl qz =>
                      refine mt_insert pins s σ H _ _ v us Q I rx rv ⟨r p, zl, i, zv, rfl, rfl, h1, by rw [← qz.length]; exact h.1, h.2.1, h.2.2, ?_⟩
                      exact o r _ _ (Ev.set rl e (fun z => by cases z)) (rl.set e (fun z => by cases z) (.lst (((qz.take i.toNat).append (.cons b .nil)).append (qz.drop i.toNat)))) .non
                · exact o.elim
              | _ => exact o.elim
      | _ => exact o.elim
  | _ => exact o.elim
/-! ### comprehensions, whatever is walked -/
def LcOf (G : Gx) (xv : Nat → Value) (Wx : WX) (dl : DX) (wi : TI) (g : Tg) (tt : DT) (te : DX) (vs : List Nat) : Prop := ∀ (s : L2.St) (H : Hp) (Q : VK), toE G xv Wx dl s H Q → tLc wi (g.toTG G.K) (toT G xv W0 tt) (toE G xv W0 te) vs s H Q
theorem de_lcG {elt tg iter : Expr} {ifs : List Expr} {scope : Scope} {own : List (Str × Nat)} {pos : Pos} {wi : TI} {dl : DX} {g : Tg} {tt : DT} {te : DX} (k : Cok G X Wx) (hi : PI X tg iter wi) (ok : blkC X.N X.env.scope scope own = true)
    (hg : ∀ (s : Shared) (H : Hp) (C : Addr) (cl : List (Str × Addr)) (fp : List Addr), Cok G (X.blk s H scope (compEnvC scope cl C X.env) fp) W0 → PG (X.blk s H scope (compEnvC scope cl C X.env) fp) tg (g.toTG G.K))
    (ht : ∀ (s : Shared) (H : Hp) (C : Addr) (cl : List (Str × Addr)) (fp : List Addr), Cok G (X.blk s H scope (compEnvC scope cl C X.env) fp) W0 → PTs (X.blk s H scope (compEnvC scope cl C X.env) fp) ifs (toT G xv W0 tt))
    (he : ∀ (s : Shared) (H : Hp) (C : Addr) (cl : List (Str × Addr)) (fp : List Addr), Cok G (X.blk s H scope (compEnvC scope cl C X.env) fp) W0 → PE (X.blk s H scope (compEnvC scope cl C X.env) fp) elt (toE G xv W0 te))
    (h : LcOf G xv Wx dl wi g tt te (own.map (·.2))) (hs : ∀ x, foldedSetIterable iter X.env x = pure x := by intro _; rfl) :
    PE X (.ListComp elt [⟨tg, iter, ifs, 0⟩] scope pos) (toE G xv Wx dl) :=
  PEi (pe_lc k.calm k.nd hi (blkOk_by ok) (fun s H C cl fp => hg s H C cl fp (k.blk s H _ _ fp)) (fun s H C cl fp => ht s H C cl fp (k.blk s H _ _ fp)) (fun s H C cl fp => he s H C cl fp (k.blk s H _ _ fp)) hs) h
theorem ds_setLcG {i : Nat} {y : Str} {py : Pos} {elt tg iter : Expr} {ifs : List Expr} {scope : Scope} {own : List (Str × Nat)} {pos spos : Pos} {wi : TI} {dl : DX} {g : Tg} {tt : DT} {te : DX} (k : Cok G X Wx) (hi : PI X tg iter wi) (ok : blkC X.N X.env.scope scope own = true)
    (hg : ∀ (s : Shared) (H : Hp) (C : Addr) (cl : List (Str × Addr)) (fp : List Addr), Cok G (X.blk s H scope (compEnvC scope cl C X.env) fp) W0 → PG (X.blk s H scope (compEnvC scope cl C X.env) fp) tg (g.toTG G.K))
    (ht : ∀ (s : Shared) (H : Hp) (C : Addr) (cl : List (Str × Addr)) (fp : List Addr), Cok G (X.blk s H scope (compEnvC scope cl C X.env) fp) W0 → PTs (X.blk s H scope (compEnvC scope cl C X.env) fp) ifs (toT G xv W0 tt))
    (he : ∀ (s : Shared) (H : Hp) (C : Addr) (cl : List (Str × Addr)) (fp : List Addr), Cok G (X.blk s H scope (compEnvC scope cl C X.env) fp) W0 → PE (X.blk s H scope (compEnvC scope cl C X.env) fp) elt (toE G xv W0 te))
    (h : LcOf G xv Wx dl wi g tt te (own.map (·.2)))
    (hsw : swapsWith (.ListComp elt [⟨tg, iter, ifs, 0⟩] scope pos) (some (.Name y py)) spos.line X.env = pure true) (hy : X.N[i]? = some y := by rfl) (hyl : X.env.scope.names.lookup y = some .local := by rfl)
    (hs : ∀ x, foldedSetIterable iter X.env x = pure x := by intro _; rfl) :
    PS X (.Assign [.Name y py] (.ListComp elt [⟨tg, iter, ifs, 0⟩] scope pos) spos) (toS G xv Wx (dAsg dl (gN i))) :=
  PSi (ps_setLc k.calm k.nd hy hyl hsw hi (blkOk_by ok) (fun s H C cl fp => hg s H C cl fp (k.blk s H _ _ fp)) (fun s H C cl fp => ht s H C cl fp (k.blk s H _ _ fp)) (fun s H C cl fp => he s H C cl fp (k.blk s H _ _ fp)) hs) fun D s H ⟨r, t, S, l, rl, o⟩ => by
    refine h s H _ ⟨r, t, S, l, rl, ?_⟩
    unfold dAsg at o
    cases e : dl t S with
    | ok w S1 =>
      rw [e] at o
      exact fun r1 H1 v e1 rl1 q => o r1 H1 _ e1 rl1 ((l.ev e1).set q i)
    | er c ns ws S1 =>
      rw [e] at o
      exact fun r1 H1 dd e1 rl1 x => o r1 H1 s dd e1 rl1 (l.ev e1) x
    | no => rw [e] at o; exact o.elim
theorem plc {g : Tg} {vs : List Nat} (hv : (g.places.all fun i => vs.contains i) = true) : ∀ i ∈ g.places, i ∈ vs := fun i h => by
  have := List.all_eq_true.mp hv i h
  simpa using this
theorem lc_v {d : DA} {g : Tg} {tt : DT} {te : DX} {vs : List Nat} (hv : (g.places.all fun i => vs.contains i) = true := by rfl) : LcOf G xv Wx (dLc d g tt te vs) (toI G xv Wx d) g tt te vs := toLc (plc hv)
theorem lc_r {d : Lo → Sto → R (Nat × List W)} {g : Tg} {tt : DT} {te : DX} {vs : List Nat} (hv : (g.places.all fun i => vs.contains i) = true := by rfl) : LcOf G xv Wx (dLcR d g tt te vs) (toIR G xv Wx d) g tt te vs := toLcR (plc hv)
/-- over a list of the store, a list or a tuple -/
noncomputable def dLcA (d : DX) (g : Tg) (tt : DT) (te : DX) (vs : List Nat) : DX := fun t S => match d t S with
  | .ok (.ref _) _ => dLcR (dSeqR d) g tt te vs t S
  | _ => dLc (dSeqI d) g tt te vs t S
def tOr (t t' : TI) : TI := fun s H R => t s H R ∨ t' s H R
theorem di_a {tg e : Expr} {d : DX} (k : Cok G X Wx) (he : PE X e (toE G xv Wx d)) : PI X tg e (tOr (toI G xv Wx (dSeqI d)) (toIR G xv Wx (dSeqR d))) := PIor (di_seq k he) (di_seqR k he)
theorem lc_a {d : DX} {g : Tg} {tt : DT} {te : DX} {vs : List Nat} (hv : (g.places.all fun i => vs.contains i) = true := by rfl) : LcOf G xv Wx (dLcA d g tt te vs) (tOr (toI G xv Wx (dSeqI d)) (toIR G xv Wx (dSeqR d))) g tt te vs := fun s H Q ⟨r, t, S, l, rl, o⟩ => by
  unfold dLcA at o
  split at o
  · exact .inr (toLcR (plc hv) s H Q ⟨r, t, S, l, rl, o⟩)
  · exact .inl (toLc (plc hv) s H Q ⟨r, t, S, l, rl, o⟩)
end
end DD
namespace DD
open PySem PySem.Spec PyProof.Rows L2
end DD
/-! Plain reasoning about mirrors. -/
namespace DD
open PySem L2
/-! ### gc -/
theorem gc_ok {S S' : Sto} {w : W} (h : GcS S S') (l : lowW S.length w = true) : gcR S (.ok w S') = .ok w (S'.take S.length) := by
  unfold gcR
  simp only [h, l, and_self, if_true]
theorem gcs_same (S : Sto) : GcS S S := ⟨Nat.le_refl _, fun i hi => .inl rfl⟩
theorem gcs_app (S g : Sto) : GcS S (S ++ g) := ⟨by simp, fun i hi => .inl (List.getElem?_append_left hi)⟩
theorem gc_same {S : Sto} {w : W} (l : lowW S.length w = true) : gcR S (.ok w S) = .ok w S := by
  rw [gc_ok (gcs_same S) l, List.take_length]
theorem gc_app {S g : Sto} {w : W} (l : lowW S.length w = true) : gcR S (.ok w (S ++ g)) = .ok w S := by
  rw [gc_ok (gcs_app S g) l]; simp
/-- the same length, all that is there is low -/
theorem gc_set {S S' : Sto} {w : W} (hl : S'.length = S.length) (h : ∀ i, i < S.length → S'[i]? = S[i]? ∨ ∃ o, S'[i]? = some o ∧ lowO S.length o = true) (l : lowW S.length w = true) : gcR S (.ok w S') = .ok w S' := by
  rw [gc_ok ⟨by omega, h⟩ l, ← hl, List.take_length]
theorem gc_set1 {S : Sto} {p : Nat} {o : O} {w : W} (l1 : lowO S.length o = true) (l : lowW S.length w = true) : gcR S (.ok w (S.set p o)) = .ok w (S.set p o) := by
  refine gc_set (by simp) (fun i hi => ?_) l
  by_cases h : p = i
  · subst h; exact .inr ⟨o, List.getElem?_set_self hi, l1⟩
  · exact .inl (List.getElem?_set_ne h)
/-! ### what is low -/
theorem lowL_all {n : Nat} : ∀ {l : List W}, (∀ w ∈ l, lowW n w = true) → lowL n l = true
  | [], _ => rfl
  | w :: l, h => by
    simp only [lowL, Bool.and_eq_true]
    exact ⟨h w (List.mem_cons_self ..), lowL_all fun x hx => h x (List.mem_cons_of_mem _ hx)⟩
theorem lowL_ints {n : Nat} (l : List Int) : lowL n (l.map W.int) = true := lowL_all fun w hw => by
  obtain ⟨i, _, rfl⟩ := List.mem_map.mp hw; rfl
/-! ### loops -/
/-- one turn of a for -/
def turn (g : DG) (b : DS) (w : W) (t : Lo) (S : Sto) : F := match g w t S with
  | .ok t1 S1 => b t1 S1
  | _ => .no
theorem forL_cons {g : DG} {b : DS} {w : W} {ws : List W} {t : Lo} {S : Sto} : forL g b (w :: ws) t S = match turn g b w t S with
  | .nx t2 S2 => forL g b ws t2 S2
  | .ct t2 S2 => forL g b ws t2 S2
  | .bk t2 S2 => .nx t2 S2
  | x => x := by
  unfold turn
  rw [forL]
  cases g w t S <;> rfl
@[simp] theorem forL_nil {g : DG} {b : DS} {t : Lo} {S : Sto} : forL g b [] t S = .nx t S := rfl
/-- a loop that goes through: an invariant by the turn -/
theorem forL_inv {g : DG} {b : DS} (ws : List W) (I : Nat → Lo → Sto → Prop)
    (h : ∀ i w t S, ws[i]? = some w → I i t S → ∃ t' S', (turn g b w t S = .nx t' S' ∨ turn g b w t S = .ct t' S') ∧ I (i + 1) t' S') {t : Lo} {S : Sto} (h0 : I 0 t S) : ∃ t' S', forL g b ws t S = .nx t' S' ∧ I ws.length t' S' := by
  have key : ∀ (us : List W) (k : Nat) (t : Lo) (S : Sto), ws.drop k = us → k ≤ ws.length → I k t S → ∃ t' S', forL g b us t S = .nx t' S' ∧ I ws.length t' S' := by
    intro us
    induction us with
    | nil =>
      intro k t S e hk i
      have : ws.length ≤ k := by
        have := congrArg List.length e
        simp at this; omega
      have : k = ws.length := by omega
      subst this
      exact ⟨t, S, rfl, i⟩
    | cons w us ih =>
      intro k t S e hk i
      have hw : ws[k]? = some w := by
        have : (ws.drop k)[0]? = some w := by rw [e]; rfl
        simpa using this
      have hlt : k < ws.length := (List.getElem?_eq_some_iff.mp hw).1
      obtain ⟨t', S', e1, i1⟩ := h k w t S hw i
      have e2 : ws.drop (k + 1) = us := by
        rw [← List.drop_drop, e]; rfl
      obtain ⟨t2, S2, e3, i3⟩ := ih (k + 1) t' S' e2 hlt i1
      refine ⟨t2, S2, ?_, i3⟩
      rw [forL_cons]
      rcases e1 with e1 | e1 <;> rw [e1] <;> exact e3
  exact key ws 0 t S rfl (Nat.zero_le _) h0
/-- a comprehension that keeps every item -/
theorem lcL_inv {g : Tg} {te : DX} {t0 : Lo} (ws : List W) (I : Nat → List W → Sto → Prop) (hz : ws.length ≤ 1000)
    (h : ∀ i w acc S, ws[i]? = some w → I i acc S → ∃ t1 x S', g.put w t0 = some t1 ∧ te t1 S = .ok x S' ∧ I (i + 1) (acc ++ [x]) S') {S : Sto} (h0 : I 0 [] S) : ∃ acc S', lcL g dYes te t0 ws [] S = .ok (.lst acc) S' ∧ I ws.length acc S' ∧ acc.length = ws.length := by
  have key : ∀ (us : List W) (k : Nat) (acc : List W) (S : Sto), ws.drop k = us → k ≤ ws.length → I k acc S → acc.length = k → ∃ acc' S', lcL g dYes te t0 us acc S = .ok (.lst acc') S' ∧ I ws.length acc' S' ∧ acc'.length = ws.length := by
    intro us
    induction us with
    | nil =>
      intro k acc S e hk i ha
      have : ws.length ≤ k := by
        have := congrArg List.length e
        simp at this; omega
      have : k = ws.length := by omega
      subst this
      exact ⟨acc, S, rfl, i, ha⟩
    | cons w us ih =>
      intro k acc S e hk i ha
      have hw : ws[k]? = some w := by
        have : (ws.drop k)[0]? = some w := by rw [e]; rfl
        simpa using this
      have hlt : k < ws.length := (List.getElem?_eq_some_iff.mp hw).1
      obtain ⟨t1, x, S', e0, e1, i1⟩ := h k w acc S hw i
      have e2 : ws.drop (k + 1) = us := by
        rw [← List.drop_drop, e]; rfl
      obtain ⟨acc', S2, e3, i3⟩ := ih (k + 1) (acc ++ [x]) S' e2 hlt i1 (by simp [ha])
      refine ⟨acc', S2, ?_, i3⟩
      have hs : acc.length < sizeLine := by rw [sizeLine_eq]; omega
      rw [lcL]
      simp only [e0, dYes, e1, if_pos hs]
      exact e3
  exact key ws 0 [] S rfl (Nat.zero_le _) h0 rfl
/-- a comprehension over values: a filter and a map, the store untouched -/
theorem lcL_pure {g : Tg} {tt : DT} {te : DX} {t0 : Lo} {S : Sto} (p : W → Bool) (f : W → W) : ∀ (ws acc : List W), acc.length + ws.length ≤ 100000 → (∀ w ∈ ws, ∃ t1, g.put w t0 = some t1 ∧ tt t1 S = .ok (p w) S ∧ (p w = true → te t1 S = .ok (f w) S)) → lcL g tt te t0 ws acc S = .ok (.lst (acc ++ (ws.filter p).map f)) S
  | [], acc, _, _ => by simp [lcL]
  | w :: ws, acc, hz, h => by
    obtain ⟨t1, e0, e1, e2⟩ := h w (List.mem_cons_self ..)
    have hs : acc.length < sizeLine := by rw [sizeLine_eq]; simp at hz; omega
    rw [lcL]
    simp only [e0, e1]
    cases hp : p w with
    | true =>
      simp only [e2 hp, if_pos hs]
      rw [lcL_pure p f ws (acc ++ [f w]) (by simp at hz ⊢; omega) fun x hx => h x (List.mem_cons_of_mem _ hx)]
      simp [List.filter_cons, hp]
    | false =>
      simp only []
      rw [lcL_pure p f ws acc (by simp at hz ⊢; omega) fun x hx => h x (List.mem_cons_of_mem _ hx)]
      simp [List.filter_cons, hp]
theorem lcL_map {g : Tg} {te : DX} {t0 : Lo} {S : Sto} (f : W → W) (ws : List W) (hz : ws.length ≤ 100000) (h : ∀ w ∈ ws, ∃ t1, g.put w t0 = some t1 ∧ te t1 S = .ok (f w) S) : lcL g dYes te t0 ws [] S = .ok (.lst (ws.map f)) S := by
  rw [lcL_pure (fun _ => true) f ws [] (by simpa using hz) fun w hw => ?_]
  · congr 2
    rw [List.nil_append]
    congr 1
    exact List.filter_eq_self.mpr fun _ _ => rfl
  · obtain ⟨t1, a, b⟩ := h w hw
    exact ⟨t1, a, rfl, fun _ => b⟩
theorem lcL_filter {g : Tg} {tt : DT} {te : DX} {t0 : Lo} {S : Sto} (p : W → Bool) (ws : List W) (hz : ws.length ≤ 100000) (h : ∀ w ∈ ws, ∃ t1, g.put w t0 = some t1 ∧ tt t1 S = .ok (p w) S ∧ (p w = true → te t1 S = .ok w S)) : lcL g tt te t0 ws [] S = .ok (.lst (ws.filter p)) S := by
  rw [lcL_pure p (fun w => w) ws [] (by simpa using hz) h]
  simp
/-! ### ranges -/
theorem intsFrom_eq (lo : Int) (n : Nat) : intsFrom lo n = (List.range n).map fun (i : Nat) => W.int (lo + (i : Int)) := by
  induction n generalizing lo with
  | zero => rfl
  | succ n ih =>
    rw [List.range_succ_eq_map, List.map_cons, List.map_map]
    simp only [intsFrom, ih]
    congr 1
    · simp
    · apply List.map_congr_left
      intro i _
      simp only [Function.comp]
      congr 1
      push_cast
      omega
/-! ### small -/
theorem atI0 {α : Type} (x : α) (l : List α) : atI (x :: l) 0 = some x := atI_nat (j := 0) rfl
theorem atI1 {α : Type} (x y : α) (l : List α) : atI (x :: y :: l) 1 = some y := atI_nat (j := 1) rfl
theorem atI2 {α : Type} (x y z : α) (l : List α) : atI (x :: y :: z :: l) 2 = some z := atI_nat (j := 2) rfl
theorem atI3 {α : Type} (x y z u : α) (l : List α) : atI (x :: y :: z :: u :: l) 3 = some u := atI_nat (j := 3) rfl
theorem atI4 {α : Type} (x y z u v : α) (l : List α) : atI (x :: y :: z :: u :: v :: l) 4 = some v := atI_nat (j := 4) rfl
theorem atI_in {α : Type} {l : List α} {i : Int} (h0 : 0 ≤ i) (h1 : i < l.length) : ∃ x, atI l i = some x ∧ l[i.toNat]? = some x := by
  obtain ⟨x, hx⟩ : ∃ x, l[i.toNat]? = some x := ⟨l[i.toNat]'(by omega), List.getElem?_eq_getElem _⟩
  refine ⟨x, ?_, hx⟩
  have := atI_nat hx
  rwa [Int.toNat_of_nonneg h0] at this
theorem ixN_in {n : Nat} {i : Int} (h0 : 0 ≤ i) (h1 : i < n) : ixN n i = some i.toNat := by
  unfold ixN; rw [if_pos h0, if_pos h1]
theorem fmod_pos {i j : Int} (h : 0 < j) : fmod i j = i % j := if_pos h
theorem fdiv_pos {i j : Int} (h : 0 < j) : fdiv i j = i / j := if_pos h
theorem dat_ints {n : Nat} (l : List Int) : (l.map W.int).all (dat n) = true := by
  rw [List.all_eq_true]; intro w hw
  obtain ⟨i, _, rfl⟩ := List.mem_map.mp hw
  cases n <;> rfl
/-! ### how mirrors run -/
section
variable {t : Lo} {S : Sto}
@[simp] theorem e_nx {k : Lo → Sto → F} : (F.nx t S).andThen k = k t S := rfl
@[simp] theorem e_rt {w : W} {k : Lo → Sto → F} : (F.rt w S).andThen k = .rt w S := rfl
@[simp] theorem e_bk {k : Lo → Sto → F} : (F.bk t S).andThen k = .bk t S := rfl
@[simp] theorem e_ct {k : Lo → Sto → F} : (F.ct t S).andThen k = .ct t S := rfl
@[simp] theorem e_er {c : Nat} {ns : List Str} {ws : List W} {k : Lo → Sto → F} : (F.er c ns ws t S).andThen k = .er c ns ws t S := rfl
@[simp] theorem e_seq {a b : DS} : dSeq a b t S = (a t S).andThen b := rfl
@[simp] theorem e_next : dNext t S = .nx t S := rfl
@[simp] theorem e_drop {d : DX} : dDrop d t S = (d t S).toF t fun _ S1 => .nx t S1 := rfl
@[simp] theorem e_ret {d : DX} : dRet d t S = (d t S).toF t fun w S1 => .rt w S1 := rfl
@[simp] theorem e_ifS {c : DT} {a b : DS} : dIfS c a b t S = (c t S).toF t fun k S1 => if k = true then a t S1 else b t S1 := rfl
@[simp] theorem e_if {c : DT} {a b : DX} : dIf c a b t S = (c t S).bind fun k S1 => if k = true then a t S1 else b t S1 := rfl
@[simp] theorem e_setN {d : DX} {i : Nat} : dAsg d (gN i) t S = (d t S).toF t fun w S1 => .nx (t.set i (some w)) S1 := rfl
@[simp] theorem e_var0 {w : W} {t : Lo} : dVar 0 (some w :: t) S = .ok w S := rfl
@[simp] theorem e_varS {i : Nat} {o : Option W} {t : Lo} : dVar (i + 1) (o :: t) S = dVar i t S := by simp [dVar]
@[simp] theorem e_C {w : W} : dC w t S = .ok w S := rfl
@[simp] theorem e_op {f : D2} {a b : DX} : dOp f a b t S = (a t S).bind fun x S1 => (b t S1).bind fun y S2 => match f x y S2 with
  | .ok w S3 => .ok w S3
  | _ => .no := rfl
@[simp] theorem e_nil : dNil t S = .ok [] S := rfl
@[simp] theorem e_cons {a : DX} {b : DA} : dCons a b t S = (a t S).bind fun w S1 => (b t S1).bind fun ws S2 => .ok (w :: ws) S2 := rfl
@[simp] theorem e_call {f : Fn} {d : DA} : dCall f d t S = (d t S).bind fun ws S1 => f ws S1 := rfl
@[simp] theorem e_bi {f : Fn} {d : DA} : dBi f d t S = (d t S).bind fun ws S1 => match f ws S1 with
  | .ok w S2 => .ok w S2
  | _ => .no := rfl
@[simp] theorem e_and {a b : DT} : dtAnd a b t S = (a t S).bind fun k S1 => if k = true then b t S1 else .ok false S1 := rfl
@[simp] theorem e_or {a b : DT} : dtOr a b t S = (a t S).bind fun k S1 => if k = true then .ok true S1 else b t S1 := rfl
@[simp] theorem e_not {a : DT} : dtNot a t S = (a t S).bind fun k S1 => .ok (!k) S1 := rfl
@[simp] theorem e_yes : dYes t S = .ok true S := rfl
@[simp] theorem e_tru {d : DX} : dTru d t S = (d t S).bind fun w S1 => match truW S1 w with
  | some k => .ok k S1
  | none => .no := rfl
@[simp] theorem e_test {d : DX} : dTest d t S = match d t S with
  | .ok (.bl b) S1 => .ok b S1
  | .er c ns ws S1 => .er c ns ws S1
  | _ => .no := rfl
@[simp] theorem e_neg {d : DX} : dNeg d t S = (d t S).bind fun w S1 => match w with
  | .int i => .ok (.int (-i)) S1
  | _ => .no := rfl
@[simp] theorem e_notT {d : DX} : dNotT d t S = (d t S).bind fun w S1 => match truW S1 w with
  | some k => .ok (.bl (!k)) S1
  | none => .no := rfl
@[simp] theorem e_andT {a b : DX} : dAndT a b t S = (a t S).bind fun w S1 => match truW S1 w with
  | some true => b t S1
  | some false => .ok w S1
  | none => .no := rfl
@[simp] theorem e_orT {a b : DX} : dOrT a b t S = (a t S).bind fun w S1 => match truW S1 w with
  | some true => .ok w S1
  | some false => b t S1
  | none => .no := rfl
@[simp] theorem e_for {d : DA} {g : DG} {b : DS} : dFor d g b t S = (d t S).toF t fun ws S1 => forL g b ws t S1 := rfl
@[simp] theorem e_seqI {d : DX} : dSeqI d t S = (d t S).bind fun w S1 => match w with
  | .lst ws => .ok ws S1
  | .scr ws => .ok ws S1
  | .tup ws => .ok ws S1
  | _ => .no := rfl
@[simp] theorem e_lc {d : DA} {g : Tg} {tt : DT} {te : DX} {vs : List Nat} : dLc d g tt te vs t S = (d t S).bind fun ws S1 => lcL g tt te (wipeW t vs) ws [] S1 := rfl
@[simp] theorem e_chain {f g : D2} {a b c : DX} : dChain f g a b c t S = (a t S).bind fun x S1 => (b t S1).bind fun y S2 => match f x y S2 with
  | .ok (.bl true) S3 => (c t S3).bind fun z S4 => match g y z S4 with
    | .ok w S5 => .ok w S5
    | _ => .no
  | .ok (.bl false) S3 => .ok (.bl false) S3
  | _ => .no := rfl
@[simp] theorem e_par {i j : Nat} {d : DA} : dPar i j d t S = (d t S).toF t fun ws S1 => match ws with
  | [a, b] => .nx ((t.set i (some a)).set j (some b)) S1
  | _ => .no := rfl
@[simp] theorem e_tup {d : DA} : dTup d t S = (d t S).bind fun ws S1 => if ws.length ≤ sizeLine then .ok (.tup ws) S1 else .no := rfl
@[simp] theorem e_lst {d : DA} : dLst d t S = (d t S).bind fun ws S1 => if ws.length ≤ sizeLine then .ok (.lst ws) S1 else .no := rfl
@[simp] theorem e_newL {d : DA} : dNewL d t S = (d t S).bind fun ws S1 => if ws.length ≤ sizeLine then .ok (.ref S1.length) (S1 ++ [.lst ws]) else .no := rfl
@[simp] theorem e_wipe0 : wipeW t [] = t := rfl
@[simp] theorem e_wipe1 {v : Nat} {vs : List Nat} : wipeW t (v :: vs) = (wipeW t vs).set v none := rfl
@[simp] theorem e_add {i j : Int} : addD (.int i) (.int j) S = .ok (.int (i + j)) S := rfl
@[simp] theorem e_sub {i j : Int} : iSub (.int i) (.int j) S = .ok (.int (i - j)) S := rfl
@[simp] theorem e_lt {i j : Int} : iLt (.int i) (.int j) S = .ok (.bl (decide (i < j))) S := rfl
@[simp] theorem e_le {i j : Int} : iLe (.int i) (.int j) S = .ok (.bl (decide (i ≤ j))) S := rfl
@[simp] theorem e_gt {i j : Int} : iGt (.int i) (.int j) S = .ok (.bl (decide (j < i))) S := rfl
@[simp] theorem e_ge {i j : Int} : iGe (.int i) (.int j) S = .ok (.bl (decide (j ≤ i))) S := rfl
theorem e_mod {i j : Int} (h : 0 < j) : iMod (.int i) (.int j) S = .ok (.int (i % j)) S := by
  show (if decide (j ≠ 0) = true then R.ok (W.int (fmod i j)) S else .no) = _
  rw [if_pos (decide_eq_true (by omega)), fmod_pos h]
theorem log2_le {n k : Nat} (h : n < 2 ^ k) (h0 : 0 < k) : n.log2 < k := PySem.Flt.log2_lt_of h0 h
theorem e_div {i j : Int} (h : 0 < j) (h2 : j < 2 ^ 8000) : iDiv (.int i) (.int j) S = .ok (.int (i / j)) S := by
  have : j.natAbs.log2 < 9000 := Nat.lt_trans (log2_le (k := 8000) (by omega) (by decide)) (by decide)
  show (if (decide (j ≠ 0) && decide (j.natAbs.log2 < 9000)) = true then R.ok (W.int (fdiv i j)) S else .no) = _
  rw [if_pos (by rw [decide_eq_true (show j ≠ 0 by omega), decide_eq_true this]; rfl), fdiv_pos h]
theorem e_mulR {b : Bool} {i j : Int} (h : -(2 ^ 64) < j ∧ j < 2 ^ 64) : mulD b (.int i) (.int j) S = .ok (.int (i * j)) S := by
  have : mulOk i j = true := by unfold mulOk; rw [decide_eq_true h]; simp
  show (match (if mulOk i j = true then R.ok (W.int (i * j)) S else .no) with
    | .no => _
    | x => x) = _
  rw [if_pos this]
theorem e_pow {i j : Int} (h : powOk i j = true) : iPow (.int i) (.int j) S = .ok (.int (i ^ j.toNat)) S := by
  show (if powOk i j = true then R.ok (W.int (i ^ j.toNat)) S else .no) = _
  rw [if_pos h]
@[simp] theorem e_intF {i : Int} : intF [.int i] S = .ok (.int i) S := rfl
@[simp] theorem e_intB {k : Bool} : intF [.bl k] S = .ok (.int (if k then 1 else 0)) S := rfl
@[simp] theorem e_absF {i : Int} : absF [.int i] S = .ok (.int (if i < 0 then -i else i)) S := rfl
@[simp] theorem e_maxF {i j : Int} : max2F [.int i, .int j] S = .ok (.int (if j > i then j else i)) S := rfl
@[simp] theorem e_minF {i j : Int} : min2F [.int i, .int j] S = .ok (.int (if j < i then j else i)) S := rfl
/-- an item of a list, a tuple, a list of the store -/
theorem e_ixT {ws : List W} {i : Int} {w : W} (h : atI ws i = some w) : ixD (.tup ws) (.int i) S = .ok w S := by simp [ixD, seqL, seqT, h]
theorem e_ixL {ws : List W} {i : Int} {w : W} (h : atI ws i = some w) : ixD (.lst ws) (.int i) S = .ok w S := by simp [ixD, seqL, h]
theorem e_ixC {ws : List W} {i : Int} {w : W} (h : atI ws i = some w) : ixD (.scr ws) (.int i) S = .ok w S := by simp [ixD, seqL, h]
theorem e_ixR {ws : List W} {i : Int} {w : W} {p : Nat} (e : S[p]? = some (.lst ws)) (h : atI ws i = some w) : ixD (.ref p) (.int i) S = .ok w S := by simp [ixD, seqL, e, h]
@[simp] theorem e_lenT {ws : List W} : lenF [.tup ws] S = .ok (.int ws.length) S := rfl
@[simp] theorem e_lenL {ws : List W} : lenF [.lst ws] S = .ok (.int ws.length) S := rfl
@[simp] theorem e_lenC {ws : List W} : lenF [.scr ws] S = .ok (.int ws.length) S := rfl
@[simp] theorem e_tupL {ws : List W} : tupleF [.lst ws] S = .ok (.tup ws) S := rfl
@[simp] theorem e_tupT {ws : List W} : tupleF [.tup ws] S = .ok (.tup ws) S := rfl
@[simp] theorem e_listL {ws : List W} : listF [.lst ws] S = .ok (.lst ws) S := rfl
@[simp] theorem e_listT {ws : List W} : listF [.tup ws] S = .ok (.lst ws) S := rfl
@[simp] theorem e_listC {ws : List W} : listF [.scr ws] S = .ok (.lst ws) S := rfl
@[simp] theorem e_newListC {ws : List W} : newListF [.scr ws] S = .ok (.ref S.length) (S ++ [.lst ws]) := rfl
@[simp] theorem e_asgIx {d da db : DX} : dAsg d (gIx da db) t S = (d t S).toF t fun w S1 => match da t S1 with
  | .ok (.ref p) S1 => match db t S1 with
    | .ok (.int i) S2 => match S2[p]? with
      | some (.lst ws) => match ixN ws.length i with
        | some j => .nx t (S2.set p (.lst (ws.set j w)))
        | none => .no
      | _ => .no
    | _ => .no
  | _ => .no := by
  unfold dAsg gIx
  congr 1
  funext w S1
  cases da t S1 with
  | ok p S1 =>
    cases p <;> try rfl
    simp only []
    cases db t S1 with
    | ok i S2 =>
      cases i <;> try rfl
      simp only []
      rename_i p i
      cases S2[p]? with
      | none => rfl
      | some o =>
        cases o <;> try rfl
        simp only []
        rename_i ws
        cases ixN ws.length i <;> rfl
    | _ => rfl
  | _ => rfl
@[simp] theorem e_asgTp {d : DX} {n : Nat} {gs : DGs} : dAsg d (gTp n gs) t S = (d t S).toF t fun w S1 => match gTp n gs w t S1 with
  | .ok t' S2 => .nx t' S2
  | _ => .no := rfl
@[simp] theorem e_mt {f : W → List W → Sto → R W} {o : DX} {d : DA} : dMt f o d t S = (o t S).bind fun w S1 => match seqL S1 w with
  | some _ => (d t S1).bind fun ws S2 => match f w ws S2 with
    | .ok x S3 => .ok x S3
    | _ => .no
  | none => .no := rfl
theorem e_append {p : Nat} {xs : List W} {y : W} (e : S[p]? = some (.lst xs)) (h : xs.length < 1000000) : appendM (.ref p) [y] S = .ok .non (S.set p (.lst (xs ++ [y]))) := by
  simp only [appendM, e]
  rw [if_pos (by rw [sizeLine_eq]; omega)]
@[simp] theorem e_range1 {d : DA} : dRange1 d t S = (d t S).bind fun ws S1 => match ws with
  | [.int j] => if -(2 ^ 62) ≤ j ∧ j < 2 ^ 62 then .ok (intsFrom 0 j.toNat) S1 else .no
  | _ => .no := rfl
end
theorem dat_look {S : Sto} {n : Nat} {a : W} (h : dat n a = true) : lookS S a = a := by
  cases a <;> first | rfl | (cases n <;> simp [dat] at h)
theorem e_eq {S : Sto} {a b : W} (h1 : dat dDep a = true) (h2 : dat dDep b = true) : eqD a b S = .ok (.bl (eqW a b)) S := by
  unfold eqD
  rw [dat_look h1, dat_look h2, h1, h2]; rfl
theorem e_ne {S : Sto} {a b : W} (h1 : dat dDep a = true) (h2 : dat dDep b = true) : neD a b S = .ok (.bl (!eqW a b)) S := by
  unfold neD
  rw [dat_look h1, dat_look h2, h1, h2]; rfl
@[simp] theorem e_eqI {S : Sto} {i j : Int} : eqD (.int i) (.int j) S = .ok (.bl (decide (i = j))) S := by
  rw [e_eq rfl rfl]; simp [eqW]; by_cases h : i = j <;> simp [h]
@[simp] theorem e_neI {S : Sto} {i j : Int} : neD (.int i) (.int j) S = .ok (.bl (!decide (i = j))) S := by
  rw [e_ne rfl rfl]; simp [eqW]; by_cases h : i = j <;> simp [h]
@[simp] theorem e_eqB {S : Sto} {i j : Bool} : eqD (.bl i) (.bl j) S = .ok (.bl (i == j)) S := by rw [e_eq rfl rfl]; rfl
@[simp] theorem e_neB {S : Sto} {i j : Bool} : neD (.bl i) (.bl j) S = .ok (.bl (!(i == j))) S := by rw [e_ne rfl rfl]; rfl
theorem e_inL {S : Sto} {a : W} {ws : List W} (h1 : dat dDep a = true) (h2 : ws.all (dat dDep) = true) : inD a (.lst ws) S = .ok (.bl (inW a ws)) S := by
  simp [inD, lookS, h1, h2]
theorem e_notInT {S : Sto} {a : W} {ws : List W} (h1 : dat dDep a = true) (h2 : ws.all (dat dDep) = true) : notInD a (.tup ws) S = .ok (.bl (!inW a ws)) S := by
  simp [notInD, lookS, h1, h2]
theorem e_notInL {S : Sto} {a : W} {ws : List W} (h1 : dat dDep a = true) (h2 : ws.all (dat dDep) = true) : notInD a (.lst ws) S = .ok (.bl (!inW a ws)) S := by
  simp [notInD, lookS, h1, h2]
theorem blsOf_map {α : Type} (g : α → Bool) : ∀ l : List α, blsOf (l.map fun x => W.bl (g x)) = some (l.map g)
  | [] => rfl
  | x :: l => by simp [blsOf, blsOf_map g l]
theorem e_all {S : Sto} {ws : List W} {bs : List Bool} (h : blsOf ws = some bs) : allF [.lst ws] S = .ok (.bl (bs.all id)) S := by simp [allF, seqL, h]
@[simp] theorem e_putN {i : Nat} {w : W} {t : Lo} : (Tg.nm i).put w t = some (t.set i (some w)) := rfl
/-- the start of a def -/
theorem dFn_eq {n : Nat} {b : DS} {ws : List W} {S : Sto} : dFn n b ws S = match b (ws.map some ++ List.replicate (n - ws.length) none) S with
  | .nx _ S1 => .ok .non S1
  | .rt w S1 => .ok w S1
  | .er c ns us _ S1 => .er c ns us S1
  | _ => .no := rfl
theorem gcF_eq {f : Fn} {ws : List W} {S : Sto} : gcF f ws S = gcR S (f ws S) := rfl
end DD
namespace DD
open PySem L2
/-! ### dicts, plainly -/
/-! ### a list of the store is walked -/
section
variable {t : Lo} {S : Sto}
@[simp] theorem e_seqR {d : DX} : dSeqR d t S = (d t S).bind fun w S1 => match w with
  | .ref p => match S1[p]? with
    | some (.lst ws) => .ok (p, ws) S1
    | _ => .no
  | _ => .no := rfl
@[simp] theorem e_forR {d : Lo → Sto → R (Nat × List W)} {g : DG} {b : DS} : dForR d g b t S = (d t S).toF t fun ws S1 => forLR g b ws.1 ws.2 ws.2 t S1 := rfl
@[simp] theorem e_lcR {d : Lo → Sto → R (Nat × List W)} {g : Tg} {tt : DT} {te : DX} {vs : List Nat} : dLcR d g tt te vs t S = (d t S).bind fun ws S1 => lcLR g tt te (wipeW t vs) ws.1 ws.2 ws.2 [] S1 := rfl
/-- where the store stays, a comprehension over a list of the store is one over a value -/
theorem lcLR_same {g : Tg} {tt : DT} {te : DX} {t0 : Lo} {p : Nat} {us : List W} (hp : S[p]? = some (.lst us)) : ∀ (ws acc : List W), (∀ w ∈ ws, ∃ t1, g.put w t0 = some t1 ∧ ((∃ x, tt t1 S = .ok true S ∧ te t1 S = .ok x S) ∨ tt t1 S = .ok false S)) → lcLR g tt te t0 p us ws acc S = lcL g tt te t0 ws acc S
  | [], acc, _ => by rw [lcLR, if_pos hp, lcL]
  | w :: ws, acc, h => by
    obtain ⟨t1, e0, e1⟩ := h w (List.mem_cons_self ..)
    rw [lcLR, if_pos hp, lcL]
    rcases e1 with ⟨x, e1, e2⟩ | e1
    · simp only [e0, e1, e2]
      split
      · exact lcLR_same hp ws _ fun y hy => h y (List.mem_cons_of_mem _ hy)
      · rfl
    · simp only [e0, e1]
      exact lcLR_same hp ws _ fun y hy => h y (List.mem_cons_of_mem _ hy)
theorem lcLR_map {g : Tg} {te : DX} {t0 : Lo} {p : Nat} {us : List W} (hp : S[p]? = some (.lst us)) (f : W → W) (ws : List W) (hz : ws.length ≤ 100000) (h : ∀ w ∈ ws, ∃ t1, g.put w t0 = some t1 ∧ te t1 S = .ok (f w) S) : lcLR g dYes te t0 p us ws [] S = .ok (.lst (ws.map f)) S := by
  rw [lcLR_same hp ws [] fun w hw => by
    obtain ⟨t1, a, b⟩ := h w hw
    exact ⟨t1, a, .inl ⟨_, rfl, b⟩⟩]
  exact lcL_map f ws hz h
end
/-! ### rows of ints -/
abbrev wl (l : List Int) : List W := l.map W.int
@[simp] theorem eqWs_ints : ∀ (a b : List Int), eqWs (wl a) (wl b) = decide (a = b)
  | [], [] => by simp [wl, eqWs]
  | [], b :: bs => by simp [wl, eqWs]
  | a :: as, [] => by simp [wl, eqWs]
  | a :: as, b :: bs => by
    have := eqWs_ints as bs
    simp only [wl, List.map_cons] at this ⊢
    simp [eqWs, eqW, this, Bool.decide_and]
    rfl
@[simp] theorem inW_ints (z : Int) (l : List Int) : inW (.int z) (wl l) = decide (z ∈ l) := by
  induction l with
  | nil => simp [wl, inW]
  | cons a l ih =>
    simp only [wl, inW, List.map_cons, List.any_cons, eqW] at ih ⊢
    rw [ih]
    by_cases h : a = z
    · subst h; simp
    · simp [h, Ne.symm h]
theorem e_eqLI {S : Sto} {a b : List Int} : eqD (.lst (wl a)) (.lst (wl b)) S = .ok (.bl (decide (a = b))) S := by
  rw [e_eq (by show dat (15+1) _ = true; simp [dat, dat_ints]) (by show dat (15+1) _ = true; simp [dat, dat_ints])]; simp [eqW]
theorem e_notInTI {S : Sto} {z : Int} {l : List Int} : notInD (.int z) (.tup (wl l)) S = .ok (.bl (!decide (z ∈ l))) S := by rw [e_notInT rfl (dat_ints _)]; simp
theorem e_notInLI {S : Sto} {z : Int} {l : List Int} : notInD (.int z) (.lst (wl l)) S = .ok (.bl (!decide (z ∈ l))) S := by rw [e_notInL rfl (dat_ints _)]; simp
theorem rng_wl (n : Nat) : intsFrom 0 n = wl ((List.range n).map fun (i : Nat) => (i : Int)) := by rw [intsFrom_eq]; simp [wl, List.map_map, Function.comp_def]
theorem filter_wl (p : W → Bool) (l : List Int) : (wl l).filter p = wl (l.filter fun z => p (.int z)) := by
  simp only [wl]
  induction l with
  | nil => rfl
  | cons a l ih =>
    simp only [List.map_cons, List.filter_cons]
    split <;> simp [ih]
/-- a filter by a test on ints -/
theorem lc_filterI {g : Tg} {tt : DT} {te : DX} {t0 : Lo} {S : Sto} (p : Int → Bool) (l : List Int) (hz : l.length ≤ 100000) (h : ∀ z ∈ l, ∃ t1, g.put (.int z) t0 = some t1 ∧ tt t1 S = .ok (p z) S ∧ te t1 S = .ok (.int z) S) : lcL g tt te t0 (wl l) [] S = .ok (.lst (wl (l.filter p))) S := by
  have := lcL_filter (g := g) (tt := tt) (te := te) (t0 := t0) (S := S) (fun w => match w with | .int z => p z | _ => false) (wl l) (by simpa [wl] using hz) (fun w hw => by
    obtain ⟨z, hz, rfl⟩ := List.mem_map.mp hw
    obtain ⟨t1, h1, h2, h3⟩ := h z hz
    exact ⟨t1, h1, h2, fun _ => h3⟩)
  rw [this, filter_wl]
end DD
namespace DD
open PySem PySem.Spec PyProof.Rows L2
end DD
namespace DD
open PySem PySem.Spec PyProof.Rows L2
end DD
namespace DD
open PySem PySem.Spec PyProof.Rows L2
open PySem.W (InstAt)
end DD
namespace DD
open PySem PySem.Spec PyProof.Rows L2
open PySem.W (InstAt)
end DD
namespace DD
open PySem PySem.Spec PyProof.Rows L2
end DD
namespace DD
open PySem PySem.Spec PyProof.Rows L2
end DD
namespace DD
open PySem PySem.Spec PyProof.Rows L2
end DD
namespace DD
open PySem L2
/-! ### the first kind of pool: a script, a count, a place, a big cell and a mix -/
noncomputable def drawB1 : DS :=
    (dSeq (dAsg (dOp addD (dOp ixD (dVar 0) (dC (.int 1))) (dC (.int 1))) (gIx (dVar 0) (dC (.int 1))))
    (dSeq (dIfS (dtAnd (dTest (dOp eqD (dOp ixD (dVar 0) (dC (.int 3))) (dC (.int 0)))) (dTest (dOp iLt (dOp ixD (dVar 0) (dC (.int 2))) (dBi lenF (dCons (dOp ixD (dVar 0) (dC (.int 0))) dNil)))))
    (dSeq (dAsg (dBi absF (dCons (dOp ixD (dOp ixD (dVar 0) (dC (.int 0))) (dOp ixD (dVar 0) (dC (.int 2)))) dNil)) (gN 3))
    (dSeq (dAsg (dOp addD (dOp ixD (dVar 0) (dC (.int 2))) (dC (.int 1))) (gIx (dVar 0) (dC (.int 2))))
    (dIfS (dTest (dOp iGe (dVar 3) (dOp iPow (dC (.int 10)) (dC (.int 18)))))
    (dAsg (dVar 3) (gIx (dVar 0) (dC (.int 3))))
    (dAsg (dOp iMod (dBi intF (dCons (dOp (mulD false) (dOp addD (dOp addD (dOp ixD (dVar 0) (dC (.int 4))) (dVar 3)) (dC (.int 1))) (dC (.int 48271))) dNil)) (dC (.int 2147483629))) (gIx (dVar 0) (dC (.int 4)))))))
    dNext)
    (dSeq (dIfS (dTest (dOp iGt (dOp ixD (dVar 0) (dC (.int 3))) (dC (.int 0))))
    (dSeq (dAsg (dOp iMod (dBi intF (dCons (dOp ixD (dVar 0) (dC (.int 3))) dNil)) (dVar 1)) (gN 4))
    (dSeq (dAsg (dOp iDiv (dOp ixD (dVar 0) (dC (.int 3))) (dVar 1)) (gIx (dVar 0) (dC (.int 3))))
    (dRet (dVar 4))))
    dNext)
    (dSeq (dAsg (dOp iMod (dBi intF (dCons (dOp iPow (dOp addD (dOp ixD (dVar 0) (dC (.int 4))) (dOp (mulD false) (dOp ixD (dVar 0) (dC (.int 1))) (dC (.int 7919)))) (dC (.int 3))) dNil)) (dC (.int 2147483647))) (gN 2))
    (dRet (dOp iMod (dBi intF (dCons (dOp iDiv (dVar 2) (dC (.int 16))) dNil)) (dVar 1)))))))
noncomputable def drawF1 : Fn := gcF (dFn 5 drawB1)
/-- at p a drawing list that has been asked at most k times -/
def Pl (S : Sto) (p k : Nat) : Prop := ∃ (ns : List Int) (c i b m : Int), S[p]? = some (.lst [.scr (ns.map W.int), .int c, .int i, .int b, .int m]) ∧ 0 ≤ c ∧ c ≤ k ∧ 0 ≤ i ∧ 0 ≤ b ∧ 0 ≤ m ∧ m < 2147483629
theorem Pl.mono {S : Sto} {p k k' : Nat} (P : Pl S p k) (h : k ≤ k') : Pl S p k' := by
  obtain ⟨ns, c, i, b, m, h1, h2, h3, h4⟩ := P
  exact ⟨ns, c, i, b, m, h1, h2, by omega, h4⟩
theorem Pl.lt {S : Sto} {p k : Nat} (P : Pl S p k) : p < S.length := by
  obtain ⟨ns, c, i, b, m, h1, h2⟩ := P
  exact (List.getElem?_eq_some_iff.mp h1).1
theorem Pl.set {S : Sto} {p n k : Nat} {o : O} (P : Pl S p k) (h : n ≠ p) : Pl (S.set n o) p k := by
  obtain ⟨ns, c, i, b, m, h1, h2⟩ := P
  exact ⟨ns, c, i, b, m, by rw [List.getElem?_set_ne h]; exact h1, h2⟩
/-- a later store: only the drawing list has turned, and it has been asked at most k times -/
structure Af (p k : Nat) (S S' : Sto) : Prop where
  len : S'.length = S.length
  keep : ∀ i, i ≠ p → S'[i]? = S[i]?
  pool : Pl S' p k
theorem Af.refl {p k : Nat} {S : Sto} (P : Pl S p k) : Af p k S S := ⟨rfl, fun _ _ => rfl, P⟩
theorem Af.trans {p k k' : Nat} {S S1 S2 : Sto} (a : Af p k S S1) (b : Af p k' S1 S2) : Af p k' S S2 := ⟨b.len.trans a.len, fun i h => (b.keep i h).trans (a.keep i h), b.pool⟩
theorem Af.mono {p k k' : Nat} {S S1 : Sto} (a : Af p k S S1) (h : k ≤ k') : Af p k' S S1 := ⟨a.len, a.keep, a.pool.mono h⟩
theorem draw1_ok {S : Sto} {p k : Nat} {lim : Int} (P : Pl S p k) (hk : k < 1000000000000) (h0 : 0 < lim) (h1 : lim < 100000000000000000000000000000000000000000) : ∃ r S', drawF1 [.ref p, .int lim] S = .ok (.int r) S' ∧ 0 ≤ r ∧ r < lim ∧ Af p (k + 1) S S' := by
  obtain ⟨ns, c, i, b, m, hp, hc, hck, hi, hb, hm, hm1⟩ := id P
  have lp : p < S.length := (List.getElem?_eq_some_iff.mp hp).1
  have hdiv : ∀ S (x : Int), iDiv (.int x) (.int lim) S = .ok (.int (x / lim)) S := fun S x => e_div h0 (by omega)
  have hmod : ∀ S (x : Int), iMod (.int x) (.int lim) S = .ok (.int (x % lim)) S := fun S x => e_mod h0
  have hdv : ∀ S (i : Int), iDiv (.int i) (.int 16) S = .ok (.int (i / 16)) S := fun S i => e_div (by decide) (by decide)
  have hd1 : ∀ S (i : Int), iMod (.int i) (.int 2147483647) S = .ok (.int (i % 2147483647)) S := fun S i => e_mod (by decide)
  have hd2 : ∀ S (i : Int), iMod (.int i) (.int 2147483629) S = .ok (.int (i % 2147483629)) S := fun S i => e_mod (by decide)
  have hm1' : ∀ S (i : Int), mulD false (.int i) (.int 48271) S = .ok (.int (i * 48271)) S := fun S i => e_mulR (by decide)
  have hm2' : ∀ S (i : Int), mulD false (.int i) (.int 7919) S = .ok (.int (i * 7919)) S := fun S i => e_mulR (by decide)
  have hp10 : ∀ S, iPow (.int 10) (.int 18) S = .ok (.int 1000000000000000000) S := fun S => e_pow (by decide)
  have hp3 : ∀ S (x y : Int), 0 ≤ x → x < 2147483629 → 0 ≤ y → y ≤ k + 1 → iPow (.int (x + y * 7919)) (.int 3) S = .ok (.int ((x + y * 7919) ^ 3)) S := fun S x y a0 a1 a2 a3 => e_pow (by
    unfold powOk
    rw [decide_eq_true (show (x + y * 7919).natAbs < 2 ^ 64 by omega)]
    decide)
  have hixn : ∀ j : Int, 0 ≤ j → j < 5 → ixN 5 j = some j.toNat := fun j a0 a1 => ixN_in a0 a1
  have i1 : ixN 5 1 = some 1 := by decide
  have i2 : ixN 5 2 = some 2 := by decide
  have i3 : ixN 5 3 = some 3 := by decide
  have i4 : ixN 5 4 = some 4 := by decide
  -- what a state of the list gives
  have mk : ∀ (S0 : Sto) (c i b m : Int), S0 = S.set p (.lst [.scr (ns.map W.int), .int c, .int i, .int b, .int m]) → 0 ≤ c → c ≤ (k + 1 : Nat) → 0 ≤ i → 0 ≤ b → 0 ≤ m → m < 2147483629 → Af p (k + 1) S S0 := fun S0 c i b m e a0 a1 a2 a3 a4 a5 => by
    subst e
    exact ⟨by simp, fun i h => by rw [List.getElem?_set_ne (Ne.symm h)], ns, c, i, b, m, by rw [List.getElem?_set_self lp], a0, a1, a2, a3, a4, a5⟩
  have at_ : ∀ o, (S.set p o)[p]? = some o := fun o => List.getElem?_set_self lp
  have low : ∀ c i b m : Int, lowO S.length (.lst [.scr (ns.map W.int), .int c, .int i, .int b, .int m]) = true := fun c i b m => by simp [lowO, lowL, lowW, lowL_ints]
  have fin : ∀ (c i b m r : Int), gcR S (.ok (.int r) (S.set p (.lst [.scr (ns.map W.int), .int c, .int i, .int b, .int m]))) = .ok (.int r) (S.set p (.lst [.scr (ns.map W.int), .int c, .int i, .int b, .int m])) := fun c i b m r => gc_set1 (low c i b m) rfl
  have x0 : ∀ (S : Sto) (w0 w1 w2 w3 w4 : W), S[p]? = some (.lst [w0, w1, w2, w3, w4]) → ixD (.ref p) (.int 0) S = .ok w0 S := fun S w0 w1 w2 w3 w4 h => e_ixR h (atI0 _ _)
  have x1 : ∀ (S : Sto) (w0 w1 w2 w3 w4 : W), S[p]? = some (.lst [w0, w1, w2, w3, w4]) → ixD (.ref p) (.int 1) S = .ok w1 S := fun S w0 w1 w2 w3 w4 h => e_ixR h (atI1 _ _ _)
  have x2 : ∀ (S : Sto) (w0 w1 w2 w3 w4 : W), S[p]? = some (.lst [w0, w1, w2, w3, w4]) → ixD (.ref p) (.int 2) S = .ok w2 S := fun S w0 w1 w2 w3 w4 h => e_ixR h (atI2 _ _ _ _)
  have x3 : ∀ (S : Sto) (w0 w1 w2 w3 w4 : W), S[p]? = some (.lst [w0, w1, w2, w3, w4]) → ixD (.ref p) (.int 3) S = .ok w3 S := fun S w0 w1 w2 w3 w4 h => e_ixR h (atI3 _ _ _ _ _)
  have x4 : ∀ (S : Sto) (w0 w1 w2 w3 w4 : W), S[p]? = some (.lst [w0, w1, w2, w3, w4]) → ixD (.ref p) (.int 4) S = .ok w4 S := fun S w0 w1 w2 w3 w4 h => e_ixR h (atI4 _ _ _ _ _ _)
  -- the end of the walk, from a state of the list
  have tail : ∀ (c i b m : Int) (t2 t3 t4 : Option W), 0 ≤ c → c ≤ (k + 1 : Nat) → 0 ≤ i → 0 ≤ b → 0 ≤ m → m < 2147483629 → ∃ r S', ((dSeq (dIfS (dTest (dOp iGt (dOp ixD (dVar 0) (dC (.int 3))) (dC (.int 0))))
    (dSeq (dAsg (dOp iMod (dBi intF (dCons (dOp ixD (dVar 0) (dC (.int 3))) dNil)) (dVar 1)) (gN 4))
    (dSeq (dAsg (dOp iDiv (dOp ixD (dVar 0) (dC (.int 3))) (dVar 1)) (gIx (dVar 0) (dC (.int 3))))
    (dRet (dVar 4))))
    dNext)
    (dSeq (dAsg (dOp iMod (dBi intF (dCons (dOp iPow (dOp addD (dOp ixD (dVar 0) (dC (.int 4))) (dOp (mulD false) (dOp ixD (dVar 0) (dC (.int 1))) (dC (.int 7919)))) (dC (.int 3))) dNil)) (dC (.int 2147483647))) (gN 2))
    (dRet (dOp iMod (dBi intF (dCons (dOp iDiv (dVar 2) (dC (.int 16))) dNil)) (dVar 1))))) [some (.ref p), some (.int lim), t2, t3, t4] (S.set p (.lst [.scr (ns.map W.int), .int c, .int i, .int b, .int m])) = .rt (.int r) S') ∧ gcR S (.ok (.int r) S') = .ok (.int r) S' ∧ 0 ≤ r ∧ r < lim ∧ Af p (k + 1) S S' := by
    intro c i b m t2 t3 t4 a0 a1 a2 a3 a4 a5
    have hS := at_ (.lst [.scr (ns.map W.int), .int c, .int i, .int b, .int m])
    by_cases h : 0 < b
    · refine ⟨b % lim, S.set p (.lst [.scr (ns.map W.int), .int c, .int i, .int (b / lim), .int m]), ?_, fin c i (b / lim) m _, Int.emod_nonneg _ (by omega), Int.emod_lt_of_pos _ h0, mk _ c i (b / lim) m rfl a0 a1 a2 (Int.ediv_nonneg a3 (by omega)) a4 a5⟩
      simp [x3 _ _ _ _ _ _ hS, h, hmod, hdiv, hS, i3]
    · refine ⟨((m + c * 7919) ^ 3 % 2147483647) / 16 % lim, S.set p (.lst [.scr (ns.map W.int), .int c, .int i, .int b, .int m]), ?_, fin c i b m _, Int.emod_nonneg _ (by omega), Int.emod_lt_of_pos _ h0, mk _ c i b m rfl a0 a1 a2 a3 a4 a5⟩
      simp [x3 _ _ _ _ _ _ hS, x1 _ _ _ _ _ _ hS, x4 _ _ _ _ _ _ hS, h, hm2', hp3 _ m c a4 a5 a0 a1, hd1, hdv, hmod]
  have hS := at_ (.lst [.scr (ns.map W.int), .int (c + 1), .int i, .int b, .int m])
  have fold : ∀ (t2 t3 t4 : Option W) (S2 : Sto) (r : Int) (S' : Sto), drawB1 [some (.ref p), some (.int lim), none, none, none] S = .rt (.int r) S' → gcR S (.ok (.int r) S') = .ok (.int r) S' → drawF1 [.ref p, .int lim] S = .ok (.int r) S' := fun t2 t3 t4 S2 r S' e g => by
    unfold drawF1
    rw [gcF_eq, dFn_eq]
    simp [List.replicate_succ, e, g]
  by_cases hbr : b = 0 ∧ i < ns.length
  · obtain ⟨hb0, hil⟩ := hbr
    subst hb0
    obtain ⟨w, hw, hw'⟩ := atI_in (l := ns.map W.int) hi (by simpa using hil)
    obtain ⟨x, _, rfl⟩ : ∃ x, x ∈ ns ∧ W.int x = w := List.mem_map.mp (List.mem_of_getElem? hw')
    have hx0 : (0 : Int) ≤ (if x < 0 then -x else x) := by split <;> omega
    generalize hxa : (if x < 0 then -x else x) = xa at hx0
    have hS1 := at_ (.lst [.scr (ns.map W.int), .int (c + 1), .int (i + 1), .int 0, .int m])
    by_cases hbig : (1000000000000000000 : Int) ≤ xa
    · obtain ⟨r, S', e, g, r0, r1, a⟩ := tail (c + 1) (i + 1) xa m none (some (.int xa)) none (by omega) (by omega) (by omega) hx0 hm hm1
      refine ⟨r, S', fold none none none S r S' ?_ g, r0, r1, a⟩
      unfold drawB1
      rw [e_seq]
      simp only [e_asgIx, e_op, e_var0, e_C, R.bind_ok, x1 _ _ _ _ _ _ hp, e_add, R.toF_ok, hp, i1, List.length_cons, List.length_nil, Nat.reduceAdd, List.set_cons_succ, List.set_cons_zero, e_nx]
      rw [e_seq]
      have : (dIfS (dtAnd (dTest (dOp eqD (dOp ixD (dVar 0) (dC (.int 3))) (dC (.int 0)))) (dTest (dOp iLt (dOp ixD (dVar 0) (dC (.int 2))) (dBi lenF (dCons (dOp ixD (dVar 0) (dC (.int 0))) dNil)))))
    (dSeq (dAsg (dBi absF (dCons (dOp ixD (dOp ixD (dVar 0) (dC (.int 0))) (dOp ixD (dVar 0) (dC (.int 2)))) dNil)) (gN 3))
    (dSeq (dAsg (dOp addD (dOp ixD (dVar 0) (dC (.int 2))) (dC (.int 1))) (gIx (dVar 0) (dC (.int 2))))
    (dIfS (dTest (dOp iGe (dVar 3) (dOp iPow (dC (.int 10)) (dC (.int 18)))))
    (dAsg (dVar 3) (gIx (dVar 0) (dC (.int 3))))
    (dAsg (dOp iMod (dBi intF (dCons (dOp (mulD false) (dOp addD (dOp addD (dOp ixD (dVar 0) (dC (.int 4))) (dVar 3)) (dC (.int 1))) (dC (.int 48271))) dNil)) (dC (.int 2147483629))) (gIx (dVar 0) (dC (.int 4)))))))
    dNext) [some (.ref p), some (.int lim), none, none, none] (S.set p (.lst [.scr (ns.map W.int), .int (c + 1), .int i, .int 0, .int m])) = .nx [some (.ref p), some (.int lim), none, some (.int xa), none] (S.set p (.lst [.scr (ns.map W.int), .int (c + 1), .int (i + 1), .int xa, .int m])) := by
        simp [x0 _ _ _ _ _ _ hS, x2 _ _ _ _ _ _ hS, x3 _ _ _ _ _ _ hS, hil, e_ixC hw, hxa, hS, hS1, hp10, hbig, i2, i3]
      rw [this]
      exact e
    · obtain ⟨r, S', e, g, r0, r1, a⟩ := tail (c + 1) (i + 1) 0 ((m + xa + 1) * 48271 % 2147483629) none (some (.int xa)) none (by omega) (by omega) (by omega) (by omega) (Int.emod_nonneg _ (by omega)) (Int.emod_lt_of_pos _ (by omega))
      refine ⟨r, S', fold none none none S r S' ?_ g, r0, r1, a⟩
      unfold drawB1
      rw [e_seq]
      simp only [e_asgIx, e_op, e_var0, e_C, R.bind_ok, x1 _ _ _ _ _ _ hp, e_add, R.toF_ok, hp, i1, List.length_cons, List.length_nil, Nat.reduceAdd, List.set_cons_succ, List.set_cons_zero, e_nx]
      rw [e_seq]
      have : (dIfS (dtAnd (dTest (dOp eqD (dOp ixD (dVar 0) (dC (.int 3))) (dC (.int 0)))) (dTest (dOp iLt (dOp ixD (dVar 0) (dC (.int 2))) (dBi lenF (dCons (dOp ixD (dVar 0) (dC (.int 0))) dNil)))))
    (dSeq (dAsg (dBi absF (dCons (dOp ixD (dOp ixD (dVar 0) (dC (.int 0))) (dOp ixD (dVar 0) (dC (.int 2)))) dNil)) (gN 3))
    (dSeq (dAsg (dOp addD (dOp ixD (dVar 0) (dC (.int 2))) (dC (.int 1))) (gIx (dVar 0) (dC (.int 2))))
    (dIfS (dTest (dOp iGe (dVar 3) (dOp iPow (dC (.int 10)) (dC (.int 18)))))
    (dAsg (dVar 3) (gIx (dVar 0) (dC (.int 3))))
    (dAsg (dOp iMod (dBi intF (dCons (dOp (mulD false) (dOp addD (dOp addD (dOp ixD (dVar 0) (dC (.int 4))) (dVar 3)) (dC (.int 1))) (dC (.int 48271))) dNil)) (dC (.int 2147483629))) (gIx (dVar 0) (dC (.int 4)))))))
    dNext) [some (.ref p), some (.int lim), none, none, none] (S.set p (.lst [.scr (ns.map W.int), .int (c + 1), .int i, .int 0, .int m])) = .nx [some (.ref p), some (.int lim), none, some (.int xa), none] (S.set p (.lst [.scr (ns.map W.int), .int (c + 1), .int (i + 1), .int 0, .int ((m + xa + 1) * 48271 % 2147483629)])) := by
        simp [x0 _ _ _ _ _ _ hS, x2 _ _ _ _ _ _ hS, x3 _ _ _ _ _ _ hS, x4 _ _ _ _ _ _ hS1, hil, e_ixC hw, hxa, hS, hS1, hp10, hbig, i2, i3, i4, hm1', hd2]
      rw [this]
      exact e
  · obtain ⟨r, S', e, g, r0, r1, a⟩ := tail (c + 1) i b m none none none (by omega) (by omega) (by omega) hb hm hm1
    refine ⟨r, S', fold none none none S r S' ?_ g, r0, r1, a⟩
    unfold drawB1
    rw [e_seq]
    simp only [e_asgIx, e_op, e_var0, e_C, R.bind_ok, x1 _ _ _ _ _ _ hp, e_add, R.toF_ok, hp, i1, List.length_cons, List.length_nil, Nat.reduceAdd, List.set_cons_succ, List.set_cons_zero, e_nx]
    rw [e_seq]
    have : (dIfS (dtAnd (dTest (dOp eqD (dOp ixD (dVar 0) (dC (.int 3))) (dC (.int 0)))) (dTest (dOp iLt (dOp ixD (dVar 0) (dC (.int 2))) (dBi lenF (dCons (dOp ixD (dVar 0) (dC (.int 0))) dNil)))))
    (dSeq (dAsg (dBi absF (dCons (dOp ixD (dOp ixD (dVar 0) (dC (.int 0))) (dOp ixD (dVar 0) (dC (.int 2)))) dNil)) (gN 3))
    (dSeq (dAsg (dOp addD (dOp ixD (dVar 0) (dC (.int 2))) (dC (.int 1))) (gIx (dVar 0) (dC (.int 2))))
    (dIfS (dTest (dOp iGe (dVar 3) (dOp iPow (dC (.int 10)) (dC (.int 18)))))
    (dAsg (dVar 3) (gIx (dVar 0) (dC (.int 3))))
    (dAsg (dOp iMod (dBi intF (dCons (dOp (mulD false) (dOp addD (dOp addD (dOp ixD (dVar 0) (dC (.int 4))) (dVar 3)) (dC (.int 1))) (dC (.int 48271))) dNil)) (dC (.int 2147483629))) (gIx (dVar 0) (dC (.int 4)))))))
    dNext) [some (.ref p), some (.int lim), none, none, none] (S.set p (.lst [.scr (ns.map W.int), .int (c + 1), .int i, .int b, .int m])) = .nx [some (.ref p), some (.int lim), none, none, none] (S.set p (.lst [.scr (ns.map W.int), .int (c + 1), .int i, .int b, .int m])) := by
      by_cases hb0 : b = 0
      · subst hb0
        have hil : ¬ i < ns.length := fun z => hbr ⟨rfl, z⟩
        simp [x0 _ _ _ _ _ _ hS, x2 _ _ _ _ _ _ hS, x3 _ _ _ _ _ _ hS, hil]
      · simp [x0 _ _ _ _ _ _ hS, x2 _ _ _ _ _ _ hS, x3 _ _ _ _ _ _ hS, hb0]
    rw [this]
    exact e
end DD
namespace DD
open PySem PySem.Spec PyProof.Rows L2
variable {G : Gx} {xv : Nat → Value} {Wx : WX} {X : Cx} {H H' : Hp} {S S' : Sto} {r r' : Rh}
/-- (a, b, ..) = a tuple or a list of that length -/
def gSq (n : Nat) (gs : DGs) : DG := fun w t S => match w with
  | .tup ws => if ws.length = n then gs ws t S else .no
  | w => match seqL S w with
    | some ws => if ws.length = n then gs ws t S else .no
    | none => .no
@[simp] theorem e_asgSq {d : DX} {n : Nat} {gs : DGs} {t : Lo} {S : Sto} : dAsg d (gSq n gs) t S = (d t S).toF t fun w S1 => match gSq n gs w t S1 with
  | .ok t' S2 => .nx t' S2
  | _ => .no := rfl
end DD
namespace DD
open PySem PySem.Spec PyProof.Rows L2
end DD
namespace DD
open PySem PySem.Spec PyProof.Rows L2 RT RZ
variable {G : Gx} {xv : Nat → Value} {Wx : WX} {X : Cx} {H H' : Hp} {S S' : Sto} {r r' : Rh}
/-! ### list.pop(i), list.extend -/
/-! ### reversed(a list or a tuple) -/
/-! ### zip of two lists, of two tuples (values) -/
/-! ### sorted(a list of ints) -/
/-! ### x = y = e -/
def dAsg2 (d : DX) (i j : Nat) : DS := fun t S => (d t S).toF t fun w S1 => .nx ((t.set i (some w)).set j (some w)) S1
@[simp] theorem e_asg2 {d : DX} {i j : Nat} {t : Lo} {S : Sto} : dAsg2 d i j t S = (d t S).toF t fun w S1 => .nx ((t.set i (some w)).set j (some w)) S1 := rfl
/-! ### constants that are tuples -/
end DD
namespace DD
open PySem PySem.Spec PyProof.Rows L2
variable {G : Gx} {xv : Nat → Value} {Wx : WX} {X : Cx} {H H' : Hp} {S S' : Sto} {r r' : Rh}
/-! ### dicts with nested keys: the heap's side -/
theorem dn_at {P : Program} {w : World} {h : Heap} {a : Addr} {rows : List Row} {ob : Obj} (ok : HOk P w H h) (e : H a = some (DnO w a rows ob)) : DnAt w a rows ob h := (show ObjOk P w H h a (DnO w a rows ob) from ok a _ e).1
theorem rows_mem : ∀ {rows : List Row} {xs : List (NestedKey × Addr × Value)}, RowsR rows xs → ∀ x ∈ xs, ∃ p ∈ rows, p.1 = x.1 ∧ p.2.1 = x.2.1
  | _, _, .nil, x, hx => nomatch hx
  | _, _, .cons h t, x, hx => by
    rcases List.mem_cons.mp hx with rfl | hx
    · exact ⟨_, List.mem_cons_self .., h.1, h.2.1⟩
    · obtain ⟨p, hp, q⟩ := rows_mem t x hx
      exact ⟨p, List.mem_cons_of_mem _ hp, q⟩
theorem dn_dict {P : Program} {w : World} {h : Heap} {a : Addr} {rows : List Row} {ob : Obj} (d : DnAt w a rows ob h) (hk : ∀ x ∈ rows, NestedIs h x.1 (.ref x.2.1)) : (a == sysModules) = false ∧ ∃ xs, RowsR rows xs ∧ h.DictOfH (nestedKind P w) a xs := by
  obtain ⟨e, z, y, xs, rr, dp, es, ep, c1, c2, c3, c4⟩ := d
  refine ⟨y, xs, rr, ob, es, ep, e, c1, c2, c3, fun x hx => ?_, c4⟩
  obtain ⟨p, hp, h1, h2⟩ := rows_mem rr x hx
  exact ⟨by rw [← h1, ← h2]; exact hk p hp, dp x hx⟩
/-! ### keys -/
/-- what lies at b is the key k, whatever comes while H stands -/
def KeyAt (K : PySem.W.Frag) (H : Hp) (b : Addr) (k : NestedKey) : Prop := ∀ (X : Cx) (pins : List (Addr × Obj)) (σ : L2.St) (s : Shared), X.K = K → Inv X pins σ H s → NestedIs s.heap k (.ref b)
structure DnKeys (K : PySem.W.Frag) (w : World) (H : Hp) (a : Addr) (rows : List Row) (b : Addr) (k : NestedKey) : Prop where
  at_ : ∃ ob, H a = some (DnO w a rows ob)
  keys : ∀ x ∈ rows, KeyAt K H x.2.1 x.1
  key : KeyAt K H b k
  deep : k.depth ≤ 8
section
variable {pins : List (Addr × Obj)} {σ : L2.St} {s : Shared} {a b : Addr} {rows : List Row} {k : NestedKey} {v : V} {u : Value} {A : Around} {E : Value → Shared → Prop}
theorem DnKeys.dict (g : DnKeys X.K X.w H a rows b k) (I : Inv X pins σ H s) : (a == sysModules) = false ∧ ∃ xs, RowsR rows xs ∧ s.heap.DictOfH (nestedKind X.prog X.w) a xs :=
  let ⟨_, e⟩ := g.at_; dn_dict (dn_at I.hok e) fun x hx => g.keys x hx X pins σ s rfl I
end
/-! ### the values' side -/
/-! ### rules -/
end DD
namespace DD
open PySem PySem.Spec PyProof.Rows L2
variable {G : Gx} {xv : Nat → Value} {Wx : WX} {X : Cx} {H H' : Hp} {S S' : Sto} {r r' : Rh}
/-! ### for k in d -/
/-- the keys of a dict that is a value -/
def dSeqN (d : DX) : DA := fun t S => (d t S).bind fun w S1 => match w with
  | .dn ks _ => .ok ks S1
  | _ => .no
@[simp] theorem e_seqN {d : DX} {t : Lo} {S : Sto} : dSeqN d t S = (d t S).bind fun w S1 => match w with
  | .dn ks _ => .ok ks S1
  | _ => .no := rfl
/-! ### list(d) -/
end DD
namespace DD
open PySem PySem.Spec PyProof.Rows L2
/-! ### {k: v for target in iter if ..}, keys nested -/
end DD
namespace DD
open PySem PySem.Spec PyProof.Rows L2
/-! ### d.get(k, x), keys nested -/
end DD
namespace DD
open PySem PySem.Spec PyProof.Rows L2 RT RZ
/-! ### t < u of tuples -/
/-! ### a list of the store is a value from here on -/
/-! ### zip of a tuple and a list -/
end DD
set_option maxHeartbeats 4000000
namespace DD
open PySem PySem.Spec PyProof.Rows L2
/-! ### lists added, of the store too -/
/-! ### a tuple times a number -/
end DD
/-! bool(o) of an own class with __bool__ -/
namespace PySem
end PySem
namespace DD
open PySem PySem.Spec PyProof.Rows L2
end DD
/-! In an except suite: x.m(e). -/
namespace DD
open PySem PySem.Spec PyProof.Rows L2
end DD
namespace DD
open PySem PySem.Spec PyProof.Rows L2
/-! ### a list of lists of the store is from here on a value -/
/-! ### max of a list of ints -/
end DD
namespace DD
open PySem PySem.Spec PyProof.Rows L2
/-! ### list.remove(x), x in the list -/
end DD
/-! A lambda handed to a def: what is lent, and how it is called. -/
namespace DD
open PySem PySem.Spec PyProof.Rows L2 NdefX
/-! ### what is lent: cells that are known for the time of a call -/
/-! ### at a call -/
/-! ### the lambda is called -/
/-! ### no lambda is held -/
/-! ### the call to which the lambda is handed -/
/-! ### defs that make lambdas: the code object is told -/
end DD
/-! errors as values; several except clauses; defs called while an error is handled -/
namespace DD
open PySem PySem.Spec PyProof.Rows L2
/-! ### the error is tracked while its suite runs, and behind it -/
/-- what a clause wishes: its class, the slot of its name, its suite -/
abbrev Clz := Value × Option Nat × TS
def wMX (K : PySem.W.Frag) (Wout : WX) (D : Ends) : List Clz → WX
  | [] => Wout
  | (c, i, ts) :: r => fun cls d σ H => ∃ b, PySem.W.exmOne K cls c = some b ∧
      (b = true → ∀ a oe, H a = none → Zc cls d oe → (∃ vs, oe.data = .fields vs) → match i with
        | none => ts D σ (upd H a (ExV a oe))
        | some i => ts { nx := fun σ' H' => D.nx (σ'.set i none) H', rt := D.rt, bk := fun σ' H' => D.bk (σ'.set i none) H', ct := fun σ' H' => D.ct (σ'.set i none) H' } (σ.set i (some (.ref a))) (upd H a (ExV a oe))) ∧
      (b = false → wMX K Wout D r cls d σ H)
inductive HdX (X : Cx) : List ExceptHandler → List Clz → Prop
  | nil : HdX X [] []
  | cons {x : Str} {c : Value} {ts : TS} {b₀ : Stmt} {suite : List Stmt} {np pos' : Pos} {hds : List ExceptHandler} {l : List Clz} (hc : Names X x c)
      (hsu : ∀ (a : Addr) (pn : List (Addr × Obj)), PSs (X.suite a pn) (b₀ :: suite) ts) (r : HdX X hds l) :
      HdX X (.ExceptHandler (some (.Name x np)) none (b₀ :: suite) pos' :: hds) ((c, none, ts) :: l)
  | consAs {x n : Str} {c : Value} {i : Nat} {ts : TS} {b₀ : Stmt} {suite : List Stmt} {np pos' : Pos} {hds : List ExceptHandler} {l : List Clz} (hc : Names X x c) (hi : X.N[i]? = some n) (hln : X.env.kindOf n = some .local)
      (hsu : ∀ (a : Addr) (pn : List (Addr × Obj)), PSs (X.suite a pn) (b₀ :: suite) ts) (r : HdX X hds l) :
      HdX X (.ExceptHandler (some (.Name x np)) (some n) (b₀ :: suite) pos' :: hds) ((c, some i, ts) :: l)
end DD
namespace DD
open PySem PySem.Spec PyProof.Rows L2
/-! ### the clauses as mirrors -/
abbrev Cla := (Nat → Option Bool) × Option Nat × DS
def unX : Option Nat → F → F
  | _, .er _ _ _ _ _ => .no
  | _, .no => .no
  | _, .rt w S => .rt w S
  | none, .nx t S => .nx t S
  | none, .bk t S => .bk t S
  | none, .ct t S => .ct t S
  | some i, .nx t S => .nx (t.set i none) S
  | some i, .bk t S => .bk (t.set i none) S
  | some i, .ct t S => .ct (t.set i none) S
def dHnd : List Cla → Nat → List Str → List W → DS
  | [], c, ns, ws => fun t S => .er c ns ws t S
  | (m, i, h) :: l, c, ns, ws => fun t S => match m c with
    | some true => match i with
      | none => unX none (h t S)
      | some i => unX (some i) (h (t.set i (some (.exn c ns ws))) S)
    | some false => dHnd l c ns ws t S
    | none => .no
section
variable {G : Gx} {xv : Nat → Value} {Wx : WX} {X : Cx} {H H' : Hp} {S S' : Sto} {r r' : Rh}
inductive HdD (G : Gx) (xv : Nat → Value) (X : Cx) : List ExceptHandler → List Cla → Prop
  | nil : HdD G xv X [] []
  | cons {x : Str} {cE : Value} {m : Nat → Option Bool} {h : DS} {b₀ : Stmt} {suite : List Stmt} {np pos' : Pos} {hds : List ExceptHandler} {l : List Cla} (hc : Names X x cE) (hm : ∀ c b, m c = some b → PySem.W.exmOne X.K (xv c) cE = some b)
      (hsu : ∀ (a : Addr) (pn : List (Addr × Obj)), PSs (X.suite a pn) (b₀ :: suite) (toS G xv W0 h)) (q : HdD G xv X hds l) :
      HdD G xv X (.ExceptHandler (some (.Name x np)) none (b₀ :: suite) pos' :: hds) ((m, none, h) :: l)
  | consAs {x n : Str} {cE : Value} {i : Nat} {m : Nat → Option Bool} {h : DS} {b₀ : Stmt} {suite : List Stmt} {np pos' : Pos} {hds : List ExceptHandler} {l : List Cla} (hc : Names X x cE) (hm : ∀ c b, m c = some b → PySem.W.exmOne X.K (xv c) cE = some b)
      (hi : X.N[i]? = some n) (hln : X.env.kindOf n = some .local)
      (hsu : ∀ (a : Addr) (pn : List (Addr × Obj)), PSs (X.suite a pn) (b₀ :: suite) (toS G xv W0 h)) (q : HdD G xv X hds l) :
      HdD G xv X (.ExceptHandler (some (.Name x np)) (some n) (b₀ :: suite) pos' :: hds) ((m, some i, h) :: l)
theorem HdD.ok (hx : ∀ c, xv c = .ref (G.cm c)) {hds : List ExceptHandler} {l : List Cla} (h : HdD G xv X hds l) : ∃ L : List Clz, HdX X hds L ∧ ∀ (D : Ends) (d : Option Addr) (s : L2.St) (H : Hp) (c : Nat) (ns : List Str) (ws : List W) (t : Lo) (S : Sto) (r : Rh),
    RLo G H S r t s → Rl G H S r → Xd G H S r d ns ws → OutS G xv Wx H S r (dHnd l c ns ws t S) D → wMX X.K Wx D L (xv c) d s H := by
  induction h with
  | nil => exact ⟨[], .nil, fun D d s H c ns ws t S r lo rl xd o => o r H s d .refl rl lo xd⟩
  | @cons x cE m hh b₀ suite np pos' hds l hc hm hsu q ih =>
    obtain ⟨L, hL, hw⟩ := ih
    refine ⟨(cE, none, toS G xv W0 hh) :: L, .cons hc hsu hL, fun D d s H c ns ws t S r lo rl xd o => ?_⟩
    simp only [dHnd] at o
    cases em : m c with
    | none => rw [em] at o; exact o.elim
    | some b =>
      rw [em] at o
      refine ⟨b, hm c b em, ?_, ?_⟩
      · rintro rfl a oe na hz hf
        simp only [] at o
        have e1 : Ev H S r (upd H a (ExV a oe)) S r := Ev.fresh na rl
        refine ⟨r, t, S, lo.ev e1, rl.fresh na, ?_⟩
        have o2 := OutS.from e1 o
        cases eh : hh t S with
        | nx t2 S2 => rw [eh] at o2; exact o2
        | bk t2 S2 => rw [eh] at o2; exact o2
        | ct t2 S2 => rw [eh] at o2; exact o2
        | rt w S2 => rw [eh] at o2; exact o2
        | er c2 ns2 ws2 t2 S2 => rw [eh] at o2; exact o2.elim
        | no => rw [eh] at o2; exact o2.elim
      · rintro rfl
        exact hw D d s H c ns ws t S r lo rl xd o
  | @consAs x n cE i m hh b₀ suite np pos' hds l hc hm hi hln hsu q ih =>
    obtain ⟨L, hL, hw⟩ := ih
    refine ⟨(cE, some i, toS G xv W0 hh) :: L, .consAs hc hi hln hsu hL, fun D d s H c ns ws t S r lo rl xd o => ?_⟩
    simp only [dHnd] at o
    cases em : m c with
    | none => rw [em] at o; exact o.elim
    | some b =>
      rw [em] at o
      refine ⟨b, hm c b em, ?_, ?_⟩
      · rintro rfl a oe na hz hf
        simp only [] at o
        have e1 : Ev H S r (upd H a (ExV a oe)) S r := Ev.fresh na rl
        have hq : RW G (upd H a (ExV a oe)) S r (.exn c ns ws) (.ref a) := by
          rcases xd with ⟨rfl, rfl, rfl⟩ | ⟨dx, vs, rfl, ow, hl, q⟩
          · exact .exn (Own.new na rl) (hz.1.trans (hx c)) hf (.inl ⟨rfl, rfl, hz.2⟩) .nil
          · exact .exn (Own.new na rl) (hz.1.trans (hx c)) hf (.inr ⟨dx, hz.2, ow.ev e1, hl⟩) (q.ev e1)
        refine ⟨r, t.set i (some (.exn c ns ws)), S, (lo.ev e1).set hq i, rl.fresh na, ?_⟩
        have o2 := OutS.from e1 o
        cases eh : hh (t.set i (some (.exn c ns ws))) S with
        | nx t2 S2 => rw [eh] at o2; exact fun r2 H2 s2 e2 rl2 l2 => o2 r2 H2 _ e2 rl2 (l2.setN i)
        | bk t2 S2 => rw [eh] at o2; exact fun r2 H2 s2 e2 rl2 l2 => o2 r2 H2 _ e2 rl2 (l2.setN i)
        | ct t2 S2 => rw [eh] at o2; exact fun r2 H2 s2 e2 rl2 l2 => o2 r2 H2 _ e2 rl2 (l2.setN i)
        | rt w S2 => rw [eh] at o2; exact o2
        | er c2 ns2 ws2 t2 S2 => rw [eh] at o2; exact o2.elim
        | no => rw [eh] at o2; exact o2.elim
      · rintro rfl
        exact hw D d s H c ns ws t S r lo rl xd o
/-! ### what is read of an error -/
/-! ### isinstance of an error -/
/-! ### where an error is handled -/
end
end DD
namespace DD
open PySem PySem.Spec PyProof.Rows L2
end DD
/-! {k: v}, the key a nested tuple: a dict of one row. -/
namespace DD
open PySem PySem.Spec PyProof.Rows L2
end DD
/-! Generators whose consumer may do more than put the items into a list: what the consumer owns is pinned, what it makes is tracked. -/
namespace DD
open PySem PySem.Spec PyProof.Rows L2 GenW
/-- what the two sides tell each other: yl, of an item x that is handed out behind what the consumer made of the items so far; tr, of what the consumer makes of x -/
structure GPr where
  yl : List V → V → Hp → Prop
  tr : List V → V → Hp → V → Hp → Prop
end DD
namespace DD
open PySem PySem.Spec PyProof.Rows L2 GenW
end DD
namespace DD
open PySem PySem.Spec PyProof.Rows L2 GenW
end DD
/-! A comprehension over a generator: each item a tuple, taken apart by names. -/
namespace DD
open PySem PySem.Spec PyProof.Rows L2 GenW
end DD
/-! Calls of generator defs; [.. for x, y, z in f(..)]. -/
namespace DD
open PySem PySem.Spec PyProof.Rows L2 GenW
/-! ### the comprehension -/
end DD
/-! [.. for x, y, z in f(..)], f a generator def. -/
namespace DD
open PySem PySem.Spec PyProof.Rows L2 GenW
end DD
/-! Generator defs, by mirrors: a mirror tells the list of the items. -/
namespace DD
open PySem PySem.Spec PyProof.Rows L2 GenW
/-- the store at the beginning; what is asked of an item -/
structure GIn where
  S : Sto
  ok : W → Bool
section
variable {G : Gx} {xv : Nat → Value} {Wx : WX} {X : Cx} {N : GPr} {mW : W → W} {i : GIn} {H H' : Hp} {S S' : Sto} {r r' : Rh}
def OutY (G : Gx) (xv : Nat → Value) (Wx : WX) (mW : W → W) (H : Hp) (S : Sto) (r : Rh) (x : F × List W) (D : GEnds) : Prop :=
  match x with
  | (.nx t S1, os) => ∀ r1 H1 s ys, Ev H S r H1 S1 r1 → Rl G H1 S1 r1 → RLo G H1 S1 r1 t s → RWs G H1 S1 r1 (os.map mW) ys → D.nx ys s H1
  | (.bk t S1, os) => ∀ r1 H1 s ys, Ev H S r H1 S1 r1 → Rl G H1 S1 r1 → RLo G H1 S1 r1 t s → RWs G H1 S1 r1 (os.map mW) ys → D.bk ys s H1
  | (.ct t S1, os) => ∀ r1 H1 s ys, Ev H S r H1 S1 r1 → Rl G H1 S1 r1 → RLo G H1 S1 r1 t s → RWs G H1 S1 r1 (os.map mW) ys → D.ct ys s H1
  | (.rt w S1, os) => ∀ r1 H1 v ys, Ev H S r H1 S1 r1 → Rl G H1 S1 r1 → RW G H1 S1 r1 w v → RWs G H1 S1 r1 (os.map mW) ys → D.rt ys v H1
  | (.er c ns ws t S1, _) => ∀ r1 H1 s d, Ev H S r H1 S1 r1 → Rl G H1 S1 r1 → RLo G H1 S1 r1 t s → Xd G H1 S1 r1 d ns ws → Wx (xv c) d s H1
  | (.no, _) => False
theorem OutY.from {x : F × List W} {D : GEnds} (e : Ev H S r H' S' r') (o : OutY G xv Wx mW H S r x D) : OutY G xv Wx mW H' S' r' x D := by
  obtain ⟨x, os⟩ := x
  cases x with
  | nx t S1 => exact fun r1 H1 v ys e1 => o r1 H1 v ys (e.trans e1)
  | bk t S1 => exact fun r1 H1 v ys e1 => o r1 H1 v ys (e.trans e1)
  | ct t S1 => exact fun r1 H1 v ys e1 => o r1 H1 v ys (e.trans e1)
  | rt w S1 => exact fun r1 H1 v ys e1 => o r1 H1 v ys (e.trans e1)
  | er c ns ws t S1 => exact fun r1 H1 s d e1 => o r1 H1 s d (e.trans e1)
  | no => exact o
end
end DD
/-! The promise of a generator def; a comprehension over its call. -/
namespace DD
open PySem PySem.Spec PyProof.Rows L2 GenW
/-! ### the comprehension -/
end DD
/-! list(f(..)), f a generator def. -/
namespace DD
open PySem PySem.Spec PyProof.Rows L2 GenW
end DD
/-! Sets of ints made on the spot: len({..}), sorted({..}). -/
namespace DD
open PySem PySem.Spec PyProof.Rows L2
/-! ### the mirror -/
/-! ### len of it -/
/-! ### sorted of it -/
end DD
/-! tuple(range(n)), list(range(n)) as a new list of the store, raise C(a, b). -/
namespace DD
open PySem PySem.Spec PyProof.Rows L2
/-! ### raise C(a, b) -/
end DD
/-! A dict that a field holds is a value from a place on. -/
namespace DD
open PySem PySem.Spec PyProof.Rows L2
end DD
/-! t[::-1], of a tuple too. -/
namespace DD
open PySem PySem.Spec PyProof.Rows L2 HT
end DD
/-! The law's head: the facts are told of named addresses; the run's three looks are shown apart. -/
namespace DD
open PySem PySem.Spec PyProof.Rows L2
def obA (as : List Addr) (fa : List He.Fa) (fn : List He.DefD) (tf : List He.Defn) (ex : PySem.W.Frag → Bool) (g : Addr → Option Obj) : He.AlT × Bool :=
  (He.obsT fa fn [] (He.frT g as), ex (He.frT g as) && He.tabsB g tf (He.frT g as))
/-- the tables of the defs that make lambdas -/
def TabsA (tf : List He.Defn) (h : Heap) (K : PySem.W.Frag) : Prop := ∀ p ∈ tf, h.get? (He.cT K p).2 = some { cls := .none, data := .fields #[] } ∧ K.lookup (He.cT K p).2 = none ∧ PySem.W.codeHdIn K (He.cT K p).1 (He.cT K p).2 = true
theorem tabsA_of {as : List Addr} {tf : List He.Defn} {h : Heap} (e : He.tabsB h.get? tf (He.frT h.get? as) = true) : TabsA tf h (He.frT h.get? as) := fun p hp => by
  obtain ⟨h3, h4⟩ := He.ba (List.all_eq_true.mp e p hp)
  cases q : h.get? (He.cT (He.frT h.get? as) p).2 with
  | none => rw [q] at h4; cases h4
  | some o =>
    rw [q] at h4
    exact ⟨by rw [He.emptyTab_eq h4], He.frT_none q h4, h3⟩
/-- what is told of a heap: facts of the part at the named addresses -/
def hookA (as : List Addr) (fa : List He.Fa) (fn : List He.DefD) (tf : List He.Defn) (ex : PySem.W.Frag → Bool) : PySem.W.Hook where
  α := He.AlT × Bool
  obs := fun st => obA as fa fn tf ex st.heap.get?
  val := fun w => (He.valT fn [] w, true)
  says := fun w h => ∃ K : PySem.W.Frag, K.In h ∧ He.SaysT fa fn [] w K ∧ ex K = true ∧ TabsA tf h K
  of := fun _ st e => ⟨He.frT st.heap.get? as, He.frT_in, congrArg Prod.fst e, (He.ba (congrArg Prod.snd e)).1, tabsA_of (He.ba (congrArg Prod.snd e)).2⟩
  keeps := fun _ h h' ⟨K, inK, tx, ex, tt⟩ stay => ⟨K, inK.keeps stay, tx, ex, fun p hp => ⟨stay _ _ (tt p hp).1, (tt p hp).2⟩⟩
theorem obA_eq {as : List Addr} {fa : List He.Fa} {fn : List He.DefD} {tf : List He.Defn} {ex : PySem.W.Frag → Bool} (s : PySem.W.SharedT) : obA as fa fn tf ex (HandSHeadRun.getT s) = (hookA as fa fn tf ex).obs s.abs := by
  have e : HandSHeadRun.getT s = s.abs.heap.get? := funext (HandSHeadRun.getT_eq s)
  rw [e]; rfl
theorem run_all {β γ : Type} {as : List Addr} {fa : List He.Fa} {fn : List He.DefD} {tf : List He.Defn} {ex : PySem.W.Frag → Bool} {o : Option PySem.W.SharedT} {a : PySem.W.SharedT → β} {b : PySem.W.SharedT → γ} {x : β} {y : γ} {w : World}
    (h1 : o.map (fun s => (a s, b s)) = some (x, y)) (h2 : o.map (fun s => He.obsT fa fn [] (He.frT (HandSHeadRun.getT s) as)) = some (He.valT fn [] w)) (h3 : o.map (fun s => ex (He.frT (HandSHeadRun.getT s) as) && He.tabsB (HandSHeadRun.getT s) tf (He.frT (HandSHeadRun.getT s) as)) = some true) :
    o.map (fun s => (a s, b s, obA as fa fn tf ex (HandSHeadRun.getT s))) = some (x, y, (He.valT fn [] w, true)) := by
  cases o with
  | none => cases h1
  | some s =>
    have e1 : (a s, b s) = (x, y) := Option.some.inj h1
    obtain ⟨e2, e3⟩ := Prod.mk.inj e1
    have e4 : He.obsT fa fn [] (He.frT (HandSHeadRun.getT s) as) = He.valT fn [] w := Option.some.inj h2
    have e5 : (ex (He.frT (HandSHeadRun.getT s) as) && He.tabsB (HandSHeadRun.getT s) tf (He.frT (HandSHeadRun.getT s) as)) = true := Option.some.inj h3
    show some (a s, b s, (He.obsT fa fn [] (He.frT (HandSHeadRun.getT s) as), ex (He.frT (HandSHeadRun.getT s) as) && He.tabsB (HandSHeadRun.getT s) tf (He.frT (HandSHeadRun.getT s) as))) = _
    rw [e2, e3, e4, e5]
end DD
/-! Properties of own classes: read, assigned. -/
namespace DD
open PySem PySem.Spec PyProof.Rows L2
/-! ### the head: functions that stand within a property -/
end DD
/-! The law's head where properties are told too. -/
namespace DD
open PySem PySem.Spec PyProof.Rows L2
end DD
/-! d.get(k, x) of a dict with plain keys. -/
namespace DD
open PySem PySem.Spec PyProof.Rows L2
end DD
/-! str of ints and of own instances, f-strings, isinstance of an error by a built-in class. -/
namespace DD
open PySem PySem.Spec PyProof.Rows L2
section
variable {G : Gx} {xv : Nat → Value} {Wx : WX} {X : Cx} {H H' : Hp} {S S' : Sto} {r r' : Rh}
/-- {x} -/
def dFmt (d : DX) : DX := fun t S => (d t S).bind fun w S1 => match w with
  | .str y => if y.length ≤ sizeLine then .ok (.str y) S1 else .no
  | .int i => if i.natAbs.log2 < 1920 then .ok (.str (toString i)) S1 else .no
  | _ => .no
theorem de_fmt {e : Expr} {d : DX} {pos : Pos} (he : PE X e (toE G xv Wx d)) : PE X (.FormattedValue e (-1) none pos) (toE G xv Wx (dFmt d)) :=
  PEi (pe_fmt he) fun s H Q ⟨r, t, S, l, rl, o⟩ => toX.bind l rl o fun w S1 r1 H1 v _ e1 rl1 l1 q o1 => by
    cases q with
    | str y =>
      simp only [] at o1
      split at o1
      · rename_i hy
        exact .inl ⟨y, rfl, hy, o1 r1 H1 _ .refl rl1 (.str y)⟩
      · exact o1.elim
    | int i =>
      simp only [] at o1
      split at o1
      · rename_i hy
        exact .inr ⟨i, rfl, hy, o1 r1 H1 _ .refl rl1 (.str _)⟩
      · exact o1.elim
    | _ => exact o1.elim
def dJs : List DX → Str → DX
  | [], acc => fun _ S => .ok (.str acc) S
  | d :: ds, acc => fun t S => (d t S).bind fun w S1 => match w with
    | .str y => if (acc ++ y).length ≤ sizeLine then dJs ds (acc ++ y) t S1 else .no
    | _ => .no
theorem dJs_ok {s : L2.St} {Q : VK} : ∀ (ds : List DX) (acc : Str) (H : Hp), toE G xv Wx (dJs ds acc) s H Q → tJs (ds.map fun d => toE G xv Wx d) acc s H fun out H1 => Q (.str out) H1
  | [], acc, H, ⟨r, t, S, l, rl, o⟩ => o r H _ .refl rl (.str acc)
  | d :: ds, acc, H, ⟨r, t, S, l, rl, o⟩ => toX.bind l rl o fun w S1 r1 H1 v _ e1 rl1 l1 q o1 => by
    cases q with
    | str y =>
      simp only [] at o1
      split at o1
      · rename_i hy
        exact ⟨y, rfl, hy, dJs_ok ds _ H1 ⟨r1, t, S1, l1, rl1, o1⟩⟩
      · exact o1.elim
    | _ => exact o1.elim
inductive PJd (G : Gx) (xv : Nat → Value) (Wx : WX) (X : Cx) : List Expr → List DX → Prop where
  | nil : PJd G xv Wx X [] []
  | cons {e : Expr} {d : DX} {es : List Expr} {ds : List DX} (h : PE X e (toE G xv Wx d)) (r : PJd G xv Wx X es ds) : PJd G xv Wx X (e :: es) (d :: ds)
theorem PJd.pj {es : List Expr} {ds : List DX} (h : PJd G xv Wx X es ds) : PJ X es (ds.map fun d => toE G xv Wx d) := by
  induction h with
  | nil => exact .nil
  | cons h _ ih => exact .cons h ih
def dJoin (ds : List DX) : DX := dJs ds Str.empty
theorem de_joined {v1 v2 : Expr} {rest : List Expr} {ds : List DX} {pos : Pos} (h : PJd G xv Wx X (v1 :: v2 :: rest) ds) : PE X (.JoinedStr (v1 :: v2 :: rest) pos) (toE G xv Wx (dJoin ds)) :=
  PEi (pe_joined h.pj) fun s H Q o => dJs_ok ds _ H o
end
end DD
/-! Texts: items, slices, parts, joins. -/
namespace DD
open PySem PySem.Spec PyProof.Rows L2
section
variable {G : Gx} {xv : Nat → Value} {Wx : WX} {X : Cx} {H H' : Hp} {S S' : Sto} {r r' : Rh}
/-- text[i] -/
def ixS : D2 := fun a b S => match a, b with
  | .str z, .int i => if z.length ≤ sizeLine then match L2.atI z.cps.toList i with
    | some c => .ok (.str ⟨#[c]⟩) S
    | none => .no
    else .no
  | _, _ => .no
theorem de_ixS {a b : Expr} {da db : DX} {pos : Pos} (ha : PE X a (toE G xv Wx da)) (hb : PE X b (toE G xv Wx db)) (hs : PlainIx b := by intro _ _; rfl) : PE X (.Subscript a b pos) (toE G xv Wx (dOp ixS da db)) :=
  PEi (pe_ix ix_str ha hb hs) fun s H Q ⟨r, t, S, l, rl, o⟩ => toX.bind l rl o fun w S1 r1 H1 x _ e1 rl1 l1 q o1 => toX.bind l1 rl1 o1 fun y S2 r2 H2 yv _ e2 rl2 l2 qy o2 => by
    have q2 := q.ev e2
    cases w with
    | str z =>
      cases y with
      | int i =>
        by_cases hz : z.length ≤ sizeLine
        · cases ec : L2.atI z.cps.toList i with
          | none =>
            have : ixS (.str z) (.int i) S2 = .no := by simp only [ixS, if_pos hz, ec]
            rw [this] at o2; exact o2.elim
          | some c =>
            have : ixS (.str z) (.int i) S2 = .ok (.str ⟨#[c]⟩) S2 := by simp only [ixS, if_pos hz, ec]
            rw [this] at o2
            cases q2; cases qy
            exact ⟨z, i, c, rfl, rfl, hz, ec, o2 r2 H2 _ .refl rl2 (.str _)⟩
        · have : ixS (.str z) (.int i) S2 = .no := by simp only [ixS, if_neg hz]
          rw [this] at o2; exact o2.elim
      | _ => exact o2.elim
    | _ => exact o2.elim
/-- text[lo:hi] -/
def dSlS (d : DX) (lo hi : DO) : DX := fun t S => (d t S).bind fun w S1 => (lo t S1).bind fun a S2 => (hi t S2).bind fun b S3 => match w with
  | .str z => if z.length ≤ sizeLine then .ok (.str (Txt.slice z a b)) S3 else .no
  | _ => .no
theorem de_slS {e : Expr} {lo hi : Option Expr} {d : DX} {dl dh : DO} {p2 pos : Pos} (he : PE X e (toE G xv Wx d)) (hl : PO X lo (toO G xv Wx dl)) (hh : PO X hi (toO G xv Wx dh)) : PE X (.Subscript e (.Slice lo hi none p2) pos) (toE G xv Wx (dSlS d dl dh)) :=
  PEi (pe_slice C8.sl_txt he hl hh) fun s H Q ⟨r, t, S, l, rl, o⟩ =>
    toX.bind l rl o fun w S1 r1 H1 v _ e1 rl1 l1 q o1 => toX.bind l1 rl1 o1 fun a S2 r2 H2 av _ e2 rl2 l2 qa o2 => toX.bind l2 rl2 o2 fun b S3 r3 H3 bv _ e3 rl3 l3 qb o3 => by
      subst qa
      subst qb
      cases w with
      | str z =>
        simp only [] at o3
        split at o3
        · rename_i hz
          cases q
          exact ⟨z, rfl, hz, o3 r3 H3 _ .refl rl3 (.str _)⟩
        · exact o3.elim
      | _ => exact o3.elim
/-- a text in a text -/
def inS : D2 := fun a b S => match a, b with
  | .str i, .str j => .ok (.bl (!(Builtin.Str.occurrences j i 0 j.length 1).isEmpty)) S
  | _, _ => .no
theorem o_inS : OpR X (compareOp .In) (toR2 G xv inS) := by
  intro pins s σ H x y v u Q I rx ry ⟨r, S, a, b, rl, qa, qb, o⟩
  cases a with
  | str i =>
    cases b with
    | str j =>
      cases qa; cases qb
      exact op_in_str pins s σ H _ _ v u Q I rx ry ⟨_, _, rfl, rfl, o r H _ .refl rl (.bl _)⟩
    | _ => exact o.elim
  | _ => exact o.elim
theorem rws_strs {ys : List Str} : RWs G H S r (ys.map W.str) (ys.map V.str) := by
  induction ys with
  | nil => exact .nil
  | cons y ys ih => exact .cons (.str y) ih
/-- text.split(sep) -/
def dSplit (o e : DX) : DX := fun t S => (o t S).bind fun w S1 => match w with
  | .str a => (e t S1).bind fun u S2 => match u with
    | .str b => if (b.length == 0) = false ∧ a.length + 2 ≤ sizeLine then .ok (.lst ((Txt.split a b).map W.str)) S2 else .no
    | _ => .no
  | _ => .no
theorem de_split {o e : Expr} {do_ de : DX} {apos pos : Pos} (ho : PE X o (toE G xv Wx do_)) (he : PE X e (toE G xv Wx de)) (hs : starEach [e] X.env = [(false, eval e X.env)] := by rfl) (hbase : attributeBase o "split" X.env (eval o X.env) = eval o X.env := by rfl) (hline : (apos.endLine == pos.line) = true := by rfl) :
    PE X (.Call (.Attribute o "split" apos) [e] [] pos) (toE G xv Wx (dSplit do_ de)) :=
  PEi (pe_split ho he hs hbase hline) fun s H Q ⟨r, t, S, l, rl, oo⟩ => toX.bind l rl oo fun w S1 r1 H1 x _ e1 rl1 l1 q o1 => by
    cases q with
    | str a =>
      refine ⟨⟨a, rfl⟩, toX.bind l1 rl1 o1 fun u S2 r2 H2 y _ e2 rl2 l2 qy o2 => ?_⟩
      cases qy with
      | str b =>
        simp only [] at o2
        split at o2
        · rename_i hc
          exact ⟨a, b, rfl, rfl, hc.1, hc.2, fun p hp => o2 r2 _ _ (Ev.fresh hp rl2) (rl2.fresh hp) (.lst (Own.new hp rl2) rws_strs)⟩
        · exact o2.elim
      | _ => exact o2.elim
    | _ => exact o1.elim
/-- texts of values -/
def strsOf : List W → Option (List Str)
  | [] => some []
  | .str y :: l => (strsOf l).map (y :: ·)
  | _ :: _ => none
theorem strsOf_ok : ∀ {ws : List W} {ys : List Str} {vs : List V}, strsOf ws = some ys → RWs G H S r ws vs → vs = ys.map V.str
  | [], _, _, e, .nil => by cases e; rfl
  | .str y :: l, ys, _, e, .cons q qs => by
    simp only [strsOf] at e
    cases e1 : strsOf l with
    | none => rw [e1] at e; cases e
    | some zs =>
      rw [e1] at e
      cases e
      cases q
      rw [strsOf_ok e1 qs]; rfl
  | .non :: _, _, _, e, _ => by cases e
  | .int _ :: _, _, _, e, _ => by cases e
  | .bl _ :: _, _, _, e, _ => by cases e
  | .tup _ :: _, _, _, e, _ => by cases e
  | .lst _ :: _, _, _, e, _ => by cases e
  | .ref _ :: _, _, _, e, _ => by cases e
/-- sep.join(texts) -/
def dJoinT (o e : DX) : DX := fun t S => (o t S).bind fun w S1 => match w with
  | .str a => (e t S1).bind fun u S2 => match (match seqL S2 u with | some ws => some ws | none => seqT u) with
    | some ws => match strsOf ws with
      | some ys => if (ys.map (·.length)).sum + ys.length * a.length ≤ 16777216 then .ok (.str (Txt.join a ys)) S2 else .no
      | none => .no
    | none => .no
  | _ => .no
theorem de_join {o e : Expr} {do_ de : DX} {apos pos : Pos} (c : Cok G X Wx) (ho : PE X o (toE G xv Wx do_)) (he : PE X e (toE G xv Wx de)) (hs : starEach [e] X.env = [(false, eval e X.env)] := by rfl) (hbase : attributeBase o "join" X.env (eval o X.env) = eval o X.env := by rfl) (hline : (apos.endLine == pos.line) = true := by rfl) :
    PE X (.Call (.Attribute o "join" apos) [e] [] pos) (toE G xv Wx (dJoinT do_ de)) :=
  PEi (pe_join ho he hs hbase hline) fun s H Q ⟨r, t, S, l, rl, oo⟩ => toX.bind l rl oo fun w S1 r1 H1 x _ e1 rl1 l1 q o1 => by
    cases q with
    | str a =>
      refine ⟨⟨a, rfl⟩, toX.bind l1 rl1 o1 fun u S2 r2 H2 y _ e2 rl2 l2 qy o2 => ?_⟩
      cases e3 : seqL S2 u with
      | some ws =>
        rw [e3] at o2
        simp only [] at o2
        obtain ⟨p, vs, rfl, hq, qs⟩ := seqL_ok rl2 qy e3
        cases e4 : strsOf ws with
        | none => rw [e4] at o2; exact o2.elim
        | some ys =>
          rw [e4] at o2
          simp only [] at o2
          split at o2
          · rename_i hz
            have := strsOf_ok e4 qs
            subst this
            exact ⟨a, p, ys, rfl, rfl, .inl (by rw [c.kk]; exact hq), hz, o2 r2 H2 _ .refl rl2 (.str _)⟩
          · exact o2.elim
      | none =>
        rw [e3] at o2
        simp only [] at o2
        cases e5 : seqT u with
        | none => rw [e5] at o2; exact o2.elim
        | some ws =>
          rw [e5] at o2
          simp only [] at o2
          obtain ⟨p, vs, rfl, hq, qs⟩ := seqT_ok qy e5
          cases e4 : strsOf ws with
          | none => rw [e4] at o2; exact o2.elim
          | some ys =>
            rw [e4] at o2
            simp only [] at o2
            split at o2
            · rename_i hz
              have := strsOf_ok e4 qs
              subst this
              exact ⟨a, p, ys, rfl, rfl, .inr (by rw [c.kk]; exact hq), hz, o2 r2 H2 _ .refl rl2 (.str _)⟩
            · exact o2.elim
    | _ => exact o1.elim
/-- text.startswith(text) -/
def dStarts (o e : DX) : DX := fun t S => (o t S).bind fun w S1 => match w with
  | .str a => (e t S1).bind fun u S2 => match u with
    | .str b => .ok (.bl (Txt.startswith a b)) S2
    | _ => .no
  | _ => .no
theorem de_starts {o e : Expr} {do_ de : DX} {apos pos : Pos} (ho : PE X o (toE G xv Wx do_)) (he : PE X e (toE G xv Wx de)) (hs : starEach [e] X.env = [(false, eval e X.env)] := by rfl) (hbase : attributeBase o "startswith" X.env (eval o X.env) = eval o X.env := by rfl) (hline : (apos.endLine == pos.line) = true := by rfl) :
    PE X (.Call (.Attribute o "startswith" apos) [e] [] pos) (toE G xv Wx (dStarts do_ de)) :=
  PEi (pe_m1 F.slot_str_startswith F.type_str_startswith mt_startswith ho he hs hbase hline) fun s H Q ⟨r, t, S, l, rl, oo⟩ => toX.bind l rl oo fun w S1 r1 H1 x _ e1 rl1 l1 q o1 => by
    cases q with
    | str a =>
      refine ⟨⟨a, rfl⟩, toX.bind l1 rl1 o1 fun u S2 r2 H2 y _ e2 rl2 l2 qy o2 => ?_⟩
      cases qy with
      | str b => exact ⟨a, b, rfl, rfl, o2 r2 H2 _ .refl rl2 (.bl _)⟩
      | _ => exact o2.elim
    | _ => exact o1.elim
/-- int(text) -/
def intS : Fn := fun ws S => match ws with
  | [.str a] => if a.length ≤ 640 then match PySem.intText? a with
    | some n => .ok (.int n) S
    | none => .no
    else .no
  | _ => .no
theorem c_intS : CallR X (.type "int") (toC1 G xv intS) := by
  intro pins s σ H xs us Q I rv ⟨r, S, ws, rl, q, o⟩
  cases q with
  | nil => exact o.elim
  | @cons w ws v vs a q =>
    cases q with
    | cons _ _ => cases a <;> exact o.elim
    | nil =>
      cases a with
      | str z =>
        by_cases hz : z.length ≤ 640
        · cases ec : PySem.intText? z with
          | none =>
            have : intS [.str z] S = .no := by simp only [intS, if_pos hz, ec]
            rw [this] at o; exact o.elim
          | some n =>
            have : intS [.str z] S = .ok (.int n) S := by simp only [intS, if_pos hz, ec]
            rw [this] at o
            exact call_int_str pins s σ H _ us Q I rv ⟨z, n, rfl, ec, hz, o r H _ .refl rl (.int _)⟩
        · have : intS [.str z] S = .no := by simp only [intS, if_neg hz]
          rw [this] at o; exact o.elim
      | _ => exact o.elim
/-- the signs of a text -/
def dSeqS (d : DX) : DA := fun t S => (d t S).bind fun w S1 => match w with
  | .str z => .ok (z.cps.toList.map fun c => W.str ⟨#[c]⟩) S1
  | _ => .no
theorem itS_ok {z : Str} : ItOk G H S r (Its z) (z.cps.toList.map fun c => W.str ⟨#[c]⟩) where
  go := fun H1 S1 r1 e rl i w hw => by
    have := (List.getElem?_eq_some_iff.mp hw).1
    show i < z.cps.size
    simpa using this
  yld := fun H1 S1 r1 e rl i w hw x H2 hy => by
    obtain ⟨rfl, c, hc, rfl⟩ := hy
    rw [List.getElem?_map] at hw
    have hc' : z.cps.toList[i]? = some c := by simpa using hc
    rw [hc'] at hw
    cases hw
    exact ⟨.refl, rl, .str _⟩
  stop := fun H1 S1 r1 e rl i hi => by
    show z.cps.size ≤ i
    simpa using hi
theorem di_seqS {tg e : Expr} {d : DX} (he : PE X e (toE G xv Wx d)) : PI X tg e (toI G xv Wx (dSeqS d)) :=
  PIi (pi_str he) fun s H Q ⟨r, t, S, l, rl, o⟩ => toX.bind l rl o fun w S1 r1 H1 v _ e1 rl1 l1 q o1 => by
    cases q with
    | str z => exact ⟨z, rfl, o1 r1 H1 _ .refl rl1 itS_ok⟩
    | _ => exact o1.elim
end
end DD
namespace DD
open PySem PySem.Spec PyProof.Rows L2
/-! ### a, *b = a list held as a value -/
section
variable {prog : Program} {w : World} {A : Around} {E : Value → Shared → Prop} {s : Shared}
theorem walksFromL (hh : A.handled = none) (I t : Addr) (hne : t ≠ I) (items : Array Value) (j : Nat) (hj : j ≤ items.size) :
    Walks prog w A I [I, t] [I] (items.size - j) (fun i v => items[j + i]? = some v) (fun i h => h.IsListIter I t (j + i) ∧ h.IsList t items) where
  sub := fun b hb => by simp at hb; simp [hb]
  frame := fun _ _ _ st hk => ⟨st.1.at fun o e => hk I (by simp) o e, st.2.at fun o e => hk t (by simp) o e⟩
  item := fun i s Q E hi st hQ => by
    have hlt : j + i < items.size := by omega
    refine wpAny_pyNext_list_item st.1 st.2 (x := items[j + i]) (by simp [hlt]) fun h' hit' hs' => ?_
    exact hQ _ h' s.toks (by simp [hlt]) ⟨hit', st.2.extBut hs'.extBut hne⟩ fun b o hb e => hs'.extBut b o (fun h => hb (by simp [h])) e
  done := fun s Q E st hQ => wpAny_pyNext_list_end hh st.1 st.2 (by simp; omega) fun h' he' => hQ h' s.toks fun b o hb e => he' b o (fun h => hb (by simp [h])) e
  self := fun _ _ _ _ st hQ => wpAny_pyIter_listiter st.1 hQ
theorem unpackItems_starL {t : Addr} {items : Array Value} {j : Nat} {Q : List Value → Shared → Prop} (hh : A.handled = none) (ht : s.heap.IsList t items) (hj : j ≤ items.size) (hsz : items.size ≤ sizeLine)
    (hQ : ∀ h' tk l, (∀ b o, s.heap.get? b = some o → h'.get? b = some o) → s.heap.get? l = none → h'.get? l = some { cls := .type "list", data := .seq (items.toList.drop j).toArray } → Q (items.toList.take j ++ [.ref l]) { s with heap := h', toks := tk }) :
    wpAny (model prog w) A (unpackItems (.ref t) (j + 1) (some j)) Q E s := by
  have hlt : t ≠ s.heap.objs.size := by obtain ⟨o, ho, _⟩ := ht; exact Nat.ne_of_lt (Heap.lt_size ho)
  unfold unpackItems
  refine wpAny_bind ?_
  unfold notIterableAtAll
  refine wpAny_bind (wpAny_specialOf ht.typeIs slot_list_iter.lookup ?_)
  refine wpAny_pure ?_
  simp only [Bool.false_eq_true, if_false]
  refine wpAny_bind (wpAny_holding (wpAny_pyIter_list ht ?_))
  refine wpAny_bind (wpAny_holding (PySem.W.kun_draw hlt j 0 _ _ ⟨_, Heap.get?_push_size _ rfl, rfl, rfl⟩ (ht.push _) (by omega) fun h₁ hit₁ hs₁ => ?_))
  have ht₁ : h₁.IsList t items := (ht.push _).extBut hs₁.extBut hlt
  rw [List.drop_zero]
  have hl : ¬ (items.toList.take j).length < j := by simp; omega
  rw [if_neg hl]
  refine wpAny_bind (wpAny_holding (wpAny_collect_iter (T := "list_iterator") (.inr (.inr (.inl rfl))) (walksFromL (A := A.in1) hh s.heap.objs.size t hlt items j hj).toS (fun i s st => st.1.typeIs) ⟨(by have z := hit₁; rw [Nat.zero_add] at z; exact z), ht₁⟩ ?_ (by simp) (fun s' acc mv io => ?_) (by omega)))
  · intro b hb
    simp at hb
    rcases hb with rfl | rfl
    · obtain ⟨o, ho, _⟩ := hit₁; exact Heap.lt_size ho
    · obtain ⟨o, ho, _⟩ := ht₁; exact Heap.lt_size ho
  · have hr := items_drop hj io
    rw [hr]
    have e0 : j + 1 - 1 - j = 0 := by omega
    rw [e0, if_neg (Nat.not_lt_zero _)]
    simp only [Nat.sub_zero, List.take_length, List.drop_length]
    obtain ⟨hp', g', d', t', os'⟩ := s'
    have hg : g' = s.gens := mv.gens
    have hd : d' = s.drawn := mv.drawn
    have ho : os' = s.os := mv.os
    subst hg hd ho
    have hk : ∀ b o, s.heap.get? b = some o → hp'.get? b = some o := fun b o e => by
      have hb : b ≠ s.heap.objs.size := Nat.ne_of_lt (Heap.lt_size e)
      exact mv.heap b o (by simp [hb]) (hs₁.extBut b o hb (Heap.get?_push_of_some _ e))
    have hsz' : (items.toList.drop j).length ≤ sizeLine := by simp; omega
    refine wpAny_bind ?_
    unfold newList
    refine wpAny_newObj_type ?_ (by first | size_fits | (simp; omega))
    refine wpAny_pure ?_
    rw [List.append_nil]
    refine hQ _ _ hp'.objs.size (fun b o e => Heap.get?_push_of_some _ (hk b o e)) ?_ (Heap.get?_push_size _ rfl)
    cases e : s.heap.get? hp'.objs.size with
    | none => rfl
    | some o => exact absurd (Heap.lt_size (hk _ _ e)) (Nat.lt_irrefl _)
end
section
variable {G : Gx} {xv : Nat → Value} {Wx : WX} {X : Cx} {H H' : Hp} {S S' : Sto} {r r' : Rh}
def gStarLT (K : PySem.W.Frag) (j : Nat) (t : TGs) : TG := fun v σ H Q => ∃ a xs, v = .ref a ∧ SqL K H a xs ∧ j ≤ xs.length ∧ ∀ l, H l = none → t (xs.take j ++ [.ref l]) σ (upd H l (.lst (xs.drop j))) Q
theorem pg_starL {es es' : List Expr} {k : Nat} {t : TGs} {j : Nat} {pos : Pos} (hc : X.calm = true) (h : PGs X es' t) (hn : (assignEach es X.env).length = j + 1 := by rfl) (hst : (assignEach es X.env).findIdx? (·.1) = some j := by rfl)
    (hm : (assignEach es X.env).map (·.2) = (assignEach es' X.env).map (·.2) := by rfl) : PG X (.Tuple es k pos) (gStarLT X.K j t) := by
  refine ⟨fun pins s σ H v u Q I r hw => ?_⟩
  obtain ⟨a, xs, e1, hq, hl, hw⟩ := hw
  subst e1
  cases r
  obtain ⟨its, rv, ht, hz⟩ := I.list hq
  have hl2 : s.heap.IsList a its.toArray := by
    obtain ⟨o, m, e, c, d, q⟩ := ht
    exact ⟨o, e, c, m, q⟩
  rw [assign_Tuple]
  refine wpAny_bind (wpAny_standAt ?_)
  unfold unpack
  have hlen := rv.length
  refine wpAny_bind (wpAny_holding ?_)
  rw [hn, hst]
  refine unpackItems_starL (I.ok.hd hc) hl2 (by simp; omega) (by simp; omega) fun h' tk l kp nl hl' => ?_
  have hHl : H l = none := HOk.gone I.hok nl
  have I1 : Inv X pins σ (upd H l (.lst (xs.drop j))) { s with heap := h', toks := tk } := I.laidN kp nl hHl ⟨by simp; omega, its.drop j, 0, rv.drop j, hl'⟩
  rw [hm]
  exact h.run pins _ σ _ _ _ Q I1 ((rv.take j).append (.cons (show RelV (.ref l) (.ref l) from rfl) .nil)) (hw l hHl)
def gStarL (j : Nat) (gs : DGs) : DG := fun w t S => match w with
  | .lst ws => if j ≤ ws.length then gs (ws.take j ++ [.lst (ws.drop j)]) t S else .no
  | _ => .no
theorem dg_starL {es es' : List Expr} {k : Nat} {gs : DGs} {j : Nat} {pos : Pos} (c : Cok G X Wx) (h : PGs X es' (toGs G xv gs)) (hn : (assignEach es X.env).length = j + 1 := by rfl) (hst : (assignEach es X.env).findIdx? (·.1) = some j := by rfl)
    (hm : (assignEach es X.env).map (·.2) = (assignEach es' X.env).map (·.2) := by rfl) : PG X (.Tuple es k pos) (toG G xv (gStarL j gs)) :=
  PGi (pg_starL c.calm h hn hst hm) fun v s H Q ⟨r, t, S, w, l, rl, q, o⟩ => by
    cases w with
    | lst ws =>
      cases q with
      | @lst a _ vs ow q =>
        simp only [gStarL] at o
        by_cases hl : j ≤ ws.length
        · rw [if_pos hl] at o
          refine ⟨a, vs, rfl, by rw [c.kk]; exact .inl (.inl ow.1), by rw [← q.length]; exact hl, fun p hp => ?_⟩
          refine ⟨r, t, S, _, l.ev (Ev.fresh hp rl), rl.fresh hp, ?_, OutE.from (Ev.fresh hp rl) o⟩
          exact ((q.take j).ev (Ev.fresh hp rl)).append (.cons (.lst (Own.new hp rl) ((q.drop j).ev (Ev.fresh hp rl))) .nil)
        · rw [if_neg hl] at o; exact o.elim
    | _ => exact o.elim
end
end DD
namespace DD
open PySem PySem.Spec PyProof.Rows L2
/-! ### enumerate(list, start=k) -/
def IteK (K : PySem.W.Frag) (a : Addr) (k : Int) : It :=
  ⟨fun i H => ∃ (xs : List V) (x : V), SqL K H a xs ∧ xs[i]? = some x, fun i H v H' => ∃ T x, v = .ref T ∧ H T = none ∧ H' = upd H T (.tup [.int (k + (i : Nat)), x]) ∧ ∀ xs, SqL K H a xs → xs[i]? = some x, fun i H => ∃ xs : List V, SqL K H a xs ∧ xs.length ≤ i⟩
theorem turn_enumK {P : Program} {w : World} {K : PySem.W.Frag} {elts : List Expr} {kk : Nat} {tpos : Pos} (a e it : Addr) (k : Int) (hei : e ≠ it) (hai : a ≠ it) (hea : e ≠ a) :
    Turn P w K (.Tuple elts kk tpos) (IteK K a k) [e, it] e (fun i h => (∃ old, IsEnum h e it (k + (i : Nat)) old) ∧ h.IsListIter it a i) where
  mem := by simp
  obj := fun i h st b hb => by
    obtain ⟨⟨old, he⟩, ⟨o, ho, hc, hd⟩⟩ := st
    have e' : b = e ∨ b = it := by simpa using hb
    rcases e' with z | z
    · rw [z]; exact ⟨_, he, fun v q => nomatch q⟩
    · rw [z]; exact ⟨o, ho, fun v q => by rw [hd] at q; cases q⟩
  keep := fun i h h' st q => let ⟨⟨old, he⟩, hi⟩ := st; ⟨⟨old, q e (by simp) _ he⟩, hi.at fun o z => q it (by simp) o z⟩
  item := by
    intro X hP hw hK hc i pins s σ H E I hf st hg
    subst hP hw hK
    obtain ⟨⟨old, he⟩, hit⟩ := st
    obtain ⟨xs, x, hq, hx⟩ := hg
    obtain ⟨its, rv, p, hz⟩ := I.list hq
    obtain ⟨u, hu, ru⟩ := rv.get hx
    have hel : e < s.heap.objs.size := Heap.lt_size he
    have hil : it < s.heap.objs.size := by obtain ⟨_, q, _⟩ := hit; exact Heap.lt_size q
    have hu' : its.toArray[i]? = some u := by simpa using hu
    refine wpAny_pyNext_enum_itemC (c := k + (i : Nat)) (n := its.toArray.size) (Draws.list (A := X.A.in1) (show X.A.in1.handled = none from I.ok.hd hc) it a hai its.toArray) he ⟨hit, p.isList⟩ (by simpa using (List.getElem?_eq_some_iff.mp hu).1) hei (by simp [hei, hea]) fun y h' tk hP ho st' hT hsz hk => ?_
    have : y = u := by rw [hu'] at hP; cases hP; rfl
    subst this
    obtain ⟨hit', _⟩ := st'
    refine ⟨_, rfl, wpAny_letOwnedTupleGo_enum (s := { s with heap := h', toks := tk + 1 }) ho fun h'' he' sb => ?_⟩
    have hT2 : h''.get? s.heap.objs.size = some { cls := .type "tuple", data := .seq #[.int (k + (i : Nat)) tk, y] } := (sb.2 _ (Nat.ne_of_gt hel)).trans hT
    have new : ObjOk X.prog X.w (upd H s.heap.objs.size (.tup [.int (k + (i : Nat)), x])) h'' s.heap.objs.size (.tup [.int (k + (i : Nat)), x]) :=
      ⟨by show 2 ≤ sizeLine; decide, [.int (k + (i : Nat)) tk, y], .cons ⟨_, rfl⟩ (.cons ru .nil), ⟨_, hT2, rfl, _, rfl⟩⟩
    have I1 : Inv X pins σ (upd H s.heap.objs.size (.tup [.int (k + (i : Nat)), x])) { s with heap := h'', toks := tk + 1 } :=
      I.turnedNew (ch := [e, it]) (fun b ob hb q => (sb.2 b (fun z => hb (by simp [z]))).trans (hk b ob (fun z => hb (by simp [z])) (fun z => hb (by simp [z])) q)) hf (Nat.le_refl _) new
    refine ⟨.ref s.heap.objs.size, _, I1, rfl, ⟨_, x, rfl, I.hok.fresh (Nat.le_refl _), rfl, fun ys hy => by rw [I.list_inj hy hq]; exact hx⟩, ⟨⟨y, ?_⟩, hit'.at fun o q => (sb.2 it (Ne.symm hei)).trans q⟩, fun b hb => ?_⟩
    · have e1 : k + ((i + 1 : Nat) : Int) = k + (i : Int) + 1 := by omega
      rw [e1]; exact he'
    · have hb' : b < s.heap.objs.size := by
        have e' : b = e ∨ b = it := by simpa using hb
        rcases e' with z | z
        · rw [z]; exact hel
        · rw [z]; exact hil
      rw [upd_ne (Nat.ne_of_lt hb')]
      exact (hf b hb).1
  done := by
    intro X hP hw hK hc i pins s σ H E I hf st hg
    subst hP hw hK
    obtain ⟨⟨old, he⟩, hit⟩ := st
    obtain ⟨xs, hq, hx⟩ := hg
    obtain ⟨its, rv, p, hz⟩ := I.list hq
    obtain ⟨f0, f1, f2, f3, f4, f5⟩ := hf it (by simp)
    have hl := rv.length
    have hT : s.TypeIs (.ref e) "enumerate" := ⟨_, he, rfl⟩
    unfold pyNext
    refine wpAny_bind (wpAny_attempt (wpAny_callSpecial?_slot (name := Str.ofString "__next__") hT F.slot_enumerate_next
      (wpAny_call_entry F.slot_enumerate_next hT F.entry_enumerate_next ?_ (F.args_enumerate_next_1 _))))
    show wpAny _ _ (field (.ref e) 2 >>= _) _ _ _
    refine wpAny_bind (wpAny_field he rfl (x := .ref it) rfl ?_)
    refine wpAny_bind (wpAny_nextOf_list_end (I.ok.hd hc) hit p.isList (by simp; omega) fun h' x eb hx' => ?_)
    obtain ⟨o, ho, hc'⟩ := hx'
    refine wpAny_bind (wpAny_isInstance (T := "StopIteration") (b := true) ⟨o, ho, hc'⟩ isSubtype_stop ?_)
    exact wpAny_pure ⟨rfl, I.turned (t' := s.toks) (fun b o hb q => eb b o hb q) f0 f1 f3 f4 f5⟩
  self := fun A i s Q E st h => let ⟨⟨_, he⟩, _⟩ := st; wpAny_pyIter_enum he h
section
variable {M : Model} {A : Around} {E : Value → Shared → Prop} {s : Shared} {env : Env}
theorem callWith_type_kw {pos : Pos} {T : String} {e : Expr} {rest : List Expr} {kws : List Keyword} {Q : Value → Shared → Prop}
    (h : wpAny M A (spliced (backTo pos (starEach (e :: rest) env))) (fun vs s₁ => wpAny M A (evalAll ((backToKw pos (keywordEach kws env)).map (·.2)))
      (fun kvs s₂ => wpAny M A (call (.type T) vs (((backToKw pos (keywordEach kws env)).filterMap (·.1)).zip kvs)) Q E s₂) E s₁) E s)
    (he : backTo pos (starEach (e :: rest) env) = (false, eval e env) :: backTo pos (starEach rest env) := by rfl)
    (hplain : (backTo pos (starEach (e :: rest) env)).any (·.1) = false := by rfl)
    (hall : (backToKw pos (keywordEach kws env)).all (·.1.isSome) = true := by rfl)
    (hkw : (backToKw pos (keywordEach kws env)).any (·.1.isNone) = false := by rfl) :
    wpAny M A (callWith pos (.type T) [] (backTo pos (starEach (e :: rest) env)) (backToKw pos (keywordEach kws env))) Q E s := by
  have h2 : wpAny M A (evalArgs (.type T) true (backTo pos (starEach (e :: rest) env)) (backToKw pos (keywordEach kws env))) (fun a s₁ => wpAny M A (call (.type T) ([] ++ a.pos) a.kw) Q E s₁) E s := by
    rw [he] at h ⊢
    exact evalArgs_kwB hall h
  unfold callWith
  refine wpAny_bind (wpAny_holding (wpAny_mono h2 (fun a s₁ h₁ => wpAny_bind (wpAny_standAt ?_)) fun _ _ x => x))
  simp only [hplain, hkw, Bool.or_false]
  refine wpAny_bind (wpAny_pure ?_)
  exact wpAny_bind (wpAny_mono h₁ (fun r s₂ hr => wpAny_bind (wpAny_holding (wpAny_point (wpAny_pure hr)))) fun _ _ x => x)
end
def iEnumK (K : PySem.W.Frag) (ta tk : TA) : TI := fun σ H R => ta σ H fun vs H1 => tk σ H1 fun zs H2 => ∃ a xs k, vs = [.ref a] ∧ zs = [.int k] ∧ -(2 ^ 63) ≤ k ∧ k < 2 ^ 63 ∧ SqL K H2 a xs ∧ R (IteK K a k) H2
theorem pi_enumK {X : Cx} {e : Expr} {kws : List Keyword} {ta tk : TA} {p pos tpos : Pos} {elts : List Expr} {kk : Nat} (hg : Gl X "enumerate") (hm : X.mg "enumerate" = none) (ha : PA X [e] ta) (hk : PK X kws tk)
    (he : backTo pos (starEach [e] X.env) = (false, eval e X.env) :: backTo pos (starEach [] X.env) := by rfl) (hpl : (backTo pos (starEach [e] X.env)).any (·.1) = false := by rfl)
    (hall : (backToKw pos (keywordEach kws X.env)).all (·.1.isSome) = true := by rfl) (hnone : (backToKw pos (keywordEach kws X.env)).any (·.1.isNone) = false := by rfl) (hks : (backToKw pos (keywordEach kws X.env)).filterMap (·.1) = [Str.ofString "start"] := by rfl) :
    PI X (.Tuple elts kk tpos) (.Call (.Name "enumerate" p) [e] kws pos) (iEnumK X.K ta tk) := by
  refine ⟨fun pins s σ H R I h => ?_⟩
  refine wpAny_Call_Name_kw (ld_blt I hg hm boot_enumerate ?_)
  refine callWith_type_kw (thn (ha.run pos pins s σ H _ I h) fun us s1 ⟨vs, H1, I1, r1, q1⟩ => thn (hk.run pos pins s1 σ H1 _ I1 q1) fun ws s2 ⟨zs, H2, I2, r2, q2⟩ => ?_) he hpl hall hnone
  rw [hks]
  obtain ⟨a, xs, k, ex, ez, hk0, hk1, hq, q⟩ := q2
  subst ex ez
  cases r1 with
  | cons r rr =>
    cases rr
    cases r
    cases r2 with
    | cons r2 rr =>
      cases rr
      obtain ⟨t, rfl⟩ := r2
      obtain ⟨its, rv, p', hz⟩ := I2.list hq
      have hal : a < s2.heap.objs.size := by obtain ⟨o, ho, _⟩ := p'.isList; exact Heap.lt_size ho
      refine enum_begins_start (begins_list a its.toArray) p'.isList hk0 hk1 fun h' he hit hsz hk => wpAny_pyIter_enum he ?_
      have I3 : Inv X pins σ H2 { s2 with heap := h' } := I2.kept (t' := s2.toks) hk
      refine ⟨s2.heap.objs.size + 1, [s2.heap.objs.size + 1, s2.heap.objs.size], _, _, H2, rfl, I3, turn_enumK a (s2.heap.objs.size + 1) s2.heap.objs.size k (Nat.succ_ne_self _) (Nat.ne_of_lt hal) (Nat.ne_of_gt (Nat.lt_succ_of_lt hal)), ⟨⟨.none, by simpa using he⟩, ⟨_, hit, rfl, rfl⟩⟩, fun b hb => ?_, q⟩
      have e' : b = s2.heap.objs.size + 1 ∨ b = s2.heap.objs.size := by simpa using hb
      have hle : s2.heap.objs.size ≤ b := by
        rcases e' with z | z
        · rw [z]; exact Nat.le_add_right _ _
        · rw [z]; exact Nat.le_refl _
      exact I2.fpOk hle (I2.hok.fresh hle)
section
variable {G : Gx} {xv : Nat → Value} {Wx : WX} {X : Cx} {H H' : Hp} {S S' : Sto} {r r' : Rh}
theorem iteK_ok {a : Addr} {k : Int} {ws : List W} {vs : List V} (hs : ∀ H1 S1 r1, Mp H S r H1 S1 r1 → SqL G.K H1 a vs) (q : RWs G H S r ws vs) : ItOk G H S r (IteK G.K a k) (enumFrom k ws) where
  go := fun H1 S1 r1 e rl i w hw => by
    obtain ⟨x, hx, _⟩ := enumFrom_get hw
    obtain ⟨v, h1, _⟩ := q.get hx
    exact ⟨vs, v, hs H1 S1 r1 e, h1⟩
  yld := fun H1 S1 r1 e rl i w hw x H2 hy => by
    obtain ⟨y, hx, rfl⟩ := enumFrom_get hw
    obtain ⟨v, h1, h2⟩ := q.get hx
    obtain ⟨T, x1, rfl, nT, rfl, f⟩ := hy
    have := f vs (hs _ S1 r1 e)
    rw [h1] at this
    cases this
    refine ⟨Ev.fresh nT rl, rl.fresh nT, .tup (.inl (Own.new nT rl)) (.cons ?_ (.cons ((h2.mp e).ev (Ev.fresh nT rl)) .nil))⟩
    exact .int _
  stop := fun H1 S1 r1 e rl i hi => ⟨vs, hs H1 S1 r1 e, by rw [← q.length]; rw [enumFrom_length] at hi; exact hi⟩
def dEnumK (d dk : DA) : DA := fun t S => (d t S).bind fun ws S1 => (dk t S1).bind fun us S2 => match ws, us with
  | [.lst l], [.int k] => if 0 ≤ k ∧ k < 1000000 then .ok (enumFrom k l) S2 else .no
  | _, _ => .no
theorem di_enumK {e : Expr} {kws : List Keyword} {d dk : DA} {p pos tpos : Pos} {elts : List Expr} {kk : Nat} (c : Cok G X Wx) (ha : PA X [e] (toA G xv Wx d)) (hk : PK X kws (toA G xv Wx dk)) (hm : X.mg "enumerate" = none) (hg : Gl X "enumerate" := by rfl)
    (he : backTo pos (starEach [e] X.env) = (false, eval e X.env) :: backTo pos (starEach [] X.env) := by rfl) (hpl : (backTo pos (starEach [e] X.env)).any (·.1) = false := by rfl)
    (hall : (backToKw pos (keywordEach kws X.env)).all (·.1.isSome) = true := by rfl) (hnone : (backToKw pos (keywordEach kws X.env)).any (·.1.isNone) = false := by rfl) (hks : (backToKw pos (keywordEach kws X.env)).filterMap (·.1) = [Str.ofString "start"] := by rfl) :
    PI X (.Tuple elts kk tpos) (.Call (.Name "enumerate" p) [e] kws pos) (toI G xv Wx (dEnumK d dk)) := PIi (pi_enumK hg hm ha hk he hpl hall hnone hks) fun s H Q ⟨r, t, S, l, rl, o⟩ => toX.bind l rl o fun ws S1 r1 H1 vs _ e1 rl1 l1 q o1 => toX.bind l1 rl1 o1 fun us S2 r2 H2 zs _ e2 rl2 l2 q2 o2 => by
  cases q with
  | nil => exact o2.elim
  | @cons w ws v vs a q =>
    cases q with
    | cons _ _ => cases w <;> exact o2.elim
    | nil =>
      cases q2 with
      | nil => cases w <;> exact o2.elim
      | @cons w2 ws2 v2 vs2 a2 q2 =>
        cases q2 with
        | cons _ _ => cases w <;> cases w2 <;> exact o2.elim
        | nil =>
          rw [c.kk]
          cases w with
          | lst us =>
            cases w2 with
            | int k =>
              simp only [] at o2
              split at o2
              · rename_i hk
                cases a2
                cases a with
                | lst ow q => 
                  have ow2 := e2.mp.own _ _ ow
                  exact ⟨_, _, k, rfl, rfl, by omega, by omega, .inl (.inl ow2.1), o2 r2 H2 _ .refl rl2 (iteK_ok (fun H3 S3 r3 e3 => .inl (.inl (e3.own _ _ ow2).1)) (q.ev e2))⟩
              · exact o2.elim
            | _ => exact o2.elim
          | _ => cases w2 <;> exact o2.elim
end
end DD
namespace U
end U
namespace Zk72
open PySem PySem.Spec PyProof.Rows L2 DD U
def topS (i : Nat) : Stmt := PySem.Challenge.pw_steppedtests_k72_web_written_and_read.main.body.getD i (.Pass ⟨0, 0, 0, 0⟩)
abbrev s_l_draw : Stmt := topS 31
abbrev s_l_pool : Stmt := topS 30
abbrev s_l_word : Stmt := topS 35
abbrev s_Web_eq : Stmt := inClass (topS 18) 5
abbrev s_written_position : Stmt := topS 23
abbrev s_repeats : Stmt := topS 15
abbrev s_plain_number : Stmt := topS 22
abbrev s_questions_of : Stmt := topS 16
abbrev s_good_target : Stmt := topS 13
abbrev s_l_names : Stmt := topS 32
abbrev s_write_web : Stmt := topS 25
abbrev s_l_target : Stmt := topS 33
abbrev s_asked_behind : Stmt := topS 17
abbrev s_good_node : Stmt := topS 14
abbrev s_read_position : Stmt := topS 24
abbrev s_l_nodes : Stmt := topS 34
abbrev s_Web_init : Stmt := inClass (topS 18) 0
abbrev s_read_head : Stmt := topS 26
abbrev s_read_node : Stmt := topS 27
abbrev s_read_web : Stmt := topS 28
abbrev s_law : Stmt := topS 36
abbrev s_BadLine_init : Stmt := inClass (topS 9) 0
abbrev s_BadEnds_init : Stmt := inClass (topS 3) 0
abbrev s_BadNode_init : Stmt := inClass (topS 4) 0
abbrev s_BadStart_init : Stmt := inClass (topS 5) 0
abbrev s_TwiceAsked_init : Stmt := inClass (topS 6) 0
def dd_l_draw : He.DefD := ⟨("_law_draw", none), "_law_draw", "_law_draw", defArgs s_l_draw, defBody s_l_draw, defScope s_l_draw, [], []⟩
def dd_l_pool : He.DefD := ⟨("_law_pool", none), "_law_pool", "_law_pool", defArgs s_l_pool, defBody s_l_pool, defScope s_l_pool, [], []⟩
def dd_l_word : He.DefD := ⟨("_law_word", none), "_law_word", "_law_word", defArgs s_l_word, defBody s_l_word, defScope s_l_word, [], []⟩
def dd_Web_eq : He.DefD := ⟨("Web", some "__eq__"), "__eq__", "Web.__eq__", defArgs s_Web_eq, defBody s_Web_eq, defScope s_Web_eq, [], []⟩
def dd_written_position : He.DefD := ⟨("written_position", none), "written_position", "written_position", defArgs s_written_position, defBody s_written_position, defScope s_written_position, [], []⟩
def dd_repeats : He.DefD := ⟨("repeats", none), "repeats", "repeats", defArgs s_repeats, defBody s_repeats, defScope s_repeats, [], []⟩
def dd_plain_number : He.DefD := ⟨("plain_number", none), "plain_number", "plain_number", defArgs s_plain_number, defBody s_plain_number, defScope s_plain_number, [], []⟩
def dd_questions_of : He.DefD := ⟨("questions_of", none), "questions_of", "questions_of", defArgs s_questions_of, defBody s_questions_of, defScope s_questions_of, [], []⟩
def dd_good_target : He.DefD := ⟨("good_target", none), "good_target", "good_target", defArgs s_good_target, defBody s_good_target, defScope s_good_target, [], []⟩
def dd_l_names : He.DefD := ⟨("_law_names", none), "_law_names", "_law_names", defArgs s_l_names, defBody s_l_names, defScope s_l_names, [], []⟩
def dd_write_web : He.DefD := ⟨("write_web", none), "write_web", "write_web", defArgs s_write_web, defBody s_write_web, defScope s_write_web, [], []⟩
def dd_l_target : He.DefD := ⟨("_law_target", none), "_law_target", "_law_target", defArgs s_l_target, defBody s_l_target, defScope s_l_target, [], []⟩
def dd_asked_behind : He.DefD := ⟨("asked_behind", none), "asked_behind", "asked_behind", defArgs s_asked_behind, defBody s_asked_behind, defScope s_asked_behind, [], []⟩
def dd_good_node : He.DefD := ⟨("good_node", none), "good_node", "good_node", defArgs s_good_node, defBody s_good_node, defScope s_good_node, [], []⟩
def dd_read_position : He.DefD := ⟨("read_position", none), "read_position", "read_position", defArgs s_read_position, defBody s_read_position, defScope s_read_position, [], []⟩
def dd_l_nodes : He.DefD := ⟨("_law_nodes", none), "_law_nodes", "_law_nodes", defArgs s_l_nodes, defBody s_l_nodes, defScope s_l_nodes, [], []⟩
def dd_Web_init : He.DefD := ⟨("Web", some "__init__"), "__init__", "Web.__init__", defArgs s_Web_init, defBody s_Web_init, defScope s_Web_init, [], [("start", .non)]⟩
def dd_read_head : He.DefD := ⟨("read_head", none), "read_head", "read_head", defArgs s_read_head, defBody s_read_head, defScope s_read_head, [], []⟩
def dd_read_node : He.DefD := ⟨("read_node", none), "read_node", "read_node", defArgs s_read_node, defBody s_read_node, defScope s_read_node, [], []⟩
def dd_read_web : He.DefD := ⟨("read_web", none), "read_web", "read_web", defArgs s_read_web, defBody s_read_web, defScope s_read_web, [], []⟩
def dd_law : He.DefD := ⟨("law", none), "law", "law", defArgs s_law, defBody s_law, defScope s_law, [], []⟩
def dd_BadLine_init : He.DefD := ⟨("BadLine", some "__init__"), "__init__", "BadLine.__init__", defArgs s_BadLine_init, defBody s_BadLine_init, defScope s_BadLine_init, [], []⟩
def dd_BadEnds_init : He.DefD := ⟨("BadEnds", some "__init__"), "__init__", "BadEnds.__init__", defArgs s_BadEnds_init, defBody s_BadEnds_init, defScope s_BadEnds_init, [], []⟩
def dd_BadNode_init : He.DefD := ⟨("BadNode", some "__init__"), "__init__", "BadNode.__init__", defArgs s_BadNode_init, defBody s_BadNode_init, defScope s_BadNode_init, [], []⟩
def dd_BadStart_init : He.DefD := ⟨("BadStart", some "__init__"), "__init__", "BadStart.__init__", defArgs s_BadStart_init, defBody s_BadStart_init, defScope s_BadStart_init, [], []⟩
def dd_TwiceAsked_init : He.DefD := ⟨("TwiceAsked", some "__init__"), "__init__", "TwiceAsked.__init__", defArgs s_TwiceAsked_init, defBody s_TwiceAsked_init, defScope s_TwiceAsked_init, [], []⟩
def fn : List He.DefD := [dd_l_draw, dd_l_pool, dd_l_word, dd_Web_eq, dd_written_position, dd_repeats, dd_plain_number, dd_questions_of, dd_good_target, dd_l_names, dd_write_web, dd_l_target, dd_asked_behind, dd_good_node, dd_read_position, dd_l_nodes, dd_Web_init, dd_read_head, dd_read_node, dd_read_web, dd_law, dd_BadLine_init, dd_BadEnds_init, dd_BadNode_init, dd_BadStart_init, dd_TwiceAsked_init]
def fa : List He.Fa := [.free "abs", .free "all", .free "enumerate", .free "int", .free "isinstance", .free "len", .free "min", .free "range", .free "str", .free "tuple", .str "DIGITS" "0123456789", .int "MOST_DIGITS" 4, .int "MOST_ENDS" 60, .int "QUESTIONS" 48, .glo "_law_draw", .glo "_law_pool", .glo "_law_word", .glo "written_position", .glo "repeats", .glo "plain_number", .glo "questions_of", .glo "good_target", .glo "_law_names", .glo "write_web", .glo "_law_target", .glo "asked_behind", .glo "good_node", .glo "read_position", .glo "_law_nodes", .glo "read_head", .glo "read_node", .glo "read_web", .glo "law", .glo "BadEnds", .glo "BadLine", .glo "BadNode", .glo "BadStart", .glo "TwiceAsked", .glo "Web", .cls "Web", .noat "Web" "behind", .noat "Web" "ends", .noat "Web" "nodes", .noat "Web" "start", .meth "Web" "__eq__", .mkr "Web"]
def cm (K : PySem.W.Frag) : Nat → Addr
  | 0 => He.ga K "TestError"
  | 1 => He.ga K "BadEnds"
  | 2 => He.ga K "BadNode"
  | 3 => He.ga K "BadStart"
  | 4 => He.ga K "TwiceAsked"
  | 5 => He.ga K "NoNode"
  | 6 => He.ga K "NoPosition"
  | 26 => He.ga K "BadLine"
  | 30 => He.ga K "Web"
  | _ => 0
def xv (K : PySem.W.Frag) : Nat → Value := fun i => .ref (cm K i)
def exK (K : PySem.W.Frag) : Bool := decide (PySem.W.kitOne K (.type "NoneType") (.ref (cm K 30)) = some false) && decide (PySem.W.kitOne K (.type "bool") (.ref (cm K 30)) = some false) && decide (PySem.W.kitOne K (.type "int") (.ref (cm K 30)) = some false) && decide (PySem.W.kitOne K (.type "str") (.ref (cm K 30)) = some false) && decide (PySem.W.kitOne K (.type "tuple") (.ref (cm K 30)) = some false) && decide (PySem.W.kitOne K (.type "list") (.ref (cm K 30)) = some false) && decide (PySem.W.kitOne K (.type "dict") (.ref (cm K 30)) = some false) && decide (PySem.W.kitOne K (.ref (cm K 30)) (.ref (cm K 30)) = some true) && decide (PySem.W.findIn K (.ref (cm K 30)) "__class__" = some (some (.builtin "object.__class__"))) && decide (PySem.W.mroIn K (cm K 30) (.type "object") = some true) && decide (PySem.W.specialIn K (.builtin "object.__class__") "__get__" = some (some (.builtin "getset_descriptor.__get__"))) && decide (PySem.W.takesIn K (.builtin "object.__class__") = some true) && decide (oexB K (cm K 26) = true) && decide (PySem.W.findIn K (.ref (cm K 26)) "__init__" = some (some (.ref (He.fAd K ("BadLine", some "__init__"))))) && decide (PySem.W.typeIn K (.ref (He.fAd K ("BadLine", some "__init__"))) = some (.type "function")) && decide (oexB K (cm K 1) = true) && decide (PySem.W.findIn K (.ref (cm K 1)) "__init__" = some (some (.ref (He.fAd K ("BadEnds", some "__init__"))))) && decide (PySem.W.typeIn K (.ref (He.fAd K ("BadEnds", some "__init__"))) = some (.type "function")) && decide (oexB K (cm K 2) = true) && decide (PySem.W.findIn K (.ref (cm K 2)) "__init__" = some (some (.ref (He.fAd K ("BadNode", some "__init__"))))) && decide (PySem.W.typeIn K (.ref (He.fAd K ("BadNode", some "__init__"))) = some (.type "function")) && decide (oexB K (cm K 3) = true) && decide (PySem.W.findIn K (.ref (cm K 3)) "__init__" = some (some (.ref (He.fAd K ("BadStart", some "__init__"))))) && decide (PySem.W.typeIn K (.ref (He.fAd K ("BadStart", some "__init__"))) = some (.type "function")) && decide (oexB K (cm K 4) = true) && decide (PySem.W.findIn K (.ref (cm K 4)) "__init__" = some (some (.ref (He.fAd K ("TwiceAsked", some "__init__"))))) && decide (PySem.W.typeIn K (.ref (He.fAd K ("TwiceAsked", some "__init__"))) = some (.type "function")) && decide (PySem.W.findIn K (.ref (cm K 1)) "count" = some none) && decide (PySem.W.findIn K (.ref (cm K 26)) "line" = some none) && decide (PySem.W.findIn K (.ref (cm K 2)) "index" = some none) && decide (PySem.W.findIn K (.ref (cm K 3)) "place" = some none) && decide (PySem.W.findIn K (.ref (cm K 4)) "index" = some none)
end Zk72
namespace Zk72
open PySem PySem.Spec PyProof.Rows L2 DD PySem.W PySem.Calls
abbrev RR : PySem.W.OpenRow := PySem.W.OpenLaw.row PySem.Challenge.rw_steppedtests_k72_web_written_and_read
def asL : List Addr := List.range 1024
abbrev hk : PySem.W.Hook := DD.hookA asL fa fn [] exK
def ob (s : PySem.W.SharedT) : He.AlT × Bool := DD.obA asL fa fn [] exK (HandSHeadRun.getT s)
theorem ob_eq (s : PySem.W.SharedT) : ob s = hk.obs s.abs := DD.obA_eq s
def loose : List PySem.Str := (["_wall", "TestError", "BadEnds", "BadNode", "BadStart", "TwiceAsked", "NoNode", "NoPosition", "BadLine", "MOST_ENDS", "QUESTIONS", "good_target", "good_node", "repeats", "questions_of", "asked_behind", "Web", "DIGITS", "MOST_DIGITS", "plain_number", "written_position", "read_position", "write_web", "read_head", "read_node", "read_web", "_law_pool", "_law_draw", "_law_names", "_law_target"] : List PySem.Str) ++ (["_law_nodes", "_law_word"] : List PySem.Str)
set_option maxHeartbeats 0 in
theorem run_a (w : World) (os : OsState) : (HandSHeadRun.endF (HandSHeadRun.stepQ (HandSHeadRun.denQ HandSHeadRun.tabQ) RR.prog w) 20000 RR.prog w os).map (fun s => (HandSHeadRun.looksF RR.prog (boot_heap w.params) s.abs, HandSHeadRun.seenQ (PySem.W.view RR.prog [36]) loose (importedModules RR.prog.main.body) (fun s => PySem.W.xlAt (PySem.W.view RR.prog [36]) [] s && PySem.W.recOk RR.toRowW.records s) s.abs)) = some (true, PySem.W.openGood (PySem.W.view RR.prog [36]) loose) := by
  kernel_rfl
set_option maxHeartbeats 0 in
theorem run_b (w : World) (os : OsState) : (HandSHeadRun.endF (HandSHeadRun.stepQ (HandSHeadRun.denQ HandSHeadRun.tabQ) RR.prog w) 20000 RR.prog w os).map (fun s => He.obsT fa fn [] (He.frT (HandSHeadRun.getT s) asL)) = some (He.valT fn [] w) := by
  kernel_rfl
set_option maxHeartbeats 0 in
theorem run_c (w : World) (os : OsState) : (HandSHeadRun.endF (HandSHeadRun.stepQ (HandSHeadRun.denQ HandSHeadRun.tabQ) RR.prog w) 20000 RR.prog w os).map (fun s => exK (He.frT (HandSHeadRun.getT s) asL) && He.tabsB (HandSHeadRun.getT s) [] (He.frT (HandSHeadRun.getT s) asL)) = some true := by
  kernel_rfl
theorem run (w : World) : HandSHeadRun.RunEq RR (PySem.W.view RR.prog [36]) hk ob 20000 loose w := fun os => DD.run_all (run_a w os) (run_b w os) (run_c w os)
end Zk72
namespace U
open PySem L2 DD
def aw_Web_2_start : List W → List W → List W := fun ws zs => match ws, zs with
  | [a0, a1], [b0] => [a0, a1, b0]
  | _, _ => []
noncomputable def b_l_draw : DS :=
    (dSeq (dAsg (dOp addD (dOp ixD (dVar 0) (dC (.int 1))) (dC (.int 1))) (gIx (dVar 0) (dC (.int 1))))
    (dSeq (dIfS (dtAnd (dTest (dOp eqD (dOp ixD (dVar 0) (dC (.int 3))) (dC (.int 0)))) (dTest (dOp iLt (dOp ixD (dVar 0) (dC (.int 2))) (dBi lenF (dCons (dOp ixD (dVar 0) (dC (.int 0))) dNil)))))
    (dSeq (dAsg (dBi absF (dCons (dOp ixD (dOp ixD (dVar 0) (dC (.int 0))) (dOp ixD (dVar 0) (dC (.int 2)))) dNil)) (gN 3))
    (dSeq (dAsg (dOp addD (dOp ixD (dVar 0) (dC (.int 2))) (dC (.int 1))) (gIx (dVar 0) (dC (.int 2))))
    (dIfS (dTest (dOp iGe (dVar 3) (dOp iPow (dC (.int 10)) (dC (.int 18)))))
    (dAsg (dVar 3) (gIx (dVar 0) (dC (.int 3))))
    (dAsg (dOp iMod (dBi intF (dCons (dOp (mulD false) (dOp addD (dOp addD (dOp ixD (dVar 0) (dC (.int 4))) (dVar 3)) (dC (.int 1))) (dC (.int 48271))) dNil)) (dC (.int 2147483629))) (gIx (dVar 0) (dC (.int 4)))))))
    dNext)
    (dSeq (dIfS (dTest (dOp iGt (dOp ixD (dVar 0) (dC (.int 3))) (dC (.int 0))))
    (dSeq (dAsg (dOp iMod (dBi intF (dCons (dOp ixD (dVar 0) (dC (.int 3))) dNil)) (dVar 1)) (gN 4))
    (dSeq (dAsg (dOp iDiv (dOp ixD (dVar 0) (dC (.int 3))) (dVar 1)) (gIx (dVar 0) (dC (.int 3))))
    (dRet (dVar 4))))
    dNext)
    (dSeq (dAsg (dOp iMod (dBi intF (dCons (dOp iPow (dOp addD (dOp ixD (dVar 0) (dC (.int 4))) (dOp (mulD false) (dOp ixD (dVar 0) (dC (.int 1))) (dC (.int 7919)))) (dC (.int 3))) dNil)) (dC (.int 2147483647))) (gN 2))
    (dRet (dOp iMod (dBi intF (dCons (dOp iDiv (dVar 2) (dC (.int 16))) dNil)) (dVar 1)))))))
noncomputable def fn_l_draw : Fn := gcF (dFn 5 b_l_draw)
noncomputable def b_l_pool : DS :=
    (dRet (dNewL (dCons (dVar 0) (dCons (dC (.int 0)) (dCons (dC (.int 0)) (dCons (dC (.int 0)) (dCons (dC (.int 7)) dNil)))))))
noncomputable def fn_l_pool : Fn := dFn 1 b_l_pool
noncomputable def b_Web_eq : DS :=
    (dSeq (dIfS (dtNot (dTru (dBi (isiF (isi1 30)) (dCons (dVar 1) (dCons (dC (.cls 30)) dNil)))))
    (dRet (dC (.bl false)))
    dNext)
    (dRet (dAndT (dOp eqD (dFld [30] "nodes" (dVar 0)) (dFld [30] "nodes" (dVar 1))) (dAndT (dOp eqD (dFld [30] "ends" (dVar 0)) (dFld [30] "ends" (dVar 1))) (dOp eqD (dFld [30] "start" (dVar 0)) (dFld [30] "start" (dVar 1)))))))
noncomputable def fn_Web_eq : Fn := gcF (dFn 2 b_Web_eq)
noncomputable def b_repeats_l0 : DS :=
    (dIfS (dTest (dOp iGe (dVar 5) (dC (.int 0))))
    (dAug 4 iOr (dOp ixD (dVar 1) (dVar 5)))
    dNext)
noncomputable def b_repeats_l1 : DS :=
    (dSeq (dAsg (dOp ixD (dVar 0) (dVar 3)) (gStar 1 (gsCons (gN 6) (gsCons (gN 7) gsNil))))
    (dSeq (dAsg (dC (.int 0)) (gN 4))
    (dSeq (dFor (dSeqI (dVar 7)) (gN 5)
    b_repeats_l0)
    (dSeq (dIfS (dTest (dOp eqD (dOp iAnd (dOp iShr (dVar 4) (dVar 6)) (dC (.int 1))) (dC (.int 1))))
    (dAsg (dVar 3) (gN 2))
    dNext)
    (dAsg (dOp iOr (dVar 4) (dOp iShl (dC (.int 1)) (dVar 6))) (gIx (dVar 1) (dVar 3)))))))
noncomputable def b_repeats : DS :=
    (dSeq (dAsg (dOp (mulD true) (dLst (dCons (dC (.int 0)) dNil)) (dBi lenF (dCons (dVar 0) dNil))) (gN 1))
    (dSeq (dAsg (dC .non) (gN 2))
    (dSeq (dFor (dRangeD (dCons (dOp iSub (dBi lenF (dCons (dVar 0) dNil)) (dC (.int 1))) (dCons (dNeg (dC (.int 1))) (dCons (dNeg (dC (.int 1))) dNil)))) (gN 3)
    b_repeats_l1)
    (dRet (dVar 2)))))
noncomputable def fn_repeats : Fn := gcF (dFn 8 b_repeats)
noncomputable def b_questions_of : DS :=
    (dRet (dBi tupleF (dCons (dLc (dRange1 (dCons (dC (.int 48)) dNil)) (.nm 1) (dTest (dOp eqD (dOp iAnd (dOp iShr (dVar 0) (dVar 1)) (dC (.int 1))) (dC (.int 1)))) (dVar 1) [1]) dNil)))
noncomputable def fn_questions_of : Fn := gcF (dFn 2 b_questions_of)
noncomputable def b_good_target : DS :=
    (dSeq (dIfS (dTest (dOp iLt (dVar 0) (dC (.int 0))))
    (dRet (dOp iLt (dOp iSub (dNeg (dC (.int 1))) (dVar 0)) (dVar 3)))
    dNext)
    (dRet (dChain iLt iLt (dVar 1) (dVar 0) (dVar 2))))
noncomputable def fn_good_target : Fn := gcF (dFn 4 b_good_target)
noncomputable def b_l_names_l0 : DS :=
    (dSeq (dAsg (dCall fn_l_draw (dCons (dVar 0) (dCons (dC (.int 48)) dNil))) (gN 4))
    (dIfS (dTest (dOp notInD (dVar 4) (dVar 2)))
    (dDrop (dMt appendM (dVar 2) (dCons (dVar 4) dNil)))
    dNext))
noncomputable def b_l_names : DS :=
    (dSeq (dAsg (dNewL dNil) (gN 2))
    (dSeq (dFor (dRange1 (dCons (dOp addD (dC (.int 1)) (dCall fn_l_draw (dCons (dVar 0) (dCons (dVar 1) dNil)))) dNil)) (gN 3)
    b_l_names_l0)
    (dRet (dFrz (dVar 2)))))
noncomputable def fn_l_names : Fn := gcF (dFn 5 b_l_names)
noncomputable def b_l_target : DS :=
    (dSeq (dIfS (dtAnd (dTest (dOp iLt (dOp addD (dVar 1) (dC (.int 1))) (dVar 2))) (dTest (dOp iGt (dCall fn_l_draw (dCons (dVar 0) (dCons (dC (.int 4)) dNil))) (dC (.int 0)))))
    (dSeq (dAsg (dOp iSub (dOp iSub (dVar 2) (dC (.int 1))) (dVar 1)) (gN 4))
    (dSeq (dIfS (dTest (dOp iGt (dCall fn_l_draw (dCons (dVar 0) (dCons (dC (.int 3)) dNil))) (dC (.int 0))))
    (dAsg (dBi min2F (dCons (dC (.int 4)) (dCons (dBi intF (dCons (dVar 4) dNil)) dNil))) (gN 4))
    dNext)
    (dRet (dOp addD (dOp addD (dVar 1) (dC (.int 1))) (dCall fn_l_draw (dCons (dVar 0) (dCons (dVar 4) dNil)))))))
    dNext)
    (dRet (dOp iSub (dNeg (dC (.int 1))) (dCall fn_l_draw (dCons (dVar 0) (dCons (dVar 3) dNil))))))
noncomputable def fn_l_target : Fn := gcF (dFn 5 b_l_target)
noncomputable def b_asked_behind_l0 : DS :=
    (dIfS (dTest (dOp iGe (dVar 4) (dC (.int 0))))
    (dAug 3 iOr (dOp ixD (dVar 1) (dVar 4)))
    dNext)
noncomputable def b_asked_behind_l1 : DS :=
    (dSeq (dAsg (dOp iShl (dC (.int 1)) (dOp ixD (dOp ixD (dVar 0) (dVar 2)) (dC (.int 0)))) (gN 3))
    (dSeq (dFor (dSeqI (dSl (dOp ixD (dVar 0) (dVar 2)) (dPart (dC (.int 1))) (dPart (dC (.int 3))))) (gN 4)
    b_asked_behind_l0)
    (dAsg (dVar 3) (gIx (dVar 1) (dVar 2)))))
noncomputable def b_asked_behind : DS :=
    (dSeq (dAsg (dOp (mulD true) (dLst (dCons (dC (.int 0)) dNil)) (dBi lenF (dCons (dVar 0) dNil))) (gN 1))
    (dSeq (dFor (dRangeD (dCons (dOp iSub (dBi lenF (dCons (dVar 0) dNil)) (dC (.int 1))) (dCons (dNeg (dC (.int 1))) (dCons (dNeg (dC (.int 1))) dNil)))) (gN 2)
    b_asked_behind_l1)
    (dRet (dLcR (dSeqR (dVar 1)) (.nm 3) dYes (dCall fn_questions_of (dCons (dVar 3) dNil)) [3]))))
noncomputable def fn_asked_behind : Fn := gcF (dFn 5 b_asked_behind)
noncomputable def b_good_node : DS :=
    (dSeq (dIfS (dtOr (dTest (dOp notInD (dBi lenF (dCons (dVar 0) dNil)) (dTup (dCons (dC (.int 3)) (dCons (dC (.int 4)) dNil))))) (dtNot (dTest (dChain iLe iLt (dC (.int 0)) (dOp ixD (dVar 0) (dC (.int 0))) (dC (.int 48))))))
    (dRet (dC (.bl false)))
    dNext)
    (dRet (dBi allF (dCons (dLc (dSeqI (dSl (dVar 0) (dPart (dC (.int 1))) dNoP)) (.nm 4) dYes (dCall fn_good_target (dCons (dVar 4) (dCons (dVar 1) (dCons (dVar 2) (dCons (dVar 3) dNil))))) [4]) dNil))))
noncomputable def fn_good_node : Fn := gcF (dFn 5 b_good_node)
noncomputable def b_l_nodes_l0 : DS :=
    (dIfS (dTest (dOp iGe (dVar 12) (dC (.int 0))))
    (dAsg (dOp addD (dVar 11) (dOp ixD (dVar 6) (dOp iSub (dOp iSub (dVar 12) (dVar 8)) (dC (.int 1))))) (gN 11))
    dNext)
noncomputable def b_l_nodes_l1 : DS :=
    (dSeq (dAsg (dOp iSub (dOp iSub (dVar 1) (dC (.int 1))) (dVar 7)) (gN 8))
    (dSeq (dAsg (dOp addD (dC (.int 2)) (dBi intF (dCons (dAndT (dVar 4) (dOp eqD (dCall fn_l_draw (dCons (dVar 0) (dCons (dC (.int 3)) dNil))) (dC (.int 0)))) dNil))) (gN 9))
    (dSeq (dAsg (dLc (dRange1 (dCons (dVar 9) dNil)) (.nm 15) dYes (dCall fn_l_target (dCons (dVar 0) (dCons (dVar 8) (dCons (dVar 1) (dCons (dVar 2) dNil))))) [15]) (gN 10))
    (dSeq (dAsg (dLst dNil) (gN 11))
    (dSeq (dFor (dSeqI (dVar 10)) (gN 12)
    b_l_nodes_l0)
    (dSeq (dAsg (dLcA (dVar 3) (.nm 16) (dTest (dOp notInD (dVar 16) (dVar 11))) (dVar 16) [16]) (gN 13))
    (dSeq (dIfS (dTest (dOp eqD (dVar 13) (dLst dNil)))
    (dSeq (dAsg (dLc (dRange1 (dCons (dVar 9) dNil)) (.nm 15) dYes (dOp iSub (dNeg (dC (.int 1))) (dCall fn_l_draw (dCons (dVar 0) (dCons (dVar 2) dNil)))) [15]) (gN 10))
    (dSeq (dAsg (dLst dNil) (gN 11))
    (dAsg (dVar 3) (gN 13))))
    dNext)
    (dSeq (dAsg (dOp ixD (dVar 13) (dCall fn_l_draw (dCons (dVar 0) (dCons (dBi lenF (dCons (dVar 13) dNil)) dNil)))) (gN 14))
    (dSeq (dDrop (dMt insertM (dVar 5) (dCons (dC (.int 0)) (dCons (dBi tupleF (dCons (dOp addD (dLst (dCons (dVar 14) dNil)) (dVar 10)) dNil)) dNil))))
    (dDrop (dMt insertM (dVar 6) (dCons (dC (.int 0)) (dCons (dOp addD (dVar 11) (dLst (dCons (dVar 14) dNil))) dNil)))))))))))))
noncomputable def b_l_nodes : DS :=
    (dSeq (dAsg (dNewL dNil) (gN 5))
    (dSeq (dAsg (dNewL dNil) (gN 6))
    (dSeq (dFor (dRange1 (dCons (dVar 1) dNil)) (gN 7)
    b_l_nodes_l1)
    (dRet (dFrz (dVar 5))))))
noncomputable def fn_l_nodes : Fn := gcF (dFn 17 b_l_nodes)
noncomputable def b_Web_init_l0 : DS :=
    (dIfS (dtNot (dTru (dCall fn_good_node (dCons (dVar 7) (dCons (dVar 6) (dCons (dBi lenF (dCons (dVar 4) dNil)) (dCons (dVar 2) dNil)))))))
    (dRaise1 2 "index" (dVar 6))
    dNext)
noncomputable def b_Web_init : DS :=
    (dSeq (dAsg (dBi tupleF (dCons (dLcA (dVar 1) (.nm 7) dYes (dBi tupleF (dCons (dVar 7) dNil)) [7]) dNil)) (gN 4))
    (dSeq (dIfS (dtNot (dTest (dChain iLe iLe (dC (.int 1)) (dVar 2) (dC (.int 60)))))
    (dRaise1 1 "count" (dVar 2))
    dNext)
    (dSeq (dFor (dEnumA (dCons (dVar 4) dNil)) (gTp 2 (gsCons (gN 6) (gsCons (gN 7) gsNil)))
    b_Web_init_l0)
    (dSeq (dIfS (dTest (isNone false (dVar 3)))
    (dAsg (dIf (dTru (dVar 4)) (dC (.int 0)) (dNeg (dC (.int 1)))) (gN 3))
    dNext)
    (dSeq (dIfS (dtNot (dTest (dChain iLt iLt (dOp iSub (dNeg (dC (.int 1))) (dVar 2)) (dVar 3) (dBi lenF (dCons (dVar 4) dNil)))))
    (dRaise1 3 "place" (dVar 3))
    dNext)
    (dSeq (dAsg (dCall fn_repeats (dCons (dVar 4) dNil)) (gN 5))
    (dSeq (dIfS (dTest (isNone true (dVar 5)))
    (dRaise1 4 "index" (dVar 5))
    dNext)
    (dSeq (dSetF [30] "nodes" (dVar 0) (dVar 4))
    (dSeq (dSetF [30] "ends" (dVar 0) (dVar 2))
    (dSeq (dSetF [30] "start" (dVar 0) (dVar 3))
    (dSetF [30] "behind" (dVar 0) (dCall fn_asked_behind (dCons (dVar 4) dNil)))))))))))))
noncomputable def fn_Web_init : Fn := gcF (dFn 8 b_Web_init)
end U
namespace SP
/-! a promise, at a call's result -/
theorem aq0 {α : Type} {a d r : α} (hd : a = d) (h : a = r) : d = r := hd ▸ h
theorem aq1 {α β : Type} {a d : α} {f : β → α} (hd : a = d) (h : ∃ x, a = f x) : ∃ x, d = f x := hd ▸ h
theorem at2 {α β γ : Type} {a d : α} {f : β → γ → α} {p : β → γ → Prop} (hd : a = d) (h : ∃ x y, a = f x y ∧ p x y) : ∃ x y, d = f x y ∧ p x y := hd ▸ h
theorem at3 {α β γ δ : Type} {a d : α} {f : β → γ → δ → α} {p : β → γ → δ → Prop} (hd : a = d) (h : ∃ x y z, a = f x y z ∧ p x y z) : ∃ x y z, d = f x y z ∧ p x y z := hd ▸ h
end SP
namespace SP
open PySem L2 DD U
/-! ### the pool -/
/-- a drawing list that has been asked at most k times -/
def Pol (k : Nat) (P : O) : Prop := ∃ (ns : List Int) (c i b m : Int), P = .lst [.scr (ns.map W.int), .int c, .int i, .int b, .int m] ∧ 0 ≤ c ∧ c ≤ k ∧ 0 ≤ i ∧ 0 ≤ b ∧ 0 ≤ m ∧ m < 2147483629
theorem Pol.mono {P : O} {k k' : Nat} (h : Pol k P) (le : k ≤ k') : Pol k' P := by
  obtain ⟨ns, c, i, b, m, h1, h2, h3, h4⟩ := h
  exact ⟨ns, c, i, b, m, h1, h2, by omega, h4⟩
theorem Pol.low {P : O} {k n : Nat} (h : Pol k P) : lowO n P = true := by
  obtain ⟨ns, c, i, b, m, rfl, _⟩ := h
  simp [lowO, lowL, lowW, lowL_ints]
theorem draw_ok {P : O} {S : Sto} {k : Nat} {lim : Int} (h : Pol k P) (hk : k < 1000000000000) (h0 : 0 < lim) (h1 : lim < 100000000000000000000000000000000000000000) :
    ∃ r P', U.fn_l_draw [.ref 0, .int lim] (P :: S) = .ok (.int r) (P' :: S) ∧ 0 ≤ r ∧ r < lim ∧ Pol (k + 1) P' := by
  obtain ⟨ns, c, i, b, m, h1', h2, h3, h4⟩ := h
  have hp : Pl (P :: S) 0 k := ⟨ns, c, i, b, m, by simp [h1'], h2, h3, h4⟩
  obtain ⟨r, S', e, r0, r1, af⟩ := draw1_ok (lim := lim) hp hk h0 h1
  obtain ⟨ns', c', i', b', m', g1, g2⟩ := af.pool
  have hS : S' = .lst [.scr (ns'.map W.int), .int c', .int i', .int b', .int m'] :: S := by
    refine List.ext_getElem? fun j => ?_
    cases j with
    | zero => simpa using g1
    | succ j => rw [af.keep (j + 1) (by omega)]; simp
  subst hS
  exact ⟨r, _, e, r0, r1, ns', c', i', b', m', rfl, g2⟩
theorem pool_ok {ns : List Int} {S : Sto} : U.fn_l_pool [.scr (ns.map W.int)] S = .ok (.ref S.length) (S ++ [.lst [.scr (ns.map W.int), .int 0, .int 0, .int 0, .int 7]]) := by
  unfold U.fn_l_pool
  rw [dFn_eq]
  simp [U.b_l_pool, List.replicate_succ, sizeLine_eq]
theorem pol0 (ns : List Int) : Pol 0 (.lst [.scr (ns.map W.int), .int 0, .int 0, .int 0, .int 7]) := ⟨ns, 0, 0, 0, 7, rfl, by decide, by decide, by decide, by decide, by decide, by decide⟩
/-- the end of a def that has the pool: what was made behind it is let go -/
theorem gc_pool {P P' : O} {S g : Sto} {w : W} {k : Nat} (h : Pol k P') (l : lowW (S.length + 1) w = true) : gcR (P :: S) (.ok w (P' :: (S ++ g))) = .ok w (P' :: S) := by
  rw [gc_ok]
  · simp
  · refine ⟨by simp, fun i hi => ?_⟩
    cases i with
    | zero => exact .inr ⟨P', rfl, h.low⟩
    | succ i =>
      left
      simp only [List.length_cons] at hi
      simp [List.getElem?_append_left (show i < S.length by omega)]
  · simpa using l
theorem gc_pool0 {P P' : O} {S : Sto} {w : W} {k : Nat} (h : Pol k P') (l : lowW (S.length + 1) w = true) : gcR (P :: S) (.ok w (P' :: S)) = .ok w (P' :: S) := by
  have := gc_pool (P := P) (P' := P') (S := S) (g := []) h l
  simpa using this
end SP
namespace SP
open PySem L2 DD U
theorem app_get {S : Sto} {o : O} {g : Sto} : (S ++ o :: g)[S.length]? = some o := by simp
theorem app_get1 {S : Sto} {o p : O} {g : Sto} : (S ++ o :: p :: g)[S.length + 1]? = some p := by
  rw [List.getElem?_append_right (by omega)]; simp
theorem app_set1 {S : Sto} {o p u : O} {g : Sto} : (S ++ o :: p :: g).set (S.length + 1) u = S ++ o :: u :: g := by
  rw [List.set_append_right _ _ (by omega)]; simp
abbrev nW (n : List Int) : W := .tup (wl n)
abbrev lW (n : List Int) : W := .lst (wl n)
theorem atI_get {α : Type} {l : List α} {i : Int} {x : α} (h0 : 0 ≤ i) (h : l[i.toNat]? = some x) : atI l i = some x := by
  have := L2.atI_nat h
  rwa [Int.toNat_of_nonneg h0] at this
theorem e_catL {S : Sto} {a b : List Int} (h : a.length + b.length ≤ 16777216) : addD (lW a) (lW b) S = .ok (lW (a ++ b)) S := by
  simp [addD, orD, iAdd, intD, catD, sizeLine_eq, h, lW, wl]
theorem e_catLW {S : Sto} {a b : List W} (h : a.length + b.length ≤ 16777216) : addD (.lst a) (.lst b) S = .ok (.lst (a ++ b)) S := by
  simp [addD, orD, iAdd, intD, catD, sizeLine_eq, h]
theorem intsFrom_mem {lo : Int} {n i : Nat} {w : W} (h : (intsFrom lo n)[i]? = some w) : i < n ∧ w = .int (lo + i) := intsFrom_get n lo i w h
theorem rgI {j : Int} (h0 : -1000000 ≤ j) (h1 : j < 1000000) : -4611686018427387904 ≤ j ∧ j < 4611686018427387904 := by omega
theorem names_ok {P : O} {S : Sto} {k : Nat} {most : Int} (h : Pol k P) (hk : k < 100000000000) (h0 : 0 < most) (h1 : most ≤ 100) :
    ∃ (l : List Int) (P' : O), U.fn_l_names [.ref 0, .int most] (P :: S) = .ok (.lst (wl l)) (P' :: S) ∧ l ≠ [] ∧ l.Nodup ∧ (∀ z ∈ l, 0 ≤ z ∧ z < 48) ∧ (l.length : Int) ≤ most ∧ Pol (k + 200) P' := by
  generalize hx : U.fn_l_names _ _ = x
  unfold U.fn_l_names at hx
  rw [gcF_eq, dFn_eq] at hx
  simp [U.b_l_names, List.replicate_succ, sizeLine_eq] at hx
  generalize hd__ : U.fn_l_draw _ _ = d__ at hx
  have hs__ := SP.at2 hd__ ((draw_ok h) (by first | omega | with_reducible assumption | (simp; done) | (simp; omega) | rfl) (by first | omega | with_reducible assumption | (simp; done) | (simp; omega) | rfl) (by first | omega | with_reducible assumption | (simp; done) | (simp; omega) | rfl))
  obtain ⟨r, P1, e, r0, r1, hP1⟩ := hs__
  subst e
  simp [rgI (show -1000000 ≤ 1 + r by omega) (by omega)] at hx
  obtain ⟨t', X, e2, l, P2, x3, x4, rfl, rfl, hP2, hn, hl, hb, hz⟩ := forL_inv (g := gN 3) (b := b_l_names_l0) (intsFrom 0 (1 + r).toNat)
    (fun i t X => ∃ (l : List Int) (P2 : O) (x3 x4 : Option W), t = [some (.ref 0), some (.int most), some (.ref (S.length + 1)), x3, x4] ∧ X = P2 :: (S ++ [.lst (wl l)]) ∧ Pol (k + 1 + i) P2 ∧ l.Nodup ∧ (∀ z ∈ l, 0 ≤ z ∧ z < 48) ∧ l.length ≤ i ∧ (0 < i → l ≠ []))
    (fun i w t X hw ⟨l, P2, x3, x4, ht, hX, hP2, hn, hl, hb, hz⟩ => by
      subst ht hX
      obtain ⟨hi, rfl⟩ := intsFrom_mem hw
      generalize hx : turn _ _ _ _ _ = x
      simp [turn, b_l_names_l0, gN] at hx
      generalize hd__ : U.fn_l_draw _ _ = d__ at hx
      have hs__ := SP.at2 hd__ ((draw_ok hP2) (by first | omega | with_reducible assumption | (simp; done) | (simp; omega) | rfl) (by first | omega | with_reducible assumption | (simp; done) | (simp; omega) | rfl) (by first | omega | with_reducible assumption | (simp; done) | (simp; omega) | rfl))
      obtain ⟨q, P3, e3, q0, q1, hP3⟩ := hs__
      subst e3
      have hni : notInD (.int q) (.ref (S.length + 1)) (P3 :: (S ++ [.lst (wl l)])) = .ok (.bl (!decide (q ∈ l))) (P3 :: (S ++ [.lst (wl l)])) := by
        have := e_notInLI (S := P3 :: (S ++ [.lst (wl l)])) (z := q) (l := l)
        simpa [notInD, lookS] using this
      simp [hni] at hx
      by_cases hq : q ∈ l
      · simp [hq] at hx
        subst hx
        exact ⟨_, _, .inl rfl, l, P3, _, _, rfl, rfl, hP3.mono (by omega), hn, hl, by omega, fun _ => List.ne_nil_of_mem hq⟩
      · simp [hq, seqL, appendM, sizeLine_eq, show l.length < 16777216 by omega] at hx
        subst hx
        refine ⟨_, _, .inl rfl, l ++ [q], P3, _, _, rfl, by simp [wl], hP3.mono (by omega), ?_, ?_, by simp; omega, by simp⟩
        · rw [List.nodup_append]
          refine ⟨hn, by simp, fun a ha b hb => ?_⟩
          simp at hb
          subst hb
          exact fun z => hq (z ▸ ha)
        · intro z hz
          rcases List.mem_append.mp hz with hz | hz
          · exact hl z hz
          · simp at hz; omega)
    (t := [some (.ref 0), some (.int most), some (.ref (S.length + 1)), none, none]) (S := P1 :: (S ++ [.lst []])) ⟨[], P1, none, none, rfl, rfl, hP1, List.nodup_nil, by simp, by simp, by simp⟩
  rw [e2] at hx
  simp [dFrz] at hx
  rw [intsFrom_length] at hP2 hb hz
  rw [gc_pool hP2 (by simp [lowW, lowL_ints])] at hx
  exact ⟨l, P2, hx.symm, hz (by omega), hn, hl, by omega, hP2.mono (by omega)⟩
end SP
namespace SP
open PySem L2 DD U
/-- a target that a node with this index may have -/
def gt (t i n e : Int) : Bool := if t < 0 then decide (-1 - t < e) else decide (i < t) && decide (t < n)
theorem gt_neg {t i n e : Int} (h : t < 0) (h1 : -1 - t < e) : gt t i n e = true := by unfold gt; rw [if_pos h]; simpa using h1
theorem gt_pos {t i n e : Int} (h : 0 ≤ t) (h1 : i < t) (h2 : t < n) : gt t i n e = true := by unfold gt; rw [if_neg (by omega)]; simp [h1, h2]
theorem target_ok {P : O} {S : Sto} {k : Nat} {i n e : Int} (h : Pol k P) (hk : k < 100000000000) (h0 : 0 ≤ i) (h1 : i < n) (h2 : n ≤ 1000) (h3 : 0 < e) (h4 : e ≤ 1000) :
    ∃ (t : Int) (P' : O), U.fn_l_target [.ref 0, .int i, .int n, .int e] (P :: S) = .ok (.int t) (P' :: S) ∧ gt t i n e = true ∧ Pol (k + 4) P' := by
  generalize hx : U.fn_l_target _ _ = x
  unfold U.fn_l_target at hx
  rw [gcF_eq, dFn_eq] at hx
  simp [U.b_l_target, List.replicate_succ] at hx
  by_cases hin : i + 1 < n
  · simp [hin] at hx
    generalize hd__ : U.fn_l_draw _ _ = d__ at hx
    have hs__ := SP.at2 hd__ ((draw_ok h) (by first | omega | with_reducible assumption | (simp; done) | (simp; omega) | rfl) (by first | omega | with_reducible assumption | (simp; done) | (simp; omega) | rfl) (by first | omega | with_reducible assumption | (simp; done) | (simp; omega) | rfl))
    obtain ⟨r, P1, e1, r0, r1, hP1⟩ := hs__
    subst e1
    simp at hx
    by_cases hr : 0 < r
    · simp [hr] at hx
      generalize hd__ : U.fn_l_draw _ _ = d__ at hx
      have hs__ := SP.at2 hd__ ((draw_ok hP1) (by first | omega | with_reducible assumption | (simp; done) | (simp; omega) | rfl) (by first | omega | with_reducible assumption | (simp; done) | (simp; omega) | rfl) (by first | omega | with_reducible assumption | (simp; done) | (simp; omega) | rfl))
      obtain ⟨q, P2, e1, q0, q1, hP2⟩ := hs__
      subst e1
      simp at hx
      by_cases hq : 0 < q
      · simp [hq] at hx
        generalize hd__ : U.fn_l_draw _ _ = d__ at hx
        have hs__ := SP.at2 hd__ ((draw_ok hP2) (by first | omega | with_reducible assumption | (simp; done) | (simp; omega) | rfl) (by first | omega | with_reducible assumption | (simp; done) | (simp; omega) | rfl) (by first | omega | with_reducible assumption | (simp; done) | (simp; omega) | rfl))
        obtain ⟨u, P3, e1, u0, u1, hP3⟩ := hs__
        subst e1
        · simp at hx
          rw [gc_pool0 hP3 rfl] at hx
          refine ⟨_, P3, hx.symm, ?_, hP3.mono (by omega)⟩
          exact gt_pos (by omega) (by omega) (by split at u1 <;> omega)
      · simp [hq] at hx
        generalize hd__ : U.fn_l_draw _ _ = d__ at hx
        have hs__ := SP.at2 hd__ ((draw_ok hP2) (by first | omega | with_reducible assumption | (simp; done) | (simp; omega) | rfl) (by first | omega | with_reducible assumption | (simp; done) | (simp; omega) | rfl) (by first | omega | with_reducible assumption | (simp; done) | (simp; omega) | rfl))
        obtain ⟨u, P3, e1, u0, u1, hP3⟩ := hs__
        subst e1
        simp at hx
        rw [gc_pool0 hP3 rfl] at hx
        refine ⟨_, P3, hx.symm, ?_, hP3.mono (by omega)⟩
        exact gt_pos (by omega) (by omega) (by omega)
    · simp [hr] at hx
      generalize hd__ : U.fn_l_draw _ _ = d__ at hx
      have hs__ := SP.at2 hd__ ((draw_ok hP1) (by first | omega | with_reducible assumption | (simp; done) | (simp; omega) | rfl) (by first | omega | with_reducible assumption | (simp; done) | (simp; omega) | rfl) (by first | omega | with_reducible assumption | (simp; done) | (simp; omega) | rfl))
      obtain ⟨r, P2, e1, r0, r1, hP2⟩ := hs__
      subst e1
      simp at hx
      rw [gc_pool0 hP2 rfl] at hx
      exact ⟨_, P2, hx.symm, gt_neg (by omega) (by omega), hP2.mono (by omega)⟩
  · simp [hin] at hx
    generalize hd__ : U.fn_l_draw _ _ = d__ at hx
    have hs__ := SP.at2 hd__ ((draw_ok h) (by first | omega | with_reducible assumption | (simp; done) | (simp; omega) | rfl) (by first | omega | with_reducible assumption | (simp; done) | (simp; omega) | rfl) (by first | omega | with_reducible assumption | (simp; done) | (simp; omega) | rfl))
    obtain ⟨r, P2, e1, r0, r1, hP2⟩ := hs__
    subst e1
    simp at hx
    rw [gc_pool0 hP2 rfl] at hx
    exact ⟨_, P2, hx.symm, gt_neg (by omega) (by omega), hP2.mono (by omega)⟩
/-- a comprehension of numbers drawn -/
theorem lc_draws {te : DX} {t0 : Lo} {S : Sto} {v : Nat} (ws : List W) (Φ : Int → Prop) (c K : Nat) (hz : ws.length ≤ 1000)
    (h : ∀ w ∈ ws, ∀ (k' : Nat) (P : O), Pol k' P → k' ≤ K → ∃ z P', te (t0.set v (some w)) (P :: S) = .ok (.int z) (P' :: S) ∧ Φ z ∧ Pol (k' + c) P')
    {k : Nat} {P : O} (hP : Pol k P) (hk : k + c * ws.length ≤ K) : ∃ (l : List Int) (P' : O), lcL (.nm v) dYes te t0 ws [] (P :: S) = .ok (.lst (wl l)) (P' :: S) ∧ l.length = ws.length ∧ (∀ z ∈ l, Φ z) ∧ Pol (k + c * ws.length) P' := by
  obtain ⟨acc, S', e, ⟨l, P', rfl, rfl, hl, hP'⟩, hlen⟩ := lcL_inv (g := .nm v) (te := te) (t0 := t0) ws (fun i acc X => ∃ (l : List Int) (P' : O), acc = wl l ∧ X = P' :: S ∧ (∀ z ∈ l, Φ z) ∧ Pol (k + c * i) P') hz
    (fun i w acc X hw ⟨l, P', ha, hX, hl, hP'⟩ => by
      subst ha hX
      have hi : i < ws.length := (List.getElem?_eq_some_iff.mp hw).1
      have hm : c * i ≤ c * ws.length := Nat.mul_le_mul_left c (by omega)
      obtain ⟨z, P2, e, hz, hP2⟩ := h w (List.mem_of_getElem? hw) _ P' hP' (by omega)
      refine ⟨_, _, _, rfl, e, l ++ [z], P2, by simp [wl], rfl, fun x hx => ?_, hP2.mono (by rw [Nat.mul_succ]; omega)⟩
      rcases List.mem_append.mp hx with hx | hx
      · exact hl x hx
      · simp at hx; subst hx; exact hz)
    (S := P :: S) ⟨[], P, rfl, rfl, by simp, by simpa using hP⟩
  exact ⟨l, P', e, by simpa [wl] using hlen, hl, hP'⟩
/-- what the targets of a node lead to, by the lists below it -/
def usedOf (i : Int) (bs : List (List Int)) (ts : List Int) : List Int := ts.flatMap fun t => if 0 ≤ t then bs.getD (t - i - 1).toNat [] else []
structure NdOk (n e : Int) (names : List Int) (sk : Bool) (i : Int) (bs : List (List Int)) (node b : List Int) : Prop where
  ex : ∃ q ts, node = q :: ts ∧ (ts.length = 2 ∨ ts.length = 3 ∧ sk = true) ∧ (∀ t ∈ ts, gt t i n e = true) ∧ q ∈ names ∧ q ∉ usedOf i bs ts ∧ b = usedOf i bs ts ++ [q]
/-- nodes from the index i on, and what is asked from each on -/
inductive Nds (n e : Int) (names : List Int) (sk : Bool) : Int → List (List Int) → List (List Int) → Prop
  | nil : Nds n e names sk n [] []
  | cons {i : Int} {nodes bs : List (List Int)} {node b : List Int} : 0 ≤ i → Nds n e names sk (i + 1) nodes bs → NdOk n e names sk i bs node b → Nds n e names sk i (node :: nodes) (b :: bs)
theorem Nds.len {n e : Int} {names : List Int} {sk : Bool} {i : Int} {nodes bs : List (List Int)} (h : Nds n e names sk i nodes bs) : (nodes.length : Int) = n - i ∧ bs.length = nodes.length := by
  induction h with
  | nil => simp
  | cons h0 h1 h2 ih => simp; omega
theorem gt_lt {t i n e : Int} (h : gt t i n e = true) (h0 : 0 ≤ t) : i < t ∧ t < n := by
  unfold gt at h; rw [if_neg (by omega)] at h; simpa using h
theorem usedOf_len {i : Int} {bs : List (List Int)} {M : Nat} (h : ∀ b ∈ bs, 2 * b.length + 1 ≤ M) (h1 : 1 ≤ M) : ∀ ts : List Int, 2 * (usedOf i bs ts).length ≤ ts.length * (M - 1)
  | [] => by simp [usedOf]
  | t :: ts => by
    have ih := usedOf_len (i := i) h h1 ts
    have : 2 * (if 0 ≤ t then bs.getD (t - i - 1).toNat [] else []).length ≤ M - 1 := by
      split
      · rw [List.getD_eq_getElem?_getD]
        cases e : bs[(t - i - 1).toNat]? with
        | none => simp
        | some b =>
          have := h b (List.mem_of_getElem? e)
          simp; omega
      · simp
    simp only [usedOf, List.flatMap_cons, List.length_append, List.length_cons] at ih ⊢
    rw [Nat.add_mul]
    omega
theorem Nds.short {n e : Int} {names : List Int} {sk : Bool} {i : Int} {nodes bs : List (List Int)} (h : Nds n e names sk i nodes bs) : ∀ b ∈ bs, 2 * b.length + 1 ≤ 3 ^ bs.length := by
  induction h with
  | nil => simp
  | @cons i nodes bs node b h0 h1 h2 ih =>
    have hp : 1 ≤ 3 ^ bs.length := Nat.pow_pos (by decide)
    intro c hc
    rcases List.mem_cons.mp hc with rfl | hc
    · obtain ⟨q, ts, _, hl, _, _, _, rfl⟩ := h2.ex
      have := usedOf_len (i := i) ih hp ts
      have hl' : ts.length * (3 ^ bs.length - 1) ≤ 3 * (3 ^ bs.length - 1) := Nat.mul_le_mul_right _ (by omega)
      simp only [List.length_append, List.length_cons, List.length_nil, Nat.pow_succ]
      omega
    · have := ih c hc
      simp only [List.length_cons, Nat.pow_succ]
      omega
theorem ndloop {n e : Int} {i : Int} {bs : List (List Int)} {S : Sto} {P : O} {x : O} {g : Sto} {M : Nat} (hi : 0 ≤ i) (hb : (bs.length : Int) = n - (i + 1)) (hM : ∀ b ∈ bs, b.length ≤ M) (w1 w2 w3 w4 w5 w7 w9 w10 : Option W) (w13 w14 w15 w16 : Option W) :
    ∀ (ts : List Int), (∀ t ∈ ts, gt t i n e = true) → ∀ (acc : List Int) (w12 : Option W), acc.length + ts.length * M ≤ 16777216 → ∃ w12', forL (gN 12) b_l_nodes_l0 (wl ts) [some (.ref 0), w1, w2, w3, w4, w5, some (.ref (S.length + 2)), w7, some (.int i), w9, w10, some (lW acc), w12, w13, w14, w15, w16] (P :: (S ++ x :: .lst (bs.map lW) :: g)) = .nx [some (.ref 0), w1, w2, w3, w4, w5, some (.ref (S.length + 2)), w7, some (.int i), w9, w10, some (lW (acc ++ usedOf i bs ts)), w12', w13, w14, w15, w16] (P :: (S ++ x :: .lst (bs.map lW) :: g))
  | [], _, acc, w12, _ => ⟨w12, by simp [usedOf]⟩
  | t :: ts, hg, acc, w12, hz => by
    have hu : usedOf i bs (t :: ts) = (if 0 ≤ t then bs.getD (t - i - 1).toNat [] else []) ++ usedOf i bs ts := rfl
    rw [hu]
    rw [List.length_cons, Nat.add_mul] at hz
    rw [show wl (t :: ts) = W.int t :: wl ts from rfl, forL_cons]
    generalize hx : turn _ _ _ _ _ = y
    simp [turn, b_l_nodes_l0, gN] at hx
    by_cases ht : 0 ≤ t
    · have h1 := gt_lt (hg t (List.mem_cons_self ..)) ht
      obtain ⟨b, hbe⟩ : ∃ b, bs[(t - i - 1).toNat]? = some b := ⟨bs[(t - i - 1).toNat]'(by omega), List.getElem?_eq_getElem _⟩
      have hbl := hM b (List.mem_of_getElem? hbe)
      have hix : ixD (.ref (S.length + 2)) (.int (t - i - 1)) (P :: (S ++ x :: .lst (bs.map lW) :: g)) = .ok (lW b) (P :: (S ++ x :: .lst (bs.map lW) :: g)) := by
        refine e_ixR (ws := bs.map lW) ?_ ?_
        · show (S ++ x :: .lst (bs.map lW) :: g)[S.length + 1]? = _
          exact app_get1
        · exact atI_get (by omega) (by rw [List.getElem?_map, hbe]; rfl)
      simp [ht, hix, e_catL (show acc.length + b.length ≤ 16777216 by omega)] at hx
      subst hx
      simp only []
      obtain ⟨w12', e⟩ := ndloop hi hb hM w1 w2 w3 w4 w5 w7 w9 w10 w13 w14 w15 w16 ts (fun z hz => hg z (List.mem_cons_of_mem _ hz)) (acc ++ b) (some (.int t)) (by simp; omega)
      refine ⟨w12', ?_⟩
      rw [if_pos ht, List.getD_eq_getElem?_getD, hbe, ← List.append_assoc]
      exact e
    · simp [ht] at hx
      subst hx
      simp only []
      obtain ⟨w12', e⟩ := ndloop hi hb hM w1 w2 w3 w4 w5 w7 w9 w10 w13 w14 w15 w16 ts (fun z hz => hg z (List.mem_cons_of_mem _ hz)) acc (some (.int t)) (by omega)
      refine ⟨w12', ?_⟩
      rw [if_neg ht]
      exact e
theorem e_eqL0 {S : Sto} {a : List Int} : eqD (lW a) (.lst []) S = .ok (.bl (decide (a = []))) S := e_eqLI (b := [])
theorem low_nodes {m : Nat} {l : List (List Int)} : lowW m (.lst (l.map nW)) = true := lowL_all fun w hw => by
  obtain ⟨a, _, rfl⟩ := List.mem_map.mp hw
  simp [lowW, lowL_ints]
theorem pow3 {m : Nat} (h : m ≤ 12) : 3 ^ m ≤ 531441 := Nat.le_trans (Nat.pow_le_pow_right (by decide) h) (by decide)
theorem nodes_ok {P : O} {S : Sto} {k : Nat} {n e : Int} {names : List Int} {sk : Bool} (h : Pol k P) (hk : k < 10000000000) (h0 : 0 ≤ n) (h1 : n ≤ 12) (h2 : 0 < e) (h3 : e ≤ 100) (hn : names ≠ []) (hl : names.length ≤ 100) :
    ∃ (nodes bs : List (List Int)) (P' : O), U.fn_l_nodes [.ref 0, .int n, .int e, lW names, .bl sk] (P :: S) = .ok (.lst (nodes.map nW)) (P' :: S) ∧ Nds n e names sk 0 nodes bs ∧ Pol (k + 1000) P' := by
  generalize hx : U.fn_l_nodes _ _ = x
  unfold U.fn_l_nodes at hx
  rw [gcF_eq, dFn_eq] at hx
  simp [U.b_l_nodes, List.replicate_succ, sizeLine_eq, rgI (show -1000000 ≤ n by omega) (by omega)] at hx
  obtain ⟨t', X, e2, nodes, bs, P2, w7, w8, w9, w10, w11, w12, w13, w14, w15, w16, rfl, rfl, hP2, hN⟩ := forL_inv (g := gN 7) (b := b_l_nodes_l1) (intsFrom 0 n.toNat)
    (fun i t X => ∃ (nodes bs : List (List Int)) (P2 : O) (w7 w8 w9 w10 w11 w12 w13 w14 w15 w16 : Option W), t = [some (.ref 0), some (.int n), some (.int e), some (lW names), some (.bl sk), some (.ref (S.length + 1)), some (.ref (S.length + 2)), w7, w8, w9, w10, w11, w12, w13, w14, w15, w16] ∧ X = P2 :: (S ++ [.lst (nodes.map nW), .lst (bs.map lW)]) ∧ Pol (k + 50 * i) P2 ∧ Nds n e names sk (n - i) nodes bs)
    (fun i w t X hw ⟨nodes, bs, P2, w7, w8, w9, w10, w11, w12, w13, w14, w15, w16, ht, hX, hP2, hN⟩ => by
      subst ht hX
      obtain ⟨hi, rfl⟩ := intsFrom_mem hw
      have hlen := hN.len
      have hsh := hN.short
      have hp3 : 3 ^ bs.length ≤ 531441 := pow3 (by omega)
      generalize hx : turn _ _ _ _ _ = x
      simp [turn, b_l_nodes_l1, gN] at hx
      generalize htl : dSeq (dAsg (dLc _ _ _ _ _) (gN 10)) _ = tl at hx
      have key : ∀ (wd : Int) (P3 : O), (wd = 2 ∨ wd = 3 ∧ sk = true) → Pol (k + 50 * i + 1) P3 → tl [some (W.ref 0), some (W.int n), some (W.int e), some (lW names), some (W.bl sk), some (W.ref (S.length + 1)), some (W.ref (S.length + 2)), some (W.int i), some (W.int (n - 1 - i)), some (.int wd), w10, w11, w12, w13, w14, w15, w16] (P3 :: (S ++ [O.lst (nodes.map nW), O.lst (bs.map lW)])) = x → ∃ t' S', (x = F.nx t' S' ∨ x = F.ct t' S') ∧ ∃ (nodes bs : List (List Int)) (P2 : O) (w7 w8 w9 w10 w11 w12 w13 w14 w15 w16 : Option W), t' = [some (.ref 0), some (.int n), some (.int e), some (lW names), some (.bl sk), some (.ref (S.length + 1)), some (.ref (S.length + 2)), w7, w8, w9, w10, w11, w12, w13, w14, w15, w16] ∧ S' = P2 :: (S ++ [.lst (nodes.map nW), .lst (bs.map lW)]) ∧ Pol (k + 50 * (i + 1)) P2 ∧ Nds n e names sk (n - (i + 1 : Nat)) nodes bs := by
        intro wd P3 hwd hP3 hx
        subst htl
        have hwd3 : 2 ≤ wd ∧ wd ≤ 3 := by rcases hwd with h | h <;> omega
        simp [rgI (show -1000000 ≤ wd by omega) (by omega)] at hx
        generalize hd__ : DD.lcL _ _ _ _ _ _ _ = d__ at hx
        have hs__ := SP.at2 hd__ ((lc_draws (Φ := fun t => gt t (n - 1 - i) n e = true) (c := 4) (K := 90000000000) (P := P3) (k := k + 50 * i + 1)) _ ?_ ?_ (by first | omega | with_reducible assumption | (simp; done) | (simp; omega) | rfl) ?_)
        obtain ⟨ts, P4, e4, hts, hgt, hP4⟩ := hs__
        subst e4
        · have hlt : ts.length = wd.toNat := by rw [hts, intsFrom_length]
          rw [intsFrom_length] at hP4
          simp [sizeLine_eq] at hx
          generalize hd__ : DD.forL _ _ _ _ _ = d__ at hx
          have hs__ := SP.aq1 hd__ (((ndloop (n := n) (e := e) (bs := bs) (i := n - 1 - i) (M := 265720) (by omega) (by omega) (fun b hb => by have := hsh b hb; omega) _ _ _ _ _ _ _ _ _ _ _ _ ts hgt [])) _ (by first | omega | with_reducible assumption | (simp; done) | (simp; omega) | rfl))
          obtain ⟨w12', e5⟩ := hs__
          subst e5
          · simp [dLcA] at hx
            generalize hd__ : DD.lcL _ _ _ _ _ _ _ = d__ at hx
            have hs__ := SP.aq0 hd__ ((lc_filterI (fun z => !decide (z ∈ usedOf (n - 1 - i) bs ts))) _ (by first | omega | with_reducible assumption | (simp; done) | (simp; omega) | rfl) ?_)
            subst hs__
            · have hul := usedOf_len (i := n - 1 - i) hsh (Nat.pow_pos (by decide)) ts
              have hul2 : ts.length * (3 ^ bs.length - 1) ≤ 3 * 531441 := Nat.mul_le_mul (by omega) (by omega)
              simp [e_eqL0, sizeLine_eq] at hx
              generalize htl : dSeq (dAsg (dOp ixD (dVar 13) _) (gN 14)) _ = tl at hx
              have key2 : ∀ (ts used free : List Int) (P5 : O) (w15 w16 : Option W), ts.length = wd.toNat → (∀ t ∈ ts, gt t (n - 1 - i) n e = true) → used = usedOf (n - 1 - i) bs ts → used.length ≤ 1000000 → free ≠ [] → free.length ≤ 100 → (∀ q ∈ free, q ∈ names ∧ q ∉ used) → Pol (k + 50 * i + 40) P5 →
                  tl [some (W.ref 0), some (W.int n), some (W.int e), some (lW names), some (W.bl sk), some (W.ref (S.length + 1)), some (W.ref (S.length + 2)), some (W.int i), some (W.int (n - 1 - i)), some (.int wd), some (lW ts), some (lW used), w12', some (lW free), w14, w15, w16] (P5 :: (S ++ [O.lst (nodes.map nW), O.lst (bs.map lW)])) = x → ∃ t' S', (x = F.nx t' S' ∨ x = F.ct t' S') ∧ ∃ (nodes bs : List (List Int)) (P2 : O) (w7 w8 w9 w10 w11 w12 w13 w14 w15 w16 : Option W), t' = [some (.ref 0), some (.int n), some (.int e), some (lW names), some (.bl sk), some (.ref (S.length + 1)), some (.ref (S.length + 2)), w7, w8, w9, w10, w11, w12, w13, w14, w15, w16] ∧ S' = P2 :: (S ++ [.lst (nodes.map nW), .lst (bs.map lW)]) ∧ Pol (k + 50 * (i + 1)) P2 ∧ Nds n e names sk (n - (i + 1 : Nat)) nodes bs := by
                intro ts used free P5 w15 w16 hlt hgt hus hul hfe hfl hfr hP5 hx
                subst htl
                have hfp : 0 < free.length := List.length_pos_iff.mpr hfe
                simp at hx
                generalize hd__ : U.fn_l_draw _ _ = d__ at hx
                have hs__ := SP.at2 hd__ ((draw_ok hP5) (by first | omega | with_reducible assumption | (simp; done) | (simp; omega) | rfl) (by first | omega | with_reducible assumption | (simp; done) | (simp; omega) | rfl) (by first | omega | with_reducible assumption | (simp; done) | (simp; omega) | rfl))
                obtain ⟨r, P6, e7, r0, r1, hP6⟩ := hs__
                subst e7
                obtain ⟨q, hq⟩ : ∃ q, free[r.toNat]? = some q := ⟨free[r.toNat]'(by omega), List.getElem?_eq_getElem _⟩
                have hqm := hfr q (List.mem_of_getElem? hq)
                have c1 : ∀ S, addD (.lst [.int q]) (lW ts) S = .ok (lW (q :: ts)) S := fun S => e_catL (a := [q]) (by simp; omega)
                have c2 : ∀ S, addD (lW used) (.lst [.int q]) S = .ok (lW (used ++ [q])) S := fun S => e_catL (b := [q]) (by simp; omega)
                simp [e_ixL (show atI (wl free) r = some (.int q) from atI_get r0 (by rw [List.getElem?_map, hq]; rfl)), seqL, sizeLine_eq, c1, c2, insertM, show nodes.length < 16777216 by omega, show bs.length < 16777216 by omega, app_get1, app_set1] at hx
                subst hx
                refine ⟨_, _, .inl rfl, (q :: ts) :: nodes, (used ++ [q]) :: bs, P6, _, _, _, _, _, _, _, _, _, _, rfl, by simp, hP6.mono (by omega), ?_⟩
                rw [show n - ((i + 1 : Nat) : Int) = n - 1 - i by omega]
                refine .cons (by omega) (by rw [show n - 1 - (i : Int) + 1 = n - i by omega]; exact hN) ⟨q, ts, rfl, ?_, hgt, hqm.1, hus ▸ hqm.2, by rw [hus]⟩
                rcases hwd with h | h
                · left; omega
                · right; exact ⟨by omega, h.2⟩
              by_cases hfr : names.filter (fun z => !decide (z ∈ usedOf (n - 1 - i) bs ts)) = []
              · have hfr' : ∀ (a : Int), a ∈ names → a ∈ usedOf (n - 1 - i) bs ts := fun a ha => by simpa using List.filter_eq_nil_iff.mp hfr a ha
                rw [if_pos (by simpa using hfr')] at hx
                simp [rgI (show -1000000 ≤ wd by omega) (by omega)] at hx
                generalize hd__ : DD.lcL _ _ _ _ _ _ _ = d__ at hx
                have hs__ := SP.at2 hd__ ((lc_draws (Φ := fun t => t < 0 ∧ -1 - t < e) (c := 1) (K := 90000000000) (P := P4) (k := k + 50 * i + 1 + 4 * wd.toNat)) _ (by first | omega | with_reducible assumption | (simp; done) | (simp; omega) | rfl) ?_ (by first | omega | with_reducible assumption | (simp; done) | (simp; omega) | rfl) (by first | omega | with_reducible assumption | (simp; done) | (simp; omega) | rfl))
                obtain ⟨ts2, P5, e8, hts2, hgt2, hP5⟩ := hs__
                subst e8
                · rw [intsFrom_length] at hP5 hts2
                  simp [sizeLine_eq] at hx
                  have hu0 : usedOf (n - 1 - i) bs ts2 = [] := by
                    unfold usedOf
                    rw [List.flatMap_eq_nil_iff]
                    intro t ht
                    rw [if_neg (by have := hgt2 t ht; omega)]
                  exact key2 ts2 [] names P5 _ _ hts2 (fun t ht => gt_neg (hgt2 t ht).1 (hgt2 t ht).2) hu0.symm (by simp) hn hl (fun q hq => ⟨hq, by simp⟩) (hP5.mono (by omega)) hx
                · intro w hw k' P' hP' hk'
                  generalize hy : dOp _ _ _ _ _ = y
                  simp at hy
                  generalize hd__ : U.fn_l_draw _ _ = d__ at hy
                  have hs__ := SP.at2 hd__ ((draw_ok hP') (by first | omega | with_reducible assumption | (simp; done) | (simp; omega) | rfl) (by first | omega | with_reducible assumption | (simp; done) | (simp; omega) | rfl) (by first | omega | with_reducible assumption | (simp; done) | (simp; omega) | rfl))
                  obtain ⟨r, P6, e7, r0, r1, hP6⟩ := hs__
                  subst e7
                  simp at hy
                  exact ⟨_, P6, hy.symm, by omega, hP6⟩
              · have hfr' : ¬ ∀ (a : Int), a ∈ names → a ∈ usedOf (n - 1 - i) bs ts := fun z => hfr (List.filter_eq_nil_iff.mpr fun a ha => by simp [z a ha])
                simp [hfr'] at hx
                exact key2 ts (usedOf (n - 1 - i) bs ts) _ P4 _ _ hlt hgt rfl (by omega) hfr (Nat.le_trans (List.length_filter_le ..) hl) (fun q hq => by
                  have := List.mem_filter.mp hq
                  exact ⟨this.1, by simpa using this.2⟩) (hP4.mono (by omega)) hx
            · intro z hz
              exact ⟨_, rfl, by simp [e_notInLI], by simp⟩
        · rw [intsFrom_length]; omega
        · intro w hw k' P' hP' hk'
          simp
          exact target_ok hP' (by omega) (by omega) (by omega) (by omega) (by omega) (by omega)
        · rw [intsFrom_length]; omega
      cases sk with
      | false =>
        simp [truW] at hx
        exact key 2 P2 (.inl rfl) (hP2.mono (by omega)) hx
      | true =>
        simp [truW] at hx
        generalize hd__ : U.fn_l_draw _ _ = d__ at hx
        have hs__ := SP.at2 hd__ ((draw_ok hP2) (by first | omega | with_reducible assumption | (simp; done) | (simp; omega) | rfl) (by first | omega | with_reducible assumption | (simp; done) | (simp; omega) | rfl) (by first | omega | with_reducible assumption | (simp; done) | (simp; omega) | rfl))
        obtain ⟨r, P3, e3, r0, r1, hP3⟩ := hs__
        subst e3
        simp at hx
        by_cases hr : r = 0
        · simp [hr] at hx
          exact key 3 P3 (.inr ⟨rfl, rfl⟩) hP3 hx
        · simp [hr] at hx
          exact key 2 P3 (.inl rfl) hP3 hx)
    (t := [some (.ref 0), some (.int n), some (.int e), some (lW names), some (.bl sk), some (.ref (S.length + 1)), some (.ref (S.length + 2)), none, none, none, none, none, none, none, none, none, none]) (S := P :: (S ++ [.lst [], .lst []]))
    ⟨[], [], P, none, none, none, none, none, none, none, none, none, none, rfl, rfl, h, by simpa using Nds.nil⟩
  rw [e2] at hx
  simp [dFrz] at hx
  rw [intsFrom_length] at hP2 hN
  rw [gc_pool hP2 low_nodes] at hx
  rw [show n - (n.toNat : Int) = 0 by omega] at hN
  exact ⟨nodes, bs, P2, hx.symm, hN, hP2.mono (by omega)⟩
end SP
namespace SP
open PySem L2 DD U
/-! ### bits -/
theorem bitOr_nat (a b : Nat) : Builtin.bitOr (a : Int) (b : Int) = ((a ||| b : Nat) : Int) := by
  unfold Builtin.bitOr Builtin.bitAnd Builtin.bitNot
  have h1 : ¬ (0 : Int) ≤ -(a : Int) - 1 := by omega
  have h2 : ¬ (0 : Int) ≤ -(b : Int) - 1 := by omega
  simp only [h1, h2, decide_false]
  have e1 : (-(-(a : Int) - 1) - 1).toNat = a := by omega
  have e2 : (-(-(b : Int) - 1) - 1).toNat = b := by omega
  rw [e1, e2]
  omega
theorem e_or {S : Sto} (a b : Nat) : iOr (.int a) (.int b) S = .ok (.int ((a ||| b : Nat) : Int)) S := by
  show (if yes2 a b = true then R.ok (W.int (Builtin.bitOr a b)) S else .no) = _
  rw [if_pos (show yes2 a b = true from rfl), bitOr_nat]
theorem e_shl1 {S : Sto} {q : Int} (h0 : 0 ≤ q) (h1 : q < 1000) : iShl (.int 1) (.int q) S = .ok (.int (2 ^ q.toNat)) S := by
  show (if powOk 1 q = true then R.ok (W.int (1 * 2 ^ q.toNat)) S else .no) = _
  rw [if_pos (by unfold powOk; simp; omega), Int.one_mul]
theorem e_orP {S : Sto} {a k : Nat} : iOr (.int a) (.int (2 ^ k)) S = .ok (.int ((a ||| 2 ^ k : Nat) : Int)) S := by
  have := e_or (S := S) a (2 ^ k)
  rwa [show ((2 ^ k : Nat) : Int) = (2 : Int) ^ k by simp] at this
theorem e_bit {S : Sto} {q a : Int} (h0 : 0 ≤ q) : iShr (.int a) (.int q) S = .ok (.int (a / 2 ^ q.toNat)) S := by
  show (if decide (0 ≤ q) = true then R.ok (W.int ((a : Int) / 2 ^ q.toNat)) S else .no) = _
  rw [if_pos (by simpa using h0)]
theorem e_and1 {S : Sto} {a : Int} : iAnd (.int a) (.int 1) S = .ok (.int (a % 2)) S := by
  show (if yes2 a 1 = true then R.ok (W.int (Builtin.bitAnd a 1)) S else .no) = _
  rw [if_pos (show yes2 a 1 = true from rfl), PyProof.Rows.bitAnd_m1]
/-! ### a node -/
def gn (node : List Int) (i n e : Int) : Bool := (node.length == 3 || node.length == 4) && decide (0 ≤ node.headD 0) && decide (node.headD 0 < 48) && node.tail.all fun t => gt t i n e
theorem good_target_eq {t i n e : Int} {S : Sto} : U.fn_good_target [.int t, .int i, .int n, .int e] S = .ok (.bl (gt t i n e)) S := by
  unfold U.fn_good_target
  rw [gcF_eq, dFn_eq]
  simp [U.b_good_target, gt]
  by_cases h : t < 0
  · simp [h]; exact gc_same rfl
  · simp [h]
    by_cases h1 : i < t
    · simp [h1]; exact gc_same rfl
    · simp [h1]; exact gc_same rfl
theorem cut_lo {xs : List W} {a : Int} (h : 0 ≤ a) : cutW xs (some a) none = xs.drop a.toNat := by
  unfold cutW HT.sIx
  simp only []
  rw [if_neg (by omega)]
  by_cases hl : a.toNat ≤ xs.length
  · rw [Nat.min_eq_left hl, List.take_of_length_le (by simp)]
  · rw [Nat.min_eq_right (by omega), List.drop_eq_nil_of_le (by omega : xs.length ≤ a.toNat)]; simp
theorem cut_lohi {xs : List W} {a b : Int} (h : 0 ≤ a) (h1 : 0 ≤ b) : cutW xs (some a) (some b) = (xs.drop a.toNat).take (b.toNat - a.toNat) := by
  unfold cutW HT.sIx
  simp only []
  rw [if_neg (by omega), if_neg (by omega)]
  by_cases hl : a.toNat ≤ xs.length
  · rw [Nat.min_eq_left hl]
    by_cases hb : b.toNat ≤ xs.length
    · rw [Nat.min_eq_left hb]
    · rw [Nat.min_eq_right (by omega), List.take_of_length_le (by simp), List.take_of_length_le (by simp; omega)]
  · rw [Nat.min_eq_right (show xs.length ≤ a.toNat by omega), List.drop_eq_nil_of_le (by omega : xs.length ≤ a.toNat), List.drop_length]; simp
@[simp] theorem e_sl {d : DX} {lo hi : DO} {t : Lo} {S : Sto} : dSl d lo hi t S = (d t S).bind fun w S1 => (lo t S1).bind fun a S2 => (hi t S2).bind fun b S3 => match slW w a b S3 with
  | .ok x S4 => .ok x S4
  | _ => .no := rfl
@[simp] theorem e_part {d : DX} {t : Lo} {S : Sto} : dPart d t S = (d t S).bind fun w S1 => match w with
  | .int i => .ok (some i) S1
  | _ => .no := rfl
@[simp] theorem e_noP {t : Lo} {S : Sto} : dNoP t S = .ok none S := rfl
@[simp] theorem e_slT {ws : List W} {a b : Option Int} {S : Sto} : slW (.tup ws) a b S = .ok (.tup (cutW ws a b)) S := rfl
@[simp] theorem e_slL {ws : List W} {a b : Option Int} {S : Sto} : slW (.lst ws) a b S = .ok (.lst (cutW ws a b)) S := rfl
@[simp] theorem e_ixN0 {q : Int} {ts : List Int} {S : Sto} : ixD (nW (q :: ts)) (.int 0) S = .ok (.int q) S := e_ixT (atI0 _ _)
theorem good_node_eq {node : List Int} {i n e : Int} {S : Sto} : U.fn_good_node [nW node, .int i, .int n, .int e] S = .ok (.bl (gn node i n e)) S := by
  generalize hx : U.fn_good_node _ _ = x
  unfold U.fn_good_node at hx
  rw [gcF_eq, dFn_eq] at hx
  simp [U.b_good_node, sizeLine_eq] at hx
  have hn : ∀ S, notInD (.int node.length) (.tup [.int 3, .int 4]) S = .ok (.bl (!decide ((node.length : Int) ∈ [3, 4]))) S := fun S => e_notInTI (l := [3, 4])
  simp [hn] at hx
  by_cases h : node.length = 3 ∨ node.length = 4
  · have h' : (node.length : Int) = 3 ∨ (node.length : Int) = 4 := by omega
    obtain ⟨q, ts, rfl⟩ : ∃ q ts, node = q :: ts := by
      cases node with
      | nil => simp at h
      | cons q ts => exact ⟨q, ts, rfl⟩
    have hg : gn (q :: ts) i n e = (decide (0 ≤ q) && decide (q < 48) && ts.all fun t => gt t i n e) := by
      unfold gn
      simp only [List.length_cons] at h
      rcases h with h | h <;> simp [h]
    rw [hg]
    simp only [List.length_cons] at h h'
    have h3 : ¬ (¬ (ts.length : Int) + 1 = 3 ∧ ¬ (ts.length : Int) + 1 = 4) := by omega
    simp [h3, cut_lo] at hx
    by_cases hq : 0 ≤ q ∧ q < 48
    · simp [hq, cut_lo] at hx
      generalize hd__ : DD.lcL _ _ _ _ _ _ _ = d__ at hx
      have hs__ := SP.aq0 hd__ ((lcL_map (fun w => match w with | .int t => .bl (gt t i n e) | _ => .non)) _ (by first | omega | with_reducible assumption | (simp; done) | (simp; omega) | rfl) ?_)
      subst hs__
      · rw [List.map_map] at hx
        simp [Function.comp_def, e_all (blsOf_map (fun t => gt t i n e) ts)] at hx
        rw [gc_same rfl] at hx
        rw [← hx]; simp [hq]
      · intro w hw
        obtain ⟨t, _, rfl⟩ := List.mem_map.mp hw
        exact ⟨_, rfl, by simp [good_target_eq]⟩
    · have : ¬ 0 ≤ q ∨ ¬ q < 48 := by omega
      by_cases h0 : 0 ≤ q
      · have : ¬ q < 48 := by omega
        simp [h0, this] at hx ⊢
        rw [gc_same rfl] at hx
        exact hx.symm
      · simp [h0] at hx ⊢
        rw [gc_same rfl] at hx
        exact hx.symm
  · have h' : ¬ ((node.length : Int) = 3 ∨ (node.length : Int) = 4) := by omega
    have h1 : node.length ≠ 3 := by omega
    have h2 : node.length ≠ 4 := by omega
    have h1' : ¬ (node.length : Int) = 3 := by omega
    have h2' : ¬ (node.length : Int) = 4 := by omega
    simp [h1', h2'] at hx
    rw [gc_same rfl] at hx
    rw [← hx]; simp [gn, h1, h2]
/-! ### what is asked behind a node -/
abbrev nl (l : List Nat) : List W := l.map fun (m : Nat) => W.int (m : Int)
def bh (off : Nat) (ms : List Nat) (b : Nat) (ts : List Int) : Nat := ts.foldl (fun b t => if 0 ≤ t then b ||| ms.getD (t.toNat - off - 1) 0 else b) b
/-- the masks of the nodes from off on, all targets counted -/
def mk (off : Nat) : List (List Int) → List Nat
  | [] => []
  | node :: rest => (bh off (mk (off + 1) rest) 0 node.tail ||| 2 ^ (node.headD 0).toNat) :: mk (off + 1) rest
/-- the least node whose question comes again behind it -/
def rp (off : Nat) : List (List Int) → Option Nat
  | [] => none
  | node :: rest => if (bh off (mk (off + 1) rest) 0 node.tail).testBit (node.headD 0).toNat = true then some off else rp (off + 1) rest
/-- the masks without skips -/
def mka (off : Nat) : List (List Int) → List Nat
  | [] => []
  | node :: rest => bh off (mka (off + 1) rest) (2 ^ (node.headD 0).toNat) (node.tail.take 2) :: mka (off + 1) rest
theorem mk_len {off : Nat} : ∀ {l : List (List Int)}, (mk off l).length = l.length
  | [] => rfl
  | _ :: l => by simp [mk, mk_len (off := off + 1) (l := l)]
theorem mka_len {off : Nat} : ∀ {l : List (List Int)}, (mka off l).length = l.length
  | [] => rfl
  | _ :: l => by simp [mka, mka_len (off := off + 1) (l := l)]
def oW : Option Nat → W
  | none => .non
  | some i => .int i
theorem low_oW {n : Nat} {o : Option Nat} : lowW n (oW o) = true := by cases o <;> rfl
/-- all nodes are good -/
def Gns (nodes : List (List Int)) (e : Int) : Prop := ∀ (i : Nat) (node : List Int), nodes[i]? = some node → gn node i nodes.length e = true
theorem gn_cons {node : List Int} {i n e : Int} (h : gn node i n e = true) : ∃ q ts, node = q :: ts ∧ (ts.length = 2 ∨ ts.length = 3) ∧ 0 ≤ q ∧ q < 48 ∧ ∀ t ∈ ts, gt t i n e = true := by
  cases node with
  | nil => simp [gn] at h
  | cons q ts =>
    simp [gn] at h
    exact ⟨q, ts, rfl, by omega, h.1.1.2, h.1.2, h.2⟩
theorem intsDown_mem {hi : Int} {n i : Nat} {w : W} (h : (intsDown hi n)[i]? = some w) : i < n ∧ w = .int (hi - i) := by
  obtain ⟨h1, h2⟩ := intsDown_get n hi i w h
  exact ⟨h1, by rw [h2]; congr 1; omega⟩
theorem nl_get {l : List Nat} {i : Nat} {m : Nat} (h : l[i]? = some m) : (nl l)[i]? = some (.int m) := by simp [h]
/-- the loop over the targets -/
theorem rploop {n e : Int} {i : Nat} {M ms : List Nat} {S : Sto} {g : Sto} (hM : ∀ t : Nat, i < t → (t : Int) < n → M[t]? = some (ms.getD (t - i - 1) 0)) (w0 w2 w3 w6 w7 : Option W) :
    ∀ (ts : List Int), (∀ t ∈ ts, gt t i n e = true) → ∀ (b : Nat) (w5 : Option W), ∃ w5', forL (gN 5) b_repeats_l0 (wl ts) [w0, some (.ref S.length), w2, w3, some (.int b), w5, w6, w7] (S ++ .lst (nl M) :: g) = .nx [w0, some (.ref S.length), w2, w3, some (.int (bh i ms b ts : Nat)), w5', w6, w7] (S ++ .lst (nl M) :: g)
  | [], _, b, w5 => ⟨w5, by simp [bh]⟩
  | t :: ts, hg, b, w5 => by
    rw [show wl (t :: ts) = W.int t :: wl ts from rfl, forL_cons]
    generalize hx : turn _ _ _ _ _ = y
    simp only [turn, b_repeats_l0, gN] at hx
    by_cases ht : 0 ≤ t
    · have h1 := gt_lt (hg t (List.mem_cons_self ..)) ht
      have hix : ixD (.ref S.length) (.int t) (S ++ .lst (nl M) :: g) = .ok (.int (ms.getD (t.toNat - i - 1) 0 : Nat)) (S ++ .lst (nl M) :: g) :=
        e_ixR (ws := nl M) app_get (atI_get ht (nl_get (hM t.toNat (by omega) (by omega))))
      simp [ht, dAug, hix, e_or, -List.getD_eq_getElem?_getD] at hx
      subst hx
      obtain ⟨w5', e⟩ := rploop (S := S) (g := g) hM w0 w2 w3 w6 w7 ts (fun z hz => hg z (List.mem_cons_of_mem _ hz)) (b ||| ms.getD (t.toNat - i - 1) 0) (some (.int t))
      refine ⟨w5', ?_⟩
      have : bh i ms b (t :: ts) = bh i ms (b ||| ms.getD (t.toNat - i - 1) 0) ts := by simp [bh, ht]
      rw [this]
      exact e
    · simp [ht] at hx
      subst hx
      obtain ⟨w5', e⟩ := rploop (S := S) (g := g) hM w0 w2 w3 w6 w7 ts (fun z hz => hg z (List.mem_cons_of_mem _ hz)) b (some (.int t))
      refine ⟨w5', ?_⟩
      have : bh i ms b (t :: ts) = bh i ms b ts := by simp [bh, ht]
      rw [this]
      exact e
/-- the loop over the targets, in asked_behind -/
theorem abloop {n e : Int} {i : Nat} {M ms : List Nat} {S : Sto} {g : Sto} (hM : ∀ t : Nat, i < t → (t : Int) < n → M[t]? = some (ms.getD (t - i - 1) 0)) (w0 w2 : Option W) :
    ∀ (ts : List Int), (∀ t ∈ ts, gt t i n e = true) → ∀ (b : Nat) (w5 : Option W), ∃ w5', forL (gN 4) b_asked_behind_l0 (wl ts) [w0, some (.ref S.length), w2, some (.int b), w5] (S ++ .lst (nl M) :: g) = .nx [w0, some (.ref S.length), w2, some (.int (bh i ms b ts : Nat)), w5'] (S ++ .lst (nl M) :: g)
  | [], _, b, w5 => ⟨w5, by simp [bh]⟩
  | t :: ts, hg, b, w5 => by
    rw [show wl (t :: ts) = W.int t :: wl ts from rfl, forL_cons]
    generalize hx : turn _ _ _ _ _ = y
    simp only [turn, b_asked_behind_l0, gN] at hx
    by_cases ht : 0 ≤ t
    · have h1 := gt_lt (hg t (List.mem_cons_self ..)) ht
      have hix : ixD (.ref S.length) (.int t) (S ++ .lst (nl M) :: g) = .ok (.int (ms.getD (t.toNat - i - 1) 0 : Nat)) (S ++ .lst (nl M) :: g) :=
        e_ixR (ws := nl M) app_get (atI_get ht (nl_get (hM t.toNat (by omega) (by omega))))
      simp [ht, dAug, hix, e_or, -List.getD_eq_getElem?_getD] at hx
      subst hx
      obtain ⟨w5', e⟩ := abloop (S := S) (g := g) hM w0 w2 ts (fun z hz => hg z (List.mem_cons_of_mem _ hz)) (b ||| ms.getD (t.toNat - i - 1) 0) (some (.int t))
      refine ⟨w5', ?_⟩
      have : bh i ms b (t :: ts) = bh i ms (b ||| ms.getD (t.toNat - i - 1) 0) ts := by simp [bh, ht]
      rw [this]
      exact e
    · simp [ht] at hx
      subst hx
      obtain ⟨w5', e⟩ := abloop (S := S) (g := g) hM w0 w2 ts (fun z hz => hg z (List.mem_cons_of_mem _ hz)) b (some (.int t))
      refine ⟨w5', ?_⟩
      have : bh i ms b (t :: ts) = bh i ms b ts := by simp [bh, ht]
      rw [this]
      exact e
theorem tstBit {a q : Nat} : ((a : Int) / 2 ^ q % 2 = 1) ↔ a.testBit q = true := by
  rw [Nat.testBit_eq_decide_div_mod_eq, decide_eq_true_iff]
  have : (a : Int) / 2 ^ q % 2 = ((a / 2 ^ q % 2 : Nat) : Int) := by simp
  rw [this]
  omega
theorem orD_no {f g : D2} {a b : W} {S : Sto} (h : f a b S = .no) : orD f g a b S = g a b S := by unfold orD; rw [h]
theorem repD_ok {new : Bool} {xs : List W} {k : Int} {S : Sto} (h : -(2 ^ 63) ≤ k ∧ k < 2 ^ 63 ∧ xs.length * k.toNat ≤ sizeLine) : repD new (.lst xs) (.int k) S = (if new = true then .ok (.ref S.length) (S ++ [.lst (List.replicate k.toNat xs).flatten]) else .ok (.lst (List.replicate k.toNat xs).flatten) S) := if_pos h
theorem rep_c {n : Nat} (h : n ≤ 1000) : -(2 ^ 63) ≤ (n : Int) ∧ (n : Int) < 2 ^ 63 := by omega
theorem rep_d {n : Nat} {w : W} (h : n ≤ 1000) : [w].length * (n : Int).toNat ≤ sizeLine := by
  rw [sizeLine_eq, Int.toNat_natCast, List.length_singleton]; omega
theorem iMul_lst {l : List W} {a : W} {S : Sto} : iMul (.lst l) a S = .no := by cases a <;> rfl
theorem e_rep0 {n : Nat} {S : Sto} {w : W} (h : n ≤ 1000) : mulD true (.lst [w]) (.int n) S = .ok (.ref S.length) (S ++ [.lst (List.replicate n w)]) := by
  have e2 := repD_ok (new := true) (S := S) ⟨(rep_c h).1, (rep_c h).2, rep_d (w := w) h⟩
  rw [if_pos rfl, Int.toNat_natCast, List.flatten_replicate_singleton] at e2
  exact (orD_no iMul_lst).trans e2
@[simp] theorem e_asgStar {d : DX} {n : Nat} {gs : DGs} {t : Lo} {S : Sto} : dAsg d (gStar n gs) t S = (d t S).toF t fun w S1 => match gStar n gs w t S1 with
  | .ok t' S2 => .nx t' S2
  | _ => .no := rfl
theorem rngD {n : Nat} (h : n ≤ 1000) : -(2 ^ 62) ≤ (n : Int) - 1 ∧ (n : Int) - 1 < 2 ^ 62 ∧ -(2 ^ 62) ≤ (-1 : Int) ∧ (-1 : Int) < 2 ^ 62 := by omega
theorem e_down {d : DA} {t : Lo} {S S1 : Sto} {n : Nat} (h : d t S = .ok [.int ((n : Int) - 1), .int (-1), .int (-1)] S1) (hn : n ≤ 1000) : dRangeD d t S = .ok (intsDown ((n : Int) - 1) n) S1 := by
  unfold dRangeD
  rw [h, R.bind_ok]
  unfold threeI
  dsimp only
  rw [if_pos ⟨rfl, rngD hn⟩]
  congr 2
  omega
theorem drop_cons {α : Type} {l : List α} {i : Nat} {x : α} (h : l[i]? = some x) : l.drop i = x :: l.drop (i + 1) := by
  obtain ⟨hi, rfl⟩ := List.getElem?_eq_some_iff.mp h
  exact List.drop_eq_getElem_cons hi
theorem mask_get {n i : Nat} {ms : List Nat} (hi : i < n) (hms : ms.length = n - (i + 1)) : ∀ t : Nat, i < t → (t : Int) < n → (List.replicate (i + 1) 0 ++ ms)[t]? = some (ms.getD (t - i - 1) 0) := fun t h1 h2 => by
  have h3 : t - i - 1 < ms.length := by omega
  rw [List.getElem?_append_right (by simp; omega), List.length_replicate, show t - (i + 1) = t - i - 1 by omega, List.getD_eq_getElem?_getD, List.getElem?_eq_getElem h3]
  rfl
theorem mask_set {i : Nat} {ms : List Nat} {m : Nat} : (List.replicate (i + 1) 0 ++ ms).set i m = List.replicate i 0 ++ m :: ms := by
  rw [show List.replicate (i + 1) 0 ++ ms = List.replicate i 0 ++ 0 :: ms by rw [List.replicate_succ', List.append_assoc]; rfl]
  rw [List.set_append_right _ _ (by simp)]
  simp
theorem repeats_eq {nodes : List (List Int)} {e : Int} {S : Sto} (hg : Gns nodes e) (hl : nodes.length ≤ 1000) : U.fn_repeats [.tup (nodes.map nW)] S = .ok (oW (rp 0 nodes)) S := by
  generalize hx : U.fn_repeats _ _ = x
  unfold U.fn_repeats at hx
  rw [gcF_eq, dFn_eq] at hx
  generalize hy : U.b_repeats _ _ = y at hx
  simp -implicitDefEqProofs [U.b_repeats, sizeLine_eq, e_rep0 hl] at hy
  rw [e_down (n := nodes.length) (S1 := S ++ [.lst (List.replicate nodes.length (.int 0))]) (by simp) hl] at hy
  simp -implicitDefEqProofs at hy
  obtain ⟨t', X, e2, w3, w4, w5, w6, w7, rfl, rfl⟩ := forL_inv (g := gN 3) (b := b_repeats_l1) (intsDown ((nodes.length : Int) - 1) nodes.length)
    (fun j t X => ∃ (w3 w4 w5 w6 w7 : Option W), t = [some (.tup (nodes.map nW)), some (.ref S.length), some (oW (rp (nodes.length - j) (nodes.drop (nodes.length - j)))), w3, w4, w5, w6, w7] ∧ X = S ++ [.lst (nl (List.replicate (nodes.length - j) 0 ++ mk (nodes.length - j) (nodes.drop (nodes.length - j))))])
    (fun j w t X hw ⟨w3, w4, w5, w6, w7, ht, hX⟩ => by
      subst ht hX
      obtain ⟨hj, rfl⟩ := intsDown_mem hw
      obtain ⟨i, hi⟩ : ∃ i, nodes.length - j = i + 1 := ⟨nodes.length - j - 1, by omega⟩
      have hi2 : nodes.length - (j + 1) = i := by omega
      have hi3 : (nodes.length : Int) - 1 - j = i := by omega
      rw [hi, hi2, hi3]
      obtain ⟨node, hn⟩ : ∃ node, nodes[i]? = some node := ⟨nodes[i]'(by omega), List.getElem?_eq_getElem _⟩
      obtain ⟨q, ts, rfl, hts, q0, q1, hgt⟩ := gn_cons (hg i node hn)
      rw [drop_cons hn]
      generalize hms : mk (i + 1) (nodes.drop (i + 1)) = ms
      generalize hrp : rp (i + 1) (nodes.drop (i + 1)) = r
      have hmsl : ms.length = nodes.length - (i + 1) := by rw [← hms, mk_len]; simp
      have hMg := mask_get (n := nodes.length) (i := i) (by omega) hmsl
      have hMs := mask_set (i := i) (ms := ms) (m := bh i ms 0 ts ||| 2 ^ q.toNat)
      generalize hM : List.replicate (i + 1) 0 ++ ms = M at hMg hMs
      have hMl : M.length = nodes.length := by rw [← hM]; simp; omega
      generalize hx : turn _ _ _ _ _ = x
      have hixn : ∀ S, ixD (.tup (nodes.map nW)) (.int i) S = .ok (nW (q :: ts)) S := fun S => e_ixT (atI_get (by omega) (by rw [List.getElem?_map]; simp [hn]))
      simp -implicitDefEqProofs [turn, b_repeats_l1, gN, hixn, gStar, gsCons, gsNil] at hx
      generalize hd__ : DD.forL _ _ _ _ _ = d__ at hx
      have hs__ := SP.aq1 hd__ (((rploop (n := nodes.length) (e := e) (i := i) (M := M) (ms := ms) (S := S) (g := []) hMg _ _ _ _ _ ts hgt 0)) _)
      obtain ⟨w5', e5⟩ := hs__
      subst e5
      simp -implicitDefEqProofs [e_bit q0, e_and1, e_shl1 q0 (show q < 1000 by omega), e_or, tstBit, ixN_in, hMl, show i < nodes.length by omega] at hx
      have sh : ∀ S, iShl (.int 1) (.int q) S = .ok (.int (2 ^ q.toNat)) S := fun S => e_shl1 q0 (by omega)
      have ix : ixN nodes.length i = some i := ixN_in (by omega) (by omega)
      have fin : x = .nx [some (.tup (nodes.map nW)), some (.ref S.length), some (oW (if (bh i ms 0 ts).testBit q.toNat = true then some i else r)), some (.int i), some (.int (bh i ms 0 ts : Nat)), w5', some (.int q), some (lW ts)] (S ++ [.lst (nl (M.set i (bh i ms 0 ts ||| 2 ^ q.toNat)))]) := by
        by_cases ht : (bh i ms 0 ts).testBit q.toNat = true
        · simp -implicitDefEqProofs [tstBit, ht, sh, e_orP, hMl, ix] at hx
          rw [← hx]; simp [ht, oW, List.map_set]
        · simp -implicitDefEqProofs [tstBit, ht, sh, e_orP, hMl, ix] at hx
          rw [← hx]; simp [ht, oW, List.map_set]
      subst fin
      rw [hMs]
      refine ⟨_, _, .inl rfl, some (.int i), some (.int (bh i ms 0 ts : Nat)), w5', some (.int q), some (lW ts), ?_, ?_⟩
      · simp [rp, hms, hrp]
      · simp [mk, hms])
    (t := [some (.tup (nodes.map nW)), some (.ref S.length), some .non, none, none, none, none, none]) (S := S ++ [.lst (List.replicate nodes.length (.int 0))])
    ⟨none, none, none, none, none, by simp [rp, oW], by simp [mk]⟩
  rw [e2, intsDown_length, Nat.sub_self] at hy
  simp -implicitDefEqProofs at hy
  subst hy
  exact hx.symm.trans (gc_app low_oW)
/-! ### questions_of, asked_behind -/
def qs48 : List Int := (List.range 48).map fun (i : Nat) => (i : Int)
def qsOf (m : Nat) : List Int := qs48.filter fun z => m.testBit z.toNat
theorem mem_qs48 {z : Int} : z ∈ qs48 ↔ 0 ≤ z ∧ z < 48 := by
  simp only [qs48, List.mem_map, List.mem_range]
  exact ⟨fun ⟨i, h, e⟩ => by omega, fun h => ⟨z.toNat, by omega, by omega⟩⟩
theorem rng48 : intsFrom 0 48 = wl qs48 := rng_wl 48
theorem questions_eq {m : Nat} {S : Sto} : U.fn_questions_of [.int m] S = .ok (nW (qsOf m)) S := by
  generalize hx : U.fn_questions_of _ _ = x
  unfold U.fn_questions_of at hx
  rw [DD.gcF_eq, DD.dFn_eq] at hx
  generalize hy : U.b_questions_of _ _ = y at hx
  unfold U.b_questions_of at hy
  simp -implicitDefEqProofs [rng48] at hy
  generalize hd__ : DD.lcL _ _ _ _ _ _ _ = d__ at hy
  have hs__ := SP.aq0 hd__ ((lc_filterI (fun z => m.testBit z.toNat)) _ ?_ ?_)
  subst hs__
  · simp -implicitDefEqProofs at hy
    subst hy
    exact hx.symm.trans (gc_same (by simp [lowW, lowL_ints]))
  · simp [qs48]
  · intro z hz
    have hz' := mem_qs48.mp hz
    refine ⟨_, rfl, ?_, by simp⟩
    simp [e_bit hz'.1, e_and1]
    rw [Bool.eq_iff_iff, decide_eq_true_iff, tstBit]
theorem lcLR_mapN {te : DX} {t0 : Lo} {S : Sto} {v p : Nat} {M : List Nat} {f : Nat → W} (hp : S[p]? = some (.lst (nl M))) (hz : M.length ≤ 1000) (h : ∀ m ∈ M, te (t0.set v (some (.int (m : Nat)))) S = .ok (f m) S) : lcLR (.nm v) dYes te t0 p (nl M) (nl M) [] S = .ok (.lst (M.map f)) S := by
  have := lcLR_map (g := .nm v) (te := te) (t0 := t0) hp (fun w => match w with | .int z => f z.toNat | _ => .non) (nl M) (by simpa using Nat.le_trans hz (by decide)) (fun w hw => by
    obtain ⟨m, hm, rfl⟩ := List.mem_map.mp hw
    exact ⟨_, rfl, by rw [h m hm]; simp⟩)
  rw [this, List.map_map]
  simp [Function.comp_def]
/-- the questions behind each node -/
def behindOf (nodes : List (List Int)) : List (List Int) := (mka 0 nodes).map qsOf
theorem asked_eq {nodes : List (List Int)} {e : Int} {S : Sto} (hg : Gns nodes e) (hl : nodes.length ≤ 1000) : U.fn_asked_behind [.tup (nodes.map nW)] S = .ok (.lst ((behindOf nodes).map nW)) S := by
  generalize hx : U.fn_asked_behind _ _ = x
  unfold U.fn_asked_behind at hx
  rw [DD.gcF_eq, DD.dFn_eq] at hx
  generalize hy : U.b_asked_behind _ _ = y at hx
  unfold U.b_asked_behind at hy
  simp -implicitDefEqProofs [sizeLine_eq, e_rep0 hl] at hy
  rw [e_down (n := nodes.length) (S1 := S ++ [.lst (List.replicate nodes.length (.int 0))]) (by simp) hl] at hy
  simp -implicitDefEqProofs at hy
  obtain ⟨t', X, e2, w2, w3, w4, rfl, rfl⟩ := forL_inv (g := gN 2) (b := b_asked_behind_l1) (intsDown ((nodes.length : Int) - 1) nodes.length)
    (fun j t X => ∃ (w2 w3 w4 : Option W), t = [some (.tup (nodes.map nW)), some (.ref S.length), w2, w3, w4] ∧ X = S ++ [.lst (nl (List.replicate (nodes.length - j) 0 ++ mka (nodes.length - j) (nodes.drop (nodes.length - j))))])
    (fun j w t X hw ⟨w2, w3, w4, ht, hX⟩ => by
      subst ht hX
      obtain ⟨hj, rfl⟩ := intsDown_mem hw
      obtain ⟨i, hi⟩ : ∃ i, nodes.length - j = i + 1 := ⟨nodes.length - j - 1, by omega⟩
      have hi2 : nodes.length - (j + 1) = i := by omega
      have hi3 : (nodes.length : Int) - 1 - j = i := by omega
      rw [hi, hi2, hi3]
      obtain ⟨node, hn⟩ : ∃ node, nodes[i]? = some node := ⟨nodes[i]'(by omega), List.getElem?_eq_getElem _⟩
      obtain ⟨q, ts, rfl, hts, q0, q1, hgt⟩ := gn_cons (hg i node hn)
      rw [drop_cons hn]
      generalize hms : mka (i + 1) (nodes.drop (i + 1)) = ms
      have hmsl : ms.length = nodes.length - (i + 1) := by rw [← hms, mka_len]; simp
      have hMg := mask_get (n := nodes.length) (i := i) (by omega) hmsl
      have hMs := mask_set (i := i) (ms := ms) (m := bh i ms (2 ^ q.toNat) (ts.take 2))
      generalize hM : List.replicate (i + 1) 0 ++ ms = M at hMg hMs
      have hMl : M.length = nodes.length := by rw [← hM]; simp; omega
      generalize hx : turn _ _ _ _ _ = x
      have hixn : ∀ S, ixD (.tup (nodes.map nW)) (.int i) S = .ok (nW (q :: ts)) S := fun S => e_ixT (atI_get (by omega) (by rw [List.getElem?_map]; simp [hn]))
      have sh : ∀ S, iShl (.int 1) (.int q) S = .ok (.int (2 ^ q.toNat)) S := fun S => e_shl1 q0 (by omega)
      have ix : ixN nodes.length i = some i := ixN_in (by omega) (by omega)
      have cut : cutW (W.int q :: List.map W.int ts) (some 1) (some 3) = wl (ts.take 2) := by rw [cut_lohi (by decide) (by decide)]; simp [wl, List.map_take]
      simp -implicitDefEqProofs [turn, b_asked_behind_l1, gN, hixn, sh] at hx
      rw [cut, show (2 : Int) ^ q.toNat = ((2 ^ q.toNat : Nat) : Int) by simp] at hx
      generalize hd__ : DD.forL _ _ _ _ _ = d__ at hx
      have hs__ := SP.aq1 hd__ (((abloop (n := nodes.length) (e := e) (i := i) (M := M) (ms := ms) (S := S) (g := []) hMg _ _ (ts.take 2) (fun t ht => hgt t (List.mem_of_mem_take ht)))) _ _)
      obtain ⟨w5', e5⟩ := hs__
      subst e5
      simp -implicitDefEqProofs [hMl, ix] at hx
      subst hx
      refine ⟨_, _, .inl rfl, some (.int i), some (.int (bh i ms (2 ^ q.toNat) (ts.take 2) : Nat)), w5', by simp, ?_⟩
      have : mka i ((q :: ts) :: nodes.drop (i + 1)) = bh i ms (2 ^ q.toNat) (ts.take 2) :: ms := by simp [mka, hms]
      rw [this, ← hMs]
      simp [List.map_set])
    (t := [some (.tup (nodes.map nW)), some (.ref S.length), none, none, none]) (S := S ++ [.lst (List.replicate nodes.length (.int 0))])
    ⟨none, none, none, by simp, by simp [mka]⟩
  rw [e2, intsDown_length, Nat.sub_self] at hy
  simp -implicitDefEqProofs at hy
  generalize hd__ : DD.lcLR _ _ _ _ _ _ _ _ _ = d__ at hy
  have hs__ := SP.aq0 hd__ (((lcLR_mapN (f := fun m => nW (qsOf m)) app_get)) ?_ ?_)
  subst hs__
  · simp -implicitDefEqProofs at hy
    subst hy
    have e3 : ((mka 0 nodes).map fun m => nW (qsOf m)) = (behindOf nodes).map nW := by simp [behindOf, List.map_map, Function.comp_def]
    rw [e3] at hx
    exact hx.symm.trans (gc_app low_nodes)
  · rw [mka_len]; exact hl
  · intro m hm
    simp [questions_eq]
end SP
namespace SP
open PySem L2 DD U
/-- lists or tuples of numbers -/
inductive NV : List W → List (List Int) → Prop
  | nil : NV [] []
  | cons {w : W} {ws : List W} {n : List Int} {ns : List (List Int)} : (w = nW n ∨ w = lW n) → NV ws ns → NV (w :: ws) (n :: ns)
theorem NV.len {ws : List W} {ns : List (List Int)} (h : NV ws ns) : ws.length = ns.length := by induction h with
  | nil => rfl
  | cons _ _ ih => simp [ih]
theorem NV.mem {ws : List W} {ns : List (List Int)} (h : NV ws ns) : ∀ w ∈ ws, ∃ n, w = nW n ∨ w = lW n := by induction h with
  | nil => intro w hw; cases hw
  | cons a _ ih =>
    intro w hw
    rcases List.mem_cons.mp hw with rfl | hw
    · exact ⟨_, a⟩
    · exact ih w hw
theorem NV.tups : ∀ ns : List (List Int), NV (ns.map nW) ns
  | [] => .nil
  | _ :: ns => .cons (.inl rfl) (NV.tups ns)
/-- tuple(node) for each node -/
theorem lc_tup {te : DX} {t0 : Lo} {S : Sto} {v : Nat} (h : ∀ w n, (w = nW n ∨ w = lW n) → te (t0.set v (some w)) S = .ok (nW n) S) : ∀ {ws : List W} {ns : List (List Int)}, NV ws ns → ∀ acc : List (List Int), acc.length + ns.length ≤ 100000 → lcL (.nm v) dYes te t0 ws (acc.map nW) S = .ok (.lst ((acc ++ ns).map nW)) S := by
  intro ws ns hv
  induction hv with
  | nil => intro acc _; simp [lcL]
  | @cons w ws n ns a _ ih =>
    intro acc hz
    rw [List.length_cons] at hz
    have hs : acc.length < sizeLine := by rw [sizeLine_eq]; omega
    rw [lcL]
    simp only [e_putN, e_yes, h w n a, List.length_map, if_pos hs]
    have := ih (acc ++ [n]) (by simp; omega)
    simpa using this
def webO (nodes : List (List Int)) (ends st : Int) : W := .obj 30 ["nodes", "ends", "start", "behind"] [.tup (nodes.map nW), .int ends, .int st, .lst ((behindOf nodes).map nW)]
theorem enum_mem {n : Int} {ws : List W} {i : Nat} {x : W} (h : (enumFrom n ws)[i]? = some x) : ∃ w, ws[i]? = some w ∧ x = .tup [.int (n + i), w] := enumFrom_get h
theorem web_init_ok {S : Sto} {nodes : List (List Int)} {ws : List W} {w : W} {ends st : Int} {stW : W} (hv : NV ws nodes) (hw : w = .lst ws ∨ w = .tup ws ∨ ∃ p, w = .ref p ∧ S[p]? = some (.lst ws)) (h1 : 1 ≤ ends) (h2 : ends ≤ 60) (hG : Gns nodes ends)
    (hst : stW = .int st ∨ stW = .non ∧ st = if nodes = [] then -1 else 0) (hs1 : -1 - ends < st) (hs2 : st < nodes.length) (hr : rp 0 nodes = none) (hl : nodes.length ≤ 1000) :
    U.fn_Web_init [.ref S.length, w, .int ends, stW] (S ++ [.ins 30 [] []]) = .ok .non (S ++ [.ins 30 ["nodes", "ends", "start", "behind"] [.tup (nodes.map nW), .int ends, .int st, .lst ((behindOf nodes).map nW)]]) := by
  generalize hx : U.fn_Web_init _ _ = x
  unfold U.fn_Web_init at hx
  rw [gcF_eq, dFn_eq] at hx
  generalize hy : U.b_Web_init _ _ = y at hx
  unfold U.b_Web_init at hy
  have hlc : ∀ (t : Lo) (te : DX), (∀ w n, (w = nW n ∨ w = lW n) → te (t.set 7 (some w)) (S ++ [.ins 30 [] []]) = .ok (nW n) (S ++ [.ins 30 [] []])) → lcL (.nm 7) dYes te t ws [] (S ++ [.ins 30 [] []]) = .ok (.lst (nodes.map nW)) (S ++ [.ins 30 [] []]) := fun t te h => by
    have := lc_tup h hv [] (by simp; omega)
    simpa using this
  have hk : dLcA (dVar 1) (.nm 7) dYes (dBi tupleF (dCons (dVar 7) dNil)) [7] [some (.ref S.length), some w, some (.int ends), some stW, none, none, none, none] (S ++ [.ins 30 [] []]) = .ok (.lst (nodes.map nW)) (S ++ [.ins 30 [] []]) := by
    have hte : ∀ w' n, (w' = nW n ∨ w' = lW n) → (dBi tupleF (dCons (dVar 7) dNil)) ([some (.ref S.length), some w, some (.int ends), some stW, none, none, none, none].set 7 (some w')) (S ++ [.ins 30 [] []]) = .ok (nW n) (S ++ [.ins 30 [] []]) := by
      rintro w' n (rfl | rfl) <;> simp
    rcases hw with rfl | rfl | ⟨p, rfl, hp⟩
    · simp [dLcA]
      exact hlc _ _ hte
    · simp [dLcA]
      exact hlc _ _ hte
    · have hp' : (S ++ [O.ins 30 [] []])[p]? = some (.lst ws) := by
        rw [List.getElem?_append_left (List.getElem?_eq_some_iff.mp hp).1]; exact hp
      simp [dLcA, hp']
      rw [lcLR_same hp' ws [] (fun w hw => ?_)]
      · exact hlc _ _ hte
      · obtain ⟨n, hn⟩ := hv.mem w hw
        exact ⟨_, rfl, .inl ⟨_, rfl, hte w n hn⟩⟩
  simp -implicitDefEqProofs [hk, h1, h2, dEnumA, dEnumT] at hy
  obtain ⟨t', X, e2, w6, w7, rfl, rfl⟩ := forL_inv (g := gTp 2 (gsCons (gN 6) (gsCons (gN 7) gsNil))) (b := b_Web_init_l0) (enumFrom 0 (nodes.map nW))
    (fun j t X => ∃ (w6 w7 : Option W), t = [some (.ref S.length), some w, some (.int ends), some stW, some (.tup (nodes.map nW)), none, w6, w7] ∧ X = S ++ [.ins 30 [] []])
    (fun j w' t X hw' ⟨w6, w7, ht, hX⟩ => by
      subst ht hX
      obtain ⟨w2, hw2, rfl⟩ := enum_mem hw'
      rw [List.getElem?_map] at hw2
      obtain ⟨node, hn, rfl⟩ := Option.map_eq_some_iff.mp hw2
      have hgn := hG j node hn
      generalize hx : turn _ _ _ _ _ = x
      simp -implicitDefEqProofs [turn, b_Web_init_l0, gTp, gsCons, gsNil, gN, good_node_eq, hgn, truW] at hx
      subst hx
      exact ⟨_, _, .inl rfl, _, _, rfl, rfl⟩)
    (t := [some (.ref S.length), some w, some (.int ends), some stW, some (.tup (nodes.map nW)), none, none, none]) (S := S ++ [.ins 30 [] []]) ⟨none, none, rfl, rfl⟩
  rw [e2] at hy
  generalize htl : dSeq (dIfS (dtNot (dTest (dChain iLt iLt _ _ _))) _ _) _ = tl at hy
  have key : tl [some (.ref S.length), some w, some (.int ends), some (.int st), some (.tup (nodes.map nW)), none, w6, w7] (S ++ [.ins 30 [] []]) = y := by
    rcases hst with rfl | ⟨rfl, rfl⟩
    · simp -implicitDefEqProofs [isNone] at hy
      exact hy
    · by_cases hne : nodes = []
      · subst hne
        simp -implicitDefEqProofs [isNone, truW] at hy
        exact hy
      · simp -implicitDefEqProofs [isNone, truW, hne] at hy
        simpa [hne] using hy
  clear hy
  subst htl
  simp -implicitDefEqProofs [hs1, hs2, repeats_eq hG hl, hr, oW, isNone] at key
  have d1 : ¬ ((Str.ofString "nodes" : Str) = Str.ofString "ends") := by decide
  have d2 : ¬ ((Str.ofString "nodes" : Str) = Str.ofString "start") := by decide
  have d3 : ¬ ((Str.ofString "nodes" : Str) = Str.ofString "behind") := by decide
  have d4 : ¬ ((Str.ofString "ends" : Str) = Str.ofString "start") := by decide
  have d5 : ¬ ((Str.ofString "ends" : Str) = Str.ofString "behind") := by decide
  have d6 : ¬ ((Str.ofString "start" : Str) = Str.ofString "behind") := by decide
  simp -implicitDefEqProofs [dSetF, fput, asked_eq hG hl, d1, d2, d3, d4, d5, d6] at key
  subst key
  rw [← hx]
  refine gc_set (by simp) (fun i hi => ?_) rfl
  by_cases h : i < S.length
  · left; rw [List.getElem?_append_left h, List.getElem?_append_left h]
  · have : i = S.length := by simp at hi; omega
    subst this
    refine .inr ⟨_, app_get, ?_⟩
    simp only [lowO, lowL, Bool.and_eq_true]
    exact ⟨lowL_all fun w hw => (by obtain ⟨a, _, rfl⟩ := List.mem_map.mp hw; simp [lowW, lowL_ints]), (by first | rfl | trivial), (by first | rfl | trivial), low_nodes, (by first | rfl | trivial)⟩
/-- a web is made -/
theorem mkweb_ok {S : Sto} {t : Lo} {da dk : DA} {aW : List W → List W → List W} {nodes : List (List Int)} {ws : List W} {w : W} {ends st : Int} {stW : W} (hd : da t S = .ok [w, .int ends] S) (hk : dk t S = .ok [stW] S) (hv : NV ws nodes) (hw : w = .lst ws ∨ w = .tup ws ∨ ∃ p, w = .ref p ∧ S[p]? = some (.lst ws)) (h1 : 1 ≤ ends) (h2 : ends ≤ 60) (hG : Gns nodes ends)
    (hst : stW = .int st ∨ stW = .non ∧ st = if nodes = [] then -1 else 0) (hs1 : -1 - ends < st) (hs2 : st < nodes.length) (hr : rp 0 nodes = none) (hl : nodes.length ≤ 1000) (ha : aW [w, .int ends] [stW] = [w, .int ends, stW]) :
    dGc (dFrz (dMake 30 U.fn_Web_init (dBoth aW da dk))) t S = .ok (webO nodes ends st) S := by
  have e1 := web_init_ok (S := S) hv hw h1 h2 hG hst hs1 hs2 hr hl
  have e2 : dFrz (dMake 30 U.fn_Web_init (dBoth aW da dk)) t S = .ok (webO nodes ends st) (S ++ [.dead]) := by
    simp [dFrz, dMake, dBoth, hd, hk, ha, e1, webO]
  unfold dGc
  rw [e2]
  refine gc_app ?_
  simp only [webO, lowW, lowL, Bool.and_eq_true]
  exact ⟨lowL_all fun w hw => (by obtain ⟨a, _, rfl⟩ := List.mem_map.mp hw; simp [lowW, lowL_ints]), (by first | rfl | trivial), (by first | rfl | trivial), low_nodes, (by first | rfl | trivial)⟩
end SP
namespace SP
open PySem L2 DD U
/-! ### where nodes lead -/
def qAt (nodes : List (List Int)) (i : Nat) : Int := (nodes.getD i []).headD 0
/-- j is led to from i; f tells which targets count -/
inductive Lead (f : List Int → List Int) (nodes : List (List Int)) : Nat → Nat → Prop
  | refl {i : Nat} : i < nodes.length → Lead f nodes i i
  | step {i : Nat} {node : List Int} {t : Int} {j : Nat} : nodes[i]? = some node → t ∈ f node → 0 ≤ t → Lead f nodes t.toNat j → Lead f nodes i j
/-- targets lead forth -/
def Fwd (f : List Int → List Int) (nodes : List (List Int)) : Prop := ∀ (i : Nat) (node : List Int), nodes[i]? = some node → ∀ t ∈ f node, 0 ≤ t → (i : Int) < t ∧ t < nodes.length
theorem Gns.fwd {nodes : List (List Int)} {e : Int} (h : Gns nodes e) : Fwd List.tail nodes := fun i node hn t ht h0 => by
  obtain ⟨q, ts, rfl, _, _, _, hgt⟩ := gn_cons (h i node hn)
  exact gt_lt (hgt t ht) h0
def f2 (node : List Int) : List Int := node.tail.take 2
theorem bh_bit {off : Nat} {ms : List Nat} {q : Nat} : ∀ (ts : List Int) (b : Nat), (bh off ms b ts).testBit q = true ↔ b.testBit q = true ∨ ∃ t ∈ ts, 0 ≤ t ∧ (ms.getD (t.toNat - off - 1) 0).testBit q = true
  | [], b => by simp [bh]
  | t :: ts, b => by
    have e : bh off ms b (t :: ts) = bh off ms (if 0 ≤ t then b ||| ms.getD (t.toNat - off - 1) 0 else b) ts := rfl
    rw [e, bh_bit ts]
    by_cases h : 0 ≤ t
    · rw [if_pos h, Nat.testBit_or, Bool.or_eq_true]
      constructor
      · rintro ((h1 | h1) | ⟨x, h1, h2, h3⟩)
        · exact .inl h1
        · exact .inr ⟨t, List.mem_cons_self .., h, h1⟩
        · exact .inr ⟨x, List.mem_cons_of_mem _ h1, h2, h3⟩
      · rintro (h1 | ⟨x, h1, h2, h3⟩)
        · exact .inl (.inl h1)
        · rcases List.mem_cons.mp h1 with rfl | h1
          · exact .inl (.inr h3)
          · exact .inr ⟨x, h1, h2, h3⟩
    · rw [if_neg h]
      constructor
      · rintro (h1 | ⟨x, h1, h2, h3⟩)
        · exact .inl h1
        · exact .inr ⟨x, List.mem_cons_of_mem _ h1, h2, h3⟩
      · rintro (h1 | ⟨x, h1, h2, h3⟩)
        · exact .inl h1
        · rcases List.mem_cons.mp h1 with rfl | h1
          · exact absurd h2 h
          · exact .inr ⟨x, h1, h2, h3⟩
/-- masks as a list over a suffix -/
theorem mk_get : ∀ {l : List (List Int)} {off j : Nat}, j < l.length → (mk off l)[j]? = (mk (off + j) (l.drop j))[0]?
  | [], _, _, h => by simp at h
  | node :: l, off, 0, _ => by simp
  | node :: l, off, j + 1, h => by
    simp only [List.length_cons] at h
    have := mk_get (l := l) (off := off + 1) (j := j) (by omega)
    simp only [mk, List.getElem?_cons_succ, List.drop_succ_cons]
    rw [this, show off + 1 + j = off + (j + 1) by omega]
def mkAt (nodes : List (List Int)) (i : Nat) : Nat := (mk i (nodes.drop i)).getD 0 0
theorem mkAt_rest {nodes : List (List Int)} {i t : Nat} (h : i < t) (h1 : t < nodes.length) : (mk (i + 1) (nodes.drop (i + 1))).getD (t - i - 1) 0 = mkAt nodes t := by
  unfold mkAt
  rw [List.getD_eq_getElem?_getD, List.getD_eq_getElem?_getD, mk_get (by simp; omega), List.drop_drop]
  rw [show i + 1 + (t - i - 1) = t by omega]
theorem qAt_eq {nodes : List (List Int)} {i : Nat} {node : List Int} (h : nodes[i]? = some node) : qAt nodes i = node.headD 0 := by
  unfold qAt; rw [List.getD_eq_getElem?_getD, h]; rfl
/-- behind a node, its own question left out -/
theorem bh_lead {nodes : List (List Int)} {i q : Nat} {node : List Int} (hf : Fwd List.tail nodes) (hn : nodes[i]? = some node) (ih : ∀ t, i < t → t < nodes.length → ((mkAt nodes t).testBit q = true ↔ ∃ j, Lead List.tail nodes t j ∧ (qAt nodes j).toNat = q)) :
    (bh i (mk (i + 1) (nodes.drop (i + 1))) 0 node.tail).testBit q = true ↔ ∃ t ∈ node.tail, 0 ≤ t ∧ ∃ j, Lead List.tail nodes t.toNat j ∧ (qAt nodes j).toNat = q := by
  rw [bh_bit]
  simp only [Nat.zero_testBit, Bool.false_eq_true, false_or]
  constructor
  · rintro ⟨t, h1, h2, h3⟩
    have h4 := hf i node hn t h1 h2
    rw [mkAt_rest (by omega) (by omega), ih _ (by omega) (by omega)] at h3
    exact ⟨t, h1, h2, h3⟩
  · rintro ⟨t, h1, h2, h3⟩
    have h4 := hf i node hn t h1 h2
    refine ⟨t, h1, h2, ?_⟩
    rw [mkAt_rest (by omega) (by omega), ih _ (by omega) (by omega)]
    exact h3
theorem mkAt_bit {nodes : List (List Int)} (hf : Fwd List.tail nodes) {q : Nat} : ∀ (d i : Nat), nodes.length - i = d → i < nodes.length → ((mkAt nodes i).testBit q = true ↔ ∃ j, Lead List.tail nodes i j ∧ (qAt nodes j).toNat = q) := by
  intro d
  induction d using Nat.strongRecOn with
  | _ d ih =>
    intro i hd hi
    obtain ⟨node, hn⟩ : ∃ node, nodes[i]? = some node := ⟨nodes[i], List.getElem?_eq_getElem hi⟩
    have e : mkAt nodes i = bh i (mk (i + 1) (nodes.drop (i + 1))) 0 node.tail ||| 2 ^ (node.headD 0).toNat := by
      unfold mkAt; rw [drop_cons hn]; rfl
    rw [e, Nat.testBit_or, Bool.or_eq_true, bh_lead hf hn fun t h1 h2 => ih (nodes.length - t) (by omega) t rfl h2, Nat.testBit_two_pow, decide_eq_true_iff]
    constructor
    · rintro (⟨t, h1, h2, j, h3, h4⟩ | h)
      · exact ⟨j, .step hn h1 h2 h3, h4⟩
      · exact ⟨i, .refl hi, by rw [qAt_eq hn]; exact h⟩
    · rintro ⟨j, h1, h2⟩
      cases h1 with
      | refl _ => right; rw [qAt_eq hn] at h2; exact h2
      | @step _ node' t _ a b c d =>
        rw [hn] at a; cases a
        exact .inl ⟨t, b, c, j, d, h2⟩
theorem rp_none : ∀ {l : List (List Int)} {off : Nat}, rp off l = none ↔ ∀ (j : Nat) (node : List Int), l[j]? = some node → (bh (off + j) (mk (off + j + 1) (l.drop (j + 1))) 0 node.tail).testBit (node.headD 0).toNat = false
  | [], off => by simp [rp]
  | node :: l, off => by
    have ih := rp_none (l := l) (off := off + 1)
    constructor
    · intro h j n hn
      simp only [rp] at h
      split at h
      · cases h
      · rename_i hb
        cases j with
        | zero =>
          simp at hn; subst hn
          simpa using hb
        | succ j =>
          have := ih.mp h j n (by simpa using hn)
          rw [show off + (j + 1) = off + 1 + j by omega]
          simpa using this
    · intro h
      have h0 := h 0 node (by simp)
      simp only [rp]
      rw [if_neg (by simpa using h0), ih]
      intro j n hn
      have := h (j + 1) n (by simpa using hn)
      rw [show off + (j + 1) = off + 1 + j by omega] at this
      simpa using this
/-- no question comes again -/
def NoRep (nodes : List (List Int)) : Prop := ∀ (i : Nat) (node : List Int), nodes[i]? = some node → ∀ t ∈ node.tail, 0 ≤ t → ∀ j, Lead List.tail nodes t.toNat j → (qAt nodes j).toNat ≠ (node.headD 0).toNat
theorem rp_none_iff {nodes : List (List Int)} (hf : Fwd List.tail nodes) : rp 0 nodes = none ↔ NoRep nodes := by
  rw [rp_none]
  constructor
  · intro h i node hn t ht h0 j hj e
    have := h i node hn
    rw [Nat.zero_add, Bool.eq_false_iff] at this
    exact this ((bh_lead hf hn fun t h1 h2 => mkAt_bit hf _ t rfl h2).mpr ⟨t, ht, h0, j, hj, e⟩)
  · intro h j node hn
    rw [Nat.zero_add, Bool.eq_false_iff]
    intro z
    obtain ⟨t, h1, h2, j', h3, h4⟩ := (bh_lead hf hn fun t h1 h2 => mkAt_bit hf _ t rfl h2).mp z
    exact h j node hn t h1 h2 j' h3 h4
end SP
namespace SP
open PySem L2 DD U
variable {n e : Int} {names : List Int} {sk : Bool}
theorem Nds.get {off : Int} {nodes bs : List (List Int)} (h : Nds n e names sk off nodes bs) : ∀ (j : Nat) (node : List Int), nodes[j]? = some node → ∃ b, bs[j]? = some b ∧ NdOk n e names sk (off + j) (bs.drop (j + 1)) node b := by
  induction h with
  | nil => intro j node hn; simp at hn
  | @cons i nodes bs node b h0 h1 h2 ih =>
    intro j nd hn
    cases j with
    | zero =>
      simp at hn; subst hn
      exact ⟨b, by simp, by simpa using h2⟩
    | succ j =>
      obtain ⟨b', h3, h4⟩ := ih j nd (by simpa using hn)
      refine ⟨b', by simpa using h3, ?_⟩
      rw [show i + ((j + 1 : Nat) : Int) = i + 1 + j by omega]
      simpa using h4
structure Law1 (nodes bs : List (List Int)) (e : Int) (names : List Int) (sk : Bool) : Prop where
  nds : Nds nodes.length e names sk 0 nodes bs
  nm : ∀ z ∈ names, 0 ≤ z ∧ z < 48
theorem Law1.of {nodes bs : List (List Int)} (h : Nds n e names sk 0 nodes bs) (nm : ∀ z ∈ names, 0 ≤ z ∧ z < 48) : Law1 nodes bs e names sk := by
  have := h.len.1
  rw [Int.sub_zero] at this
  rw [← this] at h
  exact ⟨h, nm⟩
theorem Law1.node {nodes bs : List (List Int)} (h : Law1 nodes bs e names sk) {i : Nat} {node : List Int} (hn : nodes[i]? = some node) : ∃ q ts, node = q :: ts ∧ (ts.length = 2 ∨ ts.length = 3 ∧ sk = true) ∧ (∀ t ∈ ts, gt t i nodes.length e = true) ∧ q ∈ names ∧ 0 ≤ q ∧ q < 48 := by
  obtain ⟨b, _, hb⟩ := h.nds.get i node hn
  obtain ⟨q, ts, h1, h2, h3, h4, _⟩ := hb.ex
  rw [Int.zero_add] at h3
  exact ⟨q, ts, h1, h2, h3, h4, h.nm q h4⟩
theorem gn_of {q : Int} {ts : List Int} {i n e : Int} (hl : ts.length = 2 ∨ ts.length = 3) (h0 : 0 ≤ q) (h1 : q < 48) (hg : ∀ t ∈ ts, gt t i n e = true) : gn (q :: ts) i n e = true := by
  simp only [gn, List.length_cons, List.headD_cons, List.tail_cons, Bool.and_eq_true, List.all_eq_true, decide_eq_true_eq]
  exact ⟨⟨⟨by rcases hl with h | h <;> simp [h], decide_eq_true h0⟩, decide_eq_true h1⟩, hg⟩
theorem Law1.gns {nodes bs : List (List Int)} (h : Law1 nodes bs e names sk) : Gns nodes e := fun i node hn => by
  obtain ⟨q, ts, rfl, h2, h3, h4, h5, h6⟩ := h.node hn
  exact gn_of (by omega) h5 h6 h3
theorem Lead.lt {f : List Int → List Int} {nodes : List (List Int)} {i j : Nat} (l : Lead f nodes i j) : j < nodes.length := by
  induction l with
  | refl h => exact h
  | step _ _ _ _ ih => exact ih
theorem Law1.asked {nodes bs : List (List Int)} (h : Law1 nodes bs e names sk) {i j : Nat} (l : Lead List.tail nodes i j) : ∃ b, bs[i]? = some b ∧ qAt nodes j ∈ b := by
  induction l with
  | @refl i hi =>
    obtain ⟨node, hn⟩ : ∃ node, nodes[i]? = some node := ⟨nodes[i], List.getElem?_eq_getElem hi⟩
    obtain ⟨b, hb, ho⟩ := h.nds.get i node hn
    obtain ⟨q, ts, rfl, _, _, _, _, rfl⟩ := ho.ex
    exact ⟨_, hb, by rw [qAt_eq hn]; simp⟩
  | @step i node t j hn ht h0 l ih =>
    obtain ⟨b, hb, ho⟩ := h.nds.get i node hn
    obtain ⟨q, ts, rfl, _, hg, _, _, rfl⟩ := ho.ex
    obtain ⟨b', hb', hm⟩ := ih
    refine ⟨_, hb, List.mem_append_left _ ?_⟩
    have := gt_lt (hg t ht) h0
    unfold usedOf
    rw [List.mem_flatMap]
    refine ⟨t, ht, ?_⟩
    rw [if_pos h0, List.getD_eq_getElem?_getD, List.getElem?_drop, show i + 1 + (t - (0 + (i : Int)) - 1).toNat = t.toNat by omega, hb']
    exact hm
theorem Law1.noRep {nodes bs : List (List Int)} (h : Law1 nodes bs e names sk) : NoRep nodes := by
  intro i node hn t ht h0 j l ne
  obtain ⟨b, hb, ho⟩ := h.nds.get i node hn
  obtain ⟨q, ts, rfl, _, hg, hq, hnu, rfl⟩ := ho.ex
  obtain ⟨b', hb', hm⟩ := h.asked l
  have hlt := gt_lt (hg t ht) h0
  have hj : j < nodes.length := l.lt
  obtain ⟨nj, hnj⟩ : ∃ node, nodes[j]? = some node := ⟨nodes[j], List.getElem?_eq_getElem hj⟩
  obtain ⟨qj, tj, rfl, _, _, hqj, h5, _⟩ := h.node hnj
  have hq0 := h.nm q hq
  rw [qAt_eq hnj] at hm ne
  simp only [List.headD_cons] at hm ne
  have : qj = q := by omega
  subst this
  refine hnu ?_
  unfold usedOf
  rw [List.mem_flatMap]
  refine ⟨t, ht, ?_⟩
  rw [if_pos h0, List.getD_eq_getElem?_getD, List.getElem?_drop, show i + 1 + (t - (0 + (i : Int)) - 1).toNat = t.toNat by omega, hb']
  exact hm
theorem Law1.rp {nodes bs : List (List Int)} (h : Law1 nodes bs e names sk) : rp 0 nodes = none := (rp_none_iff h.gns.fwd).mpr h.noRep
end SP
namespace SP
open PySem L2 DD U
variable {nodes : List (List Int)} {e st : Int} {S : Sto}
/-! ### a web's own -/
@[simp] theorem fld_nodes : fieldOf [30] "nodes" (webO nodes e st) S = some (.tup (nodes.map nW)) := rfl
@[simp] theorem fld_ends : fieldOf [30] "ends" (webO nodes e st) S = some (.int e) := rfl
@[simp] theorem fld_start : fieldOf [30] "start" (webO nodes e st) S = some (.int st) := rfl
@[simp] theorem fld_behind : fieldOf [30] "behind" (webO nodes e st) S = some (.lst ((behindOf nodes).map nW)) := rfl
@[simp] theorem isOf_web : isOf 30 (webO nodes e st) S = true := rfl
@[simp] theorem e_fld {cs : List Nat} {f : Str} {d : DX} {t : Lo} {S : Sto} : dFld cs f d t S = (d t S).bind fun w S1 => match fieldOf cs f w S1 with
  | some x => .ok x S1
  | none => .no := rfl
theorem dat_node {m : Nat} (l : List Int) : dat (m + 1) (nW l) = true := by simp only [dat]; exact dat_ints l
theorem dat_nodesL {m : Nat} (l : List (List Int)) : (l.map nW).all (dat (m + 1)) = true := List.all_eq_true.mpr fun w hw => by
  obtain ⟨a, _, rfl⟩ := List.mem_map.mp hw
  exact dat_node a
theorem eqWs_nodes : ∀ (a b : List (List Int)), eqWs (a.map nW) (b.map nW) = decide (a = b)
  | [], [] => by simp [eqWs]
  | [], _ :: _ => by simp [eqWs]
  | _ :: _, [] => by simp [eqWs]
  | x :: a, y :: b => by
    simp only [List.map_cons, eqWs, eqW, eqWs_ints, eqWs_nodes a b]
    rw [Bool.eq_iff_iff]; simp
theorem e_eqNodes {a b : List (List Int)} : eqD (.tup (a.map nW)) (.tup (b.map nW)) S = .ok (.bl (decide (a = b))) S := by
  rw [e_eq (by exact dat_nodesL (m := 14) a) (by exact dat_nodesL (m := 14) b)]
  simp [eqW, eqWs_nodes]
theorem e_neNodes {a b : List (List Int)} : neD (.tup (a.map nW)) (.tup (b.map nW)) S = .ok (.bl (!decide (a = b))) S := by
  rw [e_ne (by exact dat_nodesL (m := 14) a) (by exact dat_nodesL (m := 14) b)]
  simp [eqW, eqWs_nodes]
theorem web_eq {nodes' : List (List Int)} {e' st' : Int} : U.fn_Web_eq [webO nodes e st, webO nodes' e' st'] S = .ok (.bl (decide (nodes = nodes') && (decide (e = e') && decide (st = st')))) S := by
  generalize hx : U.fn_Web_eq _ _ = x
  unfold U.fn_Web_eq at hx
  rw [DD.gcF_eq, DD.dFn_eq] at hx
  generalize hy : U.b_Web_eq _ _ = y at hx
  unfold U.b_Web_eq at hy
  have hi : ∀ S, isiF (isi1 30) [webO nodes' e' st', .cls 30] S = .ok (.bl true) S := fun S => rfl
  have hy' : y = .rt (.bl (decide (nodes = nodes') && (decide (e = e') && decide (st = st')))) S := by
    by_cases h1 : nodes = nodes'
    · by_cases h2 : e = e'
      · simp -implicitDefEqProofs [hi, truW, e_eqNodes, h1, h2] at hy
        rw [← hy]; simp [h1, h2]
      · simp -implicitDefEqProofs [hi, truW, e_eqNodes, h1, h2] at hy
        rw [← hy]; simp [h1, h2]
    · simp -implicitDefEqProofs [hi, truW, e_eqNodes, h1] at hy
      rw [← hy]; simp [h1]
  subst hy'
  exact hx.symm.trans (gc_same rfl)
end SP
namespace SP
open PySem L2 DD U
variable {nodes : List (List Int)} {e st : Int} {S : Sto}
theorem Gns.q {i : Nat} {node : List Int} (h : Gns nodes e) (hn : nodes[i]? = some node) : 0 ≤ node.headD 0 ∧ node.headD 0 < 48 := by
  obtain ⟨q, ts, rfl, _, h0, h1, _⟩ := gn_cons (h i node hn)
  exact ⟨h0, h1⟩
end SP
namespace U
open PySem L2 DD
end U
namespace U
open PySem L2 DD
end U
namespace SP
open PySem L2 DD U
/-- a position that leads to another by right and wrong targets -/
inductive Ld (nodes : List (List Int)) : Int → Int → Prop
  | refl {p : Int} : Ld nodes p p
  | step {p t x : Int} {node : List Int} : 0 ≤ p → nodes[p.toNat]? = some node → t ∈ f2 node → Ld nodes t x → Ld nodes p x
variable {nodes : List (List Int)} {e st : Int} {S : Sto}
theorem Ld.snoc {p x t : Int} {node : List Int} (l : Ld nodes p x) (h0 : 0 ≤ x) (hn : nodes[x.toNat]? = some node) (ht : t ∈ f2 node) : Ld nodes p t := by
  induction l with
  | refl => exact .step h0 hn ht .refl
  | step a b c _ ih => exact .step a b c (ih h0 hn)
@[simp] theorem e_dDIn {neg : Bool} {k d : DX} {t : Lo} {S : Sto} : dDIn neg k d t S = (k t S).bind fun y S1 => (d t S1).bind fun w S2 => match dicOf S2 w, keyW y with
  | some p, some k => .ok (.bl (neg != (dGetW p.1 p.2 k).isSome)) S2
  | _, _ => .no := rfl
@[simp] theorem e_dDPut {d k v : DX} {t : Lo} {S : Sto} : dDPut d k v t S = (v t S).toF t fun x S1 => (d t S1).toF t fun w S2 => (k t S2).toF t fun y S3 => match w with
  | .ref i => match S3[i]?, keyW y with
    | some (.dic ks ws), some k => if ks.Nodup ∧ ks.length < 1000000 then .nx t (S3.set i (.dic (dPutW ks ws k x).1 (dPutW ks ws k x).2)) else .no
    | _, _ => .no
  | _ => .no := rfl
/-- positions of a web -/
def Ps (n : Nat) (e : Int) (x : Int) : Prop := -1 - e < x ∧ x < n
end SP
namespace SP
open PySem L2 DD U
variable {nodes : List (List Int)} {e st : Int} {S : Sto}
theorem Ld.neg {p x : Int} (l : Ld nodes p x) (hp : p < 0) : x = p := by
  cases l with
  | refl => rfl
  | step h0 => omega
open Classical in
noncomputable def nds (nodes : List (List Int)) (p : Int) : List Int := ((List.range nodes.length).map fun (i : Nat) => (i : Int)).filter fun z => decide (Ld nodes p z)
end SP
namespace SP
open PySem L2 DD U
/-- the second kind of pool: the cells, the state -/
def Po2 (C T : O) : Prop := ∃ (cells : List Int) (c : Int), C = .lst (cells.map W.int) ∧ T = .lst [.ref 0, .int c]
theorem Po2.low {C T : O} {n : Nat} (h : Po2 C T) (hn : 0 < n) : lowO n C = true ∧ lowO n T = true := by
  obtain ⟨cells, c, rfl, rfl⟩ := h
  exact ⟨by simp [lowO, lowL_ints], by simp [lowO, lowL, lowW, hn]⟩
end SP
namespace SP
open PySem L2 DD U
end SP
namespace U
open PySem L2 DD
end U
namespace U
open PySem L2 DD
end U
namespace U
open PySem L2 DD
end U
namespace U
open PySem L2 DD
end U
namespace U
open PySem L2 DD
end U
namespace SP
open PySem L2 DD U
/-! ### the plain joint walk -/
abbrev Ent := Int × List Int
abbrev eW (e : Ent) : W := .tup [.int e.1, nW e.2]
abbrev mW (M : List Ent) : W := .tup (M.map eW)
/-! ### whose turn it is -/
end SP
namespace SP
open PySem L2 DD U
/-! ### the memory with an answer -/
end SP
namespace SP
open PySem L2 DD U
/-- a web: its nodes, ends, start -/
abbrev Wb := List (List Int) × Int × Int
/-- positions of the webs -/
def PosOk (L : List Wb) (P : List Int) : Prop := P.length = L.length ∧ ∀ (i : Nat) (w : Wb) (p : Int), L[i]? = some w → P[i]? = some p → Ps w.1.length w.2.1 p
/-! ### does an entry count -/
end SP
namespace SP
open PySem L2 DD U
theorem lc_enc {α : Type} {g : Tg} {tt : DT} {te : DX} {t0 : Lo} {S : Sto} (enc : α → W) (p : α → Bool) (f : α → W) : ∀ (l : List α) (acc : List W), acc.length + l.length ≤ 100000 → (∀ a ∈ l, ∃ t1, g.put (enc a) t0 = some t1 ∧ tt t1 S = .ok (p a) S ∧ (p a = true → te t1 S = .ok (f a) S)) → lcL g tt te t0 (l.map enc) acc S = .ok (.lst (acc ++ (l.filter p).map f)) S
  | [], acc, _, _ => by simp [lcL]
  | a :: l, acc, hz, h => by
    obtain ⟨t1, e0, e1, e2⟩ := h a (List.mem_cons_self ..)
    have hs : acc.length < sizeLine := by rw [sizeLine_eq]; simp at hz; omega
    rw [List.map_cons, lcL]
    simp only [e0, e1]
    cases hp : p a with
    | true =>
      simp only [e2 hp, if_pos hs]
      rw [lc_enc enc p f l (acc ++ [f a]) (by simp at hz ⊢; omega) fun x hx => h x (List.mem_cons_of_mem _ hx)]
      simp [List.filter_cons, hp]
    | false =>
      simp only []
      rw [lc_enc enc p f l acc (by simp at hz ⊢; omega) fun x hx => h x (List.mem_cons_of_mem _ hx)]
      simp [List.filter_cons, hp]
/-! ### whose turn: a node -/
theorem PosOk.set {L : List Wb} {P : List Int} {w : Nat} {wb : Wb} {t : Int} (hP : PosOk L P) (hb : L[w]? = some wb) (ht : Ps wb.1.length wb.2.1 t) : PosOk L (P.set w t) := by
  refine ⟨by simp [hP.1], fun i w' p hw hp => ?_⟩
  rw [List.getElem?_set] at hp
  split at hp
  · rename_i e
    subst e
    rw [hb] at hw
    cases hw
    split at hp
    · cases hp; exact ht
    · cases hp
  · exact hP.2 i w' p hw hp
end SP
namespace U
open PySem L2 DD
end U
namespace U
open PySem L2 DD
end U
namespace U
open PySem L2 DD
end U
namespace U
open PySem L2 DD
end U
namespace U
open PySem L2 DD
end U
namespace U
open PySem L2 DD
end U
namespace U
open PySem L2 DD
end U
namespace U
open PySem L2 DD
end U
namespace U
open PySem L2 DD
end U
namespace U
open PySem L2 DD
end U
namespace U
open PySem L2 DD
end U
namespace U
open PySem L2 DD
end U
namespace U
open PySem L2 DD
end U
namespace U
open PySem L2 DD
end U
namespace U
open PySem L2 DD
end U
namespace U
open PySem L2 DD
end U
namespace U
open PySem L2 DD
end U
namespace U
open PySem L2 DD
end U
namespace U
open PySem L2 DD
end U
namespace U
open PySem L2 DD
end U
namespace U
open PySem L2 DD
end U
namespace U
open PySem L2 DD
end U
namespace U
open PySem L2 DD
end U
namespace U
open PySem L2 DD
end U
namespace U
open PySem L2 DD
end U
namespace U
open PySem L2 DD
end U
namespace U
open PySem L2 DD
end U
namespace U
open PySem L2 DD
end U
namespace U
open PySem L2 DD
end U
namespace U
open PySem L2 DD
end U
namespace U
open PySem L2 DD
end U
namespace U
open PySem L2 DD
end U
namespace U
open PySem L2 DD
end U
namespace U
open PySem L2 DD
end U
namespace U
open PySem L2 DD
end U
namespace U
open PySem L2 DD
end U
namespace U
open PySem L2 DD
end U
namespace U
open PySem L2 DD
end U
namespace U
open PySem L2 DD
end U
namespace U
open PySem L2 DD
end U
namespace U
open PySem L2 DD
end U
namespace U
open PySem L2 DD
end U
namespace U
open PySem L2 DD
end U
namespace U
open PySem L2 DD
end U
namespace U
open PySem L2 DD
end U
namespace U
open PySem L2 DD
end U
namespace U
open PySem L2 DD
end U
namespace U
open PySem L2 DD
end U
namespace U
open PySem L2 DD
end U
namespace U
open PySem L2 DD
end U
namespace U
open PySem L2 DD
end U
namespace U
open PySem L2 DD
end U
namespace U
open PySem L2 DD
noncomputable def b_plain_number : DS :=
    (dSeq (dIfS (dtOr (dtNot (dTest (dChain iLe iLe (dC (.int 1)) (dBi lenF (dCons (dVar 0) dNil)) (dC (.int 4))))) (dtNot (dTru (dBi allF (dCons (dLc (dSeqS (dVar 0)) (.nm 1) dYes (dOp inS (dVar 1) (dC (.str "0123456789"))) [1]) dNil)))))
    (dRet (dC .non))
    dNext)
    (dSeq (dIfS (dtAnd (dTest (dOp eqD (dOp ixS (dVar 0) (dC (.int 0))) (dC (.str "0")))) (dTest (dOp neD (dVar 0) (dC (.str "0")))))
    (dRet (dC .non))
    dNext)
    (dRet (dBi intS (dCons (dVar 0) dNil)))))
noncomputable def fn_plain_number : Fn := gcF (dFn 2 b_plain_number)
end U
/-! Texts: plain numbers. -/
namespace SP
open PySem L2 DD U TL
section
variable {S : Sto}
theorem tl_slice (z : Str) (lo hi : Option Int) : tl (Txt.slice z lo hi) = ((tl z).drop (HT.sIx z.length 0 lo)).take (HT.sIx z.length z.length hi - HT.sIx z.length 0 lo) := by
  rw [← C8.cutS_slice]; rfl
/-- digits without a leading zero -/
theorem numL_ofN : ∀ (k : Nat) (l : List Nat), l.length ≤ k → NumText.AllDigits l → l ≠ [] → (l.head? = some 48 → l = [48]) → ∃ n, l = numL n ∧ n < 10 ^ l.length
  | k, l, hk, hd, h0, hz => by
    rcases List.eq_nil_or_concat l with rfl | ⟨l', d, rfl⟩
    · exact absurd rfl h0
    · rw [List.concat_eq_append] at *
      have hdd := hd d (by simp)
      cases l' with
      | nil =>
        refine ⟨d - 48, ?_, by simp; omega⟩
        rw [numL_lt (by omega)]
        simp; omega
      | cons c l' =>
        have hc : c ≠ 48 := fun h => by
          have := hz (by simp [h])
          simp at this
        obtain ⟨j, rfl⟩ : ∃ j, k = j + 1 := ⟨k - 1, by simp at hk; omega⟩
        obtain ⟨m, hm, hml⟩ := numL_ofN j (c :: l') (by simp at hk ⊢; omega) (fun x hx => hd x (List.mem_append_left _ hx)) (by simp) (fun h => by simp at h; exact absurd h hc)
        have hm1 : 1 ≤ m := by
          by_cases h : m = 0
          · subst h
            rw [numL_lt (by decide)] at hm
            cases hm
            exact absurd rfl hc
          · omega
        refine ⟨10 * m + (d - 48), ?_, ?_⟩
        · rw [numL_step (by omega)]
          have e1 : (10 * m + (d - 48)) / 10 = m := by omega
          have e2 : 48 + (10 * m + (d - 48)) % 10 = d := by omega
          rw [e1, e2, ← hm]
        · rw [List.length_append, List.length_singleton, Nat.pow_succ]
          omega
theorem numL_of {l : List Nat} (hd : NumText.AllDigits l) (h0 : l ≠ []) (hz : l.head? = some 48 → l = [48]) : ∃ n, l = numL n ∧ n < 10 ^ l.length := numL_ofN _ l (Nat.le_refl _) hd h0 hz
/-- no leading zero -/
theorem numL_head : ∀ (k n : Nat), n ≤ k → (numL n).head? = some 48 → n = 0
  | k, n, hk, h => by
    by_cases h10 : n < 10
    · rw [numL_lt h10] at h
      simp at h; omega
    · obtain ⟨j, rfl⟩ : ∃ j, k = j + 1 := ⟨k - 1, by omega⟩
      rw [numL_step (by omega)] at h
      have hne := numL_ne (n / 10)
      obtain ⟨a, r, e⟩ := List.exists_cons_of_ne_nil hne
      rw [e] at h
      simp at h
      have := numL_head j (n / 10) (by omega) (by rw [e, h]; rfl)
      omega
/-- a plain number: its digits are those of a number below 10000 -/
def pnL (l : List Nat) : Option Nat := if NumText.digitsVal l < 10000 ∧ l = numL (NumText.digitsVal l) then some (NumText.digitsVal l) else none
theorem pnL_some {l : List Nat} {n : Nat} : pnL l = some n ↔ n < 10000 ∧ l = numL n := by
  unfold pnL
  constructor
  · intro h
    split at h
    · rename_i h1
      cases h
      exact h1
    · cases h
  · rintro ⟨h1, rfl⟩
    rw [numL_val, if_pos ⟨h1, rfl⟩]
def digS : Str := "0123456789"
theorem tl_dig : tl digS = [48, 49, 50, 51, 52, 53, 54, 55, 56, 57] := by decide +kernel
theorem mem_dig {c : Nat} : c ∈ digS.cps.toList ↔ 48 ≤ c ∧ c ≤ 57 := by
  have : digS.cps.toList = [48, 49, 50, 51, 52, 53, 54, 55, 56, 57] := tl_dig
  rw [this]
  simp only [List.mem_cons, List.not_mem_nil, or_false]
  omega
theorem inS_one {c : Nat} {y : Str} : inS (.str ⟨#[c]⟩) (.str y) S = .ok (.bl (decide (c ∈ y.cps.toList))) S := by
  unfold inS
  simp only []
  rw [PySem.StrLaws.found_one]
theorem ok_str {x : Str} (h : PyData.strOk x = true) : dat dDep (.str x) = true := by
  have e : dDep = 15 + 1 := rfl
  rw [e]; simp only [dat]; exact h
theorem eq_str' {x y : Str} (h1 : PyData.strOk x = true) (h2 : PyData.strOk y = true) : eqD (.str x) (.str y) S = .ok (.bl (decide (x = y))) S := by
  rw [e_eq (ok_str h1) (ok_str h2)]
  refine congrArg (fun b : Bool => DD.R.ok (W.bl b) S) ?_
  simp only [eqW]
  by_cases h : x = y
  · subst h; simp
  · rw [decide_eq_false h]; simpa using h
theorem ne_str' {x y : Str} (h1 : PyData.strOk x = true) (h2 : PyData.strOk y = true) : neD (.str x) (.str y) S = .ok (.bl (!decide (x = y))) S := by
  have := eq_str' (S := S) h1 h2
  rw [e_eq (ok_str h1) (ok_str h2)] at this
  rw [e_ne (ok_str h1) (ok_str h2)]
  simp only [DD.R.ok.injEq, W.bl.injEq, and_true] at this
  rw [this]
theorem ok_iff {x : Str} : PyData.strOk x = true ↔ ∀ c ∈ tl x, c < 0x110000 := by
  unfold PyData.strOk
  rw [← Array.all_toList, List.all_eq_true]
  simp
theorem one_eq {c d : Nat} : ((⟨#[c]⟩ : Str) = ⟨#[d]⟩) ↔ c = d := by
  constructor
  · intro h; have := congrArg (fun z : Str => tl z) h; simpa [tl] using this
  · rintro rfl; rfl
def pnW (x : Str) : W := match pnL (tl x) with
  | some n => .int (n : Nat)
  | none => .non
theorem pnW_none {x : Str} (h : ∀ n, n < 10000 → tl x ≠ numL n) : pnW x = .non := by
  unfold pnW
  cases e : pnL (tl x) with
  | none => rfl
  | some n => obtain ⟨h1, h2⟩ := pnL_some.mp e; exact absurd h2 (h n h1)
theorem pnW_some {x : Str} {n : Nat} (h : n < 10000) (e : tl x = numL n) : pnW x = .int (n : Nat) := by
  unfold pnW
  rw [pnL_some.mpr ⟨h, e⟩]
theorem low_pn (m : Nat) (x : Str) : lowW m (pnW x) = true := by
  unfold pnW; split <;> rfl
theorem plain_ok {x : Str} (hx : PyData.strOk x = true) (hl : x.length ≤ 100000) : U.fn_plain_number [.str x] S = .ok (pnW x) S := by
  generalize hxz : U.fn_plain_number _ _ = z
  unfold U.fn_plain_number at hxz
  rw [DD.gcF_eq, DD.dFn_eq] at hxz
  generalize hy : U.b_plain_number _ _ = y at hxz
  unfold U.b_plain_number at hy
  have ln : ∀ X, lenF [.str x] X = .ok (.int (x.length : Nat)) X := fun X => by
    show (if _ then _ else _) = _
    rw [if_pos (by rw [sizeLine_eq]; omega)]
  have hlt := len_tl x
  have n4 : ∀ n, n < 10000 → 1 ≤ (numL n).length ∧ (numL n).length ≤ 4 := fun n hn => ⟨List.length_pos_iff.mpr (numL_ne n), numL_len (by decide) hn⟩
  by_cases h1 : 1 ≤ x.length ∧ x.length ≤ 4
  · have c1 : (1 : Int) ≤ (x.length : Nat) := by omega
    have c2 : ((x.length : Nat) : Int) ≤ 4 := by omega
    have lc : dLc (dSeqS (dVar 0)) (.nm 1) dYes (dOp inS (dVar 1) (dC (.str "0123456789"))) [1] [some (.str x), none] S = .ok (.lst ((tl x).map fun c => W.bl (decide (c ∈ digS.cps.toList)))) S := by
      unfold dLc
      have sq : dSeqS (dVar 0) [some (.str x), none] S = .ok ((tl x).map fun c => W.str ⟨#[c]⟩) S := rfl
      rw [sq, DD.R.bind_ok]
      have wp : wipeW [some (.str x), none] [1] = [some (.str x), none] := rfl
      have := lc_enc (g := .nm 1) (tt := dYes) (te := dOp inS (dVar 1) (dC (.str "0123456789"))) (t0 := [some (.str x), none]) (S := S) (fun c : Nat => W.str ⟨#[c]⟩) (fun _ => true) (fun c => W.bl (decide (c ∈ digS.cps.toList))) (tl x) [] (by rw [List.length_nil]; omega) (fun c hc => ⟨[some (.str x), some (.str ⟨#[c]⟩)], rfl, rfl, fun _ => by
        have := inS_one (S := S) (c := c) (y := digS)
        show (match inS (.str ⟨#[c]⟩) (.str digS) S with
          | .ok w S3 => DD.R.ok w S3
          | _ => .no) = _
        rw [this]⟩)
      rw [List.filter_eq_self.mpr (fun _ _ => rfl), List.nil_append] at this
      rw [wp]
      exact this
    have al := e_all (S := S) (blsOf_map (fun c : Nat => decide (c ∈ digS.cps.toList)) (tl x))
    have t1 : ∀ b X, truW X (.bl b) = some b := fun _ _ => rfl
    obtain ⟨dl, hdl⟩ : ∃ d, d = dLc (dSeqS (dVar 0)) (.nm 1) dYes (dOp inS (dVar 1) (dC (.str "0123456789"))) [1] := ⟨_, rfl⟩
    rw [← hdl] at lc hy
    by_cases hd : NumText.AllDigits (tl x)
    · have hall : ((tl x).map fun c => decide (c ∈ digS.cps.toList)).all id = true := by
        rw [List.all_map, List.all_eq_true]
        intro c hc
        exact decide_eq_true (mem_dig.mpr (hd c hc))
      rw [hall] at al
      have hne : tl x ≠ [] := List.length_pos_iff.mp (by omega)
      obtain ⟨a, r, ea⟩ := List.exists_cons_of_ne_nil hne
      have hat : L2.atI x.cps.toList 0 = some a := atI_get (by omega) (by
        show (tl x)[0]? = some a
        rw [ea]; rfl)
      have i0 : ∀ X, ixS (.str x) (.int 0) X = .ok (.str ⟨#[a]⟩) X := fun X => by
        simp only [ixS]
        rw [if_pos (by rw [sizeLine_eq]; omega), hat]
      have ha := hd a (by rw [ea]; exact List.mem_cons_self ..)
      have oka : PyData.strOk (⟨#[a]⟩ : Str) = true := ok_iff.mpr fun c hc => by
        have : c = a := by simpa [tl] using hc
        omega
      have ok0 : PyData.strOk (("0" : Str)) = true := by decide +kernel
      have e0 : ("0" : Str) = ⟨#[48]⟩ := by decide +kernel
      have eq0 : ∀ X, eqD (.str ⟨#[a]⟩) (.str "0") X = .ok (.bl (decide (a = 48))) X := fun X => by
        rw [eq_str' oka ok0]
        refine congrArg (fun b : Bool => DD.R.ok (W.bl b) X) ?_
        rw [Bool.eq_iff_iff, decide_eq_true_iff, decide_eq_true_iff, e0]
        exact one_eq
      have ne0 : ∀ X, neD (.str x) (.str "0") X = .ok (.bl (!decide (x = ("0" : Str)))) X := fun X => ne_str' hx ok0
      have tl0 : tl ("0" : Str) = [48] := by rw [e0]
      by_cases hz : a = 48 ∧ x ≠ ("0" : Str)
      · have e1 := pnW_none (x := x) fun n hn e => by
          have : (numL n).head? = some 48 := by rw [← e, ea, hz.1]; rfl
          have := numL_head n n (Nat.le_refl _) this
          subst this
          refine hz.2 (ext_tl ?_)
          rw [e, tl0, numL_lt (by decide)]
        rw [e1]
        rw [decide_eq_true hz.1] at eq0
        rw [decide_eq_false hz.2] at ne0
        generalize (⟨#[a]⟩ : Str) = A at i0 eq0
        generalize W.lst ((tl x).map fun c => W.bl (decide (c ∈ digS.cps.toList))) = LL at lc al
        generalize ((x.length : Nat) : Int) = n at ln c1 c2
        simp -implicitDefEqProofs [ln, dChain, c1, c2, lc, al, t1, i0, eq0, ne0] at hy
        subst hy
        exact hxz.symm.trans (gc_same rfl)
      · obtain ⟨n, hn, hn4⟩ := numL_of hd hne (fun h => by
          rw [ea] at h
          have ha48 : a = 48 := by simpa using h
          have hx0 : x = ("0" : Str) := by
            by_cases hxx : x = ("0" : Str)
            · exact hxx
            · exact absurd ⟨ha48, hxx⟩ hz
          rw [hx0, tl0])
        have hn5 : n < 10000 := Nat.lt_of_lt_of_le hn4 (by rw [← hlt]; exact (show 10 ^ x.length ≤ 10 ^ 4 from Nat.pow_le_pow_right (by decide) h1.2))
        rw [pnW_some hn5 hn]
        have hxs : x = Str.ofString (toString ((n : Nat) : Int)) := ext_tl (by rw [tl_num, hn])
        have it : ∀ X, intS [.str x] X = .ok (.int (n : Nat)) X := fun X => by
          simp only [intS]
          rw [if_pos (by omega)]
          have : PySem.intText? x = some (n : Int) := by
            rw [hxs]
            exact int_num (by rw [← hn, ← hlt]; omega)
          rw [this]
        generalize ((n : Nat) : Int) = nn at it ⊢
        generalize W.lst ((tl x).map fun c => W.bl (decide (c ∈ digS.cps.toList))) = LL at lc al
        generalize ((x.length : Nat) : Int) = m at ln c1 c2
        by_cases h48 : a = 48
        · have hx0 : x = ("0" : Str) := by
            by_cases hxx : x = ("0" : Str)
            · exact hxx
            · exact absurd ⟨h48, hxx⟩ hz
          rw [decide_eq_true h48] at eq0
          rw [decide_eq_true hx0] at ne0
          generalize (⟨#[a]⟩ : Str) = A at i0 eq0
          simp -implicitDefEqProofs [ln, dChain, c1, c2, lc, al, t1, i0, eq0, ne0, it] at hy
          subst hy
          exact hxz.symm.trans (gc_same rfl)
        · rw [decide_eq_false h48] at eq0
          generalize (⟨#[a]⟩ : Str) = A at i0 eq0
          simp -implicitDefEqProofs [ln, dChain, c1, c2, lc, al, t1, i0, eq0, it] at hy
          subst hy
          exact hxz.symm.trans (gc_same rfl)
    · have hall : ((tl x).map fun c => decide (c ∈ digS.cps.toList)).all id = false := by
        rw [List.all_map, List.all_eq_false]
        have : ∃ c ∈ tl x, ¬ (48 ≤ c ∧ c ≤ 57) := by
          by_cases h : ∃ c ∈ tl x, ¬ (48 ≤ c ∧ c ≤ 57)
          · exact h
          · exact absurd (fun c hc => by
              by_cases hh : 48 ≤ c ∧ c ≤ 57
              · exact hh
              · exact absurd ⟨c, hc, hh⟩ h) hd
        obtain ⟨c, hc, hn⟩ := this
        refine ⟨c, hc, ?_⟩
        simp only [Function.comp, id]
        rw [decide_eq_false (fun h => hn (mem_dig.mp h))]
        decide
      rw [hall] at al
      have e1 := pnW_none (x := x) fun n hn e => hd (by rw [e]; exact numL_digits n)
      rw [e1]
      generalize W.lst ((tl x).map fun c => W.bl (decide (c ∈ digS.cps.toList))) = LL at lc al
      generalize ((x.length : Nat) : Int) = n at ln c1 c2
      simp -implicitDefEqProofs [ln, dChain, c1, c2, lc, al, t1] at hy
      subst hy
      exact hxz.symm.trans (gc_same rfl)
  · have e1 := pnW_none (x := x) fun n hn e => by
      have := n4 n hn
      rw [← e] at this
      omega
    rw [e1]
    have c : ¬ ((1 : Int) ≤ (x.length : Nat) ∧ ((x.length : Nat) : Int) ≤ 4) := by omega
    by_cases c1 : (1 : Int) ≤ (x.length : Nat)
    · have c2 : ¬ (((x.length : Nat) : Int) ≤ 4) := by omega
      generalize ((x.length : Nat) : Int) = n at ln c1 c2
      simp -implicitDefEqProofs [ln, dChain, c1, c2] at hy
      subst hy
      exact hxz.symm.trans (gc_same rfl)
    · generalize ((x.length : Nat) : Int) = n at ln c1
      simp -implicitDefEqProofs [ln, dChain, c1] at hy
      subst hy
      exact hxz.symm.trans (gc_same rfl)
end
end SP
/-! Texts: words of a run. -/
namespace SP
open PySem L2 DD U TL
section
variable {S : Sto}
theorem spl_in : ∀ (l acc : List Nat), ∀ p ∈ spl [32] 0 acc l, p.length ≤ acc.length + l.length ∧ ∀ c ∈ p, c ∈ acc ∨ c ∈ l
  | [], acc, p, hp => by
    rw [spl_nil] at hp
    rw [List.mem_singleton] at hp; subst hp
    exact ⟨by simp, fun c hc => .inl hc⟩
  | c :: l, acc, p, hp => by
    by_cases h : pre [32] (c :: l) = true
    · rw [spl_hit h] at hp
      rcases List.mem_cons.mp hp with rfl | hp
      · exact ⟨by simp, fun c hc => .inl hc⟩
      · have := spl_in l [] p hp
        refine ⟨by simp at this ⊢; omega, fun d hd => ?_⟩
        rcases this.2 d hd with h | h
        · cases h
        · exact .inr (List.mem_cons_of_mem _ h)
    · rw [spl_miss (by simpa using h)] at hp
      have := spl_in l (acc ++ [c]) p hp
      refine ⟨by simp at this ⊢; omega, fun d hd => ?_⟩
      rcases this.2 d hd with h | h
      · rcases List.mem_append.mp h with h | h
        · exact .inl h
        · rw [List.mem_singleton] at h; subst h; exact .inr (List.mem_cons_self ..)
      · exact .inr (List.mem_cons_of_mem _ h)
theorem spl_cnt : ∀ (l acc : List Nat), (spl [32] 0 acc l).length ≤ l.length + 1
  | [], acc => by rw [spl_nil]; simp
  | c :: l, acc => by
    by_cases h : pre [32] (c :: l) = true
    · rw [spl_hit h]
      have := spl_cnt l []
      simp only [List.length_cons, List.length_nil] at this ⊢
      have e : (0 + 1 - 1 : Nat) = 0 := rfl
      rw [e]; omega
    · rw [spl_miss (by simpa using h)]
      have := spl_cnt l (acc ++ [c])
      rw [List.length_cons]; omega
def spS : Str := " "
theorem tl_sp : tl spS = [32] := by decide +kernel
theorem split_tl (x : Str) : (Txt.split x spS).map tl = spl [32] 0 [] (tl x) := by
  rw [split_spl x spS (by rw [tl_sp]; decide) (kind_ok (by decide +kernel)), tl_sp]
theorem split_in {x : Str} (hx : PyData.strOk x = true) : ∀ y ∈ Txt.split x spS, y.length ≤ x.length ∧ PyData.strOk y = true := fun y hy => by
  have : tl y ∈ spl [32] 0 [] (tl x) := by rw [← split_tl]; exact List.mem_map_of_mem hy
  obtain ⟨h1, h2⟩ := spl_in _ _ _ this
  refine ⟨by rw [len_tl, len_tl]; simpa using h1, ok_iff.mpr fun c hc => ?_⟩
  rcases h2 c hc with h | h
  · cases h
  · exact ok_iff.mp hx c h
theorem split_cnt {x : Str} : (Txt.split x spS).length ≤ x.length + 1 := by
  have := spl_cnt (tl x) []
  rw [← split_tl, List.length_map, ← len_tl] at this
  exact this
def sg (b : Bool) : Nat := if b then 43 else 45
open Classical in
/-- the pair that a word writes -/
noncomputable def wd (y : Str) : Option (Nat × Bool) := if h : ∃ p : Nat × Bool, p.1 < 48 ∧ tl y = numL p.1 ++ [sg p.2] then some h.choose else none
theorem turnX_ {v : Nat} {b : DS} {w : W} {t : Lo} {S : Sto} : turn (gN v) b w t S = b (t.set v (some w)) S := rfl
end
end SP
/-! Texts: runs read, and what the law says of them. -/
namespace SP
open PySem L2 DD U TL
end SP
/-! Texts: what is due. -/
namespace SP
open PySem L2 DD U TL
section
variable {S : Sto}
def numS (n : Nat) : Str := Str.ofString (toString ((n : Nat) : Int))
theorem tl_numS (n : Nat) : tl (numS n) = numL n := tl_num n
theorem strsOf_map : ∀ l : List Str, strsOf (l.map W.str) = some l
  | [] => rfl
  | x :: l => by
    show (strsOf (l.map W.str)).map (x :: ·) = _
    rw [strsOf_map l]; rfl
end
end SP
/-! Texts: runs written, texts changed. -/
namespace SP
open PySem L2 DD U TL
end SP
/-! Texts: a drawn change. -/
namespace SP
open PySem L2 DD U TL
section
variable {S : Sto}
theorem tl_add (x y : Str) : tl (x ++ y) = tl x ++ tl y := by
  show (x.cps ++ y.cps).toList = _
  simp [tl]
theorem ok_slice {x : Str} (h : PyData.strOk x = true) (lo hi : Option Int) : PyData.strOk (Txt.slice x lo hi) = true := ok_iff.mpr fun c hc => by
  rw [tl_slice] at hc
  exact ok_iff.mp h c (List.mem_of_mem_drop (List.mem_of_mem_take hc))
theorem e_catSW {x y : Str} (h : x.length + y.length ≤ 16777216) : addD (.str x) (.str y) S = .ok (.str (x ++ y)) S := by
  simp [addD, orD, iAdd, intD, catD, catS, sizeLine_eq, h]
theorem len_add (x y : Str) : (x ++ y).length = x.length + y.length := by
  rw [len_tl, len_tl, len_tl, tl_add, List.length_append]
end
end SP
/-! Texts: a run written. -/
namespace SP
open PySem L2 DD U TL
end SP
/-! Texts: written runs read back; the fixed texts. -/
namespace SP
open PySem L2 DD U TL
section
variable {S : Sto}
theorem join_in : ∀ (ps : List (List Nat)) (c : Nat), c ∈ joinL [32] ps → c = 32 ∨ ∃ p ∈ ps, c ∈ p
  | [], c, h => by cases h
  | [p], c, h => .inr ⟨p, List.mem_singleton.mpr rfl, h⟩
  | p :: q :: r, c, h => by
    rcases List.mem_append.mp h with h | h
    · exact .inr ⟨p, List.mem_cons_self .., h⟩
    · rcases List.mem_append.mp h with h | h
      · exact .inl (List.mem_singleton.mp h)
      · rcases join_in (q :: r) c h with h | ⟨x, hx, h⟩
        · exact .inl h
        · exact .inr ⟨x, List.mem_cons_of_mem _ hx, h⟩
end
end SP
namespace U
open PySem L2 DD
noncomputable def b_l_word : DS :=
    (dSeq (dIfS (dTest (dOp iLt (dVar 0) (dC (.int 0))))
    (dRet (dOp addD (dC (.str "#")) (dBi strF (dCons (dOp iSub (dNeg (dC (.int 1))) (dVar 0)) dNil))))
    dNext)
    (dRet (dBi strF (dCons (dVar 0) dNil))))
noncomputable def fn_l_word : Fn := gcF (dFn 1 b_l_word)
noncomputable def b_written_position : DS :=
    (dRet (dIf (dTest (dOp iGe (dVar 0) (dC (.int 0)))) (dBi strF (dCons (dVar 0) dNil)) (dJoin [(dC (.str "#")), (dFmt (dOp iSub (dNeg (dC (.int 1))) (dVar 0)))])))
noncomputable def fn_written_position : Fn := gcF (dFn 1 b_written_position)
noncomputable def b_write_web_l0 : DS :=
    (dDrop (dMt appendM (dVar 1) (dCons (dJoinT (dC (.str " ")) (dLst (dCons (dBi strF (dCons (dVar 2) dNil)) (dStar (dLc (dSeqI (dVar 3)) (.nm 4) dYes (dCall fn_written_position (dCons (dVar 4) dNil)) [4]) dNil)))) dNil)))
noncomputable def b_write_web : DS :=
    (dSeq (dAsg (dNewL (dCons (dJoin [(dC (.str "ends ")), (dFmt (dFld [30] "ends" (dVar 0))), (dC (.str " start ")), (dFmt (dCall fn_written_position (dCons (dFld [30] "start" (dVar 0)) dNil)))]) dNil)) (gN 1))
    (dSeq (dFor (dSeqI (dFld [30] "nodes" (dVar 0))) (gStar 1 (gsCons (gN 2) (gsCons (gN 3) gsNil)))
    b_write_web_l0)
    (dRet (dJoinT (dC (.str "\n")) (dVar 1)))))
noncomputable def fn_write_web : Fn := gcF (dFn 5 b_write_web)
noncomputable def b_read_position : DS :=
    (dSeq (dIfS (dtNot (dTru (dStarts (dVar 0) (dC (.str "#")))))
    (dRet (dCall fn_plain_number (dCons (dVar 0) dNil)))
    dNext)
    (dSeq (dAsg (dCall fn_plain_number (dCons (dSlS (dVar 0) (dPart (dC (.int 1))) dNoP) dNil)) (gN 1))
    (dRet (dIf (dTest (isNone false (dVar 1))) (dC .non) (dOp iSub (dNeg (dC (.int 1))) (dVar 1))))))
noncomputable def fn_read_position : Fn := gcF (dFn 2 b_read_position)
noncomputable def b_read_head : DS :=
    (dSeq (dAsg (dSplit (dVar 0) (dC (.str " "))) (gN 1))
    (dSeq (dIfS (dtOr (dTest (dOp neD (dBi lenF (dCons (dVar 1) dNil)) (dC (.int 4)))) (dtOr (dTest (dOp neD (dOp ixD (dVar 1) (dC (.int 0))) (dC (.str "ends")))) (dTest (dOp neD (dOp ixD (dVar 1) (dC (.int 2))) (dC (.str "start"))))))
    (dRet (dC .non))
    dNext)
    (dSeq (dPar 2 3 (dCons (dCall fn_plain_number (dCons (dOp ixD (dVar 1) (dC (.int 1))) dNil)) (dCons (dCall fn_read_position (dCons (dOp ixD (dVar 1) (dC (.int 3))) dNil)) dNil)))
    (dSeq (dIfS (dtOr (dTest (isNone false (dVar 2))) (dTest (isNone false (dVar 3))))
    (dRet (dC .non))
    dNext)
    (dRet (dTup (dCons (dVar 2) (dCons (dVar 3) dNil))))))))
noncomputable def fn_read_head : Fn := gcF (dFn 4 b_read_head)
noncomputable def b_read_node : DS :=
    (dSeq (dAsg (dSplit (dVar 0) (dC (.str " "))) (gStarL 1 (gsCons (gN 2) (gsCons (gN 3) gsNil))))
    (dSeq (dAsg (dLst (dCons (dCall fn_plain_number (dCons (dVar 2) dNil)) (dStar (dLc (dSeqI (dVar 3)) (.nm 4) dYes (dCall fn_read_position (dCons (dVar 4) dNil)) [4]) dNil))) (gN 1))
    (dSeq (dIfS (dtOr (dTest (dOp notInD (dBi lenF (dCons (dVar 1) dNil)) (dTup (dCons (dC (.int 3)) (dCons (dC (.int 4)) dNil))))) (dTest (dOp inD (dC .non) (dVar 1))))
    (dRet (dC .non))
    dNext)
    (dRet (dBi tupleF (dCons (dVar 1) dNil))))))
noncomputable def fn_read_node : Fn := gcF (dFn 5 b_read_node)
noncomputable def b_read_web_l0 : DS :=
    (dSeq (dAsg (dCall fn_read_node (dCons (dVar 5) dNil)) (gN 6))
    (dSeq (dIfS (dTest (isNone false (dVar 6)))
    (dRaise1 26 "line" (dVar 4))
    dNext)
    (dDrop (dMt appendM (dVar 2) (dCons (dVar 6) dNil)))))
noncomputable def b_read_web : DS :=
    (dSeq (dAsg (dSplit (dVar 0) (dC (.str "\n"))) (gStarL 1 (gsCons (gN 3) (gsCons (gN 9) gsNil))))
    (dSeq (dAsg (dCall fn_read_head (dCons (dVar 3) dNil)) (gN 1))
    (dSeq (dIfS (dTest (isNone false (dVar 1)))
    (dRaise1 26 "line" (dC (.int 1)))
    dNext)
    (dSeq (dAsg (dNewL dNil) (gN 2))
    (dSeq (dFor (dEnumK (dCons (dVar 9) dNil) (dCons (dC (.int 2)) dNil)) (gTp 2 (gsCons (gN 4) (gsCons (gN 5) gsNil)))
    b_read_web_l0)
    (dSeq (dAsg (dVar 1) (gTp 2 (gsCons (gN 7) (gsCons (gN 8) gsNil))))
    (dRet (dGc (dFrz (dMake 30 fn_Web_init (dBoth aw_Web_2_start (dCons (dVar 2) (dCons (dVar 7) dNil)) (dCons (dVar 8) dNil))))))))))))
noncomputable def fn_read_web : Fn := gcF (dFn 10 b_read_web)
noncomputable def b_law_62_l0 : DS :=
    (dDrop (dMt appendM (dVar 7) (dCons (dJoinT (dC (.str " ")) (dOp addD (dLst (dCons (dBi strF (dCons (dOp ixD (dVar 8) (dC (.int 0))) dNil)) dNil)) (dLc (dSeqI (dSl (dVar 8) (dPart (dC (.int 1))) dNoP)) (.nm 11) dYes (dCall fn_l_word (dCons (dVar 11) dNil)) [11]))) dNil)))
noncomputable def b_law_62 : DS :=
    (dSeq (dAsg (dCall fn_l_pool (dCons (dVar 0) dNil)) (gN 1))
    (dSeq (dAsg (dCall fn_l_names (dCons (dVar 1) (dCons (dC (.int 8)) dNil))) (gN 2))
    (dSeq (dAsg (dOp addD (dC (.int 1)) (dCall fn_l_draw (dCons (dVar 1) (dCons (dOp ixD (dLst (dCons (dC (.int 4)) (dCons (dC (.int 60)) dNil))) (dCall fn_l_draw (dCons (dVar 1) (dCons (dC (.int 2)) dNil)))) dNil)))) (gN 3))
    (dSeq (dAsg (dCall fn_l_nodes (dCons (dVar 1) (dCons (dCall fn_l_draw (dCons (dVar 1) (dCons (dC (.int 13)) dNil))) (dCons (dVar 3) (dCons (dVar 2) (dCons (dC (.bl true)) dNil)))))) (gN 4))
    (dSeq (dAsg (dOp iSub (dCall fn_l_draw (dCons (dVar 1) (dCons (dOp addD (dBi lenF (dCons (dVar 4) dNil)) (dVar 3)) dNil))) (dVar 3)) (gN 5))
    (dSeq (dAsg (dGc (dFrz (dMake 30 fn_Web_init (dBoth aw_Web_2_start (dCons (dVar 4) (dCons (dVar 3) dNil)) (dCons (dVar 5) dNil))))) (gN 6))
    (dSeq (dAsg (dNewL (dCons (dOp addD (dOp addD (dOp addD (dC (.str "ends ")) (dBi strF (dCons (dVar 3) dNil))) (dC (.str " start "))) (dCall fn_l_word (dCons (dVar 5) dNil))) dNil)) (gN 7))
    (dSeq (dFor (dSeqI (dVar 4)) (gN 8)
    b_law_62_l0)
    (dSeq (dAsg (dCall fn_write_web (dCons (dVar 6) dNil)) (gN 9))
    (dSeq (dIfS (dTest (dOp neD (dVar 9) (dJoinT (dC (.str "\n")) (dVar 7))))
    (dRet (dC (.bl false)))
    dNext)
    (dSeq (dAsg (dCall fn_read_web (dCons (dVar 9) dNil)) (gN 10))
    (dSeq (dIfS (dtOr (dTest (dOp neD (dFld [30] "nodes" (dVar 10)) (dBi tupleF (dCons (dVar 4) dNil)))) (dtOr (dTest (dOp neD (dFld [30] "ends" (dVar 10)) (dVar 3))) (dTest (dOp neD (dFld [30] "start" (dVar 10)) (dVar 5)))))
    (dRet (dC (.bl false)))
    dNext)
    (dRet (dAndT (dOp (orD (usrD 30 fn_Web_eq) eqD) (dVar 10) (dVar 6)) (dAndT (dOp eqD (dCall fn_write_web (dCons (dVar 10) dNil)) (dVar 9)) (dOp eqD (dFld [30] "nodes" (dVar 6)) (dBi tupleF (dCons (dVar 4) dNil))))))))))))))))))
noncomputable def fn_law_62 : Fn := dFn 12 b_law_62
end U
/-! Webs as text: positions. -/
namespace SP
open PySem L2 DD U TL
section
variable {S : Sto}
theorem log_lt4 {n : Nat} (hn : n < 10000) : ((n : Nat) : Int).natAbs.log2 < 1920 := by
  have : ((n : Nat) : Int).natAbs = n := by omega
  rw [this]
  by_cases h0 : n = 0
  · subst h0; decide
  · exact (Nat.log2_lt h0 (k := 1920)).mpr (Nat.lt_of_lt_of_le (show n < 2 ^ 14 by omega) (Nat.pow_le_pow_right (by decide) (by decide)))
theorem str_num4 {n : Nat} (hn : n < 10000) : strF [.int (n : Nat)] S = .ok (.str (numS n)) S := by
  unfold strF
  simp only []
  rw [if_pos (log_lt4 hn)]
  rfl
theorem numS_lt4 {n : Nat} (h : n < 10000) : 1 ≤ (numS n).length ∧ (numS n).length ≤ 4 := by
  rw [len_tl, tl_numS]
  exact ⟨List.length_pos_iff.mpr (numL_ne n), numL_len (by decide) h⟩
def hashS : Str := "#"
theorem tl_hash : tl hashS = [35] := by decide +kernel
/-- the word of a position -/
def posS (p : Int) : Str := if p < 0 then hashS ++ numS (-1 - p).toNat else numS p.toNat
theorem tl_pos (p : Int) : tl (posS p) = if p < 0 then 35 :: numL (-1 - p).toNat else numL p.toNat := by
  unfold posS
  split
  · rw [tl_add, tl_hash, tl_numS]; rfl
  · rw [tl_numS]
theorem len_pos {p : Int} (h0 : -1000 ≤ p) (h1 : p < 1000) : (posS p).length ≤ 5 := by
  unfold posS
  split
  · rw [len_add]
    have := (numS_lt4 (n := (-1 - p).toNat) (by omega)).2
    have : hashS.length = 1 := by decide +kernel
    omega
  · have := (numS_lt4 (n := p.toNat) (by omega)).2
    omega
theorem word_l {p : Int} (h0 : -1000 ≤ p) (h1 : p < 1000) : U.fn_l_word [.int p] S = .ok (.str (posS p)) S := by
  generalize hxz : U.fn_l_word _ _ = z
  unfold U.fn_l_word at hxz
  rw [DD.gcF_eq, DD.dFn_eq] at hxz
  generalize hy : U.b_l_word _ _ = y at hxz
  unfold U.b_l_word at hy
  unfold posS
  by_cases h : p < 0
  · rw [if_pos h]
    obtain ⟨n, hn⟩ : ∃ n, n = (-1 - p).toNat := ⟨_, rfl⟩
    have e : -1 - p = ((n : Nat) : Int) := by omega
    have sn := str_num4 (S := S) (n := n) (by omega)
    have ca : ∀ X, addD (.str "#") (.str (numS n)) X = .ok (.str (hashS ++ numS n)) X := fun X => e_catSW (by
      have := (numS_lt4 (n := n) (by omega)).2
      have : ("#" : Str).length = 1 := by decide +kernel
      omega)
    rw [← hn]
    rw [← e] at sn
    generalize hashS ++ numS n = R at ca ⊢
    generalize numS n = N at sn ca
    simp -implicitDefEqProofs [h, sn, ca] at hy
    subst hy
    exact hxz.symm.trans (gc_same rfl)
  · rw [if_neg h]
    obtain ⟨n, hn⟩ : ∃ n, n = p.toNat := ⟨_, rfl⟩
    have e : p = ((n : Nat) : Int) := by omega
    have sn := str_num4 (S := S) (n := n) (by omega)
    rw [← hn]
    rw [← e] at sn
    generalize numS n = N at sn ⊢
    simp -implicitDefEqProofs [h, sn] at hy
    subst hy
    exact hxz.symm.trans (gc_same rfl)
theorem written_ok {p : Int} (h0 : -1000 ≤ p) (h1 : p < 1000) : U.fn_written_position [.int p] S = .ok (.str (posS p)) S := by
  generalize hxz : U.fn_written_position _ _ = z
  unfold U.fn_written_position at hxz
  rw [DD.gcF_eq, DD.dFn_eq] at hxz
  generalize hy : U.b_written_position _ _ = y at hxz
  unfold U.b_written_position at hy
  unfold posS
  by_cases h : p < 0
  · rw [if_pos h]
    obtain ⟨n, hn⟩ : ∃ n, n = (-1 - p).toNat := ⟨_, rfl⟩
    have e : -1 - p = ((n : Nat) : Int) := by omega
    have hh : ¬ (0 ≤ p) := by omega
    have jn : dJoin [(dC (.str "#")), (dFmt (dOp iSub (dNeg (dC (.int 1))) (dVar 0)))] [some (.int p)] S = .ok (.str (hashS ++ numS n)) S := by
      have f2 : dFmt (dOp iSub (dNeg (dC (.int 1))) (dVar 0)) [some (.int p)] S = .ok (.str (numS n)) S := by
        have : dOp iSub (dNeg (dC (.int 1))) (dVar 0) [some (.int p)] S = .ok (.int ((n : Nat) : Int)) S := by
          rw [← e]; simp
        unfold dFmt
        rw [this, DD.R.bind_ok]
        simp only []
        rw [if_pos (log_lt4 (by omega))]; rfl
      have h2 := (numS_lt4 (n := n) (by omega)).2
      have h3 := len_add hashS (numS n)
      have h4 : hashS.length = 1 := by decide +kernel
      have a1 : Str.empty ++ ("#" : Str) = hashS := ext_tl (by rw [tl_add]; rfl)
      unfold dJoin
      simp only [dJs]
      have f1 : dC (.str "#") [some (.int p)] S = .ok (.str "#") S := rfl
      rw [f1, DD.R.bind_ok]
      simp only []
      rw [a1, if_pos (by rw [sizeLine_eq]; omega), f2, DD.R.bind_ok]
      simp only []
      rw [if_pos (by rw [sizeLine_eq]; omega)]
    rw [← hn]
    obtain ⟨dj, hdj⟩ : ∃ d, d = dJoin [(dC (.str "#")), (dFmt (dOp iSub (dNeg (dC (.int 1))) (dVar 0)))] := ⟨_, rfl⟩
    rw [← hdj] at jn hy
    generalize hashS ++ numS n = R at jn ⊢
    simp -implicitDefEqProofs [hh, jn] at hy
    subst hy
    exact hxz.symm.trans (gc_same rfl)
  · rw [if_neg h]
    obtain ⟨n, hn⟩ : ∃ n, n = p.toNat := ⟨_, rfl⟩
    have e : p = ((n : Nat) : Int) := by omega
    have hh : 0 ≤ p := by omega
    have sn := str_num4 (S := S) (n := n) (by omega)
    rw [← hn]
    rw [← e] at sn
    generalize numS n = N at sn ⊢
    simp -implicitDefEqProofs [hh, sn] at hy
    subst hy
    exact hxz.symm.trans (gc_same rfl)
end
end SP
/-! Webs as text: positions read. -/
namespace SP
open PySem L2 DD U TL
section
variable {S : Sto}
theorem sl_from1 (z : Str) : tl (Txt.slice z (some 1) none) = (tl z).drop 1 := by
  rw [tl_slice, len_tl]
  have h1 : HT.sIx (tl z).length (tl z).length none = (tl z).length := rfl
  have h0 : HT.sIx (tl z).length 0 (some 1) = min 1 (tl z).length := by
    unfold HT.sIx
    simp only []
    rw [if_neg (by decide)]
    rfl
  rw [h0, h1, List.take_of_length_le (by rw [List.length_drop]; omega)]
  cases tl z <;> simp
/-- the position that a word writes -/
def rpL (l : List Nat) : Option Int := match l with
  | 35 :: r => (pnL r).map fun (n : Nat) => -1 - (n : Int)
  | l => (pnL l).map fun (n : Nat) => (n : Int)
def oIW : Option Int → W
  | some i => .int i
  | none => .non
theorem pnW_o (x : Str) : pnW x = oIW ((pnL (tl x)).map fun (n : Nat) => (n : Int)) := by
  unfold pnW
  cases pnL (tl x) <;> rfl
theorem starts_hash (x : Str) : Txt.startswith x ("#" : Str) = (match tl x with | 35 :: _ => true | _ => false) := by
  have e1 : ("#" : Str).length = 1 := by decide +kernel
  have e2 : ("#" : Str).cps.toList = [35] := by decide +kernel
  unfold Txt.startswith
  rw [PySem.StrLaws.subAt_eq, e1, e2, len_tl, List.drop_zero]
  show (decide (0 + 1 ≤ (tl x).length) && ((tl x).take 1 == [35])) = _
  cases h : tl x with
  | nil => rfl
  | cons c r =>
    by_cases hc : c = 35
    · subst hc; simp
    · have : (match c :: r with | 35 :: _ => true | _ => false) = false := by
        split
        · rename_i e; cases e; exact absurd rfl hc
        · rfl
      rw [this]
      simp [hc]
theorem read_pos_ok {x : Str} (hx : PyData.strOk x = true) (hl : x.length ≤ 100000) : U.fn_read_position [.str x] S = .ok (oIW (rpL (tl x))) S := by
  generalize hxz : U.fn_read_position _ _ = z
  unfold U.fn_read_position at hxz
  rw [DD.gcF_eq, DD.dFn_eq] at hxz
  generalize hy : U.b_read_position _ _ = y at hxz
  unfold U.b_read_position at hy
  have st : ∀ X, dStarts (dVar 0) (dC (.str "#")) [some (.str x), none] X = .ok (.bl (Txt.startswith x ("#" : Str))) X := fun X => rfl
  rw [starts_hash] at st
  have tb : ∀ b X, truW X (.bl b) = some b := fun _ _ => rfl
  have pn := plain_ok (S := S) hx (by omega)
  obtain ⟨X1, hX1⟩ : ∃ X1, X1 = Txt.slice x (some 1) none := ⟨_, rfl⟩
  have t1 : tl X1 = (tl x).drop 1 := by rw [hX1, sl_from1]
  have ok1 : PyData.strOk X1 = true := by rw [hX1]; exact ok_slice hx _ _
  have l1 : X1.length ≤ 100000 := by
    rw [len_tl, t1, List.length_drop, ← len_tl]; omega
  have pn1 := plain_ok (S := S) ok1 (by omega)
  have sl : ∀ X, dSlS (dVar 0) (dPart (dC (.int 1))) dNoP [some (.str x), none] X = .ok (.str X1) X := fun X => by
    show (if _ then _ else _) = _
    rw [if_pos (by rw [sizeLine_eq]; omega), hX1]
  obtain ⟨ds, hds⟩ : ∃ d, d = dSlS (dVar 0) (dPart (dC (.int 1))) dNoP := ⟨_, rfl⟩
  obtain ⟨dt, hdt⟩ : ∃ d, d = dStarts (dVar 0) (dC (.str "#")) := ⟨_, rfl⟩
  rw [← hds] at sl hy
  rw [← hdt] at st hy
  by_cases h : ∃ r, tl x = 35 :: r
  · obtain ⟨r, hr⟩ := h
    rw [hr] at st t1 ⊢
    simp only [] at st
    have et : tl X1 = r := by rw [t1]; rfl
    have e1 : rpL (35 :: r) = (pnL r).map fun (n : Nat) => -1 - (n : Int) := rfl
    rw [e1]
    rw [pnW_o, et] at pn1
    cases hp : pnL r with
    | none =>
      rw [hp] at pn1
      simp only [Option.map_none, oIW] at pn1 ⊢
      simp -implicitDefEqProofs [st, tb, sl, pn1, isNone] at hy
      subst hy
      exact hxz.symm.trans (gc_same rfl)
    | some n =>
      rw [hp] at pn1
      simp only [Option.map_some, oIW] at pn1 ⊢
      generalize ((n : Nat) : Int) = N at pn1 ⊢
      simp -implicitDefEqProofs [st, tb, sl, pn1, isNone] at hy
      subst hy
      exact hxz.symm.trans (gc_same rfl)
  · have e1 : rpL (tl x) = (pnL (tl x)).map fun (n : Nat) => (n : Int) := by
      unfold rpL
      split
      · rename_i r e; exact absurd ⟨r, e⟩ h
      · rfl
    have e2 : (match tl x with | 35 :: _ => true | _ => false) = false := by
      split
      · rename_i r e; exact absurd ⟨_, e⟩ h
      · rfl
    rw [e2] at st
    rw [e1, ← pnW_o]
    have lw := low_pn S.length x
    generalize pnW x = R at pn lw ⊢
    simp -implicitDefEqProofs [st, tb, pn] at hy
    subst hy
    exact hxz.symm.trans (gc_same lw)
theorem rpL_pos {p : Int} (h0 : -1000 ≤ p) (h1 : p < 1000) : rpL (tl (posS p)) = some p := by
  rw [tl_pos]
  split
  · have : rpL (35 :: numL (-1 - p).toNat) = (pnL (numL (-1 - p).toNat)).map fun (n : Nat) => -1 - (n : Int) := rfl
    rw [this, pnL_some.mpr ⟨(by omega : (-1 - p).toNat < 10000), rfl⟩, Option.map_some]
    congr 1; omega
  · have : rpL (numL p.toNat) = (pnL (numL p.toNat)).map fun (n : Nat) => (n : Int) := by
      unfold rpL
      split
      · rename_i r e
        have := numL_digits p.toNat 35 (by rw [e]; exact List.mem_cons_self ..)
        omega
      · rfl
    rw [this, pnL_some.mpr ⟨(by omega : p.toNat < 10000), rfl⟩, Option.map_some]
    congr 1; omega
end
end SP
/-! Webs as text: written. -/
namespace SP
open PySem L2 DD U TL
section
variable {S : Sto}
/-- a node that can be written -/
def NdT (node : List Int) : Prop := ∃ (q : Int) (ts : List Int), node = q :: ts ∧ 0 ≤ q ∧ q < 48 ∧ (ts.length = 2 ∨ ts.length = 3) ∧ ∀ t ∈ ts, -1000 ≤ t ∧ t < 1000
def ndWs (node : List Int) : List Str := match node with
  | [] => []
  | q :: ts => numS q.toNat :: ts.map posS
def ndS (node : List Int) : Str := Txt.join spS (ndWs node)
theorem poss_ok {ts : List Int} (h : ∀ t ∈ ts, -1000 ≤ t ∧ t < 1000) (hn : ts.length ≤ 1000) (w0 w1 w2 : Option W) : dLc (dSeqI (dVar 3)) (.nm 4) dYes (dCall fn_written_position (dCons (dVar 4) dNil)) [4] [w0, w1, w2, some (.lst (wl ts)), none] S = .ok (.lst ((ts.map posS).map W.str)) S := by
  unfold dLc
  have sq : dSeqI (dVar 3) [w0, w1, w2, some (.lst (wl ts)), none] S = .ok (ts.map W.int) S := rfl
  rw [sq, DD.R.bind_ok]
  have wp : wipeW [w0, w1, w2, some (.lst (wl ts)), none] [4] = [w0, w1, w2, some (.lst (wl ts)), none] := rfl
  have := lc_enc (g := .nm 4) (tt := dYes) (te := dCall fn_written_position (dCons (dVar 4) dNil)) (t0 := [w0, w1, w2, some (.lst (wl ts)), none]) (S := S) W.int (fun _ => true) (fun p => W.str (posS p)) ts [] (by rw [List.length_nil]; omega) (fun p hp => ⟨[w0, w1, w2, some (.lst (wl ts)), some (.int p)], rfl, rfl, fun _ => by
    obtain ⟨h0, h1⟩ := h p hp
    have := written_ok (S := S) h0 h1
    generalize posS p = Q at this ⊢
    generalize hy : dCall _ _ _ _ = y
    simp -implicitDefEqProofs [this] at hy
    exact hy.symm⟩)
  rw [List.filter_eq_self.mpr (fun _ _ => rfl), List.nil_append] at this
  rw [wp, this, List.map_map]; rfl
theorem sum_pos : ∀ {ts : List Int}, (∀ t ∈ ts, -1000 ≤ t ∧ t < 1000) → ((ts.map posS).map (·.length)).sum ≤ 5 * ts.length
  | [], _ => by simp
  | p :: ts, h => by
    have := sum_pos (ts := ts) (fun q hq => h q (List.mem_cons_of_mem _ hq))
    obtain ⟨h0, h1⟩ := h p (List.mem_cons_self ..)
    have h1 := len_pos h0 h1
    simp only [List.map_cons, List.sum_cons, List.length_cons]
    omega
theorem write_turn {node : List Int} (hN : NdT node) (w0 w2 w3 : Option W) (acc : List W) (ha : acc.length ≤ 1000) :
    ∃ w2' w3' : Option W, turn (gStar 1 (gsCons (gN 2) (gsCons (gN 3) gsNil))) b_write_web_l0 (nW node) [w0, some (.ref S.length), w2, w3, none] (S ++ [.lst acc]) = .nx [w0, some (.ref S.length), w2', w3', none] (S ++ [.lst (acc ++ [.str (ndS node)])]) := by
  obtain ⟨q, ts, rfl, q0, q1, htl, ht⟩ := hN
  refine ⟨some (.int q), some (.lst (wl ts)), ?_⟩
  have e0 : turn (gStar 1 (gsCons (gN 2) (gsCons (gN 3) gsNil))) b_write_web_l0 (nW (q :: ts)) [w0, some (.ref S.length), w2, w3, none] (S ++ [.lst acc]) = b_write_web_l0 [w0, some (.ref S.length), some (.int q), some (.lst (wl ts)), none] (S ++ [.lst acc]) := by
    simp [turn, gStar, wl]
    rfl
  rw [e0]
  obtain ⟨n, hn⟩ : ∃ n, n = q.toNat := ⟨_, rfl⟩
  have hqn : q = ((n : Nat) : Int) := by omega
  have sn := str_num4 (S := S ++ [.lst acc]) (n := n) (by omega)
  rw [← hqn] at sn
  have ps := poss_ok (S := S ++ [.lst acc]) ht (by omega) w0 (some (.ref S.length)) (some (.int q))
  have nds : ndWs (q :: ts) = numS n :: ts.map posS := by rw [hn]; rfl
  obtain ⟨dl, hdl⟩ : ∃ d, d = dLc (dSeqI (dVar 3)) (.nm 4) dYes (dCall fn_written_position (dCons (dVar 4) dNil)) [4] := ⟨_, rfl⟩
  have jn : dJoinT (dC (.str " ")) (dLst (dCons (dBi strF (dCons (dVar 2) dNil)) (dStar dl dNil))) [w0, some (.ref S.length), some (.int q), some (.lst (wl ts)), none] (S ++ [.lst acc]) = .ok (.str (ndS (q :: ts))) (S ++ [.lst acc]) := by
    have ls : dLst (dCons (dBi strF (dCons (dVar 2) dNil)) (dStar dl dNil)) [w0, some (.ref S.length), some (.int q), some (.lst (wl ts)), none] (S ++ [.lst acc]) = .ok (.lst ((ndWs (q :: ts)).map W.str)) (S ++ [.lst acc]) := by
      rw [← hdl] at ps
      rw [nds]
      have sz : (W.str (numS n) :: (ts.map posS).map W.str).length ≤ 16777216 := by simp; omega
      have sqA : seqA (S ++ [.lst acc]) (.lst ((ts.map posS).map W.str)) = some ((ts.map posS).map W.str) := rfl
      rw [List.map_cons]
      generalize hL : (ts.map posS).map W.str = L at ps sqA sz ⊢
      generalize hy : dLst _ _ _ = y
      generalize numS n = N at sn sz ⊢
      have dst : dStar dl dNil [w0, some (.ref S.length), some (.int q), some (.lst (wl ts)), none] (S ++ [.lst acc]) = .ok L (S ++ [.lst acc]) := by
        unfold dStar
        rw [ps, DD.R.bind_ok]
        simp only [sqA]
        simp
      obtain ⟨dS, hdS⟩ : ∃ d, d = dStar dl dNil := ⟨_, rfl⟩
      rw [← hdS] at dst hy
      generalize wl ts = TS at dst hy
      simp only [List.length_cons] at sz
      simp -implicitDefEqProofs [sn, dst, sizeLine_eq, sz] at hy
      exact hy.symm
    unfold dJoinT
    have c : dC (.str " ") [w0, some (.ref S.length), some (.int q), some (.lst (wl ts)), none] (S ++ [.lst acc]) = .ok (.str " ") (S ++ [.lst acc]) := rfl
    rw [c, DD.R.bind_ok]
    simp only []
    rw [ls, DD.R.bind_ok]
    simp only [seqL, strsOf_map]
    have ss := sum_pos ht
    have h1 : (" " : Str).length = 1 := by decide +kernel
    have h2 := (numS_lt4 (n := n) (by omega)).2
    rw [if_pos (by rw [nds, List.map_cons, List.sum_cons, List.length_cons, List.length_map, h1]; omega)]
    rfl
  have ap : appendM (.ref S.length) [.str (ndS (q :: ts))] (S ++ [.lst acc]) = .ok .non (S ++ [.lst (acc ++ [.str (ndS (q :: ts))])]) := by
    rw [e_append (xs := acc) (by simp) (by omega), List.set_append_right _ _ (Nat.le_refl _)]
    simp
  have sq : seqL (S ++ [O.lst acc]) (.ref S.length) = some acc := by unfold seqL; simp
  generalize hy : b_write_web_l0 _ _ = y
  unfold b_write_web_l0 at hy
  rw [← hdl] at hy
  obtain ⟨dj, hdj⟩ : ∃ d, d = dJoinT (dC (.str " ")) (dLst (dCons (dBi strF (dCons (dVar 2) dNil)) (dStar dl dNil))) := ⟨_, rfl⟩
  rw [← hdj] at jn hy
  generalize S ++ [.lst (acc ++ [W.str (ndS (q :: ts))])] = X' at ap ⊢
  generalize S ++ [O.lst acc] = X at jn ap sq hy
  generalize ndS (q :: ts) = N at jn ap
  generalize wl ts = TS at jn hy ⊢
  simp -implicitDefEqProofs [jn, sq, ap] at hy
  exact hy.symm
end
end SP
/-! Webs as text: a web written. -/
namespace SP
open PySem L2 DD U TL
section
variable {S : Sto}
def endsS : Str := "ends "
def startS : Str := " start "
def nlS : Str := "\n"
def headS (e st : Int) : Str := endsS ++ numS e.toNat ++ startS ++ posS st
def webS (nodes : List (List Int)) (e st : Int) : Str := Txt.join nlS (headS e st :: nodes.map ndS)
theorem len_head {e st : Int} (h0 : 0 ≤ e) (h1 : e < 1000) (h2 : -1000 ≤ st) (h3 : st < 1000) : (headS e st).length ≤ 30 := by
  unfold headS
  rw [len_add, len_add, len_add]
  have := (numS_lt4 (n := e.toNat) (by omega)).2
  have := len_pos h2 h3
  have : endsS.length = 5 := by decide +kernel
  have : startS.length = 7 := by decide +kernel
  omega
theorem head_ok {e st : Int} (h0 : 0 ≤ e) (h1 : e < 1000) (h2 : -1000 ≤ st) (h3 : st < 1000) (nodes : List (List Int)) (t : Lo) (hv : ∀ X : Sto, dVar 0 t X = .ok (webO nodes e st) X) : dJoin [(dC (.str "ends ")), (dFmt (dFld [30] "ends" (dVar 0))), (dC (.str " start ")), (dFmt (dCall fn_written_position (dCons (dFld [30] "start" (dVar 0)) dNil)))] t S = .ok (.str (headS e st)) S := by
  obtain ⟨n, hn⟩ : ∃ n, n = e.toNat := ⟨_, rfl⟩
  have he : e = ((n : Nat) : Int) := by omega
  have f1 : dFmt (dFld [30] "ends" (dVar 0)) t S = .ok (.str (numS n)) S := by
    have : dFld [30] "ends" (dVar 0) t S = .ok (.int ((n : Nat) : Int)) S := by
      rw [← he]
      unfold dFld
      rw [hv]; rfl
    unfold dFmt
    rw [this, DD.R.bind_ok]
    simp only []
    rw [if_pos (log_lt4 (by omega))]; rfl
  have lp := len_pos h2 h3
  have f2 : dFmt (dCall fn_written_position (dCons (dFld [30] "start" (dVar 0)) dNil)) t S = .ok (.str (posS st)) S := by
    have f : dFld [30] "start" (dVar 0) t S = .ok (.int st) S := by
      unfold dFld
      rw [hv]; rfl
    have w := written_ok (S := S) h2 h3
    have : dCall fn_written_position (dCons (dFld [30] "start" (dVar 0)) dNil) t S = .ok (.str (posS st)) S := by
      obtain ⟨df, hdf⟩ : ∃ d, d = dFld [30] "start" (dVar 0) := ⟨_, rfl⟩
      rw [← hdf] at f ⊢
      generalize hy : dCall _ _ _ _ = y
      generalize posS st = Q at w ⊢
      simp -implicitDefEqProofs [f, w] at hy
      exact hy.symm
    unfold dFmt
    rw [this, DD.R.bind_ok]
    simp only []
    rw [if_pos (by rw [sizeLine_eq]; omega)]
  have a1 : Str.empty ++ ("ends " : Str) = endsS := ext_tl (by rw [tl_add]; rfl)
  have l0 : endsS.length = 5 := by decide +kernel
  have l1 : startS.length = 7 := by decide +kernel
  have l2 := (numS_lt4 (n := n) (by omega)).2
  have a2 : (" start " : Str) = startS := rfl
  have m1 := len_add endsS (numS n)
  have m2 := len_add (endsS ++ numS n) startS
  have m3 := len_add (endsS ++ numS n ++ startS) (posS st)
  unfold dJoin
  simp only [dJs]
  have c1 : dC (.str "ends ") t S = .ok (.str "ends ") S := rfl
  have c2 : dC (.str " start ") t S = .ok (.str startS) S := rfl
  rw [c1, DD.R.bind_ok]
  simp only []
  rw [a1, if_pos (by rw [sizeLine_eq]; omega), f1, DD.R.bind_ok]
  simp only []
  rw [if_pos (by rw [sizeLine_eq]; omega), c2, DD.R.bind_ok]
  simp only []
  rw [if_pos (by rw [sizeLine_eq]; omega), f2, DD.R.bind_ok]
  simp only []
  rw [if_pos (by rw [sizeLine_eq]; omega)]
  unfold headS
  rw [hn]
theorem write_loop : ∀ (nodes : List (List Int)) (w0 w2 w3 : Option W) (acc : List W), (∀ nd ∈ nodes, NdT nd) → acc.length + nodes.length ≤ 1000 →
    ∃ w2' w3' : Option W, forL (gStar 1 (gsCons (gN 2) (gsCons (gN 3) gsNil))) b_write_web_l0 (nodes.map nW) [w0, some (.ref S.length), w2, w3, none] (S ++ [.lst acc]) = .nx [w0, some (.ref S.length), w2', w3', none] (S ++ [.lst (acc ++ (nodes.map ndS).map W.str)])
  | [], w0, w2, w3, acc, _, _ => ⟨w2, w3, by simp [forL]⟩
  | nd :: nodes, w0, w2, w3, acc, h, hl => by
    rw [List.length_cons] at hl
    obtain ⟨a, b, e⟩ := write_turn (S := S) (h nd (List.mem_cons_self ..)) w0 w2 w3 acc (by omega)
    obtain ⟨a', b', e'⟩ := write_loop nodes w0 a b (acc ++ [.str (ndS nd)]) (fun x hx => h x (List.mem_cons_of_mem _ hx)) (by simp; omega)
    refine ⟨a', b', ?_⟩
    rw [List.map_cons, forL_cons, e]
    simp only []
    rw [e', List.append_assoc]; rfl
end
end SP
/-! Webs as text: write_web. -/
namespace SP
open PySem L2 DD U TL
section
variable {S : Sto}
theorem join_lenG (s c : Nat) : ∀ (ps : List (List Nat)), (∀ p ∈ ps, p.length ≤ c) → (joinL [s] ps).length ≤ (c + 1) * ps.length
  | [], _ => by simp [joinL]
  | [p], h => by
    have := h p (List.mem_singleton.mpr rfl)
    show p.length ≤ _
    simp only [List.length_cons, List.length_nil]; omega
  | p :: q :: r, h => by
    have h1 := h p (List.mem_cons_self ..)
    have h2 := join_lenG s c (q :: r) (fun x hx => h x (List.mem_cons_of_mem _ hx))
    show (p ++ ([s] ++ joinL [s] (q :: r))).length ≤ _
    rw [List.length_cons, Nat.mul_succ]
    rw [List.length_append, List.length_append, List.length_singleton]
    omega
theorem tl_joinS {s : Nat} {y : Str} (h : tl y = [s]) (ps : List Str) : tl (Txt.join y ps) = joinL [s] (ps.map tl) := by
  rw [join_eq, tl_join, h]
theorem wd_len {nd : List Int} (h : NdT nd) : ∀ y ∈ ndWs nd, y.length ≤ 5 := by
  obtain ⟨q, ts, rfl, q0, q1, htl, ht⟩ := h
  intro y hy
  rcases List.mem_cons.mp hy with rfl | hy
  · have := (numS_lt4 (n := q.toNat) (by omega)).2
    omega
  · obtain ⟨p, hp, rfl⟩ := List.mem_map.mp hy
    exact len_pos (ht p hp).1 (ht p hp).2
theorem len_nd {nd : List Int} (h : NdT nd) : (ndS nd).length ≤ 24 := by
  have h5 := wd_len h
  have hc : (ndWs nd).length ≤ 4 := by
    obtain ⟨q, ts, rfl, q0, q1, htl, ht⟩ := h
    show (numS q.toNat :: ts.map posS).length ≤ 4
    simp; omega
  unfold ndS
  rw [len_tl, tl_joinS tl_sp]
  have := join_lenG 32 5 ((ndWs nd).map tl) (fun p hp => by
    obtain ⟨y, hy, rfl⟩ := List.mem_map.mp hp
    rw [← len_tl]; exact h5 y hy)
  rw [List.length_map] at this
  omega
theorem sum_nd : ∀ {nodes : List (List Int)}, (∀ nd ∈ nodes, NdT nd) → ((nodes.map ndS).map (·.length)).sum ≤ 24 * nodes.length
  | [], _ => by simp
  | p :: ts, h => by
    have := sum_nd (nodes := ts) (fun q hq => h q (List.mem_cons_of_mem _ hq))
    have h1 := len_nd (h p (List.mem_cons_self ..))
    simp only [List.map_cons, List.sum_cons, List.length_cons]
    omega
theorem write_web_ok {nodes : List (List Int)} {e st : Int} (hN : ∀ nd ∈ nodes, NdT nd) (hl : nodes.length ≤ 500) (h0 : 0 ≤ e) (h1 : e < 1000) (h2 : -1000 ≤ st) (h3 : st < 1000) : U.fn_write_web [webO nodes e st] S = .ok (.str (webS nodes e st)) S := by
  generalize hxz : U.fn_write_web _ _ = z
  unfold U.fn_write_web at hxz
  rw [DD.gcF_eq, DD.dFn_eq] at hxz
  generalize hy : U.b_write_web _ _ = y at hxz
  unfold U.b_write_web at hy
  have hd := head_ok (S := S) h0 h1 h2 h3 nodes [some (webO nodes e st), none, none, none, none] (fun X => rfl)
  obtain ⟨dh, hdh⟩ : ∃ d, d = dJoin [(dC (.str "ends ")), (dFmt (dFld [30] "ends" (dVar 0))), (dC (.str " start ")), (dFmt (dCall fn_written_position (dCons (dFld [30] "start" (dVar 0)) dNil)))] := ⟨_, rfl⟩
  rw [← hdh] at hd hy
  have nl : dNewL (dCons dh dNil) [some (webO nodes e st), none, none, none, none] S = .ok (.ref S.length) (S ++ [.lst [.str (headS e st)]]) := by
    unfold dNewL
    have : dCons dh dNil [some (webO nodes e st), none, none, none, none] S = .ok [.str (headS e st)] S := by
      generalize headS e st = Q at hd ⊢
      generalize hy : dCons _ _ _ _ = y
      simp -implicitDefEqProofs [hd] at hy
      exact hy.symm
    rw [this]
    simp [sizeLine_eq]
  obtain ⟨a, b, lp⟩ := write_loop (S := S) nodes (some (webO nodes e st)) none none [.str (headS e st)] hN (by simp; omega)
  have lp0 : dFor (dSeqI (dFld [30] "nodes" (dVar 0))) (gStar 1 (gsCons (gN 2) (gsCons (gN 3) gsNil))) b_write_web_l0 [some (webO nodes e st), some (.ref S.length), none, none, none] (S ++ [.lst [.str (headS e st)]]) = forL (gStar 1 (gsCons (gN 2) (gsCons (gN 3) gsNil))) b_write_web_l0 (nodes.map nW) [some (webO nodes e st), some (.ref S.length), none, none, none] (S ++ [.lst [.str (headS e st)]]) := rfl
  rw [lp] at lp0
  have jn : dJoinT (dC (.str "\n")) (dVar 1) [some (webO nodes e st), some (.ref S.length), a, b, none] (S ++ [.lst ([.str (headS e st)] ++ (nodes.map ndS).map W.str)]) = .ok (.str (webS nodes e st)) (S ++ [.lst ([.str (headS e st)] ++ (nodes.map ndS).map W.str)]) := by
    unfold dJoinT
    have c : ∀ X, dC (.str "\n") [some (webO nodes e st), some (.ref S.length), a, b, none] X = .ok (.str nlS) X := fun X => rfl
    rw [c, DD.R.bind_ok]
    simp only []
    have v : ∀ X, dVar 1 [some (webO nodes e st), some (.ref S.length), a, b, none] X = .ok (.ref S.length) X := fun X => rfl
    rw [v, DD.R.bind_ok]
    have sqL : seqL (S ++ [.lst ([.str (headS e st)] ++ (nodes.map ndS).map W.str)]) (.ref S.length) = some ((headS e st :: nodes.map ndS).map W.str) := by unfold seqL; simp
    simp only [sqL, strsOf_map]
    have ss := sum_nd hN
    have hh := len_head h0 h1 h2 h3
    have hnl : nlS.length = 1 := by decide +kernel
    rw [if_pos (by rw [List.map_cons, List.sum_cons, List.length_cons, List.length_map, hnl]; omega)]
    rfl
  obtain ⟨df, hdf⟩ : ∃ d, d = dFor (dSeqI (dFld [30] "nodes" (dVar 0))) (gStar 1 (gsCons (gN 2) (gsCons (gN 3) gsNil))) b_write_web_l0 := ⟨_, rfl⟩
  obtain ⟨dn, hdn⟩ : ∃ d, d = dNewL (dCons dh dNil) := ⟨_, rfl⟩
  obtain ⟨dj, hdj⟩ : ∃ d, d = dJoinT (dC (.str "\n")) (dVar 1) := ⟨_, rfl⟩
  rw [← hdf] at lp0 hy
  rw [← hdn] at nl hy
  rw [← hdj] at jn hy
  have fin : gcR S (.ok (.str (webS nodes e st)) (S ++ [.lst ([.str (headS e st)] ++ (nodes.map ndS).map W.str)])) = .ok (.str (webS nodes e st)) S := gc_app rfl
  generalize S ++ [.lst ([W.str (headS e st)] ++ (nodes.map ndS).map W.str)] = X2 at lp0 jn fin
  generalize S ++ [O.lst [W.str (headS e st)]] = X1 at nl lp0
  generalize webO nodes e st = WO at nl lp0 jn hy
  generalize webS nodes e st = R at jn fin ⊢
  simp -implicitDefEqProofs [nl, lp0, jn] at hy
  subst hy
  exact hxz.symm.trans fin
end
end SP
/-! Webs as text: a line read. -/
namespace SP
open PySem L2 DD U TL
section
variable {S : Sto}
theorem rposs_ok {ws : List Str} (h : ∀ x ∈ ws, PyData.strOk x = true ∧ x.length ≤ 100000) (hn : ws.length ≤ 100000) (w0 w1 w2 : Option W) : dLc (dSeqI (dVar 3)) (.nm 4) dYes (dCall fn_read_position (dCons (dVar 4) dNil)) [4] [w0, w1, w2, some (.lst (ws.map W.str)), none] S = .ok (.lst ((ws.map fun x => rpL (tl x)).map oIW)) S := by
  unfold dLc
  have sq : dSeqI (dVar 3) [w0, w1, w2, some (.lst (ws.map W.str)), none] S = .ok (ws.map W.str) S := rfl
  rw [sq, DD.R.bind_ok]
  have wp : wipeW [w0, w1, w2, some (.lst (ws.map W.str)), none] [4] = [w0, w1, w2, some (.lst (ws.map W.str)), none] := rfl
  have := lc_enc (g := .nm 4) (tt := dYes) (te := dCall fn_read_position (dCons (dVar 4) dNil)) (t0 := [w0, w1, w2, some (.lst (ws.map W.str)), none]) (S := S) W.str (fun _ => true) (fun x => oIW (rpL (tl x))) ws [] (by rw [List.length_nil]; omega) (fun p hp => ⟨[w0, w1, w2, some (.lst (ws.map W.str)), some (.str p)], rfl, rfl, fun _ => by
    obtain ⟨h0, h1⟩ := h p hp
    have := read_pos_ok (S := S) h0 h1
    generalize oIW (rpL (tl p)) = Q at this ⊢
    generalize hy : dCall _ _ _ _ = y
    simp -implicitDefEqProofs [this] at hy
    exact hy.symm⟩)
  rw [List.filter_eq_self.mpr (fun _ _ => rfl), List.nil_append] at this
  rw [wp, this, List.map_map]; rfl
/-- what the words of a node's line write -/
def vsN : List Str → List (Option Int)
  | [] => []
  | x :: ws => (pnL (tl x)).map (fun (n : Nat) => (n : Int)) :: ws.map fun x => rpL (tl x)
open Classical in
noncomputable def ndP (ws : List Str) : Option (List Int) := if (ws.length = 3 ∨ ws.length = 4) ∧ none ∉ vsN ws then some ((vsN ws).filterMap id) else none
theorem vsN_len (ws : List Str) : (vsN ws).length = ws.length := by
  cases ws <;> simp [vsN]
theorem oI_all : ∀ {vs : List (Option Int)}, none ∉ vs → vs.map oIW = (vs.filterMap id).map W.int
  | [], _ => rfl
  | none :: vs, h => absurd (List.mem_cons_self ..) h
  | some i :: vs, h => by
    rw [List.map_cons, oI_all (fun hm => h (List.mem_cons_of_mem _ hm))]; rfl
theorem inW_non : ∀ (vs : List (Option Int)), inW .non (vs.map oIW) = vs.any Option.isNone
  | [] => rfl
  | v :: vs => by
    have := inW_non vs
    unfold inW at this ⊢
    rw [List.map_cons, List.any_cons, List.any_cons, this]
    congr 1
    cases v <;> rfl
theorem dat_oI (n : Nat) (v : Option Int) : dat n (oIW v) = true := by cases v <;> cases n <;> rfl
end
end SP
/-! Webs as text: read_node. -/
namespace SP
open PySem L2 DD U TL
section
variable {S : Sto}
def oNW : Option (List Int) → W
  | some nd => nW nd
  | none => .non
theorem read_node_ok {x : Str} (hx : PyData.strOk x = true) (hl : x.length ≤ 60000) : U.fn_read_node [.str x] S = .ok (oNW (ndP (Txt.split x spS))) S := by
  generalize hxz : U.fn_read_node _ _ = z
  unfold U.fn_read_node at hxz
  rw [DD.gcF_eq, DD.dFn_eq] at hxz
  generalize hy : U.b_read_node _ _ = y at hxz
  unfold U.b_read_node at hy
  obtain ⟨ys, hys⟩ : ∃ ys, ys = Txt.split x spS := ⟨_, rfl⟩
  have hin : ∀ y ∈ ys, PyData.strOk y = true ∧ y.length ≤ 100000 := fun y hy => by
    rw [hys] at hy
    obtain ⟨h1, h2⟩ := split_in hx y hy
    exact ⟨h2, by omega⟩
  have hc : ys.length ≤ 60001 := by rw [hys]; have := split_cnt (x := x); omega
  have hne : ys ≠ [] := fun h => by
    have := split_tl x
    rw [← hys, h] at this
    have h2 : ∀ (l acc : List Nat), spl [32] 0 acc l ≠ [] := fun l => by
      induction l with
      | nil => intro acc; rw [spl_nil]; simp
      | cons c l ih =>
        intro acc
        by_cases h : pre [32] (c :: l) = true
        · rw [spl_hit h]; simp
        · rw [spl_miss (by simpa using h)]; exact ih _
    exact h2 _ _ this.symm
  rw [← hys]
  have sp : dSplit (dVar 0) (dC (.str " ")) [some (.str x), none, none, none, none] S = .ok (.lst (ys.map W.str)) S := by
    unfold dSplit
    show (if _ then _ else _) = _
    rw [if_pos ⟨by decide +kernel, by rw [sizeLine_eq]; omega⟩, hys]; rfl
  obtain ⟨f, os, rfl⟩ := List.exists_cons_of_ne_nil hne
  obtain ⟨hf, hfl⟩ := hin f (List.mem_cons_self ..)
  have hos : ∀ y ∈ os, PyData.strOk y = true ∧ y.length ≤ 100000 := fun y hy => hin y (List.mem_cons_of_mem _ hy)
  rw [List.length_cons] at hc
  have asg : dAsg (dSplit (dVar 0) (dC (.str " "))) (gStarL 1 (gsCons (gN 2) (gsCons (gN 3) gsNil))) [some (.str x), none, none, none, none] S = .nx [some (.str x), none, some (.str f), some (.lst (os.map W.str)), none] S := by
    obtain ⟨dd, hdd⟩ : ∃ d, d = dSplit (dVar 0) (dC (.str " ")) := ⟨_, rfl⟩
    rw [← hdd] at sp ⊢
    unfold dAsg
    rw [sp]
    rfl
  have pn := plain_ok (S := S) hf (by omega)
  have ps := rposs_ok (S := S) hos (by omega) (some (.str x)) none (some (.str f))
  obtain ⟨vs, hvs⟩ : ∃ vs, vs = vsN (f :: os) := ⟨_, rfl⟩
  have hvl : vs.length = os.length + 1 := by rw [hvs, vsN_len]; rfl
  have hvc : pnW f :: (os.map fun x => rpL (tl x)).map oIW = vs.map oIW := by
    rw [hvs, pnW_o]; rfl
  obtain ⟨dl, hdl⟩ : ∃ d, d = dLc (dSeqI (dVar 3)) (.nm 4) dYes (dCall fn_read_position (dCons (dVar 4) dNil)) [4] := ⟨_, rfl⟩
  have ls : dLst (dCons (dCall fn_plain_number (dCons (dVar 2) dNil)) (dStar dl dNil)) [some (.str x), none, some (.str f), some (.lst (os.map W.str)), none] S = .ok (.lst (vs.map oIW)) S := by
    rw [← hdl] at ps
    rw [← hvc]
    have sz : (pnW f :: (os.map fun x => rpL (tl x)).map oIW).length ≤ 16777216 := by simp; omega
    have sqA : seqA S (.lst ((os.map fun x => rpL (tl x)).map oIW)) = some ((os.map fun x => rpL (tl x)).map oIW) := rfl
    generalize ((os.map fun x => rpL (tl x)).map oIW) = L at ps sqA sz ⊢
    have dst : dStar dl dNil [some (.str x), none, some (.str f), some (.lst (os.map W.str)), none] S = .ok L S := by
      unfold dStar
      rw [ps, DD.R.bind_ok]
      simp only [sqA]
      simp
    obtain ⟨dS, hdS⟩ : ∃ d, d = dStar dl dNil := ⟨_, rfl⟩
    rw [← hdS] at dst ⊢
    generalize hy : dLst _ _ _ = y
    generalize pnW f = N at pn sz ⊢
    generalize os.map W.str = TS at dst hy
    simp only [List.length_cons] at sz
    simp -implicitDefEqProofs [pn, dst, sizeLine_eq, sz] at hy
    exact hy.symm
  obtain ⟨dL, hdL⟩ : ∃ d, d = dLst (dCons (dCall fn_plain_number (dCons (dVar 2) dNil)) (dStar dl dNil)) := ⟨_, rfl⟩
  obtain ⟨dA, hdA⟩ : ∃ d, d = dAsg (dSplit (dVar 0) (dC (.str " "))) (gStarL 1 (gsCons (gN 2) (gsCons (gN 3) gsNil))) := ⟨_, rfl⟩
  rw [← hdL] at ls
  rw [← hdA] at asg
  rw [← hdl, ← hdL, ← hdA] at hy
  have ln : ∀ X, lenF [.lst (vs.map oIW)] X = .ok (.int (vs.length : Nat)) X := fun X => by
    rw [e_lenL, List.length_map]
  have dv : ((vs.map oIW).all (dat dDep)) = true := by
    rw [List.all_map, List.all_eq_true]
    exact fun v _ => dat_oI _ v
  have nn : ∀ X, inD .non (.lst (vs.map oIW)) X = .ok (.bl (vs.any Option.isNone)) X := fun X => by
    rw [e_inL rfl dv, inW_non]
  have n34 : ∀ X, notInD (.int (vs.length : Nat)) (.tup [.int 3, .int 4]) X = .ok (.bl (!(decide (vs.length = 3 ∨ vs.length = 4)))) X := fun X => by
    rw [e_notInT rfl rfl]
    refine congrArg (fun b : Bool => DD.R.ok (W.bl b) X) ?_
    congr 1
    unfold inW
    simp only [List.any_cons, List.any_nil, Bool.or_false, eqW]
    rw [Bool.eq_iff_iff]
    simp
    omega
  have tb : ∀ b X, truW X (.bl b) = some b := fun _ _ => rfl
  have tp : ∀ X, tupleF [.lst (vs.map oIW)] X = .ok (.tup (vs.map oIW)) X := fun X => rfl
  have anyN : vs.any Option.isNone = true ↔ none ∈ vs := by
    rw [List.any_eq_true]
    refine ⟨fun h => ?_, fun h => ⟨none, h, rfl⟩⟩
    obtain ⟨v, h1, h2⟩ := h
    cases v with
    | none => exact h1
    | some _ => cases h2
  unfold ndP
  rw [← hvs]
  have hlen : (f :: os).length = vs.length := by rw [hvl]; rfl
  rw [hlen]
  by_cases h1 : vs.length = 3 ∨ vs.length = 4
  · rw [decide_eq_true h1] at n34
    by_cases h2 : none ∈ vs
    · rw [if_neg (fun h => h.2 h2)]
      rw [anyN.mpr h2] at nn
      generalize ((vs.length : Nat) : Int) = m at ln n34
      generalize vs.map oIW = V at ls ln nn
      simp -implicitDefEqProofs [asg, ls, ln, n34, nn, sizeLine_eq] at hy
      subst hy
      exact hxz.symm.trans (gc_same rfl)
    · rw [if_pos ⟨h1, h2⟩]
      have : vs.any Option.isNone = false := by
        cases h : vs.any Option.isNone
        · rfl
        · exact absurd (anyN.mp h) h2
      rw [this] at nn
      have hr : oNW (some (vs.filterMap id)) = .tup (vs.map oIW) := by
        rw [oI_all h2]; rfl
      have lw : lowW S.length (.tup (vs.map oIW)) = true := by
        simp only [lowW]
        exact lowL_all fun w hw => by
          obtain ⟨p, _, rfl⟩ := List.mem_map.mp hw
          cases p <;> rfl
      rw [hr]
      generalize ((vs.length : Nat) : Int) = m at ln n34
      generalize vs.map oIW = V at ls ln nn tp lw ⊢
      simp -implicitDefEqProofs [asg, ls, ln, n34, nn, tp, sizeLine_eq] at hy
      subst hy
      exact hxz.symm.trans (gc_same lw)
  · rw [if_neg (fun h => h1 h.1)]
    rw [decide_eq_false h1] at n34
    generalize ((vs.length : Nat) : Int) = m at ln n34
    generalize vs.map oIW = V at ls ln nn
    simp -implicitDefEqProofs [asg, ls, ln, n34, sizeLine_eq] at hy
    subst hy
    exact hxz.symm.trans (gc_same rfl)
end
end SP
/-! Webs as text: read_head. -/
namespace SP
open PySem L2 DD U TL
section
variable {S : Sto}
def hdP : List Str → Option (Int × Int)
  | [a, b, c, d] => if a = Str.ofString "ends" ∧ c = Str.ofString "start" then match pnL (tl b), rpL (tl d) with
    | some n, some p => some ((n : Int), p)
    | _, _ => none
    else none
  | _ => none
def oHW : Option (Int × Int) → W
  | some p => .tup [.int p.1, .int p.2]
  | none => .non
theorem read_head_ok {x : Str} (hx : PyData.strOk x = true) (hl : x.length ≤ 60000) : U.fn_read_head [.str x] S = .ok (oHW (hdP (Txt.split x spS))) S := by
  generalize hxz : U.fn_read_head _ _ = z
  unfold U.fn_read_head at hxz
  rw [DD.gcF_eq, DD.dFn_eq] at hxz
  generalize hy : U.b_read_head _ _ = y at hxz
  unfold U.b_read_head at hy
  obtain ⟨ys, hys⟩ : ∃ ys, ys = Txt.split x spS := ⟨_, rfl⟩
  have hin : ∀ y ∈ ys, PyData.strOk y = true ∧ y.length ≤ 100000 := fun y hy => by
    rw [hys] at hy
    obtain ⟨h1, h2⟩ := split_in hx y hy
    exact ⟨h2, by omega⟩
  have hc : ys.length ≤ 60001 := by rw [hys]; have := split_cnt (x := x); omega
  rw [← hys]
  have sp : dSplit (dVar 0) (dC (.str " ")) [some (.str x), none, none, none] S = .ok (.lst (ys.map W.str)) S := by
    unfold dSplit
    show (if _ then _ else _) = _
    rw [if_pos ⟨by decide +kernel, by rw [sizeLine_eq]; omega⟩, hys]; rfl
  obtain ⟨dd, hdd⟩ : ∃ d, d = dSplit (dVar 0) (dC (.str " ")) := ⟨_, rfl⟩
  rw [← hdd] at sp hy
  have ln : ∀ X, lenF [.lst (ys.map W.str)] X = .ok (.int (ys.length : Nat)) X := fun X => by rw [e_lenL, List.length_map]
  have ne4 : ∀ X, neD (.int (ys.length : Nat)) (.int 4) X = .ok (.bl (!decide (ys.length = 4))) X := fun X => by
    rw [e_neI]
    refine congrArg (fun b : Bool => DD.R.ok (W.bl b) X) ?_
    by_cases h : ys.length = 4
    · rw [decide_eq_true h, decide_eq_true (by omega : ((ys.length : Nat) : Int) = 4)]
    · rw [decide_eq_false h, decide_eq_false (by omega : ¬ ((ys.length : Nat) : Int) = 4)]
  by_cases h4 : ys.length = 4
  · rw [decide_eq_true h4] at ne4
    match ys, h4, hin with
    | [a, b, c, d], _, hin =>
      obtain ⟨oa, la⟩ := hin a (by simp)
      obtain ⟨ob, lb⟩ := hin b (by simp)
      obtain ⟨oc, lc⟩ := hin c (by simp)
      obtain ⟨od, ld⟩ := hin d (by simp)
      have oke : PyData.strOk (Str.ofString "ends") = true := by decide +kernel
      have oks : PyData.strOk (Str.ofString "start") = true := by decide +kernel
      have na : ∀ X, neD (.str a) (.str "ends") X = .ok (.bl (!decide (a = Str.ofString "ends"))) X := fun X => ne_str' oa oke
      have nc : ∀ X, neD (.str c) (.str "start") X = .ok (.bl (!decide (c = Str.ofString "start"))) X := fun X => ne_str' oc oks
      have pb := plain_ok (S := S) ob (by omega)
      have pd := read_pos_ok (S := S) od (by omega)
      rw [pnW_o] at pb
      have i0 : ∀ X, ixD (.lst ([a, b, c, d].map W.str)) (.int 0) X = .ok (.str a) X := fun X => rfl
      have i1 : ∀ X, ixD (.lst ([a, b, c, d].map W.str)) (.int 1) X = .ok (.str b) X := fun X => rfl
      have i2 : ∀ X, ixD (.lst ([a, b, c, d].map W.str)) (.int 2) X = .ok (.str c) X := fun X => rfl
      have i3 : ∀ X, ixD (.lst ([a, b, c, d].map W.str)) (.int 3) X = .ok (.str d) X := fun X => rfl
      have hdE : hdP [a, b, c, d] = if a = Str.ofString "ends" ∧ c = Str.ofString "start" then match pnL (tl b), rpL (tl d) with
        | some n, some p => some ((n : Int), p)
        | _, _ => none
        else none := rfl
      rw [hdE]
      generalize [a, b, c, d].map W.str = L at sp ln i0 i1 i2 i3
      generalize (([a, b, c, d].length : Nat) : Int) = m at ln ne4
      by_cases ha : a = Str.ofString "ends"
      · rw [decide_eq_true ha] at na
        by_cases hcc : c = Str.ofString "start"
        · rw [decide_eq_true hcc] at nc
          rw [if_pos ⟨ha, hcc⟩]
          cases hb : pnL (tl b) with
          | none =>
            rw [hb] at pb
            simp only [Option.map_none, oIW] at pb ⊢
            generalize hR : oIW (rpL (tl d)) = R at pd
            have hz : oHW none = W.non := rfl
            simp -implicitDefEqProofs [sp, ln, ne4, i0, na, i2, nc, i1, pb, i3, pd, dPar, isNone] at hy
            subst hy
            exact hxz.symm.trans (gc_same rfl)
          | some n =>
            rw [hb] at pb
            simp only [Option.map_some, oIW] at pb
            cases hd : rpL (tl d) with
            | none =>
              rw [hd] at pd
              simp only [oIW] at pd
              simp -implicitDefEqProofs [sp, ln, ne4, i0, na, i2, nc, i1, pb, i3, pd, dPar, isNone] at hy
              subst hy
              exact hxz.symm.trans (gc_same rfl)
            | some p =>
              rw [hd] at pd
              simp only [oIW] at pd
              show z = .ok (.tup [.int ((n : Nat) : Int), .int p]) S
              generalize ((n : Nat) : Int) = N at pb ⊢
              simp -implicitDefEqProofs [sp, ln, ne4, i0, na, i2, nc, i1, pb, i3, pd, dPar, isNone, sizeLine_eq] at hy
              subst hy
              exact hxz.symm.trans (gc_same rfl)
        · rw [if_neg (fun h => hcc h.2)]
          rw [decide_eq_false hcc] at nc
          simp -implicitDefEqProofs [sp, ln, ne4, i0, na, i2, nc] at hy
          subst hy
          exact hxz.symm.trans (gc_same rfl)
      · rw [if_neg (fun h => ha h.1)]
        rw [decide_eq_false ha] at na
        simp -implicitDefEqProofs [sp, ln, ne4, i0, na] at hy
        subst hy
        exact hxz.symm.trans (gc_same rfl)
  · rw [decide_eq_false h4] at ne4
    have hn : hdP ys = none := by
      unfold hdP
      split
      · exact absurd rfl h4
      · rfl
    rw [hn]
    generalize ((ys.length : Nat) : Int) = m at ln ne4
    generalize ys.map W.str = L at sp ln
    simp -implicitDefEqProofs [sp, ln, ne4] at hy
    subst hy
    exact hxz.symm.trans (gc_same rfl)
end
end SP
/-! Webs as text: what is written is read. -/
namespace SP
open PySem L2 DD U TL
section
variable {S : Sto}
theorem nd_free {nd : List Int} (h : NdT nd) : ∀ y ∈ ndWs nd, ∀ c ∈ tl y, c = 35 ∨ 48 ≤ c ∧ c ≤ 57 := by
  obtain ⟨q, ts, rfl, q0, q1, htl, ht⟩ := h
  intro y hy c hc
  rcases List.mem_cons.mp hy with rfl | hy
  · rw [tl_numS] at hc
    exact .inr (numL_digits _ c hc)
  · obtain ⟨p, hp, rfl⟩ := List.mem_map.mp hy
    rw [tl_pos] at hc
    split at hc
    · rcases List.mem_cons.mp hc with h | h
      · exact .inl h
      · exact .inr (numL_digits _ c h)
    · exact .inr (numL_digits _ c hc)
theorem ndWs_ne {nd : List Int} (h : NdT nd) : ndWs nd ≠ [] := by
  obtain ⟨q, ts, rfl, _⟩ := h
  simp [ndWs]
theorem split_nd {nd : List Int} (h : NdT nd) : Txt.split (ndS nd) spS = ndWs nd := split_join tl_sp (by decide +kernel) (ndWs_ne h) (fun y hy hm => by
  have := nd_free h y hy 32 hm
  omega)
theorem vsN_nd {nd : List Int} (h : NdT nd) : vsN (ndWs nd) = nd.map some := by
  obtain ⟨q, ts, rfl, q0, q1, htl, ht⟩ := h
  show ((pnL (tl (numS q.toNat))).map fun (n : Nat) => (n : Int)) :: (ts.map posS).map (fun x => rpL (tl x)) = some q :: ts.map some
  rw [tl_numS, pnL_some.mpr ⟨(by omega : q.toNat < 10000), rfl⟩, List.map_map]
  congr 1
  · simp; omega
  · exact List.map_congr_left fun p hp => rpL_pos (ht p hp).1 (ht p hp).2
theorem ndP_nd {nd : List Int} (h : NdT nd) : ndP (ndWs nd) = some nd := by
  unfold ndP
  rw [vsN_nd h, if_pos]
  · congr 1
    simp
  · obtain ⟨q, ts, rfl, q0, q1, htl, ht⟩ := h
    refine ⟨?_, by simp⟩
    simp [ndWs]; omega
theorem ok_nd {nd : List Int} (h : NdT nd) : PyData.strOk (ndS nd) = true := ok_iff.mpr fun c hc => by
  unfold ndS at hc
  rw [tl_joinS tl_sp] at hc
  rcases join_in _ _ hc with rfl | ⟨x, hx, hcx⟩
  · decide
  · obtain ⟨y, hy, rfl⟩ := List.mem_map.mp hx
    have := nd_free h y hy c hcx
    omega
theorem nd_no10 {nd : List Int} (h : NdT nd) : 10 ∉ tl (ndS nd) := fun hc => by
  unfold ndS at hc
  rw [tl_joinS tl_sp] at hc
  rcases join_in _ _ hc with h10 | ⟨x, hx, hcx⟩
  · omega
  · obtain ⟨y, hy, rfl⟩ := List.mem_map.mp hx
    have := nd_free h y hy 10 hcx
    omega
def hdWs (e st : Int) : List Str := [Str.ofString "ends", numS e.toNat, Str.ofString "start", posS st]
theorem head_join (e st : Int) : headS e st = Txt.join spS (hdWs e st) := ext_tl (by
  rw [tl_joinS tl_sp]
  unfold headS hdWs
  rw [tl_add, tl_add, tl_add]
  have e1 : tl endsS = tl (Str.ofString "ends") ++ [32] := by decide +kernel
  have e2 : tl startS = [32] ++ tl (Str.ofString "start") ++ [32] := by decide +kernel
  rw [e1, e2]
  simp [joinL])
theorem pos_free (p : Int) : ∀ c ∈ tl (posS p), c = 35 ∨ 48 ≤ c ∧ c ≤ 57 := by
  intro c hc
  rw [tl_pos] at hc
  split at hc
  · rcases List.mem_cons.mp hc with h | h
    · exact .inl h
    · exact .inr (numL_digits _ c h)
  · exact .inr (numL_digits _ c hc)
theorem hd_free (e st : Int) : ∀ y ∈ hdWs e st, ∀ c ∈ tl y, 33 ≤ c ∧ c < 128 := by
  have t1 : tl (Str.ofString "ends") = [101, 110, 100, 115] := by decide +kernel
  have t2 : tl (Str.ofString "start") = [115, 116, 97, 114, 116] := by decide +kernel
  intro y hy c hc
  simp only [hdWs, List.mem_cons, List.not_mem_nil, or_false] at hy
  rcases hy with rfl | rfl | rfl | rfl
  · rw [t1] at hc
    simp only [List.mem_cons, List.not_mem_nil, or_false] at hc
    omega
  · rw [tl_numS] at hc
    have := numL_digits _ c hc
    omega
  · rw [t2] at hc
    simp only [List.mem_cons, List.not_mem_nil, or_false] at hc
    omega
  · have := pos_free st c hc
    omega
theorem split_head (e st : Int) : Txt.split (headS e st) spS = hdWs e st := by
  rw [head_join]
  exact split_join tl_sp (by decide +kernel) (by simp [hdWs]) (fun y hy hm => by
    have := hd_free e st y hy 32 hm
    omega)
theorem hdP_head {e st : Int} (h0 : 0 ≤ e) (h1 : e < 1000) (h2 : -1000 ≤ st) (h3 : st < 1000) : hdP (hdWs e st) = some (e, st) := by
  unfold hdWs hdP
  simp only []
  rw [if_pos ⟨trivial, trivial⟩, tl_numS, pnL_some.mpr ⟨(by omega : e.toNat < 10000), rfl⟩, rpL_pos h2 h3]
  simp; omega
theorem head_no10 (e st : Int) : 10 ∉ tl (headS e st) := fun hc => by
  rw [head_join, tl_joinS tl_sp] at hc
  rcases join_in _ _ hc with h10 | ⟨x, hx, hcx⟩
  · omega
  · obtain ⟨y, hy, rfl⟩ := List.mem_map.mp hx
    have := hd_free e st y hy 10 hcx
    omega
theorem ok_head (e st : Int) : PyData.strOk (headS e st) = true := ok_iff.mpr fun c hc => by
  rw [head_join, tl_joinS tl_sp] at hc
  rcases join_in _ _ hc with rfl | ⟨x, hx, hcx⟩
  · decide
  · obtain ⟨y, hy, rfl⟩ := List.mem_map.mp hx
    have := hd_free e st y hy c hcx
    omega
theorem tl_nl : tl nlS = [10] := by decide +kernel
theorem split_web {nodes : List (List Int)} {e st : Int} (hN : ∀ nd ∈ nodes, NdT nd) : Txt.split (webS nodes e st) nlS = headS e st :: nodes.map ndS := split_join tl_nl (by decide +kernel) (by simp) (fun y hy => by
  rcases List.mem_cons.mp hy with rfl | hy
  · exact head_no10 e st
  · obtain ⟨nd, hnd, rfl⟩ := List.mem_map.mp hy
    exact nd_no10 (hN nd hnd))
theorem len_web {nodes : List (List Int)} {e st : Int} (hN : ∀ nd ∈ nodes, NdT nd) (h0 : 0 ≤ e) (h1 : e < 1000) (h2 : -1000 ≤ st) (h3 : st < 1000) : (webS nodes e st).length ≤ 31 * (nodes.length + 1) := by
  unfold webS
  rw [len_tl, tl_joinS tl_nl]
  have := join_lenG 10 30 ((headS e st :: nodes.map ndS).map tl) (fun p hp => by
    obtain ⟨y, hy, rfl⟩ := List.mem_map.mp hp
    rw [← len_tl]
    rcases List.mem_cons.mp hy with rfl | hy
    · exact len_head h0 h1 h2 h3
    · obtain ⟨nd, hnd, rfl⟩ := List.mem_map.mp hy
      have := len_nd (hN nd hnd)
      omega)
  rw [List.length_map, List.length_cons, List.length_map] at this
  exact this
end
end SP
/-! Webs as text: read_web of a written web. -/
namespace SP
open PySem L2 DD U TL
section
variable {S : Sto}
theorem rweb_turn {nd : List Int} (hN : NdT nd) (w0 w1 w3 w4 w5 w6 w7 w8 w9 : Option W) (k : Int) (acc : List W) (ha : acc.length ≤ 1000) :
    turn (gTp 2 (gsCons (gN 4) (gsCons (gN 5) gsNil))) b_read_web_l0 (.tup [.int k, .str (ndS nd)]) [w0, w1, some (.ref S.length), w3, w4, w5, w6, w7, w8, w9] (S ++ [.lst acc]) = .nx [w0, w1, some (.ref S.length), w3, some (.int k), some (.str (ndS nd)), some (nW nd), w7, w8, w9] (S ++ [.lst (acc ++ [nW nd])]) := by
  have e0 : turn (gTp 2 (gsCons (gN 4) (gsCons (gN 5) gsNil))) b_read_web_l0 (.tup [.int k, .str (ndS nd)]) [w0, w1, some (.ref S.length), w3, w4, w5, w6, w7, w8, w9] (S ++ [.lst acc]) = b_read_web_l0 [w0, w1, some (.ref S.length), w3, some (.int k), some (.str (ndS nd)), w6, w7, w8, w9] (S ++ [.lst acc]) := rfl
  rw [e0]
  have ln := len_nd hN
  have rn := read_node_ok (S := S ++ [.lst acc]) (ok_nd hN) (by omega)
  rw [split_nd hN, ndP_nd hN] at rn
  have hnw : oNW (some nd) = nW nd := rfl
  rw [hnw] at rn
  have isn : ∀ X, dTest (isNone false (dVar 6)) [w0, w1, some (.ref S.length), w3, some (.int k), some (.str (ndS nd)), some (nW nd), w7, w8, w9] X = .ok false X := fun X => rfl
  have ap : appendM (.ref S.length) [nW nd] (S ++ [.lst acc]) = .ok .non (S ++ [.lst (acc ++ [nW nd])]) := by
    rw [e_append (xs := acc) (by simp) (by omega), List.set_append_right _ _ (Nat.le_refl _)]
    simp
  have sq : seqL (S ++ [O.lst acc]) (.ref S.length) = some acc := by unfold seqL; simp
  generalize hy : b_read_web_l0 _ _ = y
  unfold b_read_web_l0 at hy
  obtain ⟨dt, hdt⟩ : ∃ d, d = dTest (isNone false (dVar 6)) := ⟨_, rfl⟩
  rw [← hdt] at isn hy
  generalize S ++ [.lst (acc ++ [nW nd])] = X' at ap ⊢
  generalize S ++ [O.lst acc] = X at rn ap sq hy
  generalize nW nd = N at rn isn ap ⊢
  generalize ndS nd = T at rn isn hy ⊢
  simp -implicitDefEqProofs [rn, isn, sq, ap] at hy
  exact hy.symm
theorem rweb_loop : ∀ (nodes : List (List Int)) (k : Int) (w0 w1 w3 w4 w5 w6 w7 w8 w9 : Option W) (acc : List W), (∀ nd ∈ nodes, NdT nd) → acc.length + nodes.length ≤ 1000 →
    ∃ x4 x5 x6 : Option W, forL (gTp 2 (gsCons (gN 4) (gsCons (gN 5) gsNil))) b_read_web_l0 (enumFrom k ((nodes.map ndS).map W.str)) [w0, w1, some (.ref S.length), w3, w4, w5, w6, w7, w8, w9] (S ++ [.lst acc]) = .nx [w0, w1, some (.ref S.length), w3, x4, x5, x6, w7, w8, w9] (S ++ [.lst (acc ++ nodes.map nW)])
  | [], k, w0, w1, w3, w4, w5, w6, w7, w8, w9, acc, _, _ => ⟨w4, w5, w6, by simp [forL, enumFrom]⟩
  | nd :: nodes, k, w0, w1, w3, w4, w5, w6, w7, w8, w9, acc, h, hl => by
    rw [List.length_cons] at hl
    have e := rweb_turn (S := S) (h nd (List.mem_cons_self ..)) w0 w1 w3 w4 w5 w6 w7 w8 w9 k acc (by omega)
    obtain ⟨x4, x5, x6, e'⟩ := rweb_loop nodes (k + 1) w0 w1 w3 (some (.int k)) (some (.str (ndS nd))) (some (nW nd)) w7 w8 w9 (acc ++ [nW nd]) (fun x hx => h x (List.mem_cons_of_mem _ hx)) (by simp; omega)
    refine ⟨x4, x5, x6, ?_⟩
    rw [List.map_cons, List.map_cons, enumFrom, forL_cons, e]
    simp only []
    rw [e', List.append_assoc]; rfl
theorem read_web_ok {nodes : List (List Int)} {e st : Int} (hN : ∀ nd ∈ nodes, NdT nd) (hl : nodes.length ≤ 100) (h1 : 1 ≤ e) (h2 : e ≤ 60) (hG : Gns nodes e) (hs1 : -1 - e < st) (hs2 : st < nodes.length) (hr : rp 0 nodes = none) : U.fn_read_web [.str (webS nodes e st)] S = .ok (webO nodes e st) S := by
  generalize hxz : U.fn_read_web _ _ = z
  unfold U.fn_read_web at hxz
  rw [DD.gcF_eq, DD.dFn_eq] at hxz
  generalize hy : U.b_read_web _ _ = y at hxz
  unfold U.b_read_web at hy
  have lw := len_web (e := e) (st := st) hN (by omega) (by omega) (by omega) (by omega)
  obtain ⟨T, hT⟩ : ∃ T, T = webS nodes e st := ⟨_, rfl⟩
  have spw := split_web (e := e) (st := st) hN
  rw [← hT] at lw spw hy
  have sp : dSplit (dVar 0) (dC (.str "\n")) [some (.str T), none, none, none, none, none, none, none, none, none] S = .ok (.lst ((headS e st :: nodes.map ndS).map W.str)) S := by
    unfold dSplit
    show (if _ then _ else _) = _
    have : Txt.split T (Str.ofString "\n") = headS e st :: nodes.map ndS := spw
    rw [if_pos ⟨by decide +kernel, by rw [sizeLine_eq]; omega⟩, this]
  have asg : dAsg (dSplit (dVar 0) (dC (.str "\n"))) (gStarL 1 (gsCons (gN 3) (gsCons (gN 9) gsNil))) [some (.str T), none, none, none, none, none, none, none, none, none] S = .nx [some (.str T), none, none, some (.str (headS e st)), none, none, none, none, none, some (.lst ((nodes.map ndS).map W.str))] S := by
    unfold dAsg
    rw [sp]
    rfl
  have hh := len_head (e := e) (st := st) (by omega) (by omega) (by omega) (by omega)
  have rh := read_head_ok (S := S) (ok_head e st) (by omega)
  rw [split_head, hdP_head (by omega) (by omega) (by omega) (by omega)] at rh
  have nl : ∀ t, dNewL dNil t S = .ok (.ref S.length) (S ++ [.lst []]) := fun t => rfl
  obtain ⟨x4, x5, x6, lp⟩ := rweb_loop (S := S) nodes 2 (some (.str T)) (some (oHW (some (e, st)))) (some (.str (headS e st))) none none none none none (some (.lst ((nodes.map ndS).map W.str))) [] hN (by simp; omega)
  have lp0 : dFor (dEnumK (dCons (dVar 9) dNil) (dCons (dC (.int 2)) dNil)) (gTp 2 (gsCons (gN 4) (gsCons (gN 5) gsNil))) b_read_web_l0 [some (.str T), some (oHW (some (e, st))), some (.ref S.length), some (.str (headS e st)), none, none, none, none, none, some (.lst ((nodes.map ndS).map W.str))] (S ++ [.lst []]) = forL (gTp 2 (gsCons (gN 4) (gsCons (gN 5) gsNil))) b_read_web_l0 (enumFrom 2 ((nodes.map ndS).map W.str)) [some (.str T), some (oHW (some (e, st))), some (.ref S.length), some (.str (headS e st)), none, none, none, none, none, some (.lst ((nodes.map ndS).map W.str))] (S ++ [.lst []]) := rfl
  rw [lp, List.nil_append] at lp0
  have mk := mkweb_ok (S := S ++ [.lst (nodes.map nW)]) (t := [some (.str T), some (oHW (some (e, st))), some (.ref S.length), some (.str (headS e st)), x4, x5, x6, some (.int e), some (.int st), some (.lst ((nodes.map ndS).map W.str))]) (da := dCons (dVar 2) (dCons (dVar 7) dNil)) (dk := dCons (dVar 8) dNil) (aW := aw_Web_2_start) (w := .ref S.length) (stW := .int st) (ends := e) rfl rfl (NV.tups nodes) (.inr (.inr ⟨S.length, rfl, by simp⟩)) h1 h2 hG (.inl rfl) hs1 hs2 hr (by omega) rfl
  obtain ⟨dA, hdA⟩ : ∃ d, d = dAsg (dSplit (dVar 0) (dC (.str "\n"))) (gStarL 1 (gsCons (gN 3) (gsCons (gN 9) gsNil))) := ⟨_, rfl⟩
  obtain ⟨dn, hdn⟩ : ∃ d, d = dNewL dNil := ⟨_, rfl⟩
  obtain ⟨df, hdf⟩ : ∃ d, d = dFor (dEnumK (dCons (dVar 9) dNil) (dCons (dC (.int 2)) dNil)) (gTp 2 (gsCons (gN 4) (gsCons (gN 5) gsNil))) b_read_web_l0 := ⟨_, rfl⟩
  obtain ⟨dm, hdm⟩ : ∃ d, d = dGc (dFrz (dMake 30 fn_Web_init (dBoth aw_Web_2_start (dCons (dVar 2) (dCons (dVar 7) dNil)) (dCons (dVar 8) dNil)))) := ⟨_, rfl⟩
  rw [← hdA] at asg
  rw [← hdn] at nl
  rw [← hdf] at lp0
  rw [← hdm] at mk
  rw [← hdA, ← hdn, ← hdf, ← hdm] at hy
  have low : lowW S.length (webO nodes e st) = true := by
    simp only [webO, lowW, lowL, Bool.and_eq_true]
    exact ⟨lowL_all fun w hw => (by obtain ⟨a, _, rfl⟩ := List.mem_map.mp hw; simp [lowW, lowL_ints]), (by first | rfl | trivial), (by first | rfl | trivial), low_nodes, (by first | rfl | trivial)⟩
  have g2 : ∀ X, gTp 2 (gsCons (gN 7) (gsCons (gN 8) gsNil)) (.tup [.int e, .int st]) [some (.str T), some (.tup [.int e, .int st]), some (.ref S.length), some (.str (headS e st)), x4, x5, x6, none, none, some (.lst ((nodes.map ndS).map W.str))] X = .ok [some (.str T), some (.tup [.int e, .int st]), some (.ref S.length), some (.str (headS e st)), x4, x5, x6, some (.int e), some (.int st), some (.lst ((nodes.map ndS).map W.str))] X := fun X => rfl
  have fin : gcR S (.ok (webO nodes e st) (S ++ [.lst (nodes.map nW)])) = .ok (webO nodes e st) S := gc_app low
  have hho : oHW (some (e, st)) = .tup [.int e, .int st] := rfl
  rw [hho] at rh lp0 mk
  generalize S ++ [.lst (nodes.map nW)] = X2 at lp0 mk fin
  generalize S ++ [O.lst []] = X1 at nl lp0
  generalize webO nodes e st = R at mk fin ⊢
  generalize headS e st = HS at asg rh lp0 mk g2
  generalize (nodes.map ndS).map W.str = L at asg lp0 mk g2
  simp -implicitDefEqProofs [asg, rh, isNone, nl, lp0, g2, mk] at hy
  subst hy
  exact hxz.symm.trans fin
end
end SP
namespace SP
open PySem L2 DD U
@[simp] theorem e_range2 {d : DA} {t : Lo} {S : Sto} : dRange2 d t S = (d t S).bind fun ws S1 => match ws with
  | [.int i, .int j] => if -(2 ^ 62) ≤ i ∧ i < 2 ^ 62 ∧ -(2 ^ 62) ≤ j ∧ j < 2 ^ 62 then .ok (intsFrom i (j - i).toNat) S1 else .no
  | _ => .no := rfl
end SP
namespace Zk72
open PySem PySem.Spec PyProof.Rows L2 DD U
structure Tx (K : PySem.W.Frag) (mg : Str → Option Value) : Prop where
  b_abs : mg "abs" = none
  b_all : mg "all" = none
  b_enumerate : mg "enumerate" = none
  b_int : mg "int" = none
  b_isinstance : mg "isinstance" = none
  b_len : mg "len" = none
  b_min : mg "min" = none
  b_range : mg "range" = none
  b_str : mg "str" = none
  b_tuple : mg "tuple" = none
  k_DIGITS : ∃ t, mg "DIGITS" = some (.str "0123456789" t)
  k_MOST_DIGITS : ∃ t, mg "MOST_DIGITS" = some (.int 4 t)
  k_MOST_ENDS : ∃ t, mg "MOST_ENDS" = some (.int 60 t)
  k_QUESTIONS : ∃ t, mg "QUESTIONS" = some (.int 48 t)
  g_l_draw : mg "_law_draw" = some (.ref (He.fAd K ("_law_draw", none)))
  g_l_pool : mg "_law_pool" = some (.ref (He.fAd K ("_law_pool", none)))
  g_l_word : mg "_law_word" = some (.ref (He.fAd K ("_law_word", none)))
  g_written_position : mg "written_position" = some (.ref (He.fAd K ("written_position", none)))
  g_repeats : mg "repeats" = some (.ref (He.fAd K ("repeats", none)))
  g_plain_number : mg "plain_number" = some (.ref (He.fAd K ("plain_number", none)))
  g_questions_of : mg "questions_of" = some (.ref (He.fAd K ("questions_of", none)))
  g_good_target : mg "good_target" = some (.ref (He.fAd K ("good_target", none)))
  g_l_names : mg "_law_names" = some (.ref (He.fAd K ("_law_names", none)))
  g_write_web : mg "write_web" = some (.ref (He.fAd K ("write_web", none)))
  g_l_target : mg "_law_target" = some (.ref (He.fAd K ("_law_target", none)))
  g_asked_behind : mg "asked_behind" = some (.ref (He.fAd K ("asked_behind", none)))
  g_good_node : mg "good_node" = some (.ref (He.fAd K ("good_node", none)))
  g_read_position : mg "read_position" = some (.ref (He.fAd K ("read_position", none)))
  g_l_nodes : mg "_law_nodes" = some (.ref (He.fAd K ("_law_nodes", none)))
  g_read_head : mg "read_head" = some (.ref (He.fAd K ("read_head", none)))
  g_read_node : mg "read_node" = some (.ref (He.fAd K ("read_node", none)))
  g_read_web : mg "read_web" = some (.ref (He.fAd K ("read_web", none)))
  g_law : mg "law" = some (.ref (He.fAd K ("law", none)))
  g_BadEnds : mg "BadEnds" = some (.ref (cm K 1))
  g_BadLine : mg "BadLine" = some (.ref (cm K 26))
  g_BadNode : mg "BadNode" = some (.ref (cm K 2))
  g_BadStart : mg "BadStart" = some (.ref (cm K 3))
  g_TwiceAsked : mg "TwiceAsked" = some (.ref (cm K 4))
  g_Web : mg "Web" = some (.ref (cm K 30))
  c_Web : Cls K (cm K 30)
  n_Web_behind : NoAttr K (cm K 30) "behind"
  n_Web_ends : NoAttr K (cm K 30) "ends"
  n_Web_nodes : NoAttr K (cm K 30) "nodes"
  n_Web_start : NoAttr K (cm K 30) "start"
  m_Web_eq : Meth K (cm K 30) "__eq__" (He.fAd K ("Web", some "__eq__"))
  mk_Web : Mk K (cm K 30) (He.fAd K ("Web", some "__init__"))
  f_l_draw : ∃ fd, FunD K "_law_draw" "_law_draw" (defArgs s_l_draw) (defBody s_l_draw) (defScope s_l_draw) [] [] (He.fAd K ("_law_draw", none)) fd
  f_l_pool : ∃ fd, FunD K "_law_pool" "_law_pool" (defArgs s_l_pool) (defBody s_l_pool) (defScope s_l_pool) [] [] (He.fAd K ("_law_pool", none)) fd
  f_l_word : ∃ fd, FunD K "_law_word" "_law_word" (defArgs s_l_word) (defBody s_l_word) (defScope s_l_word) [] [] (He.fAd K ("_law_word", none)) fd
  f_Web_eq : ∃ fd, FunD K "__eq__" "Web.__eq__" (defArgs s_Web_eq) (defBody s_Web_eq) (defScope s_Web_eq) [] [] (He.fAd K ("Web", some "__eq__")) fd
  f_written_position : ∃ fd, FunD K "written_position" "written_position" (defArgs s_written_position) (defBody s_written_position) (defScope s_written_position) [] [] (He.fAd K ("written_position", none)) fd
  f_repeats : ∃ fd, FunD K "repeats" "repeats" (defArgs s_repeats) (defBody s_repeats) (defScope s_repeats) [] [] (He.fAd K ("repeats", none)) fd
  f_plain_number : ∃ fd, FunD K "plain_number" "plain_number" (defArgs s_plain_number) (defBody s_plain_number) (defScope s_plain_number) [] [] (He.fAd K ("plain_number", none)) fd
  f_questions_of : ∃ fd, FunD K "questions_of" "questions_of" (defArgs s_questions_of) (defBody s_questions_of) (defScope s_questions_of) [] [] (He.fAd K ("questions_of", none)) fd
  f_good_target : ∃ fd, FunD K "good_target" "good_target" (defArgs s_good_target) (defBody s_good_target) (defScope s_good_target) [] [] (He.fAd K ("good_target", none)) fd
  f_l_names : ∃ fd, FunD K "_law_names" "_law_names" (defArgs s_l_names) (defBody s_l_names) (defScope s_l_names) [] [] (He.fAd K ("_law_names", none)) fd
  f_write_web : ∃ fd, FunD K "write_web" "write_web" (defArgs s_write_web) (defBody s_write_web) (defScope s_write_web) [] [] (He.fAd K ("write_web", none)) fd
  f_l_target : ∃ fd, FunD K "_law_target" "_law_target" (defArgs s_l_target) (defBody s_l_target) (defScope s_l_target) [] [] (He.fAd K ("_law_target", none)) fd
  f_asked_behind : ∃ fd, FunD K "asked_behind" "asked_behind" (defArgs s_asked_behind) (defBody s_asked_behind) (defScope s_asked_behind) [] [] (He.fAd K ("asked_behind", none)) fd
  f_good_node : ∃ fd, FunD K "good_node" "good_node" (defArgs s_good_node) (defBody s_good_node) (defScope s_good_node) [] [] (He.fAd K ("good_node", none)) fd
  f_read_position : ∃ fd, FunD K "read_position" "read_position" (defArgs s_read_position) (defBody s_read_position) (defScope s_read_position) [] [] (He.fAd K ("read_position", none)) fd
  f_l_nodes : ∃ fd, FunD K "_law_nodes" "_law_nodes" (defArgs s_l_nodes) (defBody s_l_nodes) (defScope s_l_nodes) [] [] (He.fAd K ("_law_nodes", none)) fd
  f_Web_init : ∃ fd, FunD K "__init__" "Web.__init__" (defArgs s_Web_init) (defBody s_Web_init) (defScope s_Web_init) [] [("start", .non)] (He.fAd K ("Web", some "__init__")) fd
  f_read_head : ∃ fd, FunD K "read_head" "read_head" (defArgs s_read_head) (defBody s_read_head) (defScope s_read_head) [] [] (He.fAd K ("read_head", none)) fd
  f_read_node : ∃ fd, FunD K "read_node" "read_node" (defArgs s_read_node) (defBody s_read_node) (defScope s_read_node) [] [] (He.fAd K ("read_node", none)) fd
  f_read_web : ∃ fd, FunD K "read_web" "read_web" (defArgs s_read_web) (defBody s_read_web) (defScope s_read_web) [] [] (He.fAd K ("read_web", none)) fd
  f_law : ∃ fd, FunD K "law" "law" (defArgs s_law) (defBody s_law) (defScope s_law) [] [] (He.fAd K ("law", none)) fd
  f_BadLine_init : ∃ fd, FunD K "__init__" "BadLine.__init__" (defArgs s_BadLine_init) (defBody s_BadLine_init) (defScope s_BadLine_init) [] [] (He.fAd K ("BadLine", some "__init__")) fd
  f_BadEnds_init : ∃ fd, FunD K "__init__" "BadEnds.__init__" (defArgs s_BadEnds_init) (defBody s_BadEnds_init) (defScope s_BadEnds_init) [] [] (He.fAd K ("BadEnds", some "__init__")) fd
  f_BadNode_init : ∃ fd, FunD K "__init__" "BadNode.__init__" (defArgs s_BadNode_init) (defBody s_BadNode_init) (defScope s_BadNode_init) [] [] (He.fAd K ("BadNode", some "__init__")) fd
  f_BadStart_init : ∃ fd, FunD K "__init__" "BadStart.__init__" (defArgs s_BadStart_init) (defBody s_BadStart_init) (defScope s_BadStart_init) [] [] (He.fAd K ("BadStart", some "__init__")) fd
  f_TwiceAsked_init : ∃ fd, FunD K "__init__" "TwiceAsked.__init__" (defArgs s_TwiceAsked_init) (defBody s_TwiceAsked_init) (defScope s_TwiceAsked_init) [] [] (He.fAd K ("TwiceAsked", some "__init__")) fd
  kb_Web_NoneType : PySem.W.kitOne K (.type "NoneType") (.ref (cm K 30)) = some false
  kb_Web_bool : PySem.W.kitOne K (.type "bool") (.ref (cm K 30)) = some false
  kb_Web_int : PySem.W.kitOne K (.type "int") (.ref (cm K 30)) = some false
  kb_Web_str : PySem.W.kitOne K (.type "str") (.ref (cm K 30)) = some false
  kb_Web_tuple : PySem.W.kitOne K (.type "tuple") (.ref (cm K 30)) = some false
  kb_Web_list : PySem.W.kitOne K (.type "list") (.ref (cm K 30)) = some false
  kb_Web_dict : PySem.W.kitOne K (.type "dict") (.ref (cm K 30)) = some false
  kc_Web : PySem.W.kitOne K (.ref (cm K 30)) (.ref (cm K 30)) = some true
  ia_Web : PySem.W.findIn K (.ref (cm K 30)) "__class__" = some (some (.builtin "object.__class__"))
  im_Web : PySem.W.mroIn K (cm K 30) (.type "object") = some true
  ig : PySem.W.specialIn K (.builtin "object.__class__") "__get__" = some (some (.builtin "getset_descriptor.__get__"))
  it : PySem.W.takesIn K (.builtin "object.__class__") = some true
  xb_BadLine : oexB K (cm K 26) = true
  xj_BadLine : PySem.W.findIn K (.ref (cm K 26)) "__init__" = some (some (.ref (He.fAd K ("BadLine", some "__init__"))))
  xt_BadLine : PySem.W.typeIn K (.ref (He.fAd K ("BadLine", some "__init__"))) = some (.type "function")
  xb_BadEnds : oexB K (cm K 1) = true
  xj_BadEnds : PySem.W.findIn K (.ref (cm K 1)) "__init__" = some (some (.ref (He.fAd K ("BadEnds", some "__init__"))))
  xt_BadEnds : PySem.W.typeIn K (.ref (He.fAd K ("BadEnds", some "__init__"))) = some (.type "function")
  xb_BadNode : oexB K (cm K 2) = true
  xj_BadNode : PySem.W.findIn K (.ref (cm K 2)) "__init__" = some (some (.ref (He.fAd K ("BadNode", some "__init__"))))
  xt_BadNode : PySem.W.typeIn K (.ref (He.fAd K ("BadNode", some "__init__"))) = some (.type "function")
  xb_BadStart : oexB K (cm K 3) = true
  xj_BadStart : PySem.W.findIn K (.ref (cm K 3)) "__init__" = some (some (.ref (He.fAd K ("BadStart", some "__init__"))))
  xt_BadStart : PySem.W.typeIn K (.ref (He.fAd K ("BadStart", some "__init__"))) = some (.type "function")
  xb_TwiceAsked : oexB K (cm K 4) = true
  xj_TwiceAsked : PySem.W.findIn K (.ref (cm K 4)) "__init__" = some (some (.ref (He.fAd K ("TwiceAsked", some "__init__"))))
  xt_TwiceAsked : PySem.W.typeIn K (.ref (He.fAd K ("TwiceAsked", some "__init__"))) = some (.type "function")
  xn_BadEnds : PySem.W.findIn K (.ref (cm K 1)) "count" = some none
  xn_BadLine : PySem.W.findIn K (.ref (cm K 26)) "line" = some none
  xn_BadNode : PySem.W.findIn K (.ref (cm K 2)) "index" = some none
  xn_BadStart : PySem.W.findIn K (.ref (cm K 3)) "place" = some none
  xn_TwiceAsked : PySem.W.findIn K (.ref (cm K 4)) "index" = some none
theorem tx_of {K : PySem.W.Frag} {h : Heap} {mg : Str → Option Value} (X : K.In h) (G : h.Ns mainGlobals mg) (c : He.SaysD fa fn K) (ex : exK K = true) : Tx K mg where
  b_abs := He.free_ok X G (c.fact 0 (f := .free "abs") rfl)
  b_all := He.free_ok X G (c.fact 1 (f := .free "all") rfl)
  b_enumerate := He.free_ok X G (c.fact 2 (f := .free "enumerate") rfl)
  b_int := He.free_ok X G (c.fact 3 (f := .free "int") rfl)
  b_isinstance := He.free_ok X G (c.fact 4 (f := .free "isinstance") rfl)
  b_len := He.free_ok X G (c.fact 5 (f := .free "len") rfl)
  b_min := He.free_ok X G (c.fact 6 (f := .free "min") rfl)
  b_range := He.free_ok X G (c.fact 7 (f := .free "range") rfl)
  b_str := He.free_ok X G (c.fact 8 (f := .free "str") rfl)
  b_tuple := He.free_ok X G (c.fact 9 (f := .free "tuple") rfl)
  k_DIGITS := He.str_ok X G (c.fact 10 (f := .str "DIGITS" "0123456789") rfl)
  k_MOST_DIGITS := He.int_ok X G (c.fact 11 (f := .int "MOST_DIGITS" 4) rfl)
  k_MOST_ENDS := He.int_ok X G (c.fact 12 (f := .int "MOST_ENDS" 60) rfl)
  k_QUESTIONS := He.int_ok X G (c.fact 13 (f := .int "QUESTIONS" 48) rfl)
  g_l_draw := He.glo_ok X G (c.fact 14 (f := .glo "_law_draw") rfl)
  g_l_pool := He.glo_ok X G (c.fact 15 (f := .glo "_law_pool") rfl)
  g_l_word := He.glo_ok X G (c.fact 16 (f := .glo "_law_word") rfl)
  g_written_position := He.glo_ok X G (c.fact 17 (f := .glo "written_position") rfl)
  g_repeats := He.glo_ok X G (c.fact 18 (f := .glo "repeats") rfl)
  g_plain_number := He.glo_ok X G (c.fact 19 (f := .glo "plain_number") rfl)
  g_questions_of := He.glo_ok X G (c.fact 20 (f := .glo "questions_of") rfl)
  g_good_target := He.glo_ok X G (c.fact 21 (f := .glo "good_target") rfl)
  g_l_names := He.glo_ok X G (c.fact 22 (f := .glo "_law_names") rfl)
  g_write_web := He.glo_ok X G (c.fact 23 (f := .glo "write_web") rfl)
  g_l_target := He.glo_ok X G (c.fact 24 (f := .glo "_law_target") rfl)
  g_asked_behind := He.glo_ok X G (c.fact 25 (f := .glo "asked_behind") rfl)
  g_good_node := He.glo_ok X G (c.fact 26 (f := .glo "good_node") rfl)
  g_read_position := He.glo_ok X G (c.fact 27 (f := .glo "read_position") rfl)
  g_l_nodes := He.glo_ok X G (c.fact 28 (f := .glo "_law_nodes") rfl)
  g_read_head := He.glo_ok X G (c.fact 29 (f := .glo "read_head") rfl)
  g_read_node := He.glo_ok X G (c.fact 30 (f := .glo "read_node") rfl)
  g_read_web := He.glo_ok X G (c.fact 31 (f := .glo "read_web") rfl)
  g_law := He.glo_ok X G (c.fact 32 (f := .glo "law") rfl)
  g_BadEnds := He.glo_ok X G (c.fact 33 (f := .glo "BadEnds") rfl)
  g_BadLine := He.glo_ok X G (c.fact 34 (f := .glo "BadLine") rfl)
  g_BadNode := He.glo_ok X G (c.fact 35 (f := .glo "BadNode") rfl)
  g_BadStart := He.glo_ok X G (c.fact 36 (f := .glo "BadStart") rfl)
  g_TwiceAsked := He.glo_ok X G (c.fact 37 (f := .glo "TwiceAsked") rfl)
  g_Web := He.glo_ok X G (c.fact 38 (f := .glo "Web") rfl)
  c_Web := He.cls_ok (c.fact 39 (f := .cls "Web") rfl)
  n_Web_behind := He.noat_ok (c.fact 40 (f := .noat "Web" "behind") rfl)
  n_Web_ends := He.noat_ok (c.fact 41 (f := .noat "Web" "ends") rfl)
  n_Web_nodes := He.noat_ok (c.fact 42 (f := .noat "Web" "nodes") rfl)
  n_Web_start := He.noat_ok (c.fact 43 (f := .noat "Web" "start") rfl)
  m_Web_eq := He.meth_ok (c.fact 44 (f := .meth "Web" "__eq__") rfl)
  mk_Web := He.mkr_ok (c.fact 45 (f := .mkr "Web") rfl)
  f_l_draw := c.def_ 0 (d := dd_l_draw) rfl
  f_l_pool := c.def_ 1 (d := dd_l_pool) rfl
  f_l_word := c.def_ 2 (d := dd_l_word) rfl
  f_Web_eq := c.def_ 3 (d := dd_Web_eq) rfl
  f_written_position := c.def_ 4 (d := dd_written_position) rfl
  f_repeats := c.def_ 5 (d := dd_repeats) rfl
  f_plain_number := c.def_ 6 (d := dd_plain_number) rfl
  f_questions_of := c.def_ 7 (d := dd_questions_of) rfl
  f_good_target := c.def_ 8 (d := dd_good_target) rfl
  f_l_names := c.def_ 9 (d := dd_l_names) rfl
  f_write_web := c.def_ 10 (d := dd_write_web) rfl
  f_l_target := c.def_ 11 (d := dd_l_target) rfl
  f_asked_behind := c.def_ 12 (d := dd_asked_behind) rfl
  f_good_node := c.def_ 13 (d := dd_good_node) rfl
  f_read_position := c.def_ 14 (d := dd_read_position) rfl
  f_l_nodes := c.def_ 15 (d := dd_l_nodes) rfl
  f_Web_init := c.def_ 16 (d := dd_Web_init) rfl
  f_read_head := c.def_ 17 (d := dd_read_head) rfl
  f_read_node := c.def_ 18 (d := dd_read_node) rfl
  f_read_web := c.def_ 19 (d := dd_read_web) rfl
  f_law := c.def_ 20 (d := dd_law) rfl
  f_BadLine_init := c.def_ 21 (d := dd_BadLine_init) rfl
  f_BadEnds_init := c.def_ 22 (d := dd_BadEnds_init) rfl
  f_BadNode_init := c.def_ 23 (d := dd_BadNode_init) rfl
  f_BadStart_init := c.def_ 24 (d := dd_BadStart_init) rfl
  f_TwiceAsked_init := c.def_ 25 (d := dd_TwiceAsked_init) rfl
  kb_Web_NoneType := of_decide_eq_true (He.ba (He.ba (He.ba (He.ba (He.ba (He.ba (He.ba (He.ba (He.ba (He.ba (He.ba (He.ba (He.ba (He.ba (He.ba (He.ba (He.ba (He.ba (He.ba (He.ba (He.ba (He.ba (He.ba (He.ba (He.ba (He.ba (He.ba (He.ba (He.ba (He.ba (He.ba ex).1).1).1).1).1).1).1).1).1).1).1).1).1).1).1).1).1).1).1).1).1).1).1).1).1).1).1).1).1).1).1
  kb_Web_bool := of_decide_eq_true (He.ba (He.ba (He.ba (He.ba (He.ba (He.ba (He.ba (He.ba (He.ba (He.ba (He.ba (He.ba (He.ba (He.ba (He.ba (He.ba (He.ba (He.ba (He.ba (He.ba (He.ba (He.ba (He.ba (He.ba (He.ba (He.ba (He.ba (He.ba (He.ba (He.ba (He.ba ex).1).1).1).1).1).1).1).1).1).1).1).1).1).1).1).1).1).1).1).1).1).1).1).1).1).1).1).1).1).1).2
  kb_Web_int := of_decide_eq_true (He.ba (He.ba (He.ba (He.ba (He.ba (He.ba (He.ba (He.ba (He.ba (He.ba (He.ba (He.ba (He.ba (He.ba (He.ba (He.ba (He.ba (He.ba (He.ba (He.ba (He.ba (He.ba (He.ba (He.ba (He.ba (He.ba (He.ba (He.ba (He.ba (He.ba ex).1).1).1).1).1).1).1).1).1).1).1).1).1).1).1).1).1).1).1).1).1).1).1).1).1).1).1).1).1).2
  kb_Web_str := of_decide_eq_true (He.ba (He.ba (He.ba (He.ba (He.ba (He.ba (He.ba (He.ba (He.ba (He.ba (He.ba (He.ba (He.ba (He.ba (He.ba (He.ba (He.ba (He.ba (He.ba (He.ba (He.ba (He.ba (He.ba (He.ba (He.ba (He.ba (He.ba (He.ba (He.ba ex).1).1).1).1).1).1).1).1).1).1).1).1).1).1).1).1).1).1).1).1).1).1).1).1).1).1).1).1).2
  kb_Web_tuple := of_decide_eq_true (He.ba (He.ba (He.ba (He.ba (He.ba (He.ba (He.ba (He.ba (He.ba (He.ba (He.ba (He.ba (He.ba (He.ba (He.ba (He.ba (He.ba (He.ba (He.ba (He.ba (He.ba (He.ba (He.ba (He.ba (He.ba (He.ba (He.ba (He.ba ex).1).1).1).1).1).1).1).1).1).1).1).1).1).1).1).1).1).1).1).1).1).1).1).1).1).1).1).2
  kb_Web_list := of_decide_eq_true (He.ba (He.ba (He.ba (He.ba (He.ba (He.ba (He.ba (He.ba (He.ba (He.ba (He.ba (He.ba (He.ba (He.ba (He.ba (He.ba (He.ba (He.ba (He.ba (He.ba (He.ba (He.ba (He.ba (He.ba (He.ba (He.ba (He.ba ex).1).1).1).1).1).1).1).1).1).1).1).1).1).1).1).1).1).1).1).1).1).1).1).1).1).1).2
  kb_Web_dict := of_decide_eq_true (He.ba (He.ba (He.ba (He.ba (He.ba (He.ba (He.ba (He.ba (He.ba (He.ba (He.ba (He.ba (He.ba (He.ba (He.ba (He.ba (He.ba (He.ba (He.ba (He.ba (He.ba (He.ba (He.ba (He.ba (He.ba (He.ba ex).1).1).1).1).1).1).1).1).1).1).1).1).1).1).1).1).1).1).1).1).1).1).1).1).1).2
  kc_Web := of_decide_eq_true (He.ba (He.ba (He.ba (He.ba (He.ba (He.ba (He.ba (He.ba (He.ba (He.ba (He.ba (He.ba (He.ba (He.ba (He.ba (He.ba (He.ba (He.ba (He.ba (He.ba (He.ba (He.ba (He.ba (He.ba (He.ba ex).1).1).1).1).1).1).1).1).1).1).1).1).1).1).1).1).1).1).1).1).1).1).1).1).2
  ia_Web := of_decide_eq_true (He.ba (He.ba (He.ba (He.ba (He.ba (He.ba (He.ba (He.ba (He.ba (He.ba (He.ba (He.ba (He.ba (He.ba (He.ba (He.ba (He.ba (He.ba (He.ba (He.ba (He.ba (He.ba (He.ba (He.ba ex).1).1).1).1).1).1).1).1).1).1).1).1).1).1).1).1).1).1).1).1).1).1).1).2
  im_Web := of_decide_eq_true (He.ba (He.ba (He.ba (He.ba (He.ba (He.ba (He.ba (He.ba (He.ba (He.ba (He.ba (He.ba (He.ba (He.ba (He.ba (He.ba (He.ba (He.ba (He.ba (He.ba (He.ba (He.ba (He.ba ex).1).1).1).1).1).1).1).1).1).1).1).1).1).1).1).1).1).1).1).1).1).1).2
  ig := of_decide_eq_true (He.ba (He.ba (He.ba (He.ba (He.ba (He.ba (He.ba (He.ba (He.ba (He.ba (He.ba (He.ba (He.ba (He.ba (He.ba (He.ba (He.ba (He.ba (He.ba (He.ba (He.ba (He.ba ex).1).1).1).1).1).1).1).1).1).1).1).1).1).1).1).1).1).1).1).1).1).2
  it := of_decide_eq_true (He.ba (He.ba (He.ba (He.ba (He.ba (He.ba (He.ba (He.ba (He.ba (He.ba (He.ba (He.ba (He.ba (He.ba (He.ba (He.ba (He.ba (He.ba (He.ba (He.ba (He.ba ex).1).1).1).1).1).1).1).1).1).1).1).1).1).1).1).1).1).1).1).1).2
  xb_BadLine := of_decide_eq_true (He.ba (He.ba (He.ba (He.ba (He.ba (He.ba (He.ba (He.ba (He.ba (He.ba (He.ba (He.ba (He.ba (He.ba (He.ba (He.ba (He.ba (He.ba (He.ba (He.ba ex).1).1).1).1).1).1).1).1).1).1).1).1).1).1).1).1).1).1).1).2
  xj_BadLine := of_decide_eq_true (He.ba (He.ba (He.ba (He.ba (He.ba (He.ba (He.ba (He.ba (He.ba (He.ba (He.ba (He.ba (He.ba (He.ba (He.ba (He.ba (He.ba (He.ba (He.ba ex).1).1).1).1).1).1).1).1).1).1).1).1).1).1).1).1).1).1).2
  xt_BadLine := of_decide_eq_true (He.ba (He.ba (He.ba (He.ba (He.ba (He.ba (He.ba (He.ba (He.ba (He.ba (He.ba (He.ba (He.ba (He.ba (He.ba (He.ba (He.ba (He.ba ex).1).1).1).1).1).1).1).1).1).1).1).1).1).1).1).1).1).2
  xb_BadEnds := of_decide_eq_true (He.ba (He.ba (He.ba (He.ba (He.ba (He.ba (He.ba (He.ba (He.ba (He.ba (He.ba (He.ba (He.ba (He.ba (He.ba (He.ba (He.ba ex).1).1).1).1).1).1).1).1).1).1).1).1).1).1).1).1).2
  xj_BadEnds := of_decide_eq_true (He.ba (He.ba (He.ba (He.ba (He.ba (He.ba (He.ba (He.ba (He.ba (He.ba (He.ba (He.ba (He.ba (He.ba (He.ba (He.ba ex).1).1).1).1).1).1).1).1).1).1).1).1).1).1).1).2
  xt_BadEnds := of_decide_eq_true (He.ba (He.ba (He.ba (He.ba (He.ba (He.ba (He.ba (He.ba (He.ba (He.ba (He.ba (He.ba (He.ba (He.ba (He.ba ex).1).1).1).1).1).1).1).1).1).1).1).1).1).1).2
  xb_BadNode := of_decide_eq_true (He.ba (He.ba (He.ba (He.ba (He.ba (He.ba (He.ba (He.ba (He.ba (He.ba (He.ba (He.ba (He.ba (He.ba ex).1).1).1).1).1).1).1).1).1).1).1).1).1).2
  xj_BadNode := of_decide_eq_true (He.ba (He.ba (He.ba (He.ba (He.ba (He.ba (He.ba (He.ba (He.ba (He.ba (He.ba (He.ba (He.ba ex).1).1).1).1).1).1).1).1).1).1).1).1).2
  xt_BadNode := of_decide_eq_true (He.ba (He.ba (He.ba (He.ba (He.ba (He.ba (He.ba (He.ba (He.ba (He.ba (He.ba (He.ba ex).1).1).1).1).1).1).1).1).1).1).1).2
  xb_BadStart := of_decide_eq_true (He.ba (He.ba (He.ba (He.ba (He.ba (He.ba (He.ba (He.ba (He.ba (He.ba (He.ba ex).1).1).1).1).1).1).1).1).1).1).2
  xj_BadStart := of_decide_eq_true (He.ba (He.ba (He.ba (He.ba (He.ba (He.ba (He.ba (He.ba (He.ba (He.ba ex).1).1).1).1).1).1).1).1).1).2
  xt_BadStart := of_decide_eq_true (He.ba (He.ba (He.ba (He.ba (He.ba (He.ba (He.ba (He.ba (He.ba ex).1).1).1).1).1).1).1).1).2
  xb_TwiceAsked := of_decide_eq_true (He.ba (He.ba (He.ba (He.ba (He.ba (He.ba (He.ba (He.ba ex).1).1).1).1).1).1).1).2
  xj_TwiceAsked := of_decide_eq_true (He.ba (He.ba (He.ba (He.ba (He.ba (He.ba (He.ba ex).1).1).1).1).1).1).2
  xt_TwiceAsked := of_decide_eq_true (He.ba (He.ba (He.ba (He.ba (He.ba (He.ba ex).1).1).1).1).1).2
  xn_BadEnds := of_decide_eq_true (He.ba (He.ba (He.ba (He.ba (He.ba ex).1).1).1).1).2
  xn_BadLine := of_decide_eq_true (He.ba (He.ba (He.ba (He.ba ex).1).1).1).2
  xn_BadNode := of_decide_eq_true (He.ba (He.ba (He.ba ex).1).1).2
  xn_BadStart := of_decide_eq_true (He.ba (He.ba ex).1).2
  xn_TwiceAsked := of_decide_eq_true (He.ba ex).2
theorem isi_Web {K : PySem.W.Frag} {mg : Str → Option Value} (T : Tx K mg) : ∀ a b k, isi1 30 a b = some k → PySem.W.kitOne K (a.v (cm K)) (b.v (cm K)) = some k ∧ ∀ c, a = .c c → InsK K (cm K c) :=
  isi1_ok T.kb_Web_NoneType T.kb_Web_bool T.kb_Web_int T.kb_Web_str T.kb_Web_tuple T.kb_Web_list T.kb_Web_dict T.kc_Web ⟨T.c_Web, T.ia_Web, T.ig, T.it, T.im_Web⟩
theorem sc_l_draw : FnScope ["_law_pool_here", "_law_limit", "_law_mixed", "_law_cell", "_law_digit"] ["_law_pool_here", "_law_limit"] (defScope s_l_draw) := ⟨rfl, rfl, rfl, by decide +kernel, rfl, by decide +kernel, by decide +kernel⟩
theorem sc_l_pool : FnScope ["_law_script"] ["_law_script"] (defScope s_l_pool) := ⟨rfl, rfl, rfl, by decide +kernel, rfl, by decide +kernel, by decide +kernel⟩
theorem sc_l_word : FnScope ["_law_position"] ["_law_position"] (defScope s_l_word) := ⟨rfl, rfl, rfl, by decide +kernel, rfl, by decide +kernel, by decide +kernel⟩
theorem sc_Web_eq : FnScope ["self", "other"] ["self", "other"] (defScope s_Web_eq) := ⟨rfl, rfl, rfl, by decide +kernel, rfl, by decide +kernel, by decide +kernel⟩
theorem sc_written_position : FnScope ["position"] ["position"] (defScope s_written_position) := ⟨rfl, rfl, rfl, by decide +kernel, rfl, by decide +kernel, by decide +kernel⟩
theorem sc_repeats : FnScope ["nodes", "masks", "found", "index", "behind", "target", "question", "targets"] ["nodes"] (defScope s_repeats) := ⟨rfl, rfl, rfl, by decide +kernel, rfl, by decide +kernel, by decide +kernel⟩
theorem sc_plain_number : FnScope ["word", "sign"] ["word"] (defScope s_plain_number) := ⟨rfl, rfl, rfl, by decide +kernel, rfl, by decide +kernel, by decide +kernel⟩
theorem sc_questions_of : FnScope ["mask", "question"] ["mask"] (defScope s_questions_of) := ⟨rfl, rfl, rfl, by decide +kernel, rfl, by decide +kernel, by decide +kernel⟩
theorem sc_good_target : FnScope ["target", "index", "count", "ends"] ["target", "index", "count", "ends"] (defScope s_good_target) := ⟨rfl, rfl, rfl, by decide +kernel, rfl, by decide +kernel, by decide +kernel⟩
theorem sc_l_names : FnScope ["_law_pool_here", "_law_most", "_law_names_here", "_law_k", "_law_question"] ["_law_pool_here", "_law_most"] (defScope s_l_names) := ⟨rfl, rfl, rfl, by decide +kernel, rfl, by decide +kernel, by decide +kernel⟩
theorem sc_write_web : FnScope ["web", "lines", "question", "targets", "target"] ["web"] (defScope s_write_web) := ⟨rfl, rfl, rfl, by decide +kernel, rfl, by decide +kernel, by decide +kernel⟩
theorem sc_l_target : FnScope ["_law_pool_here", "_law_index", "_law_count", "_law_ends", "_law_wide"] ["_law_pool_here", "_law_index", "_law_count", "_law_ends"] (defScope s_l_target) := ⟨rfl, rfl, rfl, by decide +kernel, rfl, by decide +kernel, by decide +kernel⟩
theorem sc_asked_behind : FnScope ["nodes", "masks", "index", "mask", "target"] ["nodes"] (defScope s_asked_behind) := ⟨rfl, rfl, rfl, by decide +kernel, rfl, by decide +kernel, by decide +kernel⟩
theorem sc_good_node : FnScope ["node", "index", "count", "ends", "target"] ["node", "index", "count", "ends"] (defScope s_good_node) := ⟨rfl, rfl, rfl, by decide +kernel, rfl, by decide +kernel, by decide +kernel⟩
theorem sc_read_position : FnScope ["word", "end"] ["word"] (defScope s_read_position) := ⟨rfl, rfl, rfl, by decide +kernel, rfl, by decide +kernel, by decide +kernel⟩
theorem sc_l_nodes : FnScope ["_law_pool_here", "_law_count", "_law_ends", "_law_names_here", "_law_skips", "_law_nodes_here", "_law_below", "_law_k", "_law_index", "_law_width", "_law_targets", "_law_used", "_law_target_here", "_law_free", "_law_question", "_law_at", "_law_name"] ["_law_pool_here", "_law_count", "_law_ends", "_law_names_here", "_law_skips"] (defScope s_l_nodes) := ⟨rfl, rfl, rfl, by decide +kernel, rfl, by decide +kernel, by decide +kernel⟩
theorem sc_Web_init : FnScope ["self", "nodes", "ends", "start", "kept", "twice", "index", "node"] ["self", "nodes", "ends", "start"] (defScope s_Web_init) := ⟨rfl, rfl, rfl, by decide +kernel, rfl, by decide +kernel, by decide +kernel⟩
theorem sc_read_head : FnScope ["line", "words", "ends", "start"] ["line"] (defScope s_read_head) := ⟨rfl, rfl, rfl, by decide +kernel, rfl, by decide +kernel, by decide +kernel⟩
theorem sc_read_node : FnScope ["line", "node", "first", "others", "word"] ["line"] (defScope s_read_node) := ⟨rfl, rfl, rfl, by decide +kernel, rfl, by decide +kernel, by decide +kernel⟩
theorem sc_read_web : FnScope ["text", "head", "nodes", "first", "line", "words", "node", "ends", "start", "others"] ["text"] (defScope s_read_web) := ⟨rfl, rfl, rfl, by decide +kernel, rfl, by decide +kernel, by decide +kernel⟩
theorem sc_law : FnScope ["_law_script", "_law_pool_here", "_law_names_here", "_law_ends", "_law_nodes_here", "_law_origin", "_law_web", "_law_lines", "_law_node", "_law_text", "_law_again", "_law_target_here"] ["_law_script"] (defScope s_law) := ⟨rfl, rfl, rfl, by decide +kernel, rfl, by decide +kernel, by decide +kernel⟩
theorem sc_BadLine_init : FnScope ["self", "line"] ["self", "line"] (defScope s_BadLine_init) := ⟨rfl, rfl, rfl, by decide +kernel, rfl, by decide +kernel, by decide +kernel⟩
theorem sc_BadEnds_init : FnScope ["self", "count"] ["self", "count"] (defScope s_BadEnds_init) := ⟨rfl, rfl, rfl, by decide +kernel, rfl, by decide +kernel, by decide +kernel⟩
theorem sc_BadNode_init : FnScope ["self", "index"] ["self", "index"] (defScope s_BadNode_init) := ⟨rfl, rfl, rfl, by decide +kernel, rfl, by decide +kernel, by decide +kernel⟩
theorem sc_BadStart_init : FnScope ["self", "place"] ["self", "place"] (defScope s_BadStart_init) := ⟨rfl, rfl, rfl, by decide +kernel, rfl, by decide +kernel, by decide +kernel⟩
theorem sc_TwiceAsked_init : FnScope ["self", "index"] ["self", "index"] (defScope s_TwiceAsked_init) := ⟨rfl, rfl, rfl, by decide +kernel, rfl, by decide +kernel, by decide +kernel⟩
theorem xi_BadLine {K : PySem.W.Frag} {mg : Str → Option Value} (T : Tx K mg) : Exc1 K (cm K 26) (He.fAd K ("BadLine", some "__init__")) "line" := ⟨oexB_ok T.xb_BadLine, T.xj_BadLine, T.xt_BadLine, T.xn_BadLine⟩
theorem xo_BadLine {P : Program} {w : World} {K : PySem.W.Frag} {mg : Str → Option Value} {base : Heap} (T : Tx K mg) : InitOk P w K mg base (cm K 26) (He.fAd K ("BadLine", some "__init__")) "line" 1 :=
  init1_ok' T.f_BadLine_init sc_BadLine_init (xi_BadLine T) (fun _ _ _ _ _ _ => pss_one (ps_ost (pvx 0) (pvx 1))) (fun fd F => FunD.bindsN (ps := ["self", "line"]) F fun _ _ _ _ _ _ us hl => match us, hl with | [_, _], _ => rfl)
theorem xi_BadEnds {K : PySem.W.Frag} {mg : Str → Option Value} (T : Tx K mg) : Exc1 K (cm K 1) (He.fAd K ("BadEnds", some "__init__")) "count" := ⟨oexB_ok T.xb_BadEnds, T.xj_BadEnds, T.xt_BadEnds, T.xn_BadEnds⟩
theorem xo_BadEnds {P : Program} {w : World} {K : PySem.W.Frag} {mg : Str → Option Value} {base : Heap} (T : Tx K mg) : InitOk P w K mg base (cm K 1) (He.fAd K ("BadEnds", some "__init__")) "count" 1 :=
  init1_ok' T.f_BadEnds_init sc_BadEnds_init (xi_BadEnds T) (fun _ _ _ _ _ _ => pss_one (ps_ost (pvx 0) (pvx 1))) (fun fd F => FunD.bindsN (ps := ["self", "count"]) F fun _ _ _ _ _ _ us hl => match us, hl with | [_, _], _ => rfl)
theorem xi_BadNode {K : PySem.W.Frag} {mg : Str → Option Value} (T : Tx K mg) : Exc1 K (cm K 2) (He.fAd K ("BadNode", some "__init__")) "index" := ⟨oexB_ok T.xb_BadNode, T.xj_BadNode, T.xt_BadNode, T.xn_BadNode⟩
theorem xo_BadNode {P : Program} {w : World} {K : PySem.W.Frag} {mg : Str → Option Value} {base : Heap} (T : Tx K mg) : InitOk P w K mg base (cm K 2) (He.fAd K ("BadNode", some "__init__")) "index" 1 :=
  init1_ok' T.f_BadNode_init sc_BadNode_init (xi_BadNode T) (fun _ _ _ _ _ _ => pss_one (ps_ost (pvx 0) (pvx 1))) (fun fd F => FunD.bindsN (ps := ["self", "index"]) F fun _ _ _ _ _ _ us hl => match us, hl with | [_, _], _ => rfl)
theorem xi_BadStart {K : PySem.W.Frag} {mg : Str → Option Value} (T : Tx K mg) : Exc1 K (cm K 3) (He.fAd K ("BadStart", some "__init__")) "place" := ⟨oexB_ok T.xb_BadStart, T.xj_BadStart, T.xt_BadStart, T.xn_BadStart⟩
theorem xo_BadStart {P : Program} {w : World} {K : PySem.W.Frag} {mg : Str → Option Value} {base : Heap} (T : Tx K mg) : InitOk P w K mg base (cm K 3) (He.fAd K ("BadStart", some "__init__")) "place" 1 :=
  init1_ok' T.f_BadStart_init sc_BadStart_init (xi_BadStart T) (fun _ _ _ _ _ _ => pss_one (ps_ost (pvx 0) (pvx 1))) (fun fd F => FunD.bindsN (ps := ["self", "place"]) F fun _ _ _ _ _ _ us hl => match us, hl with | [_, _], _ => rfl)
theorem xi_TwiceAsked {K : PySem.W.Frag} {mg : Str → Option Value} (T : Tx K mg) : Exc1 K (cm K 4) (He.fAd K ("TwiceAsked", some "__init__")) "index" := ⟨oexB_ok T.xb_TwiceAsked, T.xj_TwiceAsked, T.xt_TwiceAsked, T.xn_TwiceAsked⟩
theorem xo_TwiceAsked {P : Program} {w : World} {K : PySem.W.Frag} {mg : Str → Option Value} {base : Heap} (T : Tx K mg) : InitOk P w K mg base (cm K 4) (He.fAd K ("TwiceAsked", some "__init__")) "index" 1 :=
  init1_ok' T.f_TwiceAsked_init sc_TwiceAsked_init (xi_TwiceAsked T) (fun _ _ _ _ _ _ => pss_one (ps_ost (pvx 0) (pvx 1))) (fun fd F => FunD.bindsN (ps := ["self", "index"]) F fun _ _ _ _ _ _ us hl => match us, hl with | [_, _], _ => rfl)
def gk_Web_2_start {α : Type} : List α → List α → List α → List α := fun us mv zs => match us, mv, zs with
  | [x, a0, a1], [], [b0] => [x, a0, a1, b0]
  | _, _, _ => []
theorem rk_Web_2_start {vs mz zs : List V} {us mv ws : List Value} (p : Vals vs us) (q : Vals mz mv) (r : Vals zs ws) : Vals (gk_Web_2_start vs mz zs) (gk_Web_2_start us mv ws) := by
  cases p with
  | nil => exact .nil
  | cons x p =>
    cases p with
    | nil => exact .nil
    | cons a0 p =>
      cases p with
      | nil => exact .nil
      | cons a1 p =>
        cases p with
        | cons _ _ => exact .nil
        | nil =>
          cases q with
          | cons _ _ => exact .nil
          | nil =>
            cases r with
            | nil => exact .nil
            | cons b0 r =>
              cases r with
              | cons _ _ => exact .nil
              | nil =>
                exact (.cons x (.cons a0 (.cons a1 (.cons b0 .nil))))
theorem kb_Web_2_start {K : PySem.W.Frag} : ∀ fd, FunD K "__init__" "Web.__init__" (defArgs s_Web_init) (defBody s_Web_init) (defScope s_Web_init) [] [("start", .non)] (He.fAd K ("Web", some "__init__")) fd → ∃ g, KBn K fd ["self", "nodes", "ends", "start"] 3 ["start"] g (fun vs zs => gk_Web_2_start vs [] zs) := fun fd F => by
  obtain ⟨mv, h⟩ := F.kbinds0 (ps := ["self", "nodes", "ends", "start"]) 3 ["start"] [] (fun us mv ws => gk_Web_2_start us mv ws) (by simp) (by simp) (fun p q r => rk_Web_2_start p q r) (fun _ _ _ _ _ _ us mv ws h1 h2 h3 => match us, mv, ws, h1, h2, h3 with | [_, _, _], [], [_], _, _, _ => rfl)
  exact ⟨_, h⟩
theorem ar_Web_2_start {G : Gx} : Arr G 2 1 aw_Web_2_start (fun vs zs => gk_Web_2_start vs [] zs) := ⟨fun {H S r x ws vs zs us} p q h1 h2 => match ws, vs, zs, us, p, q, h1, h2 with
  | [_, _], _, [_], _, .cons a0 (.cons a1 .nil), .cons b0 .nil, _, _ => ⟨_, rfl, (.cons a0 (.cons a1 (.cons b0 .nil)))⟩⟩
theorem al_Web_2_start : ∀ ws zs, ws.length = 2 → zs.length = 1 → (aw_Web_2_start ws zs).length + 1 = 4 := fun ws zs h1 h2 => match ws, zs, h1, h2 with
  | [_, _], [_], _, _ => rfl
section
variable {P : Program} {w : World} {K : PySem.W.Frag} {mg : Str → Option Value} {base : Heap} {TB : List (Addr × Str)} {lm : Option Addr} {li : Option LI}
theorem ok_l_draw (T : Tx K mg) : DefOk P w K mg base ⟨K, cm K, w, TB, lm, li⟩ (xv K) (He.fAd K ("_law_draw", none)) 1 2 fn_l_draw := by
  obtain ⟨fd, F⟩ := T.f_l_draw
  exact DefOk.gc (def_ok (k := 0) (N := ["_law_pool_here", "_law_limit", "_law_mixed", "_law_cell", "_law_digit"]) F sc_l_draw (fun _ _ _ _ _ _ us hl => match us, hl with | [_, _], _ => rfl) fun cdv A outer s H E hr c =>
    (dss_cons (ds_asg (de_op (o_addD c.kk) (de_ix c (de_var 0) de_int) de_int) (dg_ix c (de_var 0) de_int))
    (dss_cons (ds_if (PW.pt (dw_and (dt_cmp (o_eq c.kk hr.units) (de_ix c (de_var 0) de_int) de_int) (dw_and1 (dt_cmp o_lt (de_ix c (de_var 0) de_int) (de_callB (c_len c.kk) PySem.boot_len T.b_len (da_cons (de_ix c (de_var 0) de_int) da_nil))))))
    (dss_cons (ds_set (i := 3) c (de_callB c_abs boot_abs T.b_abs (da_cons (de_ix c (de_ix c (de_var 0) de_int) (de_ix c (de_var 0) de_int)) da_nil)))
    (dss_cons (ds_asg (de_op (o_addD c.kk) (de_ix c (de_var 0) de_int) de_int) (dg_ix c (de_var 0) de_int))
    (dss_one (ds_if (dt_cmp o_ge (de_var 3) (de_op o_pow de_int de_int))
    (dss_one (ds_asg (de_var 3) (dg_ix c (de_var 0) de_int)))
    (dss_one (ds_asg (de_op o_mod (de_callTy c_int boot_int T.b_int (da_cons (de_op o_mulD (de_op (o_addD c.kk) (de_op (o_addD c.kk) (de_ix c (de_var 0) de_int) (de_var 3)) de_int) de_int) da_nil)) de_int) (dg_ix c (de_var 0) de_int)))))))
    dss_nil)
    (dss_cons (ds_if (dt_cmp o_gt (de_ix c (de_var 0) de_int) de_int)
    (dss_cons (ds_set (i := 4) c (de_op o_mod (de_callTy c_int boot_int T.b_int (da_cons (de_ix c (de_var 0) de_int) da_nil)) (de_var 1)))
    (dss_cons (ds_asg (de_op o_div (de_ix c (de_var 0) de_int) (de_var 1)) (dg_ix c (de_var 0) de_int))
    (dss_one (ds_ret (de_var 4)))))
    dss_nil)
    (dss_cons (ds_set (i := 2) c (de_op o_mod (de_callTy c_int boot_int T.b_int (da_cons (de_op o_pow (de_op (o_addD c.kk) (de_ix c (de_var 0) de_int) (de_op o_mulD (de_ix c (de_var 0) de_int) de_int)) de_int) da_nil)) de_int))
    (dss_one (ds_ret (de_op o_mod (de_callTy c_int boot_int T.b_int (da_cons (de_op o_div (de_var 2) de_int) da_nil)) (de_var 1)))))))))
theorem ok_l_pool (T : Tx K mg) : DefOk P w K mg base ⟨K, cm K, w, TB, lm, li⟩ (xv K) (He.fAd K ("_law_pool", none)) 1 1 fn_l_pool := by
  obtain ⟨fd, F⟩ := T.f_l_pool
  exact DefOk.mono (def_ok (k := 0) (N := ["_law_script"]) F sc_l_pool (fun _ _ _ _ _ _ us hl => match us, hl with | [_], _ => rfl) fun cdv A outer s H E hr c =>
    (dss_one (ds_ret (de_newL (da_cons (de_var 0) (da_cons de_int (da_cons de_int (da_cons de_int (da_cons de_int da_nil))))))))) (Nat.le_refl _)
theorem ok_l_word (T : Tx K mg) : DefOk P w K mg base ⟨K, cm K, w, TB, lm, li⟩ (xv K) (He.fAd K ("_law_word", none)) 1 1 fn_l_word := by
  obtain ⟨fd, F⟩ := T.f_l_word
  exact DefOk.gc (def_ok (k := 0) (N := ["_law_position"]) F sc_l_word (fun _ _ _ _ _ _ us hl => match us, hl with | [_], _ => rfl) fun cdv A outer s H E hr c =>
    (dss_cons (ds_if (dt_cmp o_lt (de_var 0) de_int)
    (dss_one (ds_ret (de_op (o_addD c.kk) de_str (de_callTy c_str boot_str T.b_str (da_cons (de_op o_sub (de_neg de_int) (de_var 0)) da_nil)))))
    dss_nil)
    (dss_one (ds_ret (de_callTy c_str boot_str T.b_str (da_cons (de_var 0) da_nil))))))
theorem ok_Web_eq (T : Tx K mg) : DefOk P w K mg base ⟨K, cm K, w, TB, lm, li⟩ (xv K) (He.fAd K ("Web", some "__eq__")) 1 2 fn_Web_eq := by
  obtain ⟨fd, F⟩ := T.f_Web_eq
  exact DefOk.gc (def_ok (k := 0) (N := ["self", "other"]) F sc_Web_eq (fun _ _ _ _ _ _ us hl => match us, hl with | [_, _], _ => rfl) fun cdv A outer s H E hr c =>
    (dss_cons (ds_if (dt_not (dt_truth c (de_callB (c_isi c.kk (isi_Web T)) boot_isinstance T.b_isinstance (da_cons (de_var 1) (da_cons (de_gcls T.g_Web) da_nil)))))
    (dss_one (ds_ret de_bl))
    dss_nil)
    (dss_one (ds_ret (de_andT c (de_cmp (o_eq c.kk hr.units) (de_fld (cs := [30]) (de_var 0) (List.forall_mem_cons.mpr ⟨⟨T.c_Web, T.n_Web_nodes⟩, fun c hc => (List.not_mem_nil hc).elim⟩)) (de_fld (cs := [30]) (de_var 1) (List.forall_mem_cons.mpr ⟨⟨T.c_Web, T.n_Web_nodes⟩, fun c hc => (List.not_mem_nil hc).elim⟩))) (de_andT c (de_cmp (o_eq c.kk hr.units) (de_fld (cs := [30]) (de_var 0) (List.forall_mem_cons.mpr ⟨⟨T.c_Web, T.n_Web_ends⟩, fun c hc => (List.not_mem_nil hc).elim⟩)) (de_fld (cs := [30]) (de_var 1) (List.forall_mem_cons.mpr ⟨⟨T.c_Web, T.n_Web_ends⟩, fun c hc => (List.not_mem_nil hc).elim⟩))) (de_one (de_cmp (o_eq c.kk hr.units) (de_fld (cs := [30]) (de_var 0) (List.forall_mem_cons.mpr ⟨⟨T.c_Web, T.n_Web_start⟩, fun c hc => (List.not_mem_nil hc).elim⟩)) (de_fld (cs := [30]) (de_var 1) (List.forall_mem_cons.mpr ⟨⟨T.c_Web, T.n_Web_start⟩, fun c hc => (List.not_mem_nil hc).elim⟩))))))))))
theorem ok_written_position (T : Tx K mg) : DefOk P w K mg base ⟨K, cm K, w, TB, lm, li⟩ (xv K) (He.fAd K ("written_position", none)) 1 1 fn_written_position := by
  obtain ⟨fd, F⟩ := T.f_written_position
  exact DefOk.gc (def_ok (k := 0) (N := ["position"]) F sc_written_position (fun _ _ _ _ _ _ us hl => match us, hl with | [_], _ => rfl) fun cdv A outer s H E hr c =>
    (dss_one (ds_ret (de_if (dt_cmp o_ge (de_var 0) de_int) (de_callTy c_str boot_str T.b_str (da_cons (de_var 0) da_nil)) (de_joined (.cons de_str (.cons (de_fmt (de_op o_sub (de_neg de_int) (de_var 0))) .nil)))))))
theorem ok_repeats (T : Tx K mg) : DefOk P w K mg base ⟨K, cm K, w, TB, lm, li⟩ (xv K) (He.fAd K ("repeats", none)) 1 1 fn_repeats := by
  obtain ⟨fd, F⟩ := T.f_repeats
  exact DefOk.gc (def_ok (k := 0) (N := ["nodes", "masks", "found", "index", "behind", "target", "question", "targets"]) F sc_repeats (fun _ _ _ _ _ _ us hl => match us, hl with | [_], _ => rfl) fun cdv A outer s H E hr c =>
    (dss_cons (ds_set (i := 1) c (de_op o_mulD (de_lst (da_cons de_int da_nil)) (de_callB (c_len c.kk) PySem.boot_len T.b_len (da_cons (de_var 0) da_nil))))
    (dss_cons (ds_set (i := 2) c de_non)
    (dss_cons (ds_for c (di_rangeD (da_cons (de_op o_sub (de_callB (c_len c.kk) PySem.boot_len T.b_len (da_cons (de_var 0) da_nil)) de_int) (da_cons (de_neg de_int) (da_cons (de_neg de_int) da_nil))) T.b_range) (dg_name (i := 3) c)
    (dss_cons (ds_asg (de_ix c (de_var 0) (de_var 3)) (dg_star (j := 1) c (dgs_cons (dg_name (i := 6) c) (dgs_cons (dg_name (i := 7) c) dgs_nil))))
    (dss_cons (ds_set (i := 4) c de_int)
    (dss_cons (ds_for c (di_seq c (de_var 7)) (dg_name (i := 5) c)
    (dss_one (ds_if (dt_cmp o_ge (de_var 5) de_int)
    (dss_one (ds_aug (i := 4) c io_or (de_ix c (de_var 1) (de_var 5))))
    dss_nil)))
    (dss_cons (ds_if (dt_cmp (o_eq c.kk hr.units) (de_op o_and (de_op o_shr (de_var 4) (de_var 6)) de_int) de_int)
    (dss_one (ds_set (i := 2) c (de_var 3)))
    dss_nil)
    (dss_one (ds_asg (de_op DD.o_or (de_var 4) (de_op o_shl de_int (de_var 6))) (dg_ix c (de_var 1) (de_var 3)))))))))
    (dss_one (ds_ret (de_var 2)))))))
theorem ok_plain_number (T : Tx K mg) : DefOk P w K mg base ⟨K, cm K, w, TB, lm, li⟩ (xv K) (He.fAd K ("plain_number", none)) 1 1 fn_plain_number := by
  obtain ⟨fd, F⟩ := T.f_plain_number
  exact DefOk.gc (def_ok (k := 0) (N := ["word", "sign"]) F sc_plain_number (fun _ _ _ _ _ _ us hl => match us, hl with | [_], _ => rfl) fun cdv A outer s H E hr c =>
    (dss_cons (ds_if (PW.pt (dw_or (dt_not (dt_chain o_le o_le de_int (de_callB (c_len c.kk) PySem.boot_len T.b_len (da_cons (de_var 0) da_nil)) (de_gint T.k_MOST_DIGITS))) (dw_or1 (dt_not (dt_truth c (de_callB (c_all c.kk c.calm) boot_all T.b_all (da_cons (de_lcG (own := [("sign", 1)]) (g := (.nm 1)) (wi := toI ⟨K, cm K, w, TB, lm, li⟩ (xv K) _ _) c (di_seqS (de_var 0)) (by kernel_rfl) (fun _ _ _ _ _ c1 => (pg_name (i := 1) c1.nd rfl (by first | exact Or.inl rfl | exact Or.inr rfl))) (fun _ _ _ _ _ c1 => dts_nil) (fun _ _ _ _ _ c1 => (de_cmp o_inS (de_var 1) (de_gstr T.k_DIGITS))) lc_v) da_nil)))))))
    (dss_one (ds_ret de_non))
    dss_nil)
    (dss_cons (ds_if (PW.pt (dw_and (dt_cmp (o_eq c.kk hr.units) (de_ixS (de_var 0) de_int) de_str) (dw_and1 (dt_cmp (o_ne c.kk hr.units) (de_var 0) de_str))))
    (dss_one (ds_ret de_non))
    dss_nil)
    (dss_one (ds_ret (de_callTy c_intS boot_int T.b_int (da_cons (de_var 0) da_nil)))))))
theorem ok_questions_of (T : Tx K mg) : DefOk P w K mg base ⟨K, cm K, w, TB, lm, li⟩ (xv K) (He.fAd K ("questions_of", none)) 1 1 fn_questions_of := by
  obtain ⟨fd, F⟩ := T.f_questions_of
  exact DefOk.gc (def_ok (k := 0) (N := ["mask", "question"]) F sc_questions_of (fun _ _ _ _ _ _ us hl => match us, hl with | [_], _ => rfl) fun cdv A outer s H E hr c =>
    (dss_one (ds_ret (de_callTy (c_tuple c.kk) boot_tuple T.b_tuple (da_cons (de_lcG (own := [("question", 1)]) (g := (.nm 1)) (wi := toI ⟨K, cm K, w, TB, lm, li⟩ (xv K) _ _) c (di_range1 (da_cons (de_gint T.k_QUESTIONS) da_nil) T.b_range) (by kernel_rfl) (fun _ _ _ _ _ c1 => (pg_name (i := 1) c1.nd rfl (by first | exact Or.inl rfl | exact Or.inr rfl))) (fun _ _ _ _ _ c1 => (dts_one (dt_cmp (o_eq c1.kk hr.units) (de_op o_and (de_op o_shr (de_var 0) (de_var 1)) de_int) de_int))) (fun _ _ _ _ _ c1 => (de_var 1)) lc_v) da_nil)))))
theorem ok_good_target (T : Tx K mg) : DefOk P w K mg base ⟨K, cm K, w, TB, lm, li⟩ (xv K) (He.fAd K ("good_target", none)) 1 4 fn_good_target := by
  obtain ⟨fd, F⟩ := T.f_good_target
  exact DefOk.gc (def_ok (k := 0) (N := ["target", "index", "count", "ends"]) F sc_good_target (fun _ _ _ _ _ _ us hl => match us, hl with | [_, _, _, _], _ => rfl) fun cdv A outer s H E hr c =>
    (dss_cons (ds_if (dt_cmp o_lt (de_var 0) de_int)
    (dss_one (ds_ret (de_cmp o_lt (de_op o_sub (de_neg de_int) (de_var 0)) (de_var 3))))
    dss_nil)
    (dss_one (ds_ret (de_chain o_lt o_lt (de_var 1) (de_var 0) (de_var 2))))))
theorem ok_l_names (T : Tx K mg) : DefOk P w K mg base ⟨K, cm K, w, TB, lm, li⟩ (xv K) (He.fAd K ("_law_names", none)) 2 2 fn_l_names := by
  obtain ⟨fd, F⟩ := T.f_l_names
  exact DefOk.gc (def_ok (k := 1) (N := ["_law_pool_here", "_law_most", "_law_names_here", "_law_k", "_law_question"]) F sc_l_names (fun _ _ _ _ _ _ us hl => match us, hl with | [_, _], _ => rfl) fun cdv A outer s H E hr c =>
    (dss_cons (ds_set (i := 2) c (de_newL da_nil))
    (dss_cons (ds_for c (di_range1 (da_cons (de_op (o_addD c.kk) de_int (de_call c (ok_l_draw T) T.g_l_draw (hr.mono (by decide)) (da_cons (de_var 0) (da_cons (de_var 1) da_nil)) (hlen := (dCons_len (dCons_len dNil_len))))) da_nil) T.b_range) (dg_name (i := 3) c)
    (dss_cons (ds_set (i := 4) c (de_call c (ok_l_draw T) T.g_l_draw (hr.mono (by decide)) (da_cons (de_var 0) (da_cons de_int da_nil)) (hlen := (dCons_len (dCons_len dNil_len)))))
    (dss_one (ds_if (dt_cmp (o_notIn c.kk hr.units) (de_var 4) (de_var 2))
    (dss_one (ds_expr (de_mtL c PySem.F.slot_list_append PySem.F.type_list_append m_append (de_var 2) (da_cons (de_var 4) da_nil))))
    dss_nil))))
    (dss_one (ds_ret (de_frz (de_var 2)))))))
theorem ok_write_web (T : Tx K mg) : DefOk P w K mg base ⟨K, cm K, w, TB, lm, li⟩ (xv K) (He.fAd K ("write_web", none)) 2 1 fn_write_web := by
  obtain ⟨fd, F⟩ := T.f_write_web
  exact DefOk.gc (def_ok (k := 1) (N := ["web", "lines", "question", "targets", "target"]) F sc_write_web (fun _ _ _ _ _ _ us hl => match us, hl with | [_], _ => rfl) fun cdv A outer s H E hr c =>
    (dss_cons (ds_set (i := 1) c (de_newL (da_cons (de_joined (.cons de_str (.cons (de_fmt (de_fld (cs := [30]) (de_var 0) (List.forall_mem_cons.mpr ⟨⟨T.c_Web, T.n_Web_ends⟩, fun c hc => (List.not_mem_nil hc).elim⟩))) (.cons de_str (.cons (de_fmt (de_call c (ok_written_position T) T.g_written_position (hr.mono (by decide)) (da_cons (de_fld (cs := [30]) (de_var 0) (List.forall_mem_cons.mpr ⟨⟨T.c_Web, T.n_Web_start⟩, fun c hc => (List.not_mem_nil hc).elim⟩)) da_nil) (hlen := (dCons_len dNil_len)))) .nil))))) da_nil)))
    (dss_cons (ds_for c (di_seq c (de_fld (cs := [30]) (de_var 0) (List.forall_mem_cons.mpr ⟨⟨T.c_Web, T.n_Web_nodes⟩, fun c hc => (List.not_mem_nil hc).elim⟩))) (dg_star (j := 1) c (dgs_cons (dg_name (i := 2) c) (dgs_cons (dg_name (i := 3) c) dgs_nil)))
    (dss_one (ds_expr (de_mtL c PySem.F.slot_list_append PySem.F.type_list_append m_append (de_var 1) (da_cons (de_join c de_str (de_lst (da_cons (de_callTy c_str boot_str T.b_str (da_cons (de_var 2) da_nil)) (da_star c (de_lcG (own := [("target", 4)]) (g := (.nm 4)) (wi := toI ⟨K, cm K, w, TB, lm, li⟩ (xv K) _ _) c (di_seq c (de_var 3)) (by kernel_rfl) (fun _ _ _ _ _ c1 => (pg_name (i := 4) c1.nd rfl (by first | exact Or.inl rfl | exact Or.inr rfl))) (fun _ _ _ _ _ c1 => dts_nil) (fun _ _ _ _ _ c1 => (de_call c1 (ok_written_position T) T.g_written_position (hr.mono (by decide)) (da_cons (de_var 4) da_nil) (hlen := (dCons_len dNil_len)))) lc_v) da_nil)))) da_nil)))))
    (dss_one (ds_ret (de_join c de_str (de_var 1)))))))
theorem ok_l_target (T : Tx K mg) : DefOk P w K mg base ⟨K, cm K, w, TB, lm, li⟩ (xv K) (He.fAd K ("_law_target", none)) 2 4 fn_l_target := by
  obtain ⟨fd, F⟩ := T.f_l_target
  exact DefOk.gc (def_ok (k := 1) (N := ["_law_pool_here", "_law_index", "_law_count", "_law_ends", "_law_wide"]) F sc_l_target (fun _ _ _ _ _ _ us hl => match us, hl with | [_, _, _, _], _ => rfl) fun cdv A outer s H E hr c =>
    (dss_cons (ds_if (PW.pt (dw_and (dt_cmp o_lt (de_op (o_addD c.kk) (de_var 1) de_int) (de_var 2)) (dw_and1 (dt_cmp o_gt (de_call c (ok_l_draw T) T.g_l_draw (hr.mono (by decide)) (da_cons (de_var 0) (da_cons de_int da_nil)) (hlen := (dCons_len (dCons_len dNil_len)))) de_int))))
    (dss_cons (ds_set (i := 4) c (de_op o_sub (de_op o_sub (de_var 2) de_int) (de_var 1)))
    (dss_cons (ds_if (dt_cmp o_gt (de_call c (ok_l_draw T) T.g_l_draw (hr.mono (by decide)) (da_cons (de_var 0) (da_cons de_int da_nil)) (hlen := (dCons_len (dCons_len dNil_len)))) de_int)
    (dss_one (ds_set (i := 4) c (de_callB (c_min2 c.calm) boot_min T.b_min (da_cons de_int (da_cons (de_callTy c_int boot_int T.b_int (da_cons (de_var 4) da_nil)) da_nil)))))
    dss_nil)
    (dss_one (ds_ret (de_op (o_addD c.kk) (de_op (o_addD c.kk) (de_var 1) de_int) (de_call c (ok_l_draw T) T.g_l_draw (hr.mono (by decide)) (da_cons (de_var 0) (da_cons (de_var 4) da_nil)) (hlen := (dCons_len (dCons_len dNil_len)))))))))
    dss_nil)
    (dss_one (ds_ret (de_op o_sub (de_neg de_int) (de_call c (ok_l_draw T) T.g_l_draw (hr.mono (by decide)) (da_cons (de_var 0) (da_cons (de_var 3) da_nil)) (hlen := (dCons_len (dCons_len dNil_len)))))))))
theorem ok_asked_behind (T : Tx K mg) : DefOk P w K mg base ⟨K, cm K, w, TB, lm, li⟩ (xv K) (He.fAd K ("asked_behind", none)) 2 1 fn_asked_behind := by
  obtain ⟨fd, F⟩ := T.f_asked_behind
  exact DefOk.gc (def_ok (k := 1) (N := ["nodes", "masks", "index", "mask", "target"]) F sc_asked_behind (fun _ _ _ _ _ _ us hl => match us, hl with | [_], _ => rfl) fun cdv A outer s H E hr c =>
    (dss_cons (ds_set (i := 1) c (de_op o_mulD (de_lst (da_cons de_int da_nil)) (de_callB (c_len c.kk) PySem.boot_len T.b_len (da_cons (de_var 0) da_nil))))
    (dss_cons (ds_for c (di_rangeD (da_cons (de_op o_sub (de_callB (c_len c.kk) PySem.boot_len T.b_len (da_cons (de_var 0) da_nil)) de_int) (da_cons (de_neg de_int) (da_cons (de_neg de_int) da_nil))) T.b_range) (dg_name (i := 2) c)
    (dss_cons (ds_set (i := 3) c (de_op o_shl de_int (de_ix c (de_ix c (de_var 0) (de_var 2)) de_int)))
    (dss_cons (ds_for c (di_seq c (de_sl c (de_ix c (de_var 0) (de_var 2)) (do_some de_int) (do_some de_int))) (dg_name (i := 4) c)
    (dss_one (ds_if (dt_cmp o_ge (de_var 4) de_int)
    (dss_one (ds_aug (i := 3) c io_or (de_ix c (de_var 1) (de_var 4))))
    dss_nil)))
    (dss_one (ds_asg (de_var 3) (dg_ix c (de_var 1) (de_var 2)))))))
    (dss_one (ds_ret (de_lcG (own := [("mask", 3)]) (g := (.nm 3)) (wi := toIR ⟨K, cm K, w, TB, lm, li⟩ (xv K) _ _) c (di_seqR c (de_var 1)) (by kernel_rfl) (fun _ _ _ _ _ c1 => (pg_name (i := 3) c1.nd rfl (by first | exact Or.inl rfl | exact Or.inr rfl))) (fun _ _ _ _ _ c1 => dts_nil) (fun _ _ _ _ _ c1 => (de_call c1 (ok_questions_of T) T.g_questions_of (hr.mono (by decide)) (da_cons (de_var 3) da_nil) (hlen := (dCons_len dNil_len)))) lc_r))))))
theorem ok_good_node (T : Tx K mg) : DefOk P w K mg base ⟨K, cm K, w, TB, lm, li⟩ (xv K) (He.fAd K ("good_node", none)) 2 4 fn_good_node := by
  obtain ⟨fd, F⟩ := T.f_good_node
  exact DefOk.gc (def_ok (k := 1) (N := ["node", "index", "count", "ends", "target"]) F sc_good_node (fun _ _ _ _ _ _ us hl => match us, hl with | [_, _, _, _], _ => rfl) fun cdv A outer s H E hr c =>
    (dss_cons (ds_if (PW.pt (dw_or (dt_cmp (o_notIn c.kk hr.units) (de_callB (c_len c.kk) PySem.boot_len T.b_len (da_cons (de_var 0) da_nil)) (de_tup (da_cons de_int (da_cons de_int da_nil)))) (dw_or1 (dt_not (dt_chain o_le o_lt de_int (de_ix c (de_var 0) de_int) (de_gint T.k_QUESTIONS))))))
    (dss_one (ds_ret de_bl))
    dss_nil)
    (dss_one (ds_ret (de_callB (c_all c.kk c.calm) boot_all T.b_all (da_cons (de_lcG (own := [("target", 4)]) (g := (.nm 4)) (wi := toI ⟨K, cm K, w, TB, lm, li⟩ (xv K) _ _) c (di_seq c (de_sl c (de_var 0) (do_some de_int) do_none)) (by kernel_rfl) (fun _ _ _ _ _ c1 => (pg_name (i := 4) c1.nd rfl (by first | exact Or.inl rfl | exact Or.inr rfl))) (fun _ _ _ _ _ c1 => dts_nil) (fun _ _ _ _ _ c1 => (de_call c1 (ok_good_target T) T.g_good_target (hr.mono (by decide)) (da_cons (de_var 4) (da_cons (de_var 1) (da_cons (de_var 2) (da_cons (de_var 3) da_nil)))) (hlen := (dCons_len (dCons_len (dCons_len (dCons_len dNil_len))))))) lc_v) da_nil))))))
theorem ok_read_position (T : Tx K mg) : DefOk P w K mg base ⟨K, cm K, w, TB, lm, li⟩ (xv K) (He.fAd K ("read_position", none)) 2 1 fn_read_position := by
  obtain ⟨fd, F⟩ := T.f_read_position
  exact DefOk.gc (def_ok (k := 1) (N := ["word", "end"]) F sc_read_position (fun _ _ _ _ _ _ us hl => match us, hl with | [_], _ => rfl) fun cdv A outer s H E hr c =>
    (dss_cons (ds_if (dt_not (dt_truth c (de_starts (de_var 0) de_str)))
    (dss_one (ds_ret (de_call c (ok_plain_number T) T.g_plain_number (hr.mono (by decide)) (da_cons (de_var 0) da_nil) (hlen := (dCons_len dNil_len)))))
    dss_nil)
    (dss_cons (ds_set (i := 1) c (de_call c (ok_plain_number T) T.g_plain_number (hr.mono (by decide)) (da_cons (de_slS (de_var 0) (do_some de_int) do_none) da_nil) (hlen := (dCons_len dNil_len))))
    (dss_one (ds_ret (de_if (dt_isNone (de_var 1)) de_non (de_op o_sub (de_neg de_int) (de_var 1))))))))
theorem ok_l_nodes (T : Tx K mg) : DefOk P w K mg base ⟨K, cm K, w, TB, lm, li⟩ (xv K) (He.fAd K ("_law_nodes", none)) 3 5 fn_l_nodes := by
  obtain ⟨fd, F⟩ := T.f_l_nodes
  exact DefOk.gc (def_ok (k := 2) (N := ["_law_pool_here", "_law_count", "_law_ends", "_law_names_here", "_law_skips", "_law_nodes_here", "_law_below", "_law_k", "_law_index", "_law_width", "_law_targets", "_law_used", "_law_target_here", "_law_free", "_law_question", "_law_at", "_law_name"]) F sc_l_nodes (fun _ _ _ _ _ _ us hl => match us, hl with | [_, _, _, _, _], _ => rfl) fun cdv A outer s H E hr c =>
    (dss_cons (ds_set (i := 5) c (de_newL da_nil))
    (dss_cons (ds_set (i := 6) c (de_newL da_nil))
    (dss_cons (ds_for c (di_range1 (da_cons (de_var 1) da_nil) T.b_range) (dg_name (i := 7) c)
    (dss_cons (ds_set (i := 8) c (de_op o_sub (de_op o_sub (de_var 1) de_int) (de_var 7)))
    (dss_cons (ds_set (i := 9) c (de_op (o_addD c.kk) de_int (de_callTy c_int boot_int T.b_int (da_cons (de_andT c (de_var 4) (de_one (de_cmp (o_eq c.kk hr.units) (de_call c (ok_l_draw T) T.g_l_draw (hr.mono (by decide)) (da_cons (de_var 0) (da_cons de_int da_nil)) (hlen := (dCons_len (dCons_len dNil_len)))) de_int))) da_nil))))
    (dss_cons (ds_setLcG (i := 10) (own := [("_law_at", 15)]) (g := (.nm 15)) (wi := toI ⟨K, cm K, w, TB, lm, li⟩ (xv K) _ _) c (di_range1 (da_cons (de_var 9) da_nil) T.b_range) (by kernel_rfl) (fun _ _ _ _ _ c1 => (pg_name (i := 15) c1.nd rfl (by first | exact Or.inl rfl | exact Or.inr rfl))) (fun _ _ _ _ _ c1 => dts_nil) (fun _ _ _ _ _ c1 => (de_call c1 (ok_l_target T) T.g_l_target (hr.mono (by decide)) (da_cons (de_var 0) (da_cons (de_var 8) (da_cons (de_var 1) (da_cons (de_var 2) da_nil)))) (hlen := (dCons_len (dCons_len (dCons_len (dCons_len dNil_len))))))) lc_v (sw_true rfl rfl rfl (by decide +kernel)))
    (dss_cons (ds_set (i := 11) c (de_lst da_nil))
    (dss_cons (ds_for c (di_seq c (de_var 10)) (dg_name (i := 12) c)
    (dss_one (ds_if (dt_cmp o_ge (de_var 12) de_int)
    (dss_one (ds_set (i := 11) c (de_op (o_addD c.kk) (de_var 11) (de_ix c (de_var 6) (de_op o_sub (de_op o_sub (de_var 12) (de_var 8)) de_int)))))
    dss_nil)))
    (dss_cons (ds_setLcG (i := 13) (own := [("_law_name", 16)]) (g := (.nm 16)) (wi := tOr (toI ⟨K, cm K, w, TB, lm, li⟩ (xv K) _ _) (toIR ⟨K, cm K, w, TB, lm, li⟩ (xv K) _ _)) c (di_a c (de_var 3)) (by kernel_rfl) (fun _ _ _ _ _ c2 => (pg_name (i := 16) c2.nd rfl (by first | exact Or.inl rfl | exact Or.inr rfl))) (fun _ _ _ _ _ c2 => (dts_one (dt_cmp (o_notIn c2.kk hr.units) (de_var 16) (de_var 11)))) (fun _ _ _ _ _ c2 => (de_var 16)) lc_a (sw_true rfl rfl rfl (by decide +kernel)))
    (dss_cons (ds_if (dt_cmp (o_eq c.kk hr.units) (de_var 13) (de_lst da_nil))
    (dss_cons (ds_setLcG (i := 10) (own := [("_law_at", 15)]) (g := (.nm 15)) (wi := toI ⟨K, cm K, w, TB, lm, li⟩ (xv K) _ _) c (di_range1 (da_cons (de_var 9) da_nil) T.b_range) (by kernel_rfl) (fun _ _ _ _ _ c3 => (pg_name (i := 15) c3.nd rfl (by first | exact Or.inl rfl | exact Or.inr rfl))) (fun _ _ _ _ _ c3 => dts_nil) (fun _ _ _ _ _ c3 => (de_op o_sub (de_neg de_int) (de_call c3 (ok_l_draw T) T.g_l_draw (hr.mono (by decide)) (da_cons (de_var 0) (da_cons (de_var 2) da_nil)) (hlen := (dCons_len (dCons_len dNil_len)))))) lc_v (sw_true rfl rfl rfl (by decide +kernel)))
    (dss_cons (ds_set (i := 11) c (de_lst da_nil))
    (dss_one (ds_set (i := 13) c (de_var 3)))))
    dss_nil)
    (dss_cons (ds_set (i := 14) c (de_ix c (de_var 13) (de_call c (ok_l_draw T) T.g_l_draw (hr.mono (by decide)) (da_cons (de_var 0) (da_cons (de_callB (c_len c.kk) PySem.boot_len T.b_len (da_cons (de_var 13) da_nil)) da_nil)) (hlen := (dCons_len (dCons_len dNil_len))))))
    (dss_cons (ds_expr (de_mtL c PySem.F.slot_list_insert PySem.F.type_list_insert m_insert (de_var 5) (da_cons de_int (da_cons (de_callTy (c_tuple c.kk) boot_tuple T.b_tuple (da_cons (de_op (o_addD c.kk) (de_lst (da_cons (de_var 14) da_nil)) (de_var 10)) da_nil)) da_nil))))
    (dss_one (ds_expr (de_mtL c PySem.F.slot_list_insert PySem.F.type_list_insert m_insert (de_var 6) (da_cons de_int (da_cons (de_op (o_addD c.kk) (de_var 11) (de_lst (da_cons (de_var 14) da_nil))) da_nil)))))))))))))))
    (dss_one (ds_ret (de_frz (de_var 5))))))))
theorem ok_Web_init (T : Tx K mg) : DefG P w K mg base ⟨K, cm K, w, TB, lm, li⟩ (xv K) (He.fAd K ("Web", some "__init__")) 3 ["self", "nodes", "ends", "start"] fn_Web_init (FunD K "__init__" "Web.__init__" (defArgs s_Web_init) (defBody s_Web_init) (defScope s_Web_init) [] [("start", .non)] (He.fAd K ("Web", some "__init__"))) := by
  obtain ⟨fd, F⟩ := T.f_Web_init
  exact DefG.gc (defG_ok (k := 2) (N := ["self", "nodes", "ends", "start", "kept", "twice", "index", "node"]) F sc_Web_init fun cdv A outer s H E hr c =>
    (dss_cons (ds_set (i := 4) c (de_callTy (c_tuple c.kk) boot_tuple T.b_tuple (da_cons (de_lcG (own := [("node", 7)]) (g := (.nm 7)) (wi := tOr (toI ⟨K, cm K, w, TB, lm, li⟩ (xv K) _ _) (toIR ⟨K, cm K, w, TB, lm, li⟩ (xv K) _ _)) c (di_a c (de_var 1)) (by kernel_rfl) (fun _ _ _ _ _ c1 => (pg_name (i := 7) c1.nd rfl (by first | exact Or.inl rfl | exact Or.inr rfl))) (fun _ _ _ _ _ c1 => dts_nil) (fun _ _ _ _ _ c1 => (de_callTy (c_tuple c1.kk) boot_tuple T.b_tuple (da_cons (de_var 7) da_nil))) lc_a) da_nil)))
    (dss_cons (ds_if (dt_not (dt_chain o_le o_le de_int (de_var 2) (de_gint T.k_MOST_ENDS)))
    (dss_one (ds_raise1 c (xi_BadEnds T) (xo_BadEnds T) (hr.mono (by decide)) T.g_BadEnds rfl (de_var 2)))
    dss_nil)
    (dss_cons (ds_for c (di_enumA c (da_cons (de_var 4) da_nil) T.b_enumerate) (dg_tup (n := 2) c (dgs_cons (dg_name (i := 6) c) (dgs_cons (dg_name (i := 7) c) dgs_nil)))
    (dss_one (ds_if (dt_not (dt_truth c (de_call c (ok_good_node T) T.g_good_node (hr.mono (by decide)) (da_cons (de_var 7) (da_cons (de_var 6) (da_cons (de_callB (c_len c.kk) PySem.boot_len T.b_len (da_cons (de_var 4) da_nil)) (da_cons (de_var 2) da_nil)))) (hlen := (dCons_len (dCons_len (dCons_len (dCons_len dNil_len))))))))
    (dss_one (ds_raise1 c (xi_BadNode T) (xo_BadNode T) (hr.mono (by decide)) T.g_BadNode rfl (de_var 6)))
    dss_nil)))
    (dss_cons (ds_if (dt_isNone (de_var 3))
    (dss_one (ds_set (i := 3) c (de_if (dt_truth c (de_var 4)) de_int (de_neg de_int))))
    dss_nil)
    (dss_cons (ds_if (dt_not (dt_chain o_lt o_lt (de_op o_sub (de_neg de_int) (de_var 2)) (de_var 3) (de_callB (c_len c.kk) PySem.boot_len T.b_len (da_cons (de_var 4) da_nil))))
    (dss_one (ds_raise1 c (xi_BadStart T) (xo_BadStart T) (hr.mono (by decide)) T.g_BadStart rfl (de_var 3)))
    dss_nil)
    (dss_cons (ds_set (i := 5) c (de_call c (ok_repeats T) T.g_repeats (hr.mono (by decide)) (da_cons (de_var 4) da_nil) (hlen := (dCons_len dNil_len))))
    (dss_cons (ds_if (dt_notNone (de_var 5))
    (dss_one (ds_raise1 c (xi_TwiceAsked T) (xo_TwiceAsked T) (hr.mono (by decide)) T.g_TwiceAsked rfl (de_var 5)))
    dss_nil)
    (dss_cons (ds_fld (de_var 0) (de_var 4) (List.forall_mem_cons.mpr ⟨⟨T.c_Web, T.n_Web_nodes⟩, fun c hc => (List.not_mem_nil hc).elim⟩))
    (dss_cons (ds_fld (de_var 0) (de_var 2) (List.forall_mem_cons.mpr ⟨⟨T.c_Web, T.n_Web_ends⟩, fun c hc => (List.not_mem_nil hc).elim⟩))
    (dss_cons (ds_fld (de_var 0) (de_var 3) (List.forall_mem_cons.mpr ⟨⟨T.c_Web, T.n_Web_start⟩, fun c hc => (List.not_mem_nil hc).elim⟩))
    (dss_one (ds_fld (de_var 0) (de_call c (ok_asked_behind T) T.g_asked_behind (hr.mono (by decide)) (da_cons (de_var 4) da_nil) (hlen := (dCons_len dNil_len))) (List.forall_mem_cons.mpr ⟨⟨T.c_Web, T.n_Web_behind⟩, fun c hc => (List.not_mem_nil hc).elim⟩))))))))))))))
theorem ok_read_head (T : Tx K mg) : DefOk P w K mg base ⟨K, cm K, w, TB, lm, li⟩ (xv K) (He.fAd K ("read_head", none)) 3 1 fn_read_head := by
  obtain ⟨fd, F⟩ := T.f_read_head
  exact DefOk.gc (def_ok (k := 2) (N := ["line", "words", "ends", "start"]) F sc_read_head (fun _ _ _ _ _ _ us hl => match us, hl with | [_], _ => rfl) fun cdv A outer s H E hr c =>
    (dss_cons (ds_set (i := 1) c (de_split (de_var 0) de_str))
    (dss_cons (ds_if (PW.pt (dw_or (dt_cmp (o_ne c.kk hr.units) (de_callB (c_len c.kk) PySem.boot_len T.b_len (da_cons (de_var 1) da_nil)) de_int) (dw_or (dt_cmp (o_ne c.kk hr.units) (de_ix c (de_var 1) de_int) de_str) (dw_or1 (dt_cmp (o_ne c.kk hr.units) (de_ix c (de_var 1) de_int) de_str)))))
    (dss_one (ds_ret de_non))
    dss_nil)
    (dss_cons (ds_par (i := 2) (j := 3) c (da_cons (de_call c (ok_plain_number T) T.g_plain_number (hr.mono (by decide)) (da_cons (de_ix c (de_var 1) de_int) da_nil) (hlen := (dCons_len dNil_len))) (da_cons (de_call c (ok_read_position T) T.g_read_position (hr.mono (by decide)) (da_cons (de_ix c (de_var 1) de_int) da_nil) (hlen := (dCons_len dNil_len))) da_nil)))
    (dss_cons (ds_if (PW.pt (dw_or (dt_isNone (de_var 2)) (dw_or1 (dt_isNone (de_var 3)))))
    (dss_one (ds_ret de_non))
    dss_nil)
    (dss_one (ds_ret (de_tup (da_cons (de_var 2) (da_cons (de_var 3) da_nil))))))))))
theorem ok_read_node (T : Tx K mg) : DefOk P w K mg base ⟨K, cm K, w, TB, lm, li⟩ (xv K) (He.fAd K ("read_node", none)) 3 1 fn_read_node := by
  obtain ⟨fd, F⟩ := T.f_read_node
  exact DefOk.gc (def_ok (k := 2) (N := ["line", "node", "first", "others", "word"]) F sc_read_node (fun _ _ _ _ _ _ us hl => match us, hl with | [_], _ => rfl) fun cdv A outer s H E hr c =>
    (dss_cons (ds_asg (de_split (de_var 0) de_str) (dg_starL (j := 1) c (dgs_cons (dg_name (i := 2) c) (dgs_cons (dg_name (i := 3) c) dgs_nil))))
    (dss_cons (ds_set (i := 1) c (de_lst (da_cons (de_call c (ok_plain_number T) T.g_plain_number (hr.mono (by decide)) (da_cons (de_var 2) da_nil) (hlen := (dCons_len dNil_len))) (da_star c (de_lcG (own := [("word", 4)]) (g := (.nm 4)) (wi := toI ⟨K, cm K, w, TB, lm, li⟩ (xv K) _ _) c (di_seq c (de_var 3)) (by kernel_rfl) (fun _ _ _ _ _ c1 => (pg_name (i := 4) c1.nd rfl (by first | exact Or.inl rfl | exact Or.inr rfl))) (fun _ _ _ _ _ c1 => dts_nil) (fun _ _ _ _ _ c1 => (de_call c1 (ok_read_position T) T.g_read_position (hr.mono (by decide)) (da_cons (de_var 4) da_nil) (hlen := (dCons_len dNil_len)))) lc_v) da_nil))))
    (dss_cons (ds_if (PW.pt (dw_or (dt_cmp (o_notIn c.kk hr.units) (de_callB (c_len c.kk) PySem.boot_len T.b_len (da_cons (de_var 1) da_nil)) (de_tup (da_cons de_int (da_cons de_int da_nil)))) (dw_or1 (dt_cmp (o_in c.kk hr.units) de_non (de_var 1)))))
    (dss_one (ds_ret de_non))
    dss_nil)
    (dss_one (ds_ret (de_callTy (c_tuple c.kk) boot_tuple T.b_tuple (da_cons (de_var 1) da_nil))))))))
theorem ok_read_web (T : Tx K mg) : DefOk P w K mg base ⟨K, cm K, w, TB, lm, li⟩ (xv K) (He.fAd K ("read_web", none)) 5 1 fn_read_web := by
  obtain ⟨fd, F⟩ := T.f_read_web
  exact DefOk.gc (def_ok (k := 4) (N := ["text", "head", "nodes", "first", "line", "words", "node", "ends", "start", "others"]) F sc_read_web (fun _ _ _ _ _ _ us hl => match us, hl with | [_], _ => rfl) fun cdv A outer s H E hr c =>
    (dss_cons (ds_asg (de_split (de_var 0) de_str) (dg_starL (j := 1) c (dgs_cons (dg_name (i := 3) c) (dgs_cons (dg_name (i := 9) c) dgs_nil))))
    (dss_cons (ds_set (i := 1) c (de_call c (ok_read_head T) T.g_read_head (hr.mono (by decide)) (da_cons (de_var 3) da_nil) (hlen := (dCons_len dNil_len))))
    (dss_cons (ds_if (dt_isNone (de_var 1))
    (dss_one (ds_raise1 c (xi_BadLine T) (xo_BadLine T) (hr.mono (by decide)) T.g_BadLine rfl de_int))
    dss_nil)
    (dss_cons (ds_set (i := 2) c (de_newL da_nil))
    (dss_cons (ds_for c (di_enumK c (da_cons (de_var 9) da_nil) (dk_cons de_int dk_nil) T.b_enumerate) (dg_tup (n := 2) c (dgs_cons (dg_name (i := 4) c) (dgs_cons (dg_name (i := 5) c) dgs_nil)))
    (dss_cons (ds_set (i := 6) c (de_call c (ok_read_node T) T.g_read_node (hr.mono (by decide)) (da_cons (de_var 5) da_nil) (hlen := (dCons_len dNil_len))))
    (dss_cons (ds_if (dt_isNone (de_var 6))
    (dss_one (ds_raise1 c (xi_BadLine T) (xo_BadLine T) (hr.mono (by decide)) T.g_BadLine rfl (de_var 4)))
    dss_nil)
    (dss_one (ds_expr (de_mtL c PySem.F.slot_list_append PySem.F.type_list_append m_append (de_var 2) (da_cons (de_var 6) da_nil)))))))
    (dss_cons (ds_asg (de_var 1) (dg_tup (n := 2) c (dgs_cons (dg_name (i := 7) c) (dgs_cons (dg_name (i := 8) c) dgs_nil))))
    (dss_one (ds_ret (de_gc (de_frz (de_makeK (c := 30) c (ok_Web_init T) T.mk_Web T.g_Web (hr.mono (by decide)) kb_Web_2_start ar_Web_2_start (da_cons (de_var 2) (da_cons (de_var 7) da_nil)) (dk_cons (de_var 8) dk_nil) (dCons_len (dCons_len dNil_len)) (dCons_len dNil_len) al_Web_2_start))))))))))))
theorem ok_law (T : Tx K mg) {fd : FuncData} (F : FunD K "law" "law" (defArgs s_law) (defBody s_law) (defScope s_law) [] [] (He.fAd K ("law", none)) fd) : FnOk P w K mg base (L2.CX P w) 6 (He.fAd K ("law", none)) fd ["_law_script"] (spF ⟨K, cm K, w, TB, lm, li⟩ (xv K) 1 fn_law_62) :=
  fn_ok (k := 5) (N := ["_law_script", "_law_pool_here", "_law_names_here", "_law_ends", "_law_nodes_here", "_law_origin", "_law_web", "_law_lines", "_law_node", "_law_text", "_law_again", "_law_target_here"]) F sc_law fun cdv A outer s H E hr c =>
    (dss_cons (ds_set (i := 1) c (de_call c (ok_l_pool T) T.g_l_pool (hr.mono (by decide)) (da_cons (de_var 0) da_nil) (hlen := (dCons_len dNil_len))))
    (dss_cons (ds_set (i := 2) c (de_call c (ok_l_names T) T.g_l_names (hr.mono (by decide)) (da_cons (de_var 1) (da_cons de_int da_nil)) (hlen := (dCons_len (dCons_len dNil_len)))))
    (dss_cons (ds_set (i := 3) c (de_op (o_addD c.kk) de_int (de_call c (ok_l_draw T) T.g_l_draw (hr.mono (by decide)) (da_cons (de_var 1) (da_cons (de_ix c (de_lst (da_cons de_int (da_cons de_int da_nil))) (de_call c (ok_l_draw T) T.g_l_draw (hr.mono (by decide)) (da_cons (de_var 1) (da_cons de_int da_nil)) (hlen := (dCons_len (dCons_len dNil_len))))) da_nil)) (hlen := (dCons_len (dCons_len dNil_len))))))
    (dss_cons (ds_set (i := 4) c (de_call c (ok_l_nodes T) T.g_l_nodes (hr.mono (by decide)) (da_cons (de_var 1) (da_cons (de_call c (ok_l_draw T) T.g_l_draw (hr.mono (by decide)) (da_cons (de_var 1) (da_cons de_int da_nil)) (hlen := (dCons_len (dCons_len dNil_len)))) (da_cons (de_var 3) (da_cons (de_var 2) (da_cons de_bl da_nil))))) (hlen := (dCons_len (dCons_len (dCons_len (dCons_len (dCons_len dNil_len))))))))
    (dss_cons (ds_set (i := 5) c (de_op o_sub (de_call c (ok_l_draw T) T.g_l_draw (hr.mono (by decide)) (da_cons (de_var 1) (da_cons (de_op (o_addD c.kk) (de_callB (c_len c.kk) PySem.boot_len T.b_len (da_cons (de_var 4) da_nil)) (de_var 3)) da_nil)) (hlen := (dCons_len (dCons_len dNil_len)))) (de_var 3)))
    (dss_cons (ds_set (i := 6) c (de_gc (de_frz (de_makeK (c := 30) c (ok_Web_init T) T.mk_Web T.g_Web (hr.mono (by decide)) kb_Web_2_start ar_Web_2_start (da_cons (de_var 4) (da_cons (de_var 3) da_nil)) (dk_cons (de_var 5) dk_nil) (dCons_len (dCons_len dNil_len)) (dCons_len dNil_len) al_Web_2_start))))
    (dss_cons (ds_set (i := 7) c (de_newL (da_cons (de_op (o_addD c.kk) (de_op (o_addD c.kk) (de_op (o_addD c.kk) de_str (de_callTy c_str boot_str T.b_str (da_cons (de_var 3) da_nil))) de_str) (de_call c (ok_l_word T) T.g_l_word (hr.mono (by decide)) (da_cons (de_var 5) da_nil) (hlen := (dCons_len dNil_len)))) da_nil)))
    (dss_cons (ds_for c (di_seq c (de_var 4)) (dg_name (i := 8) c)
    (dss_one (ds_expr (de_mtL c PySem.F.slot_list_append PySem.F.type_list_append m_append (de_var 7) (da_cons (de_join c de_str (de_op (o_addD c.kk) (de_lst (da_cons (de_callTy c_str boot_str T.b_str (da_cons (de_ix c (de_var 8) de_int) da_nil)) da_nil)) (de_lcG (own := [("_law_target_here", 11)]) (g := (.nm 11)) (wi := toI ⟨K, cm K, w, TB, lm, li⟩ (xv K) _ _) c (di_seq c (de_sl c (de_var 8) (do_some de_int) do_none)) (by kernel_rfl) (fun _ _ _ _ _ c1 => (pg_name (i := 11) c1.nd rfl (by first | exact Or.inl rfl | exact Or.inr rfl))) (fun _ _ _ _ _ c1 => dts_nil) (fun _ _ _ _ _ c1 => (de_call c1 (ok_l_word T) T.g_l_word (hr.mono (by decide)) (da_cons (de_var 11) da_nil) (hlen := (dCons_len dNil_len)))) lc_v))) da_nil)))))
    (dss_cons (ds_set (i := 9) c (de_call c (ok_write_web T) T.g_write_web (hr.mono (by decide)) (da_cons (de_var 6) da_nil) (hlen := (dCons_len dNil_len))))
    (dss_cons (ds_if (dt_cmp (o_ne c.kk hr.units) (de_var 9) (de_join c de_str (de_var 7)))
    (dss_one (ds_ret de_bl))
    dss_nil)
    (dss_cons (ds_set (i := 10) c (de_call c (ok_read_web T) T.g_read_web (hr.mono (by decide)) (da_cons (de_var 9) da_nil) (hlen := (dCons_len dNil_len))))
    (dss_cons (ds_if (PW.pt (dw_or (dt_cmp (o_ne c.kk hr.units) (de_fld (cs := [30]) (de_var 10) (List.forall_mem_cons.mpr ⟨⟨T.c_Web, T.n_Web_nodes⟩, fun c hc => (List.not_mem_nil hc).elim⟩)) (de_callTy (c_tuple c.kk) boot_tuple T.b_tuple (da_cons (de_var 4) da_nil))) (dw_or (dt_cmp (o_ne c.kk hr.units) (de_fld (cs := [30]) (de_var 10) (List.forall_mem_cons.mpr ⟨⟨T.c_Web, T.n_Web_ends⟩, fun c hc => (List.not_mem_nil hc).elim⟩)) (de_var 3)) (dw_or1 (dt_cmp (o_ne c.kk hr.units) (de_fld (cs := [30]) (de_var 10) (List.forall_mem_cons.mpr ⟨⟨T.c_Web, T.n_Web_start⟩, fun c hc => (List.not_mem_nil hc).elim⟩)) (de_var 5))))))
    (dss_one (ds_ret de_bl))
    dss_nil)
    (dss_one (ds_ret (de_andT c (de_cmp (op_or (o_usrC c.kk (ok_Web_eq T) (hr.mono (by decide)) T.m_Web_eq) (o_eq c.kk hr.units)) (de_var 10) (de_var 6)) (de_andT c (de_cmp (o_eq c.kk hr.units) (de_call c (ok_write_web T) T.g_write_web (hr.mono (by decide)) (da_cons (de_var 10) da_nil) (hlen := (dCons_len dNil_len))) (de_var 9)) (de_one (de_cmp (o_eq c.kk hr.units) (de_fld (cs := [30]) (de_var 6) (List.forall_mem_cons.mpr ⟨⟨T.c_Web, T.n_Web_nodes⟩, fun c hc => (List.not_mem_nil hc).elim⟩)) (de_callTy (c_tuple c.kk) boot_tuple T.b_tuple (da_cons (de_var 4) da_nil))))))))))))))))))))
end
theorem law_ok {l : PySem.W.OpenLaw} {w : World} {K : PySem.W.Frag} {mg : Str → Option Value} {h : Heap} (T : Tx K mg) (hl : ∀ ns : List Int, ns.length ≤ 63 → (∀ z ∈ ns, Builtin.Int.intBits z ≤ 1048576) → ∃ S', fn_law_62 [.scr (ns.map W.int)] [] = .ok (.bl true) S') : LamX.LawAtS l w K (L2.CX l.prog w) 6 63 "_law_script" mg (He.fAd K ("law", none)) h := by
  obtain ⟨fd, F⟩ := T.f_law
  have b := FunD.bindsA (ps := ["_law_script"]) F fun _ _ _ _ _ _ us hl => match us, hl with | [_], _ => rfl
  exact law_at (cm := cm K) (xv := xv K) (fn := fn_law_62) ⟨fd, fun s u => b s [u] rfl, fun base h1 h2 => ok_law T F⟩ hl
end Zk72
namespace Zk72
open PySem PySem.Spec PyProof.Rows L2 DD U SP
section
variable {S : Sto}
theorem lposs_ok {q : Int} {ts : List Int} (h : ∀ t ∈ ts, -1000 ≤ t ∧ t < 1000) (hn : ts.length ≤ 1000) (s0 s1 s2 s3 s4 s5 s6 s7 s9 s10 : Option W) : dLc (dSeqI (dSl (dVar 8) (dPart (dC (.int 1))) dNoP)) (.nm 11) dYes (dCall fn_l_word (dCons (dVar 11) dNil)) [11] [s0, s1, s2, s3, s4, s5, s6, s7, some (nW (q :: ts)), s9, s10, none] S = .ok (.lst ((ts.map posS).map W.str)) S := by
  unfold dLc
  have sq : dSeqI (dSl (dVar 8) (dPart (dC (.int 1))) dNoP) [s0, s1, s2, s3, s4, s5, s6, s7, some (nW (q :: ts)), s9, s10, none] S = .ok (ts.map W.int) S := by
    simp [dSeqI, nW]
    rw [cut_lo (by decide)]
    rfl
  rw [sq, DD.R.bind_ok]
  have wp : wipeW [s0, s1, s2, s3, s4, s5, s6, s7, some (nW (q :: ts)), s9, s10, none] [11] = [s0, s1, s2, s3, s4, s5, s6, s7, some (nW (q :: ts)), s9, s10, none] := rfl
  have := lc_enc (g := .nm 11) (tt := dYes) (te := dCall fn_l_word (dCons (dVar 11) dNil)) (t0 := [s0, s1, s2, s3, s4, s5, s6, s7, some (nW (q :: ts)), s9, s10, none]) (S := S) W.int (fun _ => true) (fun p => W.str (posS p)) ts [] (by rw [List.length_nil]; omega) (fun p hp => ⟨[s0, s1, s2, s3, s4, s5, s6, s7, some (nW (q :: ts)), s9, s10, some (.int p)], rfl, rfl, fun _ => by
    obtain ⟨h0, h1⟩ := h p hp
    have := word_l (S := S) h0 h1
    generalize posS p = Q at this ⊢
    generalize hy : dCall _ _ _ _ = y
    simp -implicitDefEqProofs [this] at hy
    exact hy.symm⟩)
  rw [List.filter_eq_self.mpr (fun _ _ => rfl), List.nil_append] at this
  rw [wp, this, List.map_map]; rfl
theorem l0_turn {nd : List Int} (hN : NdT nd) (s0 s1 s2 s3 s4 s5 s6 s8 : Option W) (acc : List W) (ha : acc.length ≤ 1000) :
    turn (gN 8) b_law_62_l0 (nW nd) [s0, s1, s2, s3, s4, s5, s6, some (.ref S.length), s8, none, none, none] (S ++ [.lst acc]) = .nx [s0, s1, s2, s3, s4, s5, s6, some (.ref S.length), some (nW nd), none, none, none] (S ++ [.lst (acc ++ [.str (ndS nd)])]) := by
  have hN' := hN
  obtain ⟨q, ts, rfl, q0, q1, htl, ht⟩ := hN
  generalize hu : turn _ _ _ _ _ = v
  rw [turnX_] at hu
  simp only [List.set_cons_succ, List.set_cons_zero] at hu
  obtain ⟨n, hn⟩ : ∃ n, n = q.toNat := ⟨_, rfl⟩
  have hqn : q = ((n : Nat) : Int) := by omega
  have sn := str_num4 (S := S ++ [.lst acc]) (n := n) (by omega)
  rw [← hqn] at sn
  have ps := lposs_ok (S := S ++ [.lst acc]) (q := q) ht (by omega) s0 s1 s2 s3 s4 s5 s6 (some (.ref S.length)) none none
  have nds : ndWs (q :: ts) = numS n :: ts.map posS := by rw [hn]; rfl
  obtain ⟨dl, hdl⟩ : ∃ d, d = dLc (dSeqI (dSl (dVar 8) (dPart (dC (.int 1))) dNoP)) (.nm 11) dYes (dCall fn_l_word (dCons (dVar 11) dNil)) [11] := ⟨_, rfl⟩
  rw [← hdl] at ps
  have jn : dJoinT (dC (.str " ")) (dOp addD (dLst (dCons (dBi strF (dCons (dOp ixD (dVar 8) (dC (.int 0))) dNil)) dNil)) dl) [s0, s1, s2, s3, s4, s5, s6, some (.ref S.length), some (nW (q :: ts)), none, none, none] (S ++ [.lst acc]) = .ok (.str (ndS (q :: ts))) (S ++ [.lst acc]) := by
    have ls : dOp addD (dLst (dCons (dBi strF (dCons (dOp ixD (dVar 8) (dC (.int 0))) dNil)) dNil)) dl [s0, s1, s2, s3, s4, s5, s6, some (.ref S.length), some (nW (q :: ts)), none, none, none] (S ++ [.lst acc]) = .ok (.lst ((ndWs (q :: ts)).map W.str)) (S ++ [.lst acc]) := by
      rw [nds, List.map_cons]
      have sz : [W.str (numS n)].length + ((ts.map posS).map W.str).length ≤ 16777216 := by simp; omega
      have ca : ∀ X, addD (.lst [.str (numS n)]) (.lst ((ts.map posS).map W.str)) X = .ok (.lst ([.str (numS n)] ++ (ts.map posS).map W.str)) X := fun X => e_catLW sz
      have ix : ∀ X : Sto, ixD (nW (q :: ts)) (.int 0) X = .ok (.int q) X := fun X => e_ixN0
      have cs : W.str (numS n) :: (ts.map posS).map W.str = [.str (numS n)] ++ (ts.map posS).map W.str := rfl
      rw [cs]
      generalize [W.str (numS n)] ++ (ts.map posS).map W.str = R at ca ⊢
      generalize (ts.map posS).map W.str = L at ps ca
      generalize numS n = N at sn ca
      generalize nW (q :: ts) = ND at ps ix ⊢
      generalize hy : dOp addD _ _ _ _ = y
      simp -implicitDefEqProofs [ix, sn, ps, ca, sizeLine_eq] at hy
      exact hy.symm
    unfold dJoinT
    have c : dC (.str " ") [s0, s1, s2, s3, s4, s5, s6, some (.ref S.length), some (nW (q :: ts)), none, none, none] (S ++ [.lst acc]) = .ok (.str " ") (S ++ [.lst acc]) := rfl
    rw [c, DD.R.bind_ok]
    simp only []
    rw [ls, DD.R.bind_ok]
    simp only [seqL, strsOf_map]
    have ss := sum_pos ht
    have h1 : (" " : Str).length = 1 := by decide +kernel
    have h2 := (numS_lt4 (n := n) (by omega)).2
    rw [if_pos (by rw [nds, List.map_cons, List.sum_cons, List.length_cons, List.length_map, h1]; omega)]
    rfl
  have ap : appendM (.ref S.length) [.str (ndS (q :: ts))] (S ++ [.lst acc]) = .ok .non (S ++ [.lst (acc ++ [.str (ndS (q :: ts))])]) := by
    rw [e_append (xs := acc) (by simp) (by omega), List.set_append_right _ _ (Nat.le_refl _)]
    simp
  have sq : seqL (S ++ [O.lst acc]) (.ref S.length) = some acc := by unfold seqL; simp
  unfold b_law_62_l0 at hu
  rw [← hdl] at hu
  obtain ⟨dj, hdj⟩ : ∃ d, d = dJoinT (dC (.str " ")) (dOp addD (dLst (dCons (dBi strF (dCons (dOp ixD (dVar 8) (dC (.int 0))) dNil)) dNil)) dl) := ⟨_, rfl⟩
  rw [← hdj] at jn hu
  generalize S ++ [.lst (acc ++ [W.str (ndS (q :: ts))])] = X' at ap ⊢
  generalize S ++ [O.lst acc] = X at jn ap sq hu
  generalize ndS (q :: ts) = N at jn ap
  generalize nW (q :: ts) = ND at jn hu ⊢
  simp -implicitDefEqProofs [jn, sq, ap] at hu
  exact hu.symm
theorem l0_loop : ∀ (nodes : List (List Int)) (s0 s1 s2 s3 s4 s5 s6 s8 : Option W) (acc : List W), (∀ nd ∈ nodes, NdT nd) → acc.length + nodes.length ≤ 1000 →
    ∃ s8', forL (gN 8) b_law_62_l0 (nodes.map nW) [s0, s1, s2, s3, s4, s5, s6, some (.ref S.length), s8, none, none, none] (S ++ [.lst acc]) = .nx [s0, s1, s2, s3, s4, s5, s6, some (.ref S.length), s8', none, none, none] (S ++ [.lst (acc ++ (nodes.map ndS).map W.str)])
  | [], s0, s1, s2, s3, s4, s5, s6, s8, acc, _, _ => ⟨s8, by simp [forL]⟩
  | nd :: nodes, s0, s1, s2, s3, s4, s5, s6, s8, acc, h, hl => by
    rw [List.length_cons] at hl
    have e := l0_turn (S := S) (h nd (List.mem_cons_self ..)) s0 s1 s2 s3 s4 s5 s6 s8 acc (by omega)
    obtain ⟨s8', e'⟩ := l0_loop nodes s0 s1 s2 s3 s4 s5 s6 (some (nW nd)) (acc ++ [.str (ndS nd)]) (fun x hx => h x (List.mem_cons_of_mem _ hx)) (by simp; omega)
    refine ⟨s8', ?_⟩
    rw [List.map_cons, forL_cons, e]
    simp only []
    rw [e', List.append_assoc]; rfl
end
theorem join_in10 : ∀ (ps : List (List Nat)) (c : Nat), c ∈ TL.joinL [10] ps → c = 10 ∨ ∃ p ∈ ps, c ∈ p
  | [], c, h => by cases h
  | [p], c, h => .inr ⟨p, List.mem_singleton.mpr rfl, h⟩
  | p :: q :: r, c, h => by
    rcases List.mem_append.mp h with h | h
    · exact .inr ⟨p, List.mem_cons_self .., h⟩
    · rcases List.mem_append.mp h with h | h
      · exact .inl (List.mem_singleton.mp h)
      · rcases join_in10 (q :: r) c h with h | ⟨x, hx, h⟩
        · exact .inl h
        · exact .inr ⟨x, List.mem_cons_of_mem _ hx, h⟩
theorem law_true : ∀ ns : List Int, ns.length ≤ 63 → (∀ z ∈ ns, PySem.Builtin.Int.intBits z ≤ 1048576) → ∃ S', U.fn_law_62 [.scr (ns.map W.int)] [] = .ok (.bl true) S' := by
  intro ns hns _
  generalize hx : U.fn_law_62 _ _ = x
  unfold U.fn_law_62 at hx
  rw [dFn_eq] at hx
  generalize hy : U.b_law_62 _ _ = y at hx
  unfold U.b_law_62 at hy
  have po := pool_ok (ns := ns) (S := [])
  obtain ⟨P0, hP0⟩ : ∃ P, P = O.lst [.scr (ns.map W.int), .int 0, .int 0, .int 0, .int 7] := ⟨_, rfl⟩
  have hP := pol0 ns
  rw [← hP0] at po hP
  have e0 : ([] : Sto).length = 0 := rfl
  rw [e0, List.nil_append] at po
  simp -implicitDefEqProofs [po] at hy
  generalize hd__ : U.fn_l_names _ _ = d__ at hy
  have hs__ := SP.at2 hd__ ((names_ok hP) (by first | omega | with_reducible assumption | (simp; done) | (simp; omega) | rfl) (by first | omega | with_reducible assumption | (simp; done) | (simp; omega) | rfl) (by first | omega | with_reducible assumption | (simp; done) | (simp; omega) | rfl))
  obtain ⟨names, P1, e1, nne, nnd, nz, nl, hP1⟩ := hs__
  subst e1
  simp -implicitDefEqProofs [sizeLine_eq] at hy
  generalize hd__ : U.fn_l_draw _ _ = d__ at hy
  have hs__ := SP.at2 hd__ ((draw_ok hP1) (by first | omega | with_reducible assumption | (simp; done) | (simp; omega) | rfl) (by first | omega | with_reducible assumption | (simp; done) | (simp; omega) | rfl) (by first | omega | with_reducible assumption | (simp; done) | (simp; omega) | rfl))
  obtain ⟨r2, P2, e2, r20, r21, hP2⟩ := hs__
  subst e2
  obtain ⟨lim, hlim, l0, l1⟩ : ∃ lim : Int, (∀ X : Sto, ixD (.lst [.int 4, .int 60]) (.int r2) X = .ok (.int lim) X) ∧ 4 ≤ lim ∧ lim ≤ 60 := by
    have : r2 = 0 ∨ r2 = 1 := by omega
    rcases this with rfl | rfl
    · exact ⟨4, fun X => rfl, by decide, by decide⟩
    · exact ⟨60, fun X => rfl, by decide, by decide⟩
  simp -implicitDefEqProofs [hlim, sizeLine_eq] at hy
  generalize hd__ : U.fn_l_draw _ _ = d__ at hy
  have hs__ := SP.at2 hd__ ((draw_ok hP2) (by first | omega | with_reducible assumption | (simp; done) | (simp; omega) | rfl) (by first | omega | with_reducible assumption | (simp; done) | (simp; omega) | rfl) (by first | omega | with_reducible assumption | (simp; done) | (simp; omega) | rfl))
  obtain ⟨r3, P3, e3, r30, r31, hP3⟩ := hs__
  subst e3
  simp -implicitDefEqProofs [] at hy
  generalize hd__ : U.fn_l_draw _ _ = d__ at hy
  have hs__ := SP.at2 hd__ ((draw_ok hP3) (by first | omega | with_reducible assumption | (simp; done) | (simp; omega) | rfl) (by first | omega | with_reducible assumption | (simp; done) | (simp; omega) | rfl) (by first | omega | with_reducible assumption | (simp; done) | (simp; omega) | rfl))
  obtain ⟨r4, P4, e4, r40, r41, hP4⟩ := hs__
  subst e4
  simp -implicitDefEqProofs [] at hy
  obtain ⟨e, he⟩ : ∃ e : Int, e = 1 + r3 := ⟨_, rfl⟩
  rw [← he] at hy
  generalize hd__ : U.fn_l_nodes _ _ = d__ at hy
  have hs__ := SP.at3 hd__ (((nodes_ok (names := names) (sk := true) hP4)) (by first | omega | with_reducible assumption | (simp; done) | (simp; omega) | rfl) (by first | omega | with_reducible assumption | (simp; done) | (simp; omega) | rfl) (by first | omega | with_reducible assumption | (simp; done) | (simp; omega) | rfl) (by first | omega | with_reducible assumption | (simp; done) | (simp; omega) | rfl) (by first | omega | with_reducible assumption | (simp; done) | (simp; omega) | rfl) (by first | omega | with_reducible assumption | (simp; done) | (simp; omega) | rfl) (by first | omega | with_reducible assumption | (simp; done) | (simp; omega) | rfl))
  obtain ⟨nodes, bs, P5, e5, hN, hP5⟩ := hs__
  subst e5
  have hL := Law1.of hN nz
  have hlen : nodes.length = r4.toNat := by have := hN.len.1; omega
  have r5 : (-4611686018427387904 : Int) ≤ (nodes.length : Int) ∧ (nodes.length : Int) < 4611686018427387904 := by omega
  simp -implicitDefEqProofs [r5] at hy
  generalize hd__ : U.fn_l_draw _ _ = d__ at hy
  have hs__ := SP.at2 hd__ ((draw_ok hP5) (by first | omega | with_reducible assumption | (simp; done) | (simp; omega) | rfl) (by first | omega | with_reducible assumption | (simp; done) | (simp; omega) | rfl) (by first | omega | with_reducible assumption | (simp; done) | (simp; omega) | rfl))
  obtain ⟨r6, P6, e6, r60, r61, hP6⟩ := hs__
  subst e6
  simp -implicitDefEqProofs [] at hy
  generalize hd__ : DD.dGc _ _ _ = d__ at hy
  have hs__ := SP.aq0 hd__ (((mkweb_ok (nodes := nodes) (w := .lst (nodes.map nW)) (stW := .int (r6 - e)) (hv := NV.tups nodes) (hw := .inl rfl) (h1 := by omega) (h2 := by omega) (hG := hL.gns) (hst := .inl rfl) (hs1 := by omega) (hs2 := by omega) (hr := hL.rp) (hl := by omega))) (by first | omega | with_reducible assumption | (simp; done) | (simp; omega) | rfl) (by first | omega | with_reducible assumption | (simp; done) | (simp; omega) | rfl) (by first | omega | with_reducible assumption | (simp; done) | (simp; omega) | rfl))
  subst hs__
  obtain ⟨st, hst⟩ : ∃ st : Int, st = r6 - e := ⟨_, rfl⟩
  rw [← hst] at hy
  obtain ⟨n, hn⟩ : ∃ n : Nat, n = e.toNat := ⟨_, rfl⟩
  have hen : e = ((n : Nat) : Int) := by omega
  have sn := str_num4 (S := [P6]) (n := n) (by omega)
  rw [← hen] at sn
  have wl := word_l (S := [P6]) (p := st) (by omega) (by omega)
  simp -implicitDefEqProofs [sn, wl] at hy
  have l2 := (numS_lt4 (n := n) (by omega)).2
  have lp := len_pos (p := st) (by omega) (by omega)
  have le : endsS.length = 5 := by decide +kernel
  have ls : startS.length = 7 := by decide +kernel
  have m1 := len_add endsS (numS n)
  have m2 := len_add (endsS ++ numS n) startS
  have c1 : ∀ X, addD (.str "ends ") (.str (numS n)) X = .ok (.str (endsS ++ numS n)) X := fun X => e_catSW (x := endsS) (by omega)
  have c2 : ∀ X, addD (.str (endsS ++ numS n)) (.str " start ") X = .ok (.str (endsS ++ numS n ++ startS)) X := fun X => e_catSW (y := startS) (by omega)
  have c3 : ∀ X, addD (.str (endsS ++ numS n ++ startS)) (.str (posS st)) X = .ok (.str (headS e st)) X := fun X => by
    have := e_catSW (S := X) (x := endsS ++ numS n ++ startS) (y := posS st) (by omega)
    rw [this]
    unfold headS
    rw [hn]
  have hNT : ∀ nd ∈ nodes, NdT nd := fun nd hnd => by
    obtain ⟨i, hi⟩ := List.mem_iff_getElem?.mp hnd
    obtain ⟨q, ts, rfl, h3, hg, _, q0, q1⟩ := hL.node hi
    have hil := (List.getElem?_eq_some_iff.mp hi).1
    refine ⟨q, ts, rfl, q0, q1, by rcases h3 with h | h; exact .inl h; exact .inr h.1, fun t ht => ?_⟩
    have := hg t ht
    unfold gt at this
    split at this
    · simp at this; omega
    · simp at this; omega
  obtain ⟨s8, lp0⟩ := l0_loop (S := [P6]) nodes (some (W.scr (List.map W.int ns))) (some (.ref 0)) (some (.lst (DD.wl names))) (some (.int e)) (some (.lst (nodes.map nW))) (some (.int st)) (some (webO nodes e st)) none [.str (headS e st)] hNT (by simp; omega)
  have wr : ∀ X, U.fn_write_web [webO nodes e st] X = .ok (.str (webS nodes e st)) X := fun X => write_web_ok hNT (by omega) (by omega) (by omega) (by omega) (by omega)
  have rd : ∀ X, U.fn_read_web [.str (webS nodes e st)] X = .ok (webO nodes e st) X := fun X => read_web_ok hNT (by omega) (by omega) (by omega) hL.gns (by omega) (by omega) hL.rp
  simp -implicitDefEqProofs [c1, c2, c3, wl, sizeLine_eq] at hy
  have lp1 : forL (gN 8) b_law_62_l0 (nodes.map nW) [some (W.scr (List.map W.int ns)), some (.ref 0), some (.lst (DD.wl names)), some (.int e), some (.lst (nodes.map nW)), some (.int st), some (webO nodes e st), some (.ref 1), none, none, none, none] [P6, .lst [.str (headS e st)]] = _ := lp0
  obtain ⟨X2, hX2⟩ : ∃ X2 : Sto, X2 = [P6] ++ [.lst ([.str (headS e st)] ++ (nodes.map ndS).map W.str)] := ⟨_, rfl⟩
  have okw : PyData.strOk (webS nodes e st) = true := ok_iff.mpr fun c hc => by
    unfold webS at hc
    rw [tl_joinS tl_nl] at hc
    rcases join_in10 _ _ hc with rfl | ⟨x, hx, hcx⟩
    · decide
    · obtain ⟨y, hy, rfl⟩ := List.mem_map.mp hx
      rcases List.mem_cons.mp hy with rfl | hy
      · exact ok_iff.mp (ok_head e st) c hcx
      · obtain ⟨nd, hnd, rfl⟩ := List.mem_map.mp hy
        exact ok_iff.mp (ok_nd (hNT nd hnd)) c hcx
  have jn : ∀ t : Lo, dVar 7 t X2 = .ok (.ref 1) X2 → dJoinT (dC (.str "\n")) (dVar 7) t X2 = .ok (.str (webS nodes e st)) X2 := fun t hv => by
    unfold dJoinT
    have c : dC (.str "\n") t X2 = .ok (.str nlS) X2 := rfl
    rw [c, DD.R.bind_ok]
    simp only []
    rw [hv, DD.R.bind_ok]
    have sqL : seqL X2 (.ref 1) = some ((headS e st :: nodes.map ndS).map W.str) := by rw [hX2]; rfl
    simp only [sqL, strsOf_map]
    have ss := sum_nd hNT
    have hh := len_head (e := e) (st := st) (by omega) (by omega) (by omega) (by omega)
    have hnl : nlS.length = 1 := by decide +kernel
    rw [if_pos (by rw [List.map_cons, List.sum_cons, List.length_cons, List.length_map, hnl]; omega)]
    rfl
  have jn1 := jn [some (W.scr (List.map W.int ns)), some (.ref 0), some (.lst (DD.wl names)), some (.int e), some (.lst (nodes.map nW)), some (.int st), some (webO nodes e st), some (.ref 1), s8, some (.str (webS nodes e st)), none, none] rfl
  have nes : ∀ X, neD (.str (webS nodes e st)) (.str (webS nodes e st)) X = .ok (.bl false) X := fun X => by rw [ne_str' okw okw, decide_eq_true rfl]; rfl
  have eqs : ∀ X, eqD (.str (webS nodes e st)) (.str (webS nodes e st)) X = .ok (.bl true) X := fun X => by rw [eq_str' okw okw, decide_eq_true rfl]
  have nn : ∀ X, neD (.tup (nodes.map nW)) (.tup (nodes.map nW)) X = .ok (.bl false) X := fun X => by rw [e_neNodes, decide_eq_true rfl]; rfl
  have en : ∀ X, eqD (.tup (nodes.map nW)) (.tup (nodes.map nW)) X = .ok (.bl true) X := fun X => by rw [e_eqNodes, decide_eq_true rfl]
  have we : ∀ X, orD (usrD 30 fn_Web_eq) eqD (webO nodes e st) (webO nodes e st) X = .ok (.bl true) X := fun X => by simp [orD, usrD, web_eq]
  obtain ⟨dj, hdj⟩ : ∃ d, d = dJoinT (dC (.str "\n")) (dVar 7) := ⟨_, rfl⟩
  rw [← hdj] at jn1 hy
  rw [← hX2] at lp1
  rw [lp1] at hy
  have fl1 : ∀ (t : Lo) (X : Sto) (i : Nat), dVar i t X = .ok (webO nodes e st) X → dFld [30] "nodes" (dVar i) t X = .ok (.tup (nodes.map nW)) X ∧ dFld [30] "ends" (dVar i) t X = .ok (.int e) X ∧ dFld [30] "start" (dVar i) t X = .ok (.int st) X := fun t X i hv => by
    refine ⟨?_, ?_, ?_⟩ <;> (unfold dFld; rw [hv]; rfl)
  have ga := fl1 [some (W.scr (List.map W.int ns)), some (.ref 0), some (.lst (DD.wl names)), some (.int e), some (.lst (nodes.map nW)), some (.int st), some (webO nodes e st), some (.ref 1), s8, some (.str (webS nodes e st)), some (webO nodes e st), none] X2 10 rfl
  have gb := fl1 [some (W.scr (List.map W.int ns)), some (.ref 0), some (.lst (DD.wl names)), some (.int e), some (.lst (nodes.map nW)), some (.int st), some (webO nodes e st), some (.ref 1), s8, some (.str (webS nodes e st)), some (webO nodes e st), none] X2 6 rfl
  obtain ⟨ga1, ga2, ga3⟩ := ga
  obtain ⟨gb1, _, _⟩ := gb
  obtain ⟨d1, hd1⟩ : ∃ d, d = dFld [30] "nodes" (dVar 10) := ⟨_, rfl⟩
  obtain ⟨d2, hd2⟩ : ∃ d, d = dFld [30] "ends" (dVar 10) := ⟨_, rfl⟩
  obtain ⟨d3, hd3⟩ : ∃ d, d = dFld [30] "start" (dVar 10) := ⟨_, rfl⟩
  obtain ⟨d4, hd4⟩ : ∃ d, d = dFld [30] "nodes" (dVar 6) := ⟨_, rfl⟩
  rw [← hd1] at ga1 hy
  rw [← hd2] at ga2 hy
  rw [← hd3] at ga3 hy
  rw [← hd4] at gb1 hy
  have ne1 : ∀ X, neD (.int e) (.int e) X = .ok (.bl false) X := fun X => by rw [e_neI, decide_eq_true rfl]; rfl
  have ne2 : ∀ X, neD (.int st) (.int st) X = .ok (.bl false) X := fun X => by rw [e_neI, decide_eq_true rfl]; rfl
  have tb : ∀ b X, truW X (.bl b) = some b := fun _ _ => rfl
  clear hX2
  generalize webO nodes e st = WO at *
  generalize webS nodes e st = TX at *
  generalize nodes.map nW = NM at *
  simp -implicitDefEqProofs [wr, jn1, nes, rd, ga1, nn, ga2, ne1, ga3, ne2, we, eqs, gb1, en, tb] at hy
  subst hy
  exact ⟨_, hx.symm⟩
end Zk72
open PySem PySem.W PySem.Calls PyProof.Rows
set_option maxHeartbeats 0 in
theorem PySem.Challenge.cw_steppedtests_k72_web_written_and_read_holds : PySem.Challenge.rw_steppedtests_k72_web_written_and_read.Holds := by
  w_on; o_law
  refine HandSHeadRun.head_any (r := OpenLaw.row PySem.Challenge.rw_steppedtests_k72_web_written_and_read) (q := view (OpenLaw.row PySem.Challenge.rw_steppedtests_k72_web_written_and_read).prog [36]) (H := Zk72.hk) (ob := Zk72.ob) (M := 20000) (loose := Zk72.loose) (d := HandSHeadRun.topDef (OpenLaw.row PySem.Challenge.rw_steppedtests_k72_web_written_and_read).prog 36) (kwd := []) Zk72.ob_eq
    (by kernel_rfl) (fun s => by kernel_rfl) Zk72.run (by kernel_rfl) (by kernel_rfl) (by kernel_rfl) (by rfl) (by first | assumption | decide +kernel) (by decide +kernel) ⟨rfl, rfl, rfl, rfl, rfl, by decide +kernel⟩ ?hw ?hc
  case hw => w_witness2
  case hc =>
    refine LamX.walk_ofTsE (l := PySem.Challenge.rw_steppedtests_k72_web_written_and_read) (n := 63) (k := 6) (x := "_law_script") (CX := fun w => L2.CX (PySem.Challenge.rw_steppedtests_k72_web_written_and_read).prog w) rfl (by decide) (by kernel_rfl) ⟨rfl, by decide, by decide⟩ ?F (fun w H s e s' => DD.cx_end _ w H s e s')
    intro w mg fa h Y G hmg0
    obtain ⟨K, KX, ct, cx, tt⟩ := Y
    have hmg : mg ("law" : PySem.Str) = some (.ref fa) := by
      have e : (HandSHeadRun.topDef (OpenLaw.row PySem.Challenge.rw_steppedtests_k72_web_written_and_read).prog 36).name = ("law" : PySem.Str) := by kernel_rfl
      rw [← e]
      exact hmg0
    have T := Zk72.tx_of KX G ct.d cx
    have e := hmg.symm.trans T.g_law
    cases e
    exact ⟨K, KX, Zk72.law_ok T Zk72.law_true⟩
