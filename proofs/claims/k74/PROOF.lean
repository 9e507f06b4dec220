import PyProof.Rows.All
import Wide.All
import OpenK.AllK
import Wide.FinOn
import HandS.ForMost
import HandS.ForExc
import HandS.ForSpec
import KE.KeyNested
import HandS.Lambda
import HandS.NoneIn
import HandS.CallSlots
import HandS.Defaults
import HandS.Wide
import HandS.IsInst
import PyProof.Rows.InDataRows
import HandS.TupAny
import HandS.Flow
import HandS.HeadHook4
import HandS.HeadWalk
import HandS.Head2
import HandS.Star
import HandS.WordsExc
import KE.KOpsOwn
import HandS.Sort
import PyProof.ListRange
import HandS.ExcInit
import HandS.ExcField
import HandS.ExcIs
import HandS.TryOnly
import HandS.TryMany
import KE.KExcIs
import HandS.Style
import HandS.MakeKwOnly
import PyProof.CollectIter
import PyProof.WalksMore
import HandS.ExcValue
import KE.GoesMore
import KE.GoesEnum
import HandS.More
import HandS.RaiseMore
import PyProof.ExcBaseAll.ValueError
import HandS.Rev
import HandS.Zip
import HandS.SortInts
import HandS.Conv
import HandS.DictComp
import KE.GoesZip
import KE.LtData
import HandS.TupMul
import PyProof.Rows.Range3
import PyProof.Conv_bool
import KE.DataFind
import HandS.Nested
import HandS.HotCalls
import KE.KTupSum
import PyProof.DictDisplay
import HandS.GenList
import PyProof.Rows.TupIter
import HandS.SetBool
import HandS.Strs
import PyProof.SetRoads
import HandS.Property
import HandS.FStr
import KE.KCallOwn
import HandS.Text
import HandS.Codes
import HandS.Iter
import KE.BitLaws
import PySem.Challenge.RW_steppedtests_k74_run_texts
set_option Elab.async false
set_option linter.all false
set_option maxRecDepth 100000
set_option maxHeartbeats 2000000
/-! A layer of pure values and a small store over the hand layer: every def is turned into a function of values. -/
namespace DD
open PySem PySem.Spec PyProof.Rows L2
/-- a value: what never changes is held as it is; what changes stands in the store -/
inductive W where
  | non | bl (b : Bool) | int (i : Int) | str (x : Str)
  | ref (i : Nat)
  | tup (l : List W) | lst (l : List W) | scr (l : List W)
  | dic (ks : List Key) (l : List W)
  | dn (ks l : List W)
  | obj (c : Nat) (ns : List Str) (l : List W)
  | cls (c : Nat) | ty (n : String)
  | lam
  | exn (c : Nat) (ns : List Str) (l : List W)
/-- an object of the store -/
inductive O where
  | dead
  | lst (l : List W)
  | dic (ks : List Key) (l : List W)
  | dn (ks l : List W)
  | ins (c : Nat) (ns : List Str) (l : List W)
abbrev Sto := List O
mutual
def lowW (n : Nat) : W → Bool
  | .ref i => decide (i < n)
  | .tup l => lowL n l
  | .lst l => lowL n l
  | .scr l => lowL n l
  | .dic _ l => lowL n l
  | .dn ks l => lowL n ks && lowL n l
  | .obj _ _ l => lowL n l
  | .exn _ _ l => lowL n l
  | _ => true
def lowL (n : Nat) : List W → Bool
  | [] => true
  | w :: l => lowW n w && lowL n l
end
def lowO (n : Nat) : O → Bool
  | .dead => true
  | .lst l => lowL n l
  | .dic _ l => lowL n l
  | .dn ks l => lowL n ks && lowL n l
  | .ins _ _ l => lowL n l
/-- where the store's things lie; and things in the making, that nothing may lean on -/
structure Rh where
  f : Nat → Addr
  z : Addr → Prop
instance : CoeFun Rh (fun _ => Nat → Addr) := ⟨Rh.f⟩
/-- the live addresses -/
def Lv (S : Sto) (r : Rh) (a : Addr) : Prop := (∃ i o, S[i]? = some o ∧ o ≠ .dead ∧ r i = a) ∨ r.z a
/-- a lambda that has been handed on: its function object, what is tracked, what is known to be at which address, what it has caught -/
structure LI where
  f : Addr
  own : List (Addr × HO)
  keep : List (Addr × Obj)
  ws : List W
  vs : List V
/-- an object as it stands -/
def PinO (p : Addr × Obj) : HO := .frz p.2 (.ext fun h => h.get? p.1 = some p.2)
/-- where one stands: the written part and the classes -/
structure Gx where
  K : PySem.W.Frag
  cm : Nat → Addr
  w : World
  /-- the tables of the defs that make lambdas: where, and the lambdas' name -/
  T : List (Addr × Str) := []
  /-- the lambda that has been handed on -/
  lm : Option Addr := none
  /-- what is told of it -/
  li : Option LI := none
/-- an error's object as it stands -/
def ExV (a : Addr) (oe : Obj) : HO := .ext fun h => h.get? a = some oe
/-- what may be held by a value or the store -/
def Kd : HO → Prop
  | .tbl _ => False
  | .frz _ (.ext _) => False
  | _ => True
/-- no table -/
def Nt : HO → Prop
  | .tbl _ => False
  | _ => True
theorem Kd.nt {u : HO} (h : Kd u) : Nt u := by
  cases u <;> first | exact trivial | exact h
/-! ### dicts whose keys are tuples, nested -/
mutual
/-- a value as a key -/
def nkW : W → Option NestedKey
  | .non => some .none
  | .bl b => some (.num (if b then 1 else 0))
  | .int i => some (.num i)
  | .str x => some (.text x)
  | .tup l => (nkL l).map .tup
  | _ => none
def nkL : List W → Option (List NestedKey)
  | [] => some []
  | w :: l => match nkW w, nkL l with
    | some k, some ks => some (k :: ks)
    | _, _ => none
end
/-- a row of such a dict: the key, where it lies, the value -/
abbrev Row := NestedKey × Addr × V
def rowE (w : World) (x : NestedKey × Addr × Value) : DictEntry := ⟨x.1.hash w, .ref x.2.1, x.2.2⟩
abbrev RowsR : List Row → List (NestedKey × Addr × Value) → Prop := Paired fun p q => p.1 = q.1 ∧ p.2.1 = q.2.1 ∧ RelV p.2.2 q.2.2
def DnAt (w : World) (a : Addr) (rows : List Row) (ob : Obj) (h : Heap) : Prop := h.get? a = some ob ∧ rows.length ≤ sizeLine ∧ (a == sysModules) = false ∧ ∃ xs : List (NestedKey × Addr × Value), RowsR rows xs ∧ (∀ x ∈ xs, x.1.depth ≤ 8) ∧
  ∃ es ep, ob.ExactDict ∧ ob.data = .dict es ep ∧ es.toList = xs.map (rowE w) ∧ (xs.map (·.1)).Nodup
def DnO (w : World) (a : Addr) (rows : List Row) (ob : Obj) : HO := .ext (DnAt w a rows ob)
/-- the keys of the rows, as values -/
def NkOk (ks : List W) (rows : List Row) : Prop := ks.map nkW = rows.map fun x => some x.1
section
variable (G : Gx) (H : Hp) (S : Sto) (r : Rh)
/-- a thing at a that no store reaches -/
def Own (a : Addr) (u : HO) : Prop := H a = some u ∧ ¬ Lv S r a
def TupAt (a : Addr) (vs : List V) : Prop := Own H S r a (.tup vs) ∨ ∃ (o : Obj) (its : Array Value) (n : Nat), G.K.lookup a = some o ∧ o.cls = .type "tuple" ∧ o.data = .seq its n ∧ its.size ≤ sizeLine ∧ Vals vs its.toList
def ScrAt (a : Addr) (vs : List V) : Prop := (∃ o, Own H S r a (.frz o (.lst vs))) ∨ Own H S r a (.lst vs) ∨ ∃ (o : Obj) (its : Array Value) (n : Nat), G.K.lookup a = some o ∧ o.cls = .type "list" ∧ o.dict = none ∧ o.data = .seq its n ∧ its.size ≤ sizeLine ∧ Vals vs its.toList
mutual
inductive RW : W → V → Prop
  | non : RW .non .non
  | bl (b : Bool) : RW (.bl b) (.bl b)
  | int (i : Int) : RW (.int i) (.int i)
  | str (x : Str) : RW (.str x) (.str x)
  | ref {i : Nat} : i < S.length → RW (.ref i) (.ref (r i))
  | tup {a : Addr} {ws : List W} {vs : List V} : TupAt G H S r a vs → RWs ws vs → RW (.tup ws) (.ref a)
  | lst {a : Addr} {ws : List W} {vs : List V} : Own H S r a (.lst vs) → RWs ws vs → RW (.lst ws) (.ref a)
  | scr {a : Addr} {ws : List W} {vs : List V} : ScrAt G H S r a vs → RWs ws vs → RW (.scr ws) (.ref a)
  | dic {a : Addr} {ks : List Key} {ws : List W} {vs : List V} : Own H S r a (.dK (ks.zip vs)) → ks.length = ws.length → RWs ws vs → RW (.dic ks ws) (.ref a)
  | dn {a : Addr} {rows : List Row} {ob : Obj} {ks ws : List W} : Own H S r a (DnO G.w a rows ob) → NkOk ks rows → RWs ks (rows.map fun x => .ref x.2.1) → RWs ws (rows.map fun x => x.2.2) → RW (.dn ks ws) (.ref a)
  | obj {a dx : Addr} {c : Nat} {ns : List Str} {ws : List W} {vs : List V} : Own H S r a (.ins (G.cm c) dx (ns.zip vs)) → ns.length = ws.length → RWs ws vs → RW (.obj c ns ws) (.ref a)
  | cls (c : Nat) : RW (.cls c) (.ref (G.cm c))
  | ty (n : String) : RW (.ty n) (.ty n)
  | lam {f : Addr} : G.lm = some f → RW .lam (.ref f)
  | exn {a : Addr} {oe : Obj} {c : Nat} {ns : List Str} {ws : List W} {vs : List V} : Own H S r a (ExV a oe) → oe.cls = .ref (G.cm c) → (∃ fs, oe.data = .fields fs) → (ns = [] ∧ ws = [] ∧ oe.dict = none ∨ ∃ dx, oe.dict = some dx ∧ Own H S r dx (.xd (ns.zip vs)) ∧ ns.length = ws.length) → RWs ws vs → RW (.exn c ns ws) (.ref a)
inductive RWs : List W → List V → Prop
  | nil : RWs [] []
  | cons {w : W} {ws : List W} {v : V} {vs : List V} : RW w v → RWs ws vs → RWs (w :: ws) (v :: vs)
end
/-- an object of the store at a and what stands for it -/
inductive RO (a : Addr) : O → HO → Prop
  | lst {ws : List W} {vs : List V} : RWs G H S r ws vs → RO a (.lst ws) (.lst vs)
  | dic {ks : List Key} {ws : List W} {vs : List V} : ks.length = ws.length → RWs G H S r ws vs → RO a (.dic ks ws) (.dK (ks.zip vs))
  | dn {rows : List Row} {ob : Obj} {ks ws : List W} : NkOk ks rows → RWs G H S r ks (rows.map fun x => .ref x.2.1) → RWs G H S r ws (rows.map fun x => x.2.2) → RO a (.dn ks ws) (DnO G.w a rows ob)
  | ins {c : Nat} {dx : Addr} {ns : List Str} {ws : List W} {vs : List V} : ns.length = ws.length → RWs G H S r ws vs → RO a (.ins c ns ws) (.ins (G.cm c) dx (ns.zip vs))
/-- a code table: the code objects that it tells bear the name q -/
def TabR (P : Addr) (q : Str) : Prop := ∃ ps : Array Value, Own H S r P (.tbl ps) ∧ PySem.TriplesOk ps.toList ∧ ∀ (pos : Pos) (cv : Value), PySem.codeAmong pos ps.toList = some cv → ∃ c, cv = .ref c ∧ Own H S r c (LamX.CodeO c q)
/-- the lambda that has been handed on stands -/
def LamR (li : LI) : Prop := (∀ p ∈ li.keep, Own H S r p.1 (PinO p)) ∧ (∀ p ∈ li.own, Kd p.2 ∧ Own H S r p.1 p.2) ∧ RWs G H S r li.ws li.vs ∧ ∀ n, lowL n li.ws = true
/-- the store stands -/
structure Rl : Prop where
  at_ : ∀ i o, S[i]? = some o → o ≠ .dead → ∃ ho, H (r i) = some ho ∧ RO G H S r (r i) o ho
  inj : ∀ i j o u, S[i]? = some o → o ≠ .dead → S[j]? = some u → u ≠ .dead → r i = r j → i = j
  zs : ∀ a, r.z a → ∃ o, H a = some o
  dz : ∀ i o, S[i]? = some o → o ≠ .dead → ¬ r.z (r i)
  tab : ∀ p ∈ G.T, TabR H S r p.1 p.2
  lam : ∀ li, G.li = some li → LamR G H S r li
end
/-- from one state to a later one -/
structure Ev (H : Hp) (S : Sto) (r : Rh) (H' : Hp) (S' : Sto) (r' : Rh) : Prop where
  len : S.length ≤ S'.length
  rho : ∀ i, i < S.length → r' i = r i
  keep : ∀ a o, Nt o → H a = some o → ¬ Lv S r a → H' a = some o
  tbs : ∀ a ps, H a = some (.tbl ps) → ¬ Lv S r a → ∃ more, H' a = some (.tbl (ps ++ more))
  live : ∀ a, Lv S' r' a → Lv S r a ∨ H a = none
  zz : r'.z = r.z
  kz : ∀ a o, H a = some o → r.z a → H' a = some o
theorem Ev.refl {H : Hp} {S : Sto} {r : Rh} : Ev H S r H S r := ⟨Nat.le_refl _, fun _ _ => rfl, fun _ _ _ e _ => e, fun _ _ e _ => ⟨#[], by simpa using e⟩, fun _ l => .inl l, rfl, fun _ _ e _ => e⟩
theorem Ev.trans {H H1 H2 : Hp} {S S1 S2 : Sto} {r r1 r2 : Rh} (a : Ev H S r H1 S1 r1) (b : Ev H1 S1 r1 H2 S2 r2) : Ev H S r H2 S2 r2 where
  len := Nat.le_trans a.len b.len
  rho := fun i hi => (b.rho i (Nat.lt_of_lt_of_le hi a.len)).trans (a.rho i hi)
  keep := fun c o nt e n => b.keep c o nt (a.keep c o nt e n) fun l => (a.live c l).elim n fun z => by rw [e] at z; cases z
  tbs := fun c ps e n => by
    obtain ⟨m1, e1⟩ := a.tbs c ps e n
    obtain ⟨m2, e2⟩ := b.tbs c _ e1 fun l => (a.live c l).elim n fun z => by rw [e] at z; cases z
    exact ⟨m1 ++ m2, by rw [← Array.append_assoc]; exact e2⟩
  live := fun c l => by
    rcases b.live c l with l | z
    · exact a.live c l
    · by_cases l1 : Lv S r c
      · exact .inl l1
      · cases e : H c with
        | none => exact .inr rfl
        | some o =>
          by_cases nt : Nt o
          · have := a.keep c o nt e l1
            rw [z] at this; cases this
          · cases o with
            | tbl ps =>
              obtain ⟨more, this⟩ := a.tbs c ps e l1
              rw [z] at this; cases this
            | _ => exact absurd trivial nt
  zz := b.zz.trans a.zz
  kz := fun c o e z => b.kz c o (a.kz c o e z) (by rw [a.zz]; exact z)
section
variable {G : Gx} {H H' : Hp} {S S' : Sto} {r r' : Rh}
theorem Own.ev {a : Addr} {u : HO} (o : Own H S r a u) (e : Ev H S r H' S' r') (nt : Nt u := by exact trivial) : Own H' S' r' a u :=
  ⟨e.keep a u nt o.1 o.2, fun l => (e.live a l).elim o.2 fun z => by rw [o.1] at z; cases z⟩
theorem TupAt.ev {a : Addr} {vs : List V} (t : TupAt G H S r a vs) (e : Ev H S r H' S' r') : TupAt G H' S' r' a vs := by
  rcases t with t | t
  · exact .inl (t.ev e)
  · exact .inr t
theorem ScrAt.ev {a : Addr} {vs : List V} (t : ScrAt G H S r a vs) (e : Ev H S r H' S' r') : ScrAt G H' S' r' a vs := by
  rcases t with ⟨o, t⟩ | t | t
  · exact .inl ⟨o, t.ev e⟩
  · exact .inr (.inl (t.ev e))
  · exact .inr (.inr t)
theorem TupAt.sq {a : Addr} {vs : List V} (t : TupAt G H S r a vs) : SqT G.K H a vs := by
  rcases t with t | t
  · exact .inl (.inl t.1)
  · exact .inr t
theorem ScrAt.sq {a : Addr} {vs : List V} (t : ScrAt G H S r a vs) : SqL G.K H a vs := by
  rcases t with ⟨o, t⟩ | t | t
  · exact .inl (.inr ⟨o, t.1⟩)
  · exact .inl (.inl t.1)
  · exact .inr t
/-- what a later state must keep for values to stay -/
structure Mp (H : Hp) (S : Sto) (r : Rh) (H' : Hp) (S' : Sto) (r' : Rh) : Prop where
  own : ∀ a u, Own H S r a u → (k : Kd u := by exact trivial) → Own H' S' r' a u
  rho : ∀ i, i < S.length → r' i = r i
  len : S.length ≤ S'.length
theorem Ev.mp (e : Ev H S r H' S' r') : Mp H S r H' S' r' := ⟨fun a u o k => o.ev e k.nt, e.rho, e.len⟩
theorem Mp.trans {H2 : Hp} {S2 : Sto} {r2 : Rh} (a : Mp H S r H' S' r') (b : Mp H' S' r' H2 S2 r2) : Mp H S r H2 S2 r2 :=
  ⟨fun c u o k => b.own c u (a.own c u o k) k, fun i hi => (b.rho i (Nat.lt_of_lt_of_le hi a.len)).trans (a.rho i hi), Nat.le_trans a.len b.len⟩
theorem TupAt.mp {a : Addr} {vs : List V} (t : TupAt G H S r a vs) (e : Mp H S r H' S' r') : TupAt G H' S' r' a vs := by
  rcases t with t | t
  · exact .inl (e.own _ _ t)
  · exact .inr t
theorem ScrAt.mp {a : Addr} {vs : List V} (t : ScrAt G H S r a vs) (e : Mp H S r H' S' r') : ScrAt G H' S' r' a vs := by
  rcases t with ⟨o, t⟩ | t | t
  · exact .inl ⟨o, e.own _ _ t⟩
  · exact .inr (.inl (e.own _ _ t))
  · exact .inr (.inr t)
mutual
theorem RW.mp {w : W} {v : V} (e : Mp H S r H' S' r') : RW G H S r w v → RW G H' S' r' w v
  | .non => .non
  | .bl b => .bl b
  | .int i => .int i
  | .str x => .str x
  | .ref (i := i) h => by
    rw [← e.rho i h]
    exact .ref (Nat.lt_of_lt_of_le h e.len)
  | .tup h q => .tup (h.mp e) (RWs.mp e q)
  | .lst h q => .lst (e.own _ _ h) (RWs.mp e q)
  | .scr h q => .scr (h.mp e) (RWs.mp e q)
  | .dic h l q => .dic (e.own _ _ h) l (RWs.mp e q)
  | .dn h l q q2 => .dn (e.own _ _ h) l (RWs.mp e q) (RWs.mp e q2)
  | .obj h l q => .obj (e.own _ _ h) l (RWs.mp e q)
  | .cls c => .cls c
  | .ty n => .ty n
  | .lam h => .lam h
  | .exn h1 h2 h3 h4 q => .exn (e.own _ _ h1) h2 h3 (h4.imp id fun ⟨dx, e1, o, l⟩ => ⟨dx, e1, e.own _ _ o, l⟩) (RWs.mp e q)
theorem RWs.mp {w : List W} {v : List V} (e : Mp H S r H' S' r') : RWs G H S r w v → RWs G H' S' r' w v
  | .nil => .nil
  | .cons a b => .cons (RW.mp e a) (RWs.mp e b)
end
theorem RW.ev {w : W} {v : V} (q : RW G H S r w v) (e : Ev H S r H' S' r') : RW G H' S' r' w v := q.mp e.mp
theorem RWs.ev {w : List W} {v : List V} (q : RWs G H S r w v) (e : Ev H S r H' S' r') : RWs G H' S' r' w v := q.mp e.mp
theorem RWs.length : ∀ {ws : List W} {vs : List V}, RWs G H S r ws vs → ws.length = vs.length
  | _, _, .nil => rfl
  | _, _, .cons _ t => congrArg Nat.succ t.length
theorem RWs.get : ∀ {ws : List W} {vs : List V} {i : Nat} {w : W}, RWs G H S r ws vs → ws[i]? = some w → ∃ v, vs[i]? = some v ∧ RW G H S r w v
  | _, _, _, _, .nil, e => by simp at e
  | _, _, 0, _, .cons a _, e => by simp at e; subst e; exact ⟨_, rfl, a⟩
  | _, _, i + 1, w, .cons _ t, e => by
    obtain ⟨v, h1, h2⟩ := RWs.get (i := i) (w := w) t (by simpa using e)
    exact ⟨v, by simpa using h1, h2⟩
theorem RWs.append : ∀ {ws us : List W} {vs xs : List V}, RWs G H S r ws vs → RWs G H S r us xs → RWs G H S r (ws ++ us) (vs ++ xs)
  | _, _, _, _, .nil, q => q
  | _, _, _, _, .cons a t, q => .cons a (t.append q)
theorem RWs.take : ∀ {ws : List W} {vs : List V} (n : Nat), RWs G H S r ws vs → RWs G H S r (ws.take n) (vs.take n)
  | _, _, 0, _ => .nil
  | _, _, _ + 1, .nil => .nil
  | _, _, n + 1, .cons a t => .cons a (t.take n)
theorem RWs.drop : ∀ {ws : List W} {vs : List V} (n : Nat), RWs G H S r ws vs → RWs G H S r (ws.drop n) (vs.drop n)
  | _, _, 0, q => q
  | _, _, _ + 1, .nil => .nil
  | _, _, n + 1, .cons _ t => t.drop n
theorem RWs.set {w : W} {v : V} (q : RW G H S r w v) : ∀ {ws : List W} {vs : List V} (i : Nat), RWs G H S r ws vs → RWs G H S r (ws.set i w) (vs.set i v)
  | _, _, _, .nil => .nil
  | _, _, 0, .cons _ t => .cons q t
  | _, _, i + 1, .cons a t => .cons a (t.set q i)
theorem RWs.snoc {ws : List W} {vs : List V} {w : W} {v : V} (q : RWs G H S r ws vs) (a : RW G H S r w v) : RWs G H S r (ws ++ [w]) (vs ++ [v]) := q.append (.cons a .nil)
/-- a fresh thing that no store holds -/
theorem Ev.fresh {p : Addr} {o : HO} (x : H p = none) (rl : Rl G H S r) : Ev H S r (upd H p o) S r where
  len := Nat.le_refl _
  rho := fun _ _ => rfl
  keep := fun a u _ e _ => by rw [upd_ne (ne_of_none e x)]; exact e
  tbs := fun a ps e _ => ⟨#[], by rw [upd_ne (ne_of_none e x)]; simpa using e⟩
  live := fun _ l => .inl l
  zz := rfl
  kz := fun a u e _ => by rw [upd_ne (ne_of_none e x)]; exact e
theorem Rl.notLv {p : Addr} (rl : Rl G H S r) (x : H p = none) : ¬ Lv S r p := by
  rintro (⟨i, o, e, d, z⟩ | z)
  · obtain ⟨ho, h1, _⟩ := rl.at_ i o e d
    rw [z, x] at h1; cases h1
  · obtain ⟨o, h⟩ := rl.zs p z
    rw [x] at h; cases h
theorem RO.mp {a : Addr} {o : O} {ho : HO} (q : RO G H S r a o ho) (e : Mp H S r H' S' r') : RO G H' S' r' a o ho := by
  cases q with
  | lst q => exact .lst (q.mp e)
  | dic l q => exact .dic l (q.mp e)
  | dn l q q2 => exact .dn l (q.mp e) (q2.mp e)
  | ins l q => exact .ins l (q.mp e)
theorem RO.ev {a : Addr} {o : O} {ho : HO} (q : RO G H S r a o ho) (e : Ev H S r H' S' r') : RO G H' S' r' a o ho := q.mp e.mp
theorem TabR.mo {P : Addr} {q : Str} (t : TabR H S r P q) (m : ∀ a u, Own H S r a u → Own H' S' r' a u) : TabR H' S' r' P q := by
  obtain ⟨ps, h1, h2, h3⟩ := t
  exact ⟨ps, m _ _ h1, h2, fun pos cv hc => let ⟨c, e1, o⟩ := h3 pos cv hc; ⟨c, e1, m _ _ o⟩⟩
theorem LamR.mo {li : LI} (t : LamR G H S r li) (m : ∀ a u, Own H S r a u → Own H' S' r' a u) (h1 : ∀ i, i < S.length → r' i = r i) (h2 : S.length ≤ S'.length) : LamR G H' S' r' li :=
  ⟨fun p hp => m _ _ (t.1 p hp), fun p hp => ⟨(t.2.1 p hp).1, m _ _ (t.2.1 p hp).2⟩, t.2.2.1.mp ⟨fun a u ow _ => m a u ow, h1, h2⟩, t.2.2.2⟩
theorem Own.up {p a : Addr} {o u : HO} (x : H p = none) (ow : Own H S r a u) : Own (upd H p o) S r a u := ⟨by rw [upd_ne (ne_of_none ow.1 x)]; exact ow.1, ow.2⟩
theorem Rl.fresh {p : Addr} {o : HO} (x : H p = none) (rl : Rl G H S r) : Rl G (upd H p o) S r where
  at_ := fun i u e d => by
    obtain ⟨ho, h1, h2⟩ := rl.at_ i u e d
    exact ⟨ho, by rw [upd_ne (ne_of_none h1 x)]; exact h1, h2.ev (Ev.fresh x rl)⟩
  inj := rl.inj
  zs := fun a z => by
    obtain ⟨u, h⟩ := rl.zs a z
    exact ⟨u, by rw [upd_ne (ne_of_none h x)]; exact h⟩
  dz := rl.dz
  tab := fun p hp => (rl.tab p hp).mo fun _ _ ow => ow.up x
  lam := fun li e => (rl.lam li e).mo (fun _ _ ow => ow.up x) (fun _ _ => rfl) (Nat.le_refl _)
theorem Own.new {p : Addr} {o : HO} (x : H p = none) (rl : Rl G H S r) : Own (upd H p o) S r p o := ⟨upd_same, rl.notLv x⟩
/-- a new thing of the store -/
def put (r : Rh) (n : Nat) (p : Addr) : Rh := ⟨fun i => if i = n then p else r i, r.z⟩
theorem put_same {n : Nat} {p : Addr} : put r n p n = p := if_pos rfl
theorem put_ne {n i : Nat} {p : Addr} (h : i ≠ n) : put r n p i = r i := if_neg h
theorem lv_snoc {p a : Addr} {o : O} (l : Lv (S ++ [o]) (put r S.length p) a) : Lv S r a ∨ a = p := by
  rcases l with ⟨i, u, e, d, z⟩ | z
  case inr => exact .inl (.inr z)
  by_cases hi : i < S.length
  · rw [List.getElem?_append_left hi] at e
    rw [put_ne (Nat.ne_of_lt hi)] at z
    exact .inl (.inl ⟨i, u, e, d, z⟩)
  · have := (List.getElem?_eq_some_iff.mp e).1
    simp only [List.length_append, List.length_cons, List.length_nil] at this
    have hi : i = S.length := by omega
    subst hi
    rw [put_same] at z
    exact .inr z.symm
theorem Ev.snoc {p : Addr} {o : O} {ho : HO} (x : H p = none) : Ev H S r (upd H p ho) (S ++ [o]) (put r S.length p) where
  len := by rw [List.length_append]; exact Nat.le_add_right _ _
  rho := fun i hi => put_ne (Nat.ne_of_lt hi)
  keep := fun a u _ e _ => by rw [upd_ne (ne_of_none e x)]; exact e
  tbs := fun a ps e _ => ⟨#[], by rw [upd_ne (ne_of_none e x)]; simpa using e⟩
  live := fun a l => by
    rcases lv_snoc l with l | rfl
    · exact .inl l
    · exact .inr x
  zz := rfl
  kz := fun a u e _ => by rw [upd_ne (ne_of_none e x)]; exact e
theorem Own.snoc {p a : Addr} {o : O} {ho u : HO} (x : H p = none) (ow : Own H S r a u) : Own (upd H p ho) (S ++ [o]) (put r S.length p) a u :=
  ⟨by rw [upd_ne (ne_of_none ow.1 x)]; exact ow.1, fun l => (lv_snoc l).elim ow.2 fun e => by have q := ow.1; rw [e, x] at q; cases q⟩
theorem Rl.snoc {p : Addr} {o : O} {ho : HO} (x : H p = none) (rl : Rl G H S r) (n : RO G H S r p o ho) : Rl G (upd H p ho) (S ++ [o]) (put r S.length p) where
  at_ := fun i u e d => by
    by_cases hi : i < S.length
    · rw [List.getElem?_append_left hi] at e
      obtain ⟨hu, h1, h2⟩ := rl.at_ i u e d
      exact ⟨hu, by rw [put_ne (Nat.ne_of_lt hi), upd_ne (ne_of_none h1 x)]; exact h1, by rw [put_ne (Nat.ne_of_lt hi)]; exact h2.ev (Ev.snoc x)⟩
    · have := (List.getElem?_eq_some_iff.mp e).1
      simp only [List.length_append, List.length_cons, List.length_nil] at this
      have hi : i = S.length := by omega
      subst hi
      have e : u = o := by simpa using e.symm
      subst e
      exact ⟨ho, by rw [put_same]; exact upd_same, by rw [put_same]; exact n.ev (Ev.snoc x)⟩
  inj := fun i j o1 o2 e1 d1 e2 d2 z => by
    have key : ∀ (k : Nat) (u : O), (S ++ [o])[k]? = some u → u ≠ .dead → (k < S.length ∧ S[k]? = some u) ∨ k = S.length := fun k u e d => by
      by_cases hk : k < S.length
      · rw [List.getElem?_append_left hk] at e; exact .inl ⟨hk, e⟩
      · have := (List.getElem?_eq_some_iff.mp e).1
        simp only [List.length_append, List.length_cons, List.length_nil] at this
        exact .inr (by omega)
    rcases key i o1 e1 d1 with ⟨hi, a1⟩ | hi
    · rcases key j o2 e2 d2 with ⟨hj, a2⟩ | hj
      · rw [put_ne (Nat.ne_of_lt hi), put_ne (Nat.ne_of_lt hj)] at z
        exact rl.inj i j o1 o2 a1 d1 a2 d2 z
      · subst hj
        rw [put_ne (Nat.ne_of_lt hi), put_same] at z
        obtain ⟨hu, h1, _⟩ := rl.at_ i o1 a1 d1
        rw [z, x] at h1; cases h1
    · rcases key j o2 e2 d2 with ⟨hj, a2⟩ | hj
      · subst hi
        rw [put_ne (Nat.ne_of_lt hj), put_same] at z
        obtain ⟨hu, h1, _⟩ := rl.at_ j o2 a2 d2
        rw [← z, x] at h1; cases h1
      · omega
  zs := fun a z => by
    obtain ⟨u, h⟩ := rl.zs a z
    exact ⟨u, by rw [upd_ne (ne_of_none h x)]; exact h⟩
  dz := fun i u e d => by
    by_cases hi : i < S.length
    · rw [List.getElem?_append_left hi] at e
      rw [put_ne (Nat.ne_of_lt hi)]
      exact rl.dz i u e d
    · have := (List.getElem?_eq_some_iff.mp e).1
      simp only [List.length_append, List.length_cons, List.length_nil] at this
      have hi : i = S.length := by omega
      subst hi
      rw [put_same]
      intro z
      obtain ⟨u, h⟩ := rl.zs p z
      rw [x] at h; cases h
  tab := fun q hq => (rl.tab q hq).mo fun _ _ ow => ow.snoc x
  lam := fun li e => (rl.lam li e).mo (fun _ _ ow => ow.snoc x) (fun i hi => put_ne (Nat.ne_of_lt hi)) (by rw [List.length_append]; exact Nat.le_add_right _ _)
/-- a thing of the store changes -/
theorem lv_set {i : Nat} {o u : O} {a : Addr} (e : S[i]? = some u) (d : u ≠ .dead) (l : Lv (S.set i o) r a) : Lv S r a := by
  rcases l with ⟨j, x, e1, d1, z⟩ | z
  case inr => exact .inr z
  by_cases hj : i = j
  · subst hj
    exact .inl ⟨i, u, e, d, z⟩
  · rw [List.getElem?_set_ne hj] at e1
    exact .inl ⟨j, x, e1, d1, z⟩
theorem Ev.set {i : Nat} {o u : O} {ho : HO} (rl : Rl G H S r) (e : S[i]? = some u) (d : u ≠ .dead) : Ev H S r (upd H (r i) ho) (S.set i o) r where
  len := by rw [List.length_set]; exact Nat.le_refl _
  rho := fun _ _ => rfl
  keep := fun a x _ h n => by rw [upd_ne fun z => n (.inl ⟨i, u, e, d, z.symm⟩)]; exact h
  tbs := fun a ps h n => ⟨#[], by rw [upd_ne fun z => n (.inl ⟨i, u, e, d, z.symm⟩)]; simpa using h⟩
  live := fun a l => .inl (lv_set e d l)
  zz := rfl
  kz := fun a x h z => by rw [upd_ne fun q => rl.dz i u e d (by rw [← q]; exact z)]; exact h
theorem Own.set {i : Nat} {a : Addr} {o u : O} {ho v : HO} (e : S[i]? = some u) (d : u ≠ .dead) (ow : Own H S r a v) : Own (upd H (r i) ho) (S.set i o) r a v :=
  ⟨by rw [upd_ne fun z => ow.2 (.inl ⟨i, u, e, d, z.symm⟩)]; exact ow.1, fun l => ow.2 (lv_set e d l)⟩
theorem Rl.set {i : Nat} {o u : O} {ho : HO} (rl : Rl G H S r) (e : S[i]? = some u) (d : u ≠ .dead) (n : RO G H S r (r i) o ho) : Rl G (upd H (r i) ho) (S.set i o) r where
  at_ := fun j x e1 d1 => by
    by_cases hj : i = j
    · subst hj
      have hl : i < S.length := (List.getElem?_eq_some_iff.mp e).1
      rw [List.getElem?_set_self hl] at e1
      cases e1
      exact ⟨ho, upd_same, n.ev (Ev.set rl e d)⟩
    · rw [List.getElem?_set_ne hj] at e1
      obtain ⟨hx, h1, h2⟩ := rl.at_ j x e1 d1
      exact ⟨hx, by rw [upd_ne fun z => hj (rl.inj i j u x e d e1 d1 z.symm)]; exact h1, h2.ev (Ev.set rl e d)⟩
  inj := fun j k o1 o2 e1 d1 e2 d2 z => by
    have key : ∀ (k : Nat) (y : O), (S.set i o)[k]? = some y → y ≠ .dead → ∃ y', S[k]? = some y' ∧ y' ≠ .dead := fun k y q dq => by
      by_cases hk : i = k
      · subst hk; exact ⟨u, e, d⟩
      · rw [List.getElem?_set_ne hk] at q; exact ⟨y, q, dq⟩
    obtain ⟨y1, a1, b1⟩ := key j o1 e1 d1
    obtain ⟨y2, a2, b2⟩ := key k o2 e2 d2
    exact rl.inj j k y1 y2 a1 b1 a2 b2 z
  zs := fun a z => by
    obtain ⟨u, h⟩ := rl.zs a z
    by_cases q : a = r i
    · subst q; exact ⟨_, upd_same⟩
    · exact ⟨u, by rw [upd_ne q]; exact h⟩
  dz := fun k y q dq => by
    by_cases hk : i = k
    · subst hk; exact rl.dz i u e d
    · rw [List.getElem?_set_ne hk] at q; exact rl.dz k y q dq
  tab := fun q hq => (rl.tab q hq).mo fun _ _ ow => ow.set e d
  lam := fun li h => (rl.lam li h).mo (fun _ _ ow => ow.set e d) (fun _ _ => rfl) (by rw [List.length_set]; exact Nat.le_refl _)
end
/-! ### cutting the store, and freezing -/
section
variable {G : Gx} {H H' : Hp} {S S' : Sto} {r r' : Rh}
mutual
theorem RW.low {w : W} {v : V} : RW G H S r w v → lowW S.length w = true
  | .non => by simp [lowW]
  | .bl b => by simp [lowW]
  | .int i => by simp [lowW]
  | .str x => by simp [lowW]
  | .ref h => by simp [lowW, h]
  | .tup _ q => by simp only [lowW]; exact RWs.low q
  | .lst _ q => by simp only [lowW]; exact RWs.low q
  | .scr _ q => by simp only [lowW]; exact RWs.low q
  | .dic _ _ q => by simp only [lowW]; exact RWs.low q
  | .dn _ _ q q2 => by simp only [lowW, Bool.and_eq_true]; exact ⟨RWs.low q, RWs.low q2⟩
  | .obj _ _ q => by simp only [lowW]; exact RWs.low q
  | .cls c => by simp [lowW]
  | .ty n => by simp [lowW]
  | .lam _ => by simp [lowW]
  | .exn _ _ _ _ q => by simp only [lowW]; exact RWs.low q
theorem RWs.low {w : List W} {v : List V} : RWs G H S r w v → lowL S.length w = true
  | .nil => by simp [lowL]
  | .cons a b => by simp only [lowL, Bool.and_eq_true]; exact ⟨RW.low a, RWs.low b⟩
end
theorem Lv.cut {n : Nat} {a : Addr} (l : Lv (S.take n) r a) : Lv S r a := by
  rcases l with ⟨i, o, e, d, z⟩ | z
  case inr => exact .inr z
  rw [List.getElem?_take] at e
  split at e
  · exact .inl ⟨i, o, e, d, z⟩
  · cases e
theorem Own.cut {n : Nat} {a : Addr} {u : HO} (o : Own H S r a u) : Own H (S.take n) r a u := ⟨o.1, fun l => o.2 l.cut⟩
theorem TupAt.cut {n : Nat} {a : Addr} {vs : List V} (o : TupAt G H S r a vs) : TupAt G H (S.take n) r a vs := o.elim (fun o => .inl o.cut) .inr
theorem ScrAt.cut {n : Nat} {a : Addr} {vs : List V} (o : ScrAt G H S r a vs) : ScrAt G H (S.take n) r a vs := o.elim (fun ⟨z, o⟩ => .inl ⟨z, o.cut⟩) fun o => o.elim (fun o => .inr (.inl o.cut)) fun o => .inr (.inr o)
mutual
theorem RW.cut {n : Nat} {w : W} {v : V} (hn : n ≤ S.length) : RW G H S r w v → lowW n w = true → RW G H (S.take n) r w v
  | .non, _ => .non
  | .bl b, _ => .bl b
  | .int i, _ => .int i
  | .str x, _ => .str x
  | .ref h, l => .ref (by rw [List.length_take]; simp only [lowW, decide_eq_true_eq] at l; omega)
  | .tup h q, l => .tup h.cut (RWs.cut hn q (by simpa only [lowW] using l))
  | .lst h q, l => .lst h.cut (RWs.cut hn q (by simpa only [lowW] using l))
  | .scr h q, l => .scr h.cut (RWs.cut hn q (by simpa only [lowW] using l))
  | .dic h e q, l => .dic h.cut e (RWs.cut hn q (by simpa only [lowW] using l))
  | .dn h e q q2, l => by
    simp only [lowW, Bool.and_eq_true] at l
    exact .dn h.cut e (RWs.cut hn q l.1) (RWs.cut hn q2 l.2)
  | .obj h e q, l => .obj h.cut e (RWs.cut hn q (by simpa only [lowW] using l))
  | .cls c, _ => .cls c
  | .ty n, _ => .ty n
  | .lam h, _ => .lam h
  | .exn h1 h2 h3 h4 q, l => .exn h1.cut h2 h3 (h4.imp id fun ⟨dx, e1, o, l⟩ => ⟨dx, e1, o.cut, l⟩) (RWs.cut hn q (by simpa only [lowW] using l))
theorem RWs.cut {n : Nat} {w : List W} {v : List V} (hn : n ≤ S.length) : RWs G H S r w v → lowL n w = true → RWs G H (S.take n) r w v
  | .nil, _ => .nil
  | .cons a b, l => by
    simp only [lowL, Bool.and_eq_true] at l
    exact .cons (RW.cut hn a l.1) (RWs.cut hn b l.2)
end
theorem RO.cut {n : Nat} {a : Addr} {o : O} {ho : HO} (hn : n ≤ S.length) (q : RO G H S r a o ho) (l : lowO n o = true) : RO G H (S.take n) r a o ho := by
  cases q with
  | lst q => exact .lst (q.cut hn l)
  | dic e q => exact .dic e (q.cut hn l)
  | dn e q q2 =>
    simp only [lowO, Bool.and_eq_true] at l
    exact .dn e (q.cut hn l.1) (q2.cut hn l.2)
  | ins e q => exact .ins e (q.cut hn l)
theorem Rl.cut {n : Nat} (rl : Rl G H S r) (hn : n ≤ S.length) (l : ∀ i o, i < n → S[i]? = some o → lowO n o = true) : Rl G H (S.take n) r where
  at_ := fun i o e d => by
    rw [List.getElem?_take] at e
    split at e
    · rename_i hi
      obtain ⟨ho, h1, h2⟩ := rl.at_ i o e d
      exact ⟨ho, h1, h2.cut hn (l i o hi e)⟩
    · cases e
  inj := fun i j o u e1 d1 e2 d2 z => by
    rw [List.getElem?_take] at e1 e2
    split at e1
    · split at e2
      · exact rl.inj i j o u e1 d1 e2 d2 z
      · cases e2
    · cases e1
  zs := rl.zs
  dz := fun i o e d => by
    rw [List.getElem?_take] at e
    split at e
    · exact rl.dz i o e d
    · cases e
  tab := fun q hq => (rl.tab q hq).mo fun _ _ ow => ow.cut
  lam := fun li h => let t := rl.lam li h; ⟨fun p hp => (t.1 p hp).cut, fun p hp => ⟨(t.2.1 p hp).1, (t.2.1 p hp).2.cut⟩, t.2.2.1.cut hn (t.2.2.2 n), t.2.2.2⟩
theorem Ev.cut {n : Nat} (e : Ev H S r H' S' r') (h1 : S.length ≤ n) (h2 : n ≤ S'.length) : Ev H S r H' (S'.take n) r' where
  len := by rw [List.length_take]; omega
  rho := e.rho
  keep := e.keep
  tbs := e.tbs
  live := fun a l => e.live a l.cut
  zz := e.zz
  kz := e.kz
theorem RO.low {a : Addr} {o : O} {ho : HO} (q : RO G H S r a o ho) : lowO S.length o = true := by
  cases q with
  | lst q => exact q.low
  | dic e q => exact q.low
  | dn e q q2 => simp only [lowO, Bool.and_eq_true]; exact ⟨q.low, q2.low⟩
  | ins e q => exact q.low
theorem Rl.low {i : Nat} {o : O} (rl : Rl G H S r) (e : S[i]? = some o) : lowO S.length o = true := by
  by_cases d : o = .dead
  · subst d; rfl
  · obtain ⟨ho, _, h2⟩ := rl.at_ i o e d
    exact h2.low
/-- a thing of the store is from now on held as a value -/
theorem lv_dead {i : Nat} {a : Addr} (l : Lv (S.set i .dead) r a) : Lv S r a ∧ ((∃ j o, j ≠ i ∧ S[j]? = some o ∧ o ≠ .dead ∧ r j = a) ∨ r.z a) := by
  rcases l with ⟨j, x, e1, d1, z⟩ | z
  case inr => exact ⟨.inr z, .inr z⟩
  by_cases hj : i = j
  · subst hj
    have hl : i < (S.set i O.dead).length := (List.getElem?_eq_some_iff.mp e1).1
    rw [List.length_set] at hl
    rw [List.getElem?_set_self hl] at e1
    cases e1
    exact absurd rfl d1
  · rw [List.getElem?_set_ne hj] at e1
    exact ⟨.inl ⟨j, x, e1, d1, z⟩, .inl ⟨j, x, fun q => hj q.symm, e1, d1, z⟩⟩
theorem Rl.own {i : Nat} {o : O} {ho : HO} (rl : Rl G H S r) (e : S[i]? = some o) (d : o ≠ .dead) (h : H (r i) = some ho) : Own H (S.set i .dead) r (r i) ho :=
  ⟨h, fun l => by
    obtain ⟨_, ⟨j, x, hj, e1, d1, z⟩ | z⟩ := lv_dead l
    · exact hj (rl.inj j i x o e1 d1 e d z)
    · exact rl.dz i o e d z⟩
/-! ### things in the making -/
def Rh.add (r : Rh) (D : Addr) : Rh := ⟨r.f, fun a => r.z a ∨ a = D⟩
theorem Rl.add {D : Addr} {o : HO} (rl : Rl G H S r) (x : H D = none) : Rl G (upd H D o) S (r.add D) := by
  have mo : ∀ a u, Own H S r a u → Own (upd H D o) S (r.add D) a u := fun a u ow => ⟨by rw [upd_ne (ne_of_none ow.1 x)]; exact ow.1, by
    rintro (⟨i, o, e, d, z⟩ | z | z)
    · exact ow.2 (.inl ⟨i, o, e, d, z⟩)
    · exact ow.2 (.inr z)
    · exact ne_of_none ow.1 x z⟩
  have m : Mp H S r (upd H D o) S (r.add D) := ⟨fun a u ow _ => mo a u ow, fun _ _ => rfl, Nat.le_refl _⟩
  refine ⟨fun i u e d => ?_, rl.inj, fun a z => ?_, fun i u e d => ?_, fun q hq => (rl.tab q hq).mo mo, fun li h => (rl.lam li h).mo mo (fun _ _ => rfl) (Nat.le_refl _)⟩
  · obtain ⟨ho, h1, h2⟩ := rl.at_ i u e d
    exact ⟨ho, by rw [show (r.add D) i = r i from rfl, upd_ne (ne_of_none h1 x)]; exact h1, h2.mp m⟩
  · by_cases q : a = D
    · subst q; exact ⟨_, upd_same⟩
    · rcases z with z | z
      · obtain ⟨u, h⟩ := rl.zs a z
        exact ⟨u, by rw [upd_ne q]; exact h⟩
      · exact absurd z q
  · rintro (z | z)
    · exact rl.dz i u e d z
    · obtain ⟨ho, h1, h2⟩ := rl.at_ i u e d
      rw [show r.f i = D from z, x] at h1; cases h1
/-- a thing in the making is changed -/
theorem Own.poke {D a : Addr} {o u : HO} (z : r.z D) (ow : Own H S r a u) : Own (upd H D o) S r a u :=
  ⟨by rw [upd_ne fun q => ow.2 (.inr (by rw [q]; exact z))]; exact ow.1, ow.2⟩
theorem Mp.poke {D : Addr} {o : HO} (z : r.z D) : Mp H S r (upd H D o) S r :=
  ⟨fun a u ow _ => ow.poke z, fun _ _ => rfl, Nat.le_refl _⟩
theorem Rl.poke {D : Addr} {o : HO} (rl : Rl G H S r) (z : r.z D) : Rl G (upd H D o) S r := by
  refine ⟨fun i u e d => ?_, rl.inj, fun a q => ?_, rl.dz, fun q hq => (rl.tab q hq).mo fun _ _ ow => ow.poke z, fun li h => (rl.lam li h).mo (fun _ _ ow => ow.poke z) (fun _ _ => rfl) (Nat.le_refl _)⟩
  · obtain ⟨ho, h1, h2⟩ := rl.at_ i u e d
    exact ⟨ho, by rw [upd_ne fun q => rl.dz i u e d (by rw [q]; exact z)]; exact h1, h2.mp (.poke z)⟩
  · by_cases e : a = D
    · subst e; exact ⟨_, upd_same⟩
    · obtain ⟨u, h⟩ := rl.zs a q
      exact ⟨u, by rw [upd_ne e]; exact h⟩
theorem Ev.poke {D : Addr} {o : HO} (e : Ev H S r H' S' r') (x : H D = none) : Ev H S r (upd H' D o) S' r' where
  len := e.len
  rho := e.rho
  keep := fun a u nt h n => by rw [upd_ne (ne_of_none h x)]; exact e.keep a u nt h n
  tbs := fun a ps h n => by rw [upd_ne (ne_of_none h x)]; exact e.tbs a ps h n
  live := e.live
  zz := e.zz
  kz := fun a u h z => by rw [upd_ne (ne_of_none h x)]; exact e.kz a u h z
/-- fewer things in the making -/
theorem Own.less {f : Nat → Addr} {z z' : Addr → Prop} (h : ∀ a, z' a → z a) {a : Addr} {u : HO} (ow : Own H S ⟨f, z⟩ a u) : Own H S ⟨f, z'⟩ a u := ⟨ow.1, fun l => ow.2 (l.elim .inl fun q => .inr (h a q))⟩
theorem Mp.less {f : Nat → Addr} {z z' : Addr → Prop} (h : ∀ a, z' a → z a) : Mp H S ⟨f, z⟩ H S ⟨f, z'⟩ :=
  ⟨fun a u ow _ => ⟨ow.1, fun l => ow.2 (l.elim .inl fun q => .inr (h a q))⟩, fun _ _ => rfl, Nat.le_refl _⟩
theorem Rl.less {f : Nat → Addr} {z z' : Addr → Prop} (rl : Rl G H S ⟨f, z⟩) (h : ∀ a, z' a → z a) : Rl G H S ⟨f, z'⟩ :=
  ⟨fun i u e d => let ⟨ho, h1, h2⟩ := rl.at_ i u e d; ⟨ho, h1, h2.mp (.less h)⟩, rl.inj, fun a q => rl.zs a (h a q), fun i u e d q => rl.dz i u e d (h _ q), fun q hq => (rl.tab q hq).mo fun _ _ ow => ow.less h, fun li e => (rl.lam li e).mo (fun _ _ ow => ow.less h) (fun _ _ => rfl) (Nat.le_refl _)⟩
theorem Ev.less {f f' : Nat → Addr} {z z' : Addr → Prop} (e : Ev H S ⟨f, z⟩ H' S' ⟨f', z⟩) (rl : Rl G H' S' ⟨f', z⟩) (h : ∀ a, z' a → z a) : Ev H S ⟨f, z'⟩ H' S' ⟨f', z'⟩ where
  len := e.len
  rho := e.rho
  keep := fun a u nt x n => by
    by_cases q : z a
    · exact e.kz a u x q
    · exact e.keep a u nt x fun l => n (l.elim .inl fun w => absurd w q)
  tbs := fun a ps x n => by
    by_cases q : z a
    · exact ⟨#[], by simpa using e.kz a _ x q⟩
    · exact e.tbs a ps x fun l => n (l.elim .inl fun w => absurd w q)
  live := fun a l => by
    rcases l with l | l
    · rcases e.live a (.inl l) with (w | w) | w
      · exact .inl (.inl w)
      · obtain ⟨i, o, e1, d1, z1⟩ := l
        have w : z a := w
        exact absurd (show z (f' i) by rw [show f' i = a from z1]; exact w) (rl.dz i o e1 d1)
      · exact .inr w
    · exact .inl (.inr l)
  zz := rfl
  kz := fun a u x q => e.kz a u x (h a q)
end
end DD
namespace DD
open PySem PySem.Spec PyProof.Rows L2
abbrev Lo := List (Option W)
/-- what an expression comes to -/
inductive R (α : Type) where
  | ok (a : α) (S : Sto)
  | er (c : Nat) (ns : List Str) (ws : List W) (S : Sto)
  | no
def R.bind {α β : Type} (x : R α) (f : α → Sto → R β) : R β :=
  match x with
  | .ok a S => f a S
  | .er c ns ws S => .er c ns ws S
  | .no => .no
@[simp] theorem R.bind_ok {α β : Type} (a : α) (S : Sto) (f : α → Sto → R β) : (R.ok a S).bind f = f a S := rfl
@[simp] theorem R.bind_er {α β : Type} (c : Nat) (ns : List Str) (ws : List W) (S : Sto) (f : α → Sto → R β) : (R.er c ns ws S : R α).bind f = .er c ns ws S := rfl
@[simp] theorem R.bind_no {α β : Type} (f : α → Sto → R β) : (R.no : R α).bind f = .no := rfl
/-- what a statement comes to -/
inductive F where
  | nx (t : Lo) (S : Sto) | rt (w : W) (S : Sto) | bk (t : Lo) (S : Sto) | ct (t : Lo) (S : Sto)
  | er (c : Nat) (ns : List Str) (ws : List W) (t : Lo) (S : Sto)
  | no
abbrev DX := Lo → Sto → R W
abbrev DT := Lo → Sto → R Bool
abbrev DA := Lo → Sto → R (List W)
abbrev DS := Lo → Sto → F
abbrev DG := W → Lo → Sto → R Lo
section
variable (G : Gx) (xv : Nat → Value)
/-- the slots -/
inductive RLo (H : Hp) (S : Sto) (r : Rh) : Lo → L2.St → Prop
  | nil : RLo H S r [] []
  | non {o : Option V} {t : Lo} {s : L2.St} : RLo H S r t s → RLo H S r (none :: t) (o :: s)
  | som {w : W} {v : V} {t : Lo} {s : L2.St} : RW G H S r w v → RLo H S r t s → RLo H S r (some w :: t) (some v :: s)
/-- an exception's own dict -/
def Xd (H : Hp) (S : Sto) (r : Rh) (d : Option Addr) (ns : List Str) (ws : List W) : Prop :=
  (ns = [] ∧ ws = [] ∧ d = none) ∨ ∃ a vs, d = some a ∧ Own H S r a (.xd (ns.zip vs)) ∧ ns.length = ws.length ∧ RWs G H S r ws vs
end
section
variable (G : Gx) (xv : Nat → Value) (Wx : WX)
/-- how an expression's end is wanted -/
def OutE {α β : Type} (rel : Hp → Sto → Rh → α → β → Prop) (s : L2.St) (H : Hp) (S : Sto) (r : Rh) (x : R α) (Q : β → Hp → Prop) : Prop :=
  match x with
  | .ok w S' => ∀ r' H' v, Ev H S r H' S' r' → Rl G H' S' r' → rel H' S' r' w v → Q v H'
  | .er c ns ws S' => ∀ r' H' d, Ev H S r H' S' r' → Rl G H' S' r' → Xd G H' S' r' d ns ws → Wx (xv c) d s H'
  | .no => False
def toX {α β : Type} (rel : Hp → Sto → Rh → α → β → Prop) (d : Lo → Sto → R α) : L2.St → Hp → (β → Hp → Prop) → Prop := fun s H Q =>
  ∃ r t S, RLo G H S r t s ∧ Rl G H S r ∧ OutE G xv Wx rel s H S r (d t S) Q
abbrev toE (d : DX) : TE := toX G xv Wx (fun H S r w v => RW G H S r w v) d
abbrev toT (d : DT) : TT := toX G xv Wx (fun _ _ _ (w : Bool) v => w = v) d
abbrev toA (d : DA) : TA := toX G xv Wx (fun H S r w v => RWs G H S r w v) d
/-- how a statement's end is wanted -/
def OutS (H : Hp) (S : Sto) (r : Rh) (x : F) (D : Ends) : Prop :=
  match x with
  | .nx t S' => ∀ r' H' s, Ev H S r H' S' r' → Rl G H' S' r' → RLo G H' S' r' t s → D.nx s H'
  | .bk t S' => ∀ r' H' s, Ev H S r H' S' r' → Rl G H' S' r' → RLo G H' S' r' t s → D.bk s H'
  | .ct t S' => ∀ r' H' s, Ev H S r H' S' r' → Rl G H' S' r' → RLo G H' S' r' t s → D.ct s H'
  | .rt w S' => ∀ r' H' v, Ev H S r H' S' r' → Rl G H' S' r' → RW G H' S' r' w v → D.rt v H'
  | .er c ns ws t S' => ∀ r' H' s d, Ev H S r H' S' r' → Rl G H' S' r' → RLo G H' S' r' t s → Xd G H' S' r' d ns ws → Wx (xv c) d s H'
  | .no => False
def toS (d : DS) : TS := fun D s H => ∃ r t S, RLo G H S r t s ∧ Rl G H S r ∧ OutS G xv Wx H S r (d t S) D
def toG (d : DG) : TG := fun v s H Q => ∃ r t S w, RLo G H S r t s ∧ Rl G H S r ∧ RW G H S r w v ∧ OutE G xv (fun _ _ _ _ => False) (fun H' S' r' t' s' => RLo G H' S' r' t' s') s H S r (d w t S) Q
end
/-- what stands around a piece of a def -/
structure Cok (G : Gx) (X : Cx) (Wx : WX) : Prop where
  kk : X.K = G.K
  ww : X.w = G.w
  tk : Takes X Wx
  po : PassesOwn (model X.prog X.w) X.A X.env X.xe
  calm : X.calm = true
  nd : X.N.Nodup
section
variable {G : Gx} {xv : Nat → Value} {Wx : WX} {X : Cx} {H H' : Hp} {S S' : Sto} {r r' : Rh}
theorem RLo.mp : ∀ {t : Lo} {s : L2.St}, RLo G H S r t s → Mp H S r H' S' r' → RLo G H' S' r' t s
  | _, _, .nil, _ => .nil
  | _, _, .non q, e => .non (q.mp e)
  | _, _, .som a q, e => .som (a.mp e) (q.mp e)
theorem RLo.ev {t : Lo} {s : L2.St} (q : RLo G H S r t s) (e : Ev H S r H' S' r') : RLo G H' S' r' t s := q.mp e.mp
theorem RLo.get : ∀ {t : Lo} {s : L2.St} {i : Nat} {w : W}, RLo G H S r t s → t[i]? = some (some w) → ∃ v, s[i]? = some (some v) ∧ RW G H S r w v
  | _, _, _, _, .nil, e => by simp at e
  | _, _, 0, _, .non _, e => by simp at e
  | _, _, 0, _, .som a _, e => by simp at e; subst e; exact ⟨_, rfl, a⟩
  | _, _, i + 1, w, .non q, e => by
    obtain ⟨v, h1, h2⟩ := RLo.get (i := i) (w := w) q (by simpa using e)
    exact ⟨v, by simpa using h1, h2⟩
  | _, _, i + 1, w, .som _ q, e => by
    obtain ⟨v, h1, h2⟩ := RLo.get (i := i) (w := w) q (by simpa using e)
    exact ⟨v, by simpa using h1, h2⟩
theorem RLo.set {w : W} {v : V} (a : RW G H S r w v) : ∀ {t : Lo} {s : L2.St} (i : Nat), RLo G H S r t s → RLo G H S r (t.set i (some w)) (s.set i (some v))
  | _, _, _, .nil => .nil
  | _, _, 0, .non q => .som a q
  | _, _, 0, .som _ q => .som a q
  | _, _, i + 1, .non q => .non (q.set a i)
  | _, _, i + 1, .som b q => .som b (q.set a i)
theorem RLo.unset {o : Option V} : ∀ {t : Lo} {s : L2.St} (i : Nat), RLo G H S r t s → RLo G H S r (t.set i none) (s.set i o)
  | _, _, _, .nil => .nil
  | _, _, 0, .non q => .non q
  | _, _, 0, .som _ q => .non q
  | _, _, i + 1, .non q => .non (q.unset i)
  | _, _, i + 1, .som b q => .som b (q.unset i)
theorem RLo.vals : ∀ {ws : List W} {vs : List V} (n : Nat), RWs G H S r ws vs → RLo G H S r (ws.map some ++ List.replicate n none) (vs.map some ++ List.replicate n none)
  | _, _, 0, .nil => .nil
  | _, _, n + 1, .nil => .non (RLo.vals n .nil)
  | _, _, n, .cons a q => .som a (RLo.vals n q)
theorem Xd.ev {d : Option Addr} {ns : List Str} {ws : List W} (x : Xd G H S r d ns ws) (e : Ev H S r H' S' r') : Xd G H' S' r' d ns ws := by
  rcases x with x | ⟨a, vs, h1, h2, h3, h4⟩
  · exact .inl x
  · exact .inr ⟨a, vs, h1, h2.ev e, h3, h4.ev e⟩
/-- the end of a part is the end of the whole -/
theorem OutE.from {α β : Type} {rel : Hp → Sto → Rh → α → β → Prop} {s : L2.St} {x : R α} {Q : β → Hp → Prop} (e : Ev H S r H' S' r') (o : OutE G xv Wx rel s H S r x Q) : OutE G xv Wx rel s H' S' r' x Q := by
  cases x with
  | ok a S1 => exact fun r1 H1 v e1 l q => o r1 H1 v (e.trans e1) l q
  | er c ns ws S1 => exact fun r1 H1 d e1 l q => o r1 H1 d (e.trans e1) l q
  | no => exact o
theorem OutS.from {x : F} {D : Ends} (e : Ev H S r H' S' r') (o : OutS G xv Wx H S r x D) : OutS G xv Wx H' S' r' x D := by
  cases x with
  | nx t S1 => exact fun r1 H1 v e1 l q => o r1 H1 v (e.trans e1) l q
  | bk t S1 => exact fun r1 H1 v e1 l q => o r1 H1 v (e.trans e1) l q
  | ct t S1 => exact fun r1 H1 v e1 l q => o r1 H1 v (e.trans e1) l q
  | rt t S1 => exact fun r1 H1 v e1 l q => o r1 H1 v (e.trans e1) l q
  | er c ns ws t S1 => exact fun r1 H1 s d e1 l q x => o r1 H1 s d (e.trans e1) l q x
  | no => exact o
/-- a part, then the rest -/
theorem toX.bind {α β γ δ : Type} {rel : Hp → Sto → Rh → α → β → Prop} {rel' : Hp → Sto → Rh → γ → δ → Prop} {d : Lo → Sto → R α} {f : α → Sto → R γ} {t : Lo} {s : L2.St} {Q : β → Hp → Prop} {Q' : δ → Hp → Prop}
    (l : RLo G H S r t s) (rl : Rl G H S r) (o : OutE G xv Wx rel' s H S r ((d t S).bind f) Q')
    (h : ∀ a S' r' H' b, d t S = .ok a S' → Ev H S r H' S' r' → Rl G H' S' r' → RLo G H' S' r' t s → rel H' S' r' a b → OutE G xv Wx rel' s H' S' r' (f a S') Q' → Q b H') : toX G xv Wx rel d s H Q := by
  refine ⟨r, t, S, l, rl, ?_⟩
  cases e : d t S with
  | ok a S1 =>
    rw [e, R.bind_ok] at o
    exact fun r1 H1 v e1 l1 q => h a S1 r1 H1 v e e1 l1 (l.ev e1) q (o.from e1)
  | er c ns ws S1 =>
    rw [e] at o
    exact o
  | no =>
    rw [e] at o
    exact o
theorem PEi {e : Expr} {t t' : TE} (h : PE X e t) (i : ∀ s H Q, t' s H Q → t s H Q) : PE X e t' := ⟨fun pins s σ H Q I q => h.run pins s σ H Q I (i _ _ _ q)⟩
theorem PTi {e : Expr} {t t' : TT} (h : PT X e t) (i : ∀ s H Q, t' s H Q → t s H Q) : PT X e t' := ⟨fun pins s σ H Q I q => h.run pins s σ H Q I (i _ _ _ q)⟩
theorem PWi {e : Expr} {t t' : TT} (h : PW X e t) (i : ∀ s H Q, t' s H Q → t s H Q) : PW X e t' := ⟨fun w pins s σ H Q I q => h.run w pins s σ H Q I (i _ _ _ q)⟩
theorem PAi {e : List Expr} {t t' : TA} (h : PA X e t) (i : ∀ s H Q, t' s H Q → t s H Q) : PA X e t' := ⟨fun w pins s σ H Q I q => h.run w pins s σ H Q I (i _ _ _ q)⟩
theorem PSi {e : Stmt} {t t' : TS} (h : PS X e t) (i : ∀ D s H, t' D s H → t D s H) : PS X e t' := ⟨fun pins s σ H Q I q => h.run pins s σ H Q I (i _ _ _ q)⟩
theorem PSsi {e : List Stmt} {t t' : TS} (h : PSs X e t) (i : ∀ D s H, t' D s H → t D s H) : PSs X e t' := ⟨fun pins s σ H Q I q => h.run pins s σ H Q I (i _ _ _ q)⟩
/-! ### expressions -/
def dVar (i : Nat) : DX := fun t S => match t[i]? with
  | some (some w) => .ok w S
  | _ => .no
def dC (w : W) : DX := fun _ S => .ok w S
theorem de_var {x : Str} {pos : Pos} (i : Nat) (hN : X.N[i]? = some x := by rfl) (hv : Vis X.env.scope x := by first | exact Or.inl rfl | exact Or.inr (Or.inl rfl) | exact Or.inr (Or.inr rfl)) (hd : (x == ("__debug__" : Str)) = false := by decide) (hcd : (x == ("__classdict__" : Str)) = false := by decide) :
    PE X (.Name x pos) (toE G xv Wx (dVar i)) := PEi (pe_var (i := i) hN hv hd hcd) fun s H Q ⟨r, t, S, l, rl, o⟩ => by
  unfold dVar at o
  cases e : t[i]? with
  | none => rw [e] at o; exact o.elim
  | some w =>
    cases w with
    | none => rw [e] at o; exact o.elim
    | some w =>
      rw [e] at o
      obtain ⟨v, h1, h2⟩ := l.get e
      exact ⟨v, h1, o r H v .refl rl h2⟩
theorem toC {w : W} {v : V} (h : ∀ H S r, RW G H S r w v) : ∀ s H Q, toE G xv Wx (dC w) s H Q → tC v s H Q := fun s H Q ⟨r, t, S, l, rl, o⟩ => o r H v .refl rl (h H S r)
theorem de_int {i j pos} : PE X (.Constant (.int i) j pos) (toE G xv Wx (dC (.int i))) := PEi pe_int (toC fun _ _ _ => .int i)
theorem de_bl {i j pos} : PE X (.Constant (.bool i) j pos) (toE G xv Wx (dC (.bl i))) := PEi pe_bl (toC fun _ _ _ => .bl i)
theorem de_str {i j pos} : PE X (.Constant (.str i) j pos) (toE G xv Wx (dC (.str i))) := PEi pe_str (toC fun _ _ _ => .str i)
theorem de_non {j pos} : PE X (.Constant .none j pos) (toE G xv Wx (dC .non)) := PEi pe_non (toC fun _ _ _ => .non)
theorem de_gint {x : Str} {i : Int} {pos : Pos} (hm : ∃ t, X.mg x = some (.int i t)) (hg : Gl X x := by rfl) (hd : (x == ("__debug__" : Str)) = false := by decide) : PE X (.Name x pos) (toE G xv Wx (dC (.int i))) := by
  obtain ⟨t, e⟩ := hm
  exact PEi (pe_glob (v := .int i) hg e ⟨t, rfl⟩ hd) (toC fun _ _ _ => .int i)
theorem de_gstr {x : Str} {i : Str} {pos : Pos} (hm : ∃ t, X.mg x = some (.str i t)) (hg : Gl X x := by rfl) (hd : (x == ("__debug__" : Str)) = false := by decide) : PE X (.Name x pos) (toE G xv Wx (dC (.str i))) := by
  obtain ⟨t, e⟩ := hm
  exact PEi (pe_glob (v := .str i) hg e ⟨t, rfl⟩ hd) (toC fun _ _ _ => .str i)
/-- two places -/
abbrev D2 := W → W → Sto → R W
def toR2 (G : Gx) (xv : Nat → Value) (f : D2) : R2 := fun x y H Q => ∃ r S a b, Rl G H S r ∧ RW G H S r a x ∧ RW G H S r b y ∧ OutE G xv (fun _ _ _ _ => False) (fun H S r w v => RW G H S r w v) [] H S r (f a b S) Q
def dOp (f : D2) (da db : DX) : DX := fun t S => (da t S).bind fun a S1 => (db t S1).bind fun b S2 => match f a b S2 with
  | .ok w S3 => .ok w S3
  | _ => .no
theorem toOp {f : D2} {da db : DX} (s : L2.St) (H : Hp) (Q : VK) : toE G xv Wx (dOp f da db) s H Q → tOp (toR2 G xv f) (toE G xv Wx da) (toE G xv Wx db) s H Q := by
  rintro ⟨r, t, S, l, rl, o⟩
  refine toX.bind l rl o fun a S1 r1 H1 x _ e1 rl1 l1 qa o1 => ?_
  refine toX.bind l1 rl1 o1 fun b S2 r2 H2 y _ e2 rl2 l2 qb o2 => ?_
  refine ⟨r2, S2, a, b, rl2, qa.ev e2, qb, ?_⟩
  cases e : f a b S2 with
  | ok w S3 => rw [e] at o2; exact o2
  | er c ns ws S3 => rw [e] at o2; exact o2.elim
  | no => rw [e] at o2; exact o2.elim
theorem de_op {a b : Expr} {op : Operator} {f : D2} {da db : DX} {pos : Pos} (ho : OpR X (binaryOp op) (toR2 G xv f)) (ha : PE X a (toE G xv Wx da)) (hb : PE X b (toE G xv Wx db)) : PE X (.BinOp a op b pos) (toE G xv Wx (dOp f da db)) :=
  PEi (pe_op ho ha hb) toOp
theorem de_cmp {a b : Expr} {op : CmpOp} {f : D2} {da db : DX} {pos : Pos} (ho : OpR X (compareOp op) (toR2 G xv f)) (ha : PE X a (toE G xv Wx da)) (hb : PE X b (toE G xv Wx db)) (hm : behindInMarks op b = false := by first | exact nomark _ | rfl) : PE X (.Compare a [op] [b] pos) (toE G xv Wx (dOp f da db)) :=
  PEi (pe_cmpR ho ha hb hm) toOp
def dTest (d : DX) : DT := fun t S => match d t S with
  | .ok (.bl b) S1 => .ok b S1
  | .er c ns ws S1 => .er c ns ws S1
  | _ => .no
theorem toTest {d : DX} {te : TE} (h : ∀ s H Q, toE G xv Wx d s H Q → te s H Q) (s : L2.St) (H : Hp) (Q : Bool → Hp → Prop) : toT G xv Wx (dTest d) s H Q → tTest te s H Q := by
  rintro ⟨r, t, S, l, rl, o⟩
  refine h s H _ ⟨r, t, S, l, rl, ?_⟩
  unfold dTest at o
  cases e : d t S with
  | ok w S1 =>
    rw [e] at o
    cases w with
    | bl b =>
      intro r1 H1 v e1 rl1 q
      cases q
      exact ⟨b, rfl, o r1 H1 b e1 rl1 rfl⟩
    | _ => exact o.elim
  | er c ns ws S1 => rw [e] at o; exact o
  | no => rw [e] at o; exact o.elim
theorem dt_cmp {a b : Expr} {op : CmpOp} {f : D2} {da db : DX} {pos : Pos} (ho : OpR X (compareOp op) (toR2 G xv f)) (ha : PE X a (toE G xv Wx da)) (hb : PE X b (toE G xv Wx db)) (hm : behindInMarks op b = false := by first | exact nomark _ | rfl) : PT X (.Compare a [op] [b] pos) (toT G xv Wx (dTest (dOp f da db))) :=
  PTi (pt_cmpR ho ha hb hm) (toTest toOp)
/-- a chain of two comparisons -/
def dChain (f g : D2) (da db dc : DX) : DX := fun t S => (da t S).bind fun a S1 => (db t S1).bind fun b S2 => match f a b S2 with
  | .ok (.bl true) S3 => (dc t S3).bind fun c S4 => match g b c S4 with
    | .ok w S5 => .ok w S5
    | _ => .no
  | .ok (.bl false) S3 => .ok (.bl false) S3
  | _ => .no
theorem toChain {f g : D2} {da db dc : DX} (s : L2.St) (H : Hp) (Q : VK) : toE G xv Wx (dChain f g da db dc) s H Q → tChain (toR2 G xv f) (toR2 G xv g) (toE G xv Wx da) (toE G xv Wx db) (toE G xv Wx dc) s H Q := by
  rintro ⟨r, t, S, l, rl, o⟩
  refine toX.bind l rl o fun a S1 r1 H1 x _ e1 rl1 l1 qa o1 => ?_
  refine toX.bind l1 rl1 o1 fun b S2 r2 H2 y _ e2 rl2 l2 qb o2 => ?_
  refine ⟨r2, S2, a, b, rl2, qa.ev e2, qb, ?_⟩
  cases e : f a b S2 with
  | ok w S3 =>
    rw [e] at o2
    intro r3 H3 v e3 rl3 q
    cases w with
    | bl k =>
      cases q
      refine ⟨k, rfl, ?_⟩
      cases k with
      | true =>
        rw [if_pos rfl]
        refine toX.bind (l2.ev e3) rl3 (OutE.from e3 o2) fun c S4 r4 H4 z _ e4 rl4 l4 qc o4 => ?_
        refine ⟨r4, S4, b, c, rl4, (qb.ev e3).ev e4, qc, ?_⟩
        cases e' : g b c S4 with
        | ok w S5 => rw [e'] at o4; exact o4
        | er c ns ws S5 => rw [e'] at o4; exact o4.elim
        | no => rw [e'] at o4; exact o4.elim
      | false =>
        rw [if_neg Bool.false_ne_true]
        exact o2 r3 H3 _ e3 rl3 (.bl false)
    | _ => exact o2.elim
  | er c ns ws S3 => rw [e] at o2; exact o2.elim
  | no => rw [e] at o2; exact o2.elim
theorem dt_chain {a b c : Expr} {op op' : CmpOp} {f g : D2} {da db dc : DX} {pos : Pos} (ho : OpR X (compareOp op) (toR2 G xv f)) (ho' : OpR X (compareOp op') (toR2 G xv g)) (ha : PE X a (toE G xv Wx da)) (hb : PE X b (toE G xv Wx db)) (hc : PE X c (toE G xv Wx dc))
    (hm : lastMarks [op, op'] [b, c] = false := by with_unfolding_all rfl) : PT X (.Compare a [op, op'] [b, c] pos) (toT G xv Wx (dTest (dChain f g da db dc))) := PTi (pt_chain ho ho' ha hb hc hm) (toTest toChain)
/-- tests joined -/
def dtAnd (a b : DT) : DT := fun t S => (a t S).bind fun k S1 => if k = true then b t S1 else .ok false S1
def dtOr (a b : DT) : DT := fun t S => (a t S).bind fun k S1 => if k = true then .ok true S1 else b t S1
def dtNot (a : DT) : DT := fun t S => (a t S).bind fun k S1 => .ok (!k) S1
theorem dt_not {a : Expr} {d : DT} {pos : Pos} (ha : PT X a (toT G xv Wx d)) : PT X (.UnaryOp .Not a pos) (toT G xv Wx (dtNot d)) := PTi (pt_not ha) fun s H Q ⟨r, t, S, l, rl, o⟩ =>
  toX.bind l rl o fun k S1 r1 H1 b _ e1 rl1 l1 q o1 => by subst q; exact o1 r1 H1 (!k) .refl rl1 rfl
theorem dw_and1 {a : Expr} {d : DT} {pos : Pos} (ha : PT X a (toT G xv Wx d)) : PW X (.BoolOp .And [a] pos) (toT G xv Wx d) := pw_and1 ha
theorem dw_or1 {a : Expr} {d : DT} {pos : Pos} (ha : PT X a (toT G xv Wx d)) : PW X (.BoolOp .Or [a] pos) (toT G xv Wx d) := pw_or1 ha
theorem dw_and {a b : Expr} {rest : List Expr} {d e : DT} {pos : Pos} (ha : PT X a (toT G xv Wx d)) (hb : PW X (.BoolOp .And (b :: rest) pos) (toT G xv Wx e)) : PW X (.BoolOp .And (a :: b :: rest) pos) (toT G xv Wx (dtAnd d e)) := PWi (pw_and ha hb) fun s H Q ⟨r, t, S, l, rl, o⟩ =>
  toX.bind l rl o fun k S1 r1 H1 b _ e1 rl1 l1 q o1 => by
    subst q
    cases k with
    | true => exact ⟨r1, t, S1, l1, rl1, o1⟩
    | false => exact o1 r1 H1 false .refl rl1 rfl
theorem dw_or {a b : Expr} {rest : List Expr} {d e : DT} {pos : Pos} (ha : PT X a (toT G xv Wx d)) (hb : PW X (.BoolOp .Or (b :: rest) pos) (toT G xv Wx e)) : PW X (.BoolOp .Or (a :: b :: rest) pos) (toT G xv Wx (dtOr d e)) := PWi (pw_or ha hb) fun s H Q ⟨r, t, S, l, rl, o⟩ =>
  toX.bind l rl o fun k S1 r1 H1 b _ e1 rl1 l1 q o1 => by
    subst q
    cases k with
    | true => exact o1 r1 H1 true .refl rl1 rfl
    | false => exact ⟨r1, t, S1, l1, rl1, o1⟩
def dIf (c : DT) (a b : DX) : DX := fun t S => (c t S).bind fun k S1 => if k = true then a t S1 else b t S1
theorem de_if {c a b : Expr} {dc : DT} {da db : DX} {pos : Pos} (hc : PT X c (toT G xv Wx dc)) (ha : PE X a (toE G xv Wx da)) (hb : PE X b (toE G xv Wx db)) : PE X (.IfExp c a b pos) (toE G xv Wx (dIf dc da db)) := PEi (pe_ifExp hc ha hb) fun s H Q ⟨r, t, S, l, rl, o⟩ =>
  toX.bind l rl o fun k S1 r1 H1 b _ e1 rl1 l1 q o1 => by
    subst q
    cases k with
    | true => exact ⟨r1, t, S1, l1, rl1, o1⟩
    | false => exact ⟨r1, t, S1, l1, rl1, o1⟩
theorem de_one {op} {a : Expr} {d : DX} {pos : Pos} (ha : PE X a (toE G xv Wx d)) : PE X (.BoolOp op [a] pos) (toE G xv Wx d) := pe_one ha
/-! ### argument lists -/
def dNil : DA := fun _ S => .ok [] S
def dCons (a : DX) (b : DA) : DA := fun t S => (a t S).bind fun w S1 => (b t S1).bind fun ws S2 => .ok (w :: ws) S2
theorem da_nil : PA X [] (toA G xv Wx dNil) := PAi pa_nil fun s H Q ⟨r, t, S, l, rl, o⟩ => o r H [] .refl rl .nil
theorem da_cons {e : Expr} {es : List Expr} {d : DX} {ds : DA} (h1 : PE X e (toE G xv Wx d)) (h2 : PA X es (toA G xv Wx ds)) (he : starEach (e :: es) X.env = (false, eval e X.env) :: starEach es X.env := by rfl) : PA X (e :: es) (toA G xv Wx (dCons d ds)) :=
  PAi (pa_cons h1 h2 he) fun s H Q ⟨r, t, S, l, rl, o⟩ => toX.bind l rl o fun w S1 r1 H1 v _ e1 rl1 l1 q o1 => toX.bind l1 rl1 o1 fun ws S2 r2 H2 vs _ e2 rl2 l2 qs o2 => o2 r2 H2 _ .refl rl2 (.cons (q.ev e2) qs)
/-- a tuple is a value; a list that is never changed, too -/
def dTup (d : DA) : DX := fun t S => (d t S).bind fun ws S1 => if ws.length ≤ sizeLine then .ok (.tup ws) S1 else .no
def dLst (d : DA) : DX := fun t S => (d t S).bind fun ws S1 => if ws.length ≤ sizeLine then .ok (.lst ws) S1 else .no
/-- a list that will be changed -/
def dNewL (d : DA) : DX := fun t S => (d t S).bind fun ws S1 => if ws.length ≤ sizeLine then .ok (.ref S1.length) (S1 ++ [.lst ws]) else .no
theorem de_tup {es : List Expr} {x1} {d : DA} {pos : Pos} (h : PA X es (toA G xv Wx d)) : PE X (.Tuple es x1 pos) (toE G xv Wx (dTup d)) := PEi (pe_tup h) fun s H Q ⟨r, t, S, l, rl, o⟩ =>
  toX.bind l rl o fun ws S1 r1 H1 vs _ e1 rl1 l1 q o1 => by
    by_cases hl : ws.length ≤ sizeLine
    · rw [if_pos hl] at o1
      exact ⟨by rw [← q.length]; exact hl, fun p hp => o1 r1 _ _ (Ev.fresh hp rl1) (rl1.fresh hp) (.tup (.inl (Own.new hp rl1)) (q.ev (Ev.fresh hp rl1)))⟩
    · rw [if_neg hl] at o1; exact o1.elim
theorem de_lst {es : List Expr} {d : DA} {pos : Pos} (h : PA X es (toA G xv Wx d)) : PE X (.List es pos) (toE G xv Wx (dLst d)) := PEi (pe_lst h) fun s H Q ⟨r, t, S, l, rl, o⟩ =>
  toX.bind l rl o fun ws S1 r1 H1 vs _ e1 rl1 l1 q o1 => by
    by_cases hl : ws.length ≤ sizeLine
    · rw [if_pos hl] at o1
      exact ⟨by rw [← q.length]; exact hl, fun p hp => o1 r1 _ _ (Ev.fresh hp rl1) (rl1.fresh hp) (.lst (Own.new hp rl1) (q.ev (Ev.fresh hp rl1)))⟩
    · rw [if_neg hl] at o1; exact o1.elim
theorem de_newL {es : List Expr} {d : DA} {pos : Pos} (h : PA X es (toA G xv Wx d)) : PE X (.List es pos) (toE G xv Wx (dNewL d)) := PEi (pe_lst h) fun s H Q ⟨r, t, S, l, rl, o⟩ =>
  toX.bind l rl o fun ws S1 r1 H1 vs _ e1 rl1 l1 q o1 => by
    by_cases hl : ws.length ≤ sizeLine
    · rw [if_pos hl] at o1
      refine ⟨by rw [← q.length]; exact hl, fun p hp => ?_⟩
      refine o1 _ _ _ (Ev.snoc hp) (rl1.snoc hp (.lst q)) ?_
      have := RW.ref (G := G) (H := upd H1 p (.lst vs)) (S := S1 ++ [.lst ws]) (r := put r1 S1.length p) (i := S1.length) (by simp)
      rw [put_same] at this
      exact this
    · rw [if_neg hl] at o1; exact o1.elim
end
end DD
namespace DD
open PySem PySem.Spec PyProof.Rows L2
section
variable {G : Gx} {xv : Nat → Value} {Wx : WX} {X : Cx} {H H' : Hp} {S S' : Sto} {r r' : Rh}
/-! ### statements -/
def R.toF {α : Type} (x : R α) (t : Lo) (k : α → Sto → F) : F :=
  match x with
  | .ok a S => k a S
  | .er c ns ws S => .er c ns ws t S
  | .no => .no
@[simp] theorem R.toF_ok {α : Type} (a : α) (S : Sto) (t : Lo) (k : α → Sto → F) : (R.ok a S).toF t k = k a S := rfl
@[simp] theorem R.toF_er {α : Type} (c : Nat) (ns : List Str) (ws : List W) (S : Sto) (t : Lo) (k : α → Sto → F) : (R.er c ns ws S : R α).toF t k = .er c ns ws t S := rfl
@[simp] theorem R.toF_no {α : Type} (t : Lo) (k : α → Sto → F) : (R.no : R α).toF t k = .no := rfl
theorem toX.bindS {α β : Type} {rel : Hp → Sto → Rh → α → β → Prop} {d : Lo → Sto → R α} {k : α → Sto → F} {t : Lo} {s : L2.St} {Q : β → Hp → Prop} {D : Ends}
    (l : RLo G H S r t s) (rl : Rl G H S r) (o : OutS G xv Wx H S r ((d t S).toF t k) D)
    (h : ∀ a S' r' H' b, d t S = .ok a S' → Ev H S r H' S' r' → Rl G H' S' r' → RLo G H' S' r' t s → rel H' S' r' a b → OutS G xv Wx H' S' r' (k a S') D → Q b H') : toX G xv Wx rel d s H Q := by
  refine ⟨r, t, S, l, rl, ?_⟩
  cases e : d t S with
  | ok a S1 =>
    rw [e, R.toF_ok] at o
    exact fun r1 H1 v e1 l1 q => h a S1 r1 H1 v e e1 l1 (l.ev e1) q (o.from e1)
  | er c ns ws S1 =>
    rw [e] at o
    exact fun r1 H1 d e1 rl1 x => o r1 H1 s d e1 rl1 (l.ev e1) x
  | no =>
    rw [e] at o
    exact o
def F.andThen (x : F) (k : Lo → Sto → F) : F :=
  match x with
  | .nx t S => k t S
  | x => x
def dNext : DS := fun t S => .nx t S
def dSeq (a b : DS) : DS := fun t S => (a t S).andThen b
def dDrop (d : DX) : DS := fun t S => (d t S).toF t fun _ S1 => .nx t S1
def dRet (d : DX) : DS := fun t S => (d t S).toF t fun w S1 => .rt w S1
def dIfS (c : DT) (a b : DS) : DS := fun t S => (c t S).toF t fun k S1 => if k = true then a t S1 else b t S1
theorem dss_nil : PSs X [] (toS G xv Wx dNext) := PSsi pss_nil fun D s H ⟨r, t, S, l, rl, o⟩ => o r H s .refl rl l
theorem dss_cons {st : Stmt} {rest : List Stmt} {a b : DS} (h1 : PS X st (toS G xv Wx a)) (h2 : PSs X rest (toS G xv Wx b)) : PSs X (st :: rest) (toS G xv Wx (dSeq a b)) := PSsi (pss_cons h1 h2) fun D s H ⟨r, t, S, l, rl, o⟩ => by
  refine ⟨r, t, S, l, rl, ?_⟩
  unfold dSeq at o
  cases e : a t S with
  | nx t1 S1 =>
    rw [e] at o
    exact fun r1 H1 s1 e1 rl1 l1 => ⟨r1, t1, S1, l1, rl1, OutS.from e1 o⟩
  | rt w S1 => rw [e] at o; exact o
  | bk t1 S1 => rw [e] at o; exact o
  | ct t1 S1 => rw [e] at o; exact o
  | er c ns ws t1 S1 => rw [e] at o; exact o
  | no => rw [e] at o; exact o
theorem dss_one {st : Stmt} {a : DS} (h1 : PS X st (toS G xv Wx a)) : PSs X [st] (toS G xv Wx a) := pss_one h1
theorem ds_expr {e : Expr} {d : DX} {pos : Pos} (he : PE X e (toE G xv Wx d)) (hs : swapsWith e none pos.line X.env = pure false := by rfl) : PS X (.Expr e pos) (toS G xv Wx (dDrop d)) := PSi (ps_expr he hs) fun D s H ⟨r, t, S, l, rl, o⟩ =>
  toX.bindS l rl o fun w S1 r1 H1 v _ e1 rl1 l1 q o1 => o1 r1 H1 s .refl rl1 l1
theorem ds_ret {e : Expr} {d : DX} {pos : Pos} (he : PE X e (toE G xv Wx d)) : PS X (.Return (some e) pos) (toS G xv Wx (dRet d)) := PSi (ps_ret he) fun D s H ⟨r, t, S, l, rl, o⟩ =>
  toX.bindS l rl o fun w S1 r1 H1 v _ e1 rl1 l1 q o1 => o1 r1 H1 v .refl rl1 q
theorem ds_if {c : Expr} {a b : List Stmt} {dc : DT} {da db : DS} {pos : Pos} (hc : PT X c (toT G xv Wx dc)) (ha : PSs X a (toS G xv Wx da)) (hb : PSs X b (toS G xv Wx db)) : PS X (.If c a b pos) (toS G xv Wx (dIfS dc da db)) := PSi (ps_if hc ha hb) fun D s H ⟨r, t, S, l, rl, o⟩ =>
  toX.bindS l rl o fun k S1 r1 H1 v _ e1 rl1 l1 q o1 => by
    subst q
    cases k with
    | true => exact ⟨r1, t, S1, l1, rl1, o1⟩
    | false => exact ⟨r1, t, S1, l1, rl1, o1⟩
/-! ### targets -/
theorem PGi {e : Expr} {t t' : TG} (h : PG X e t) (i : ∀ v s H Q, t' v s H Q → t v s H Q) : PG X e t' := ⟨fun pins s σ H v u Q I rv q => h.run pins s σ H v u Q I rv (i _ _ _ _ q)⟩
abbrev DGs := List W → Lo → Sto → R Lo
def gN (i : Nat) : DG := fun w t S => .ok (t.set i (some w)) S
def gTp (n : Nat) (gs : DGs) : DG := fun w t S => match w with
  | .tup ws => if ws.length = n then gs ws t S else .no
  | _ => .no
theorem dg_name {i : Nat} {x : Str} {pos : Pos} (c : Cok G X Wx) (hi : X.N[i]? = some x := by rfl) (hx : Loc X.env.scope x := by first | exact Or.inl rfl | exact Or.inr rfl) (hf : X.fn x = true ∨ X.env.scope.names.lookup x = some .local := by first | exact .inl rfl | exact .inr rfl) : PG X (.Name x pos) (toG G xv (gN i)) :=
  PGi (pg_name c.nd hi hx hf) fun v s H Q ⟨r, t, S, w, l, rl, q, o⟩ => o r H _ .refl rl (l.set q i)
/-- target = value -/
def dAsg (d : DX) (g : DG) : DS := fun t S => (d t S).toF t fun w S1 => match g w t S1 with
  | .ok t' S2 => .nx t' S2
  | _ => .no
theorem outG {g : DG} {w : W} {t : Lo} {s : L2.St} {D : Ends} (o : OutS G xv Wx H S r (match g w t S with
  | .ok t' S2 => F.nx t' S2
  | _ => .no) D) : OutE G xv (fun _ _ _ _ => False) (fun H' S' r' t' s' => RLo G H' S' r' t' s') s H S r (g w t S) D.nx := by
  cases e : g w t S with
  | ok t' S2 => rw [e] at o; exact o
  | er c ns ws S2 => rw [e] at o; exact o.elim
  | no => rw [e] at o; exact o.elim
theorem ds_asg {tg e : Expr} {d : DX} {g : DG} {pos : Pos} (he : PE X e (toE G xv Wx d)) (hg : PG X tg (toG G xv g)) (hs : swapsWithSole [tg] e pos.line X.env = pure false := by rfl) (hw : swappedStores [tg] e X.env = pure none := by rfl)
    (h1 : (assignEach [tg] X.env).map (·.2) = [assign tg X.env] := by rfl) : PS X (.Assign [tg] e pos) (toS G xv Wx (dAsg d g)) := PSi (ps_asg he hg hs hw h1) fun D s H ⟨r, t, S, l, rl, o⟩ =>
  toX.bindS l rl o fun w S1 r1 H1 v _ e1 rl1 l1 q o1 => ⟨r1, t, S1, w, l1, rl1, q, outG o1⟩
theorem ds_set {i : Nat} {x : Str} {e : Expr} {d : DX} {pos pos' : Pos} (c : Cok G X Wx) (he : PE X e (toE G xv Wx d)) (hi : X.N[i]? = some x := by rfl) (hx : Loc X.env.scope x := by first | exact Or.inl rfl | exact Or.inr rfl) (hs : swapsWith e (some (.Name x pos')) pos.line X.env = pure false := by rfl) (hf : X.fn x = true ∨ X.env.scope.names.lookup x = some .local := by first | exact .inl rfl | exact .inr rfl) :
    PS X (.Assign [.Name x pos'] e pos) (toS G xv Wx (dAsg d (gN i))) := PSi (ps_set c.nd hi hx he hs hf) fun D s H ⟨r, t, S, l, rl, o⟩ =>
  toX.bindS l rl o fun w S1 r1 H1 v _ e1 rl1 l1 q o1 => o1 r1 H1 _ .refl rl1 (l1.set q i)
/-- a, b = x, y -/
def dPar (i j : Nat) (d : DA) : DS := fun t S => (d t S).toF t fun ws S1 => match ws with
  | [a, b] => .nx ((t.set i (some a)).set j (some b)) S1
  | _ => .no
/-! ### while -/
/-! ### for -/
/-- the walked thing yields the values ws, one after another, whatever happens meanwhile -/
structure ItOk (G : Gx) (H : Hp) (S : Sto) (r : Rh) (J : It) (ws : List W) : Prop where
  go : ∀ H1 S1 r1, Mp H S r H1 S1 r1 → Rl G H1 S1 r1 → ∀ i w, ws[i]? = some w → J.go i H1
  yld : ∀ H1 S1 r1, Mp H S r H1 S1 r1 → Rl G H1 S1 r1 → ∀ i w, ws[i]? = some w → ∀ x H2, J.yld i H1 x H2 → Ev H1 S1 r1 H2 S1 r1 ∧ Rl G H2 S1 r1 ∧ RW G H2 S1 r1 w x
  stop : ∀ H1 S1 r1, Mp H S r H1 S1 r1 → Rl G H1 S1 r1 → ∀ i, ws.length ≤ i → J.stop i H1
abbrev toI (G : Gx) (xv : Nat → Value) (Wx : WX) (d : DA) : TI := toX G xv Wx (fun H S r w J => ItOk G H S r J w) d
theorem PIi {tg e : Expr} {t t' : TI} (h : PI X tg e t) (i : ∀ s H Q, t' s H Q → t s H Q) : PI X tg e t' := ⟨fun pins s σ H Q I q => h.run pins s σ H Q I (i _ _ _ q)⟩
def forL (g : DG) (b : DS) : List W → Lo → Sto → F
  | [], t, S => .nx t S
  | w :: ws, t, S => match g w t S with
    | .ok t1 S1 => match b t1 S1 with
      | .nx t2 S2 => forL g b ws t2 S2
      | .ct t2 S2 => forL g b ws t2 S2
      | .bk t2 S2 => .nx t2 S2
      | x => x
    | _ => .no
def dFor (d : DA) (g : DG) (b : DS) : DS := fun t S => (d t S).toF t fun ws S1 => forL g b ws t S1
theorem ds_for {tg iter : Expr} {body : List Stmt} {d : DA} {g : DG} {db : DS} {pos : Pos} (k : Cok G X Wx) (hi : PI X tg iter (toI G xv Wx d)) (hg : PG X tg (toG G xv g)) (hb : PSs X body (toS G xv Wx db))
    (hs : ∀ x, foldedSetIterable iter X.env x = pure x := by intro _; rfl) : PS X (.For tg iter body [] pos) (toS G xv Wx (dFor d g db)) := PSi (ps_for k.po k.calm hi hg hb hs) fun D s H ⟨r, t, S, l, rl, o⟩ => by
  refine toX.bindS l rl o fun ws S1 r1 H1 J _ e1 rl1 l1 q o1 => ?_
  refine ⟨fun i m s2 H2 => ∃ r2 t2 S2, m + i = ws.length ∧ Ev H1 S1 r1 H2 S2 r2 ∧ Rl G H2 S2 r2 ∧ RLo G H2 S2 r2 t2 s2 ∧ OutS G xv Wx H2 S2 r2 (forL g db (ws.drop i) t2 S2) D, ⟨ws.length, r1, t, S1, rfl, .refl, rl1, l1, o1⟩, ?_⟩
  rintro i m s2 H2 ⟨r2, t2, S2, hm, e2, rl2, l2, o2⟩
  by_cases hi : i < ws.length
  · have hw : ws[i]? = some ws[i] := List.getElem?_eq_getElem hi
    rw [List.drop_eq_getElem_cons hi] at o2
    unfold forL at o2
    refine .inr ⟨q.go H2 S2 r2 e2.mp rl2 i _ hw, fun s3 H3 => ∃ r3 t3 S3, Ev H1 S1 r1 H3 S3 r3 ∧ Rl G H3 S3 r3 ∧ RLo G H3 S3 r3 t3 s3 ∧ OutS G xv Wx H3 S3 r3 (forL g db (ws.drop (i + 1)) t3 S3) D, fun s3 H3 ⟨r3, t3, S3, e3, rl3, l3, o3⟩ => ⟨m - 1, by omega, r3, t3, S3, by omega, e3, rl3, l3, o3⟩, fun x H3 hy => ?_⟩
    obtain ⟨e3, rl3, qx⟩ := q.yld H2 S2 r2 e2.mp rl2 i _ hw x H3 hy
    refine ⟨r2, t2, S2, ws[i], l2.ev e3, rl3, qx, ?_⟩
    have o3 := OutS.from e3 o2
    cases eg : g ws[i] t2 S2 with
    | er c ns us S4 => rw [eg] at o3; exact o3.elim
    | no => rw [eg] at o3; exact o3.elim
    | ok t4 S4 =>
      simp only [eg] at o3
      refine fun r4 H4 s4 e4 rl4 l4 => ⟨r4, t4, S4, l4, rl4, ?_⟩
      have o4 := OutS.from e4 o3
      cases eb : db t4 S4 with
      | nx t5 S5 => rw [eb] at o4; exact fun r5 H5 s5 e5 rl5 l5 => ⟨r5, t5, S5, ((e2.trans e3).trans e4).trans e5, rl5, l5, OutS.from e5 o4⟩
      | ct t5 S5 => rw [eb] at o4; exact fun r5 H5 s5 e5 rl5 l5 => ⟨r5, t5, S5, ((e2.trans e3).trans e4).trans e5, rl5, l5, OutS.from e5 o4⟩
      | bk t5 S5 => rw [eb] at o4; exact o4
      | rt w S5 => rw [eb] at o4; exact o4
      | er c ns us t5 S5 => rw [eb] at o4; exact o4
      | no => rw [eb] at o4; exact o4
  · have hl : ws.length ≤ i := Nat.le_of_not_lt hi
    rw [List.drop_eq_nil_of_le hl] at o2
    exact .inl ⟨q.stop H2 S2 r2 e2.mp rl2 i hl, o2 r2 H2 s2 .refl rl2 l2⟩
theorem itl {a : Addr} {ws : List W} {vs : List V} (hs : ∀ H1 S1 r1, Mp H S r H1 S1 r1 → SqL G.K H1 a vs) (q : RWs G H S r ws vs) : ItOk G H S r (Itl G.K a) ws where
  go := fun H1 S1 r1 e rl i w hw => by
    obtain ⟨v, h1, _⟩ := q.get hw
    exact ⟨vs, v, hs H1 S1 r1 e, h1⟩
  yld := fun H1 S1 r1 e rl i w hw x H2 hy => by
    obtain ⟨v, h1, h2⟩ := q.get hw
    obtain ⟨rfl, f⟩ := hy
    have := f vs (hs _ S1 r1 e)
    rw [h1] at this
    cases this
    exact ⟨.refl, rl, h2.mp e⟩
  stop := fun H1 S1 r1 e rl i hi => ⟨vs, hs H1 S1 r1 e, by rw [← q.length]; exact hi⟩
theorem itt {a : Addr} {ws : List W} {vs : List V} (ta : TupAt G H S r a vs) (q : RWs G H S r ws vs) : ItOk G H S r (Itt G.K a) ws where
  go := fun H1 S1 r1 e rl i w hw => by
    obtain ⟨v, h1, _⟩ := q.get hw
    exact ⟨vs, v, (ta.mp e).sq, h1⟩
  yld := fun H1 S1 r1 e rl i w hw x H2 hy => by
    obtain ⟨v, h1, h2⟩ := q.get hw
    obtain ⟨rfl, f⟩ := hy
    have := f vs (ta.mp e).sq
    rw [h1] at this
    cases this
    exact ⟨.refl, rl, h2.mp e⟩
  stop := fun H1 S1 r1 e rl i hi => ⟨vs, (ta.mp e).sq, by rw [← q.length]; exact hi⟩
end
end DD
namespace DD
open PySem PySem.Spec PyProof.Rows L2
section
variable {G : Gx} {xv : Nat → Value} {Wx : WX} {X : Cx} {H H' : Hp} {S S' : Sto} {r r' : Rh}
/-- no exception is let out -/
abbrev W0 : WX := fun _ _ _ _ => False
theorem Cok.blk (k : Cok G X Wx) (s : Shared) (H : Hp) (scope : Scope) (cenv : Env) (fp : List Addr) : Cok G (X.blk s H scope cenv fp) W0 :=
  ⟨k.kk, k.ww, fun _ _ ⟨_, _, _, _, _, _, _, _, _, _, _, _, _, _, _, _, w⟩ => w.elim, PassesOwn.never, k.calm, k.nd⟩
/-! ### comprehensions -/
def wipeW (t : Lo) : List Nat → Lo
  | [] => t
  | v :: vs => (wipeW t vs).set v none
theorem RLo.wipe {t : Lo} {s : L2.St} (q : RLo G H S r t s) : ∀ vs : List Nat, RLo G H S r (wipeW t vs) (wipe s vs)
  | [] => q
  | v :: vs => (q.wipe vs).unset v
theorem wipe_set {i : Nat} {v : Option V} : ∀ {vs : List Nat} {s : L2.St}, i ∈ vs → wipe (s.set i v) vs = wipe s vs
  | [], s, h => by simp at h
  | k :: vs, s, h => by
    unfold wipe
    by_cases hk : i = k
    · subst hk
      by_cases hi : i ∈ vs
      · rw [wipe_set hi]
      · have : ∀ (us : List Nat) (s : L2.St), i ∉ us → wipe (s.set i v) us = (wipe s us).set i v := by
          intro us
          induction us with
          | nil => intro s _; rfl
          | cons u us ih =>
            intro s hu
            simp only [List.mem_cons, not_or] at hu
            unfold wipe
            rw [ih s hu.2, List.set_comm _ _ hu.1]
        rw [this vs s hi, List.set_set]
    · rw [wipe_set ((List.mem_cons.mp h).resolve_left hk)]
theorem wipe_comm {v : Nat} : ∀ {vs : List Nat} {s : L2.St}, wipe (s.set v none) vs = (wipe s vs).set v none
  | [], s => rfl
  | k :: vs, s => by
    unfold wipe
    rw [wipe_comm]
    by_cases h : v = k
    · subst h; rfl
    · rw [List.set_comm _ _ h]
theorem wipe_wipe : ∀ {vs : List Nat} {s : L2.St}, wipe (wipe s vs) vs = wipe s vs
  | [], s => rfl
  | k :: vs, s => by
    show (wipe ((wipe s vs).set k none) vs).set k none = (wipe s vs).set k none
    rw [wipe_comm, wipe_wipe, List.set_set]
/-- the places of a target that is a name or a flat tuple of names -/
inductive Tg where
  | nm (i : Nat) | tp (is : List Nat) | sq (is : List Nat)
def gNs : List Nat → TGs
  | [] => gNil
  | i :: is => gCons (gName i) (gNs is)
def Tg.toTG (K : PySem.W.Frag) : Tg → TG
  | .nm i => gName i
  | .tp is => gTup K is.length (gNs is)
  | .sq is => fun v s H Q => gTup K is.length (gNs is) v s H Q ∨ gUnl K is.length (gNs is) v s H Q
def Tg.places : Tg → List Nat
  | .nm i => [i]
  | .tp is => is
  | .sq is => is
def setAll : Lo → List Nat → List W → Lo
  | t, i :: is, w :: ws => setAll (t.set i (some w)) is ws
  | t, _, _ => t
def Tg.put : Tg → W → Lo → Option Lo
  | .nm i, w, t => some (t.set i (some w))
  | .tp is, .tup ws, t => if ws.length = is.length then some (setAll t is ws) else none
  | .tp _, _, _ => none
  | .sq is, .tup ws, t => if ws.length = is.length then some (setAll t is ws) else none
  | .sq is, .lst ws, t => if ws.length = is.length then some (setAll t is ws) else none
  | .sq _, _, _ => none
theorem gNs_ok {vs : List Nat} {Q : L2.St → Hp → Prop} : ∀ {is : List Nat} {ws : List W} {xs : List V} {t : Lo} {s : L2.St}, (∀ i ∈ is, i ∈ vs) → RWs G H S r ws xs → RLo G H S r t s → ws.length = is.length → (∀ s', RLo G H S r (setAll t is ws) s' → wipe s' vs = wipe s vs → Q s' H) → gNs is xs s H Q
  | [], [], _, t, s, _, .nil, l, _, h => ⟨rfl, h s l rfl⟩
  | i :: is, w :: ws, _, t, s, hi, .cons a q, l, hl, h => by
    refine ⟨_, _, rfl, ?_⟩
    refine gNs_ok (fun j hj => hi j (List.mem_cons_of_mem _ hj)) q (l.set a i) (by simpa using hl) fun s' l' hw => h s' l' ?_
    rw [hw, wipe_set (hi i (List.mem_cons_self ..))]
  | [], _ :: _, _, _, _, _, _, _, hl, _ => by simp at hl
  | _ :: _, [], _, _, _, _, _, _, hl, _ => by simp at hl
theorem Tg.ok {vs : List Nat} {Q : L2.St → Hp → Prop} {g : Tg} {w : W} {x : V} {t t' : Lo} {s : L2.St} (hi : ∀ i ∈ g.places, i ∈ vs) (q : RW G H S r w x) (l : RLo G H S r t s) (e : g.put w t = some t')
    (h : ∀ s', RLo G H S r t' s' → wipe s' vs = wipe s vs → Q s' H) : g.toTG G.K x s H Q := by
  cases g with
  | nm i =>
    cases e
    exact h _ (l.set q i) (wipe_set (hi i (List.mem_cons_self ..)))
  | tp is =>
    cases w with
    | tup ws =>
      cases q with
      | @tup a _ xs ta q =>
        simp only [Tg.put] at e
        split at e
        · rename_i hl
          cases e
          exact ⟨a, xs, rfl, ta.sq, by rw [← q.length]; exact hl, gNs_ok hi q l hl h⟩
        · cases e
    | _ => cases e
  | sq is =>
    cases w with
    | tup ws =>
      cases q with
      | @tup a _ xs ta q =>
        simp only [Tg.put] at e
        split at e
        · rename_i hl
          cases e
          exact .inl ⟨a, xs, rfl, ta.sq, by rw [← q.length]; exact hl, gNs_ok hi q l hl h⟩
        · cases e
    | lst ws =>
      cases q with
      | @lst a _ xs ow q =>
        simp only [Tg.put] at e
        split at e
        · rename_i hl
          cases e
          exact .inr ⟨a, xs, rfl, .inl (.inl ow.1), by rw [← q.length]; exact hl, gNs_ok hi q l hl h⟩
        · cases e
    | _ => cases e
def lcL (g : Tg) (tt : DT) (te : DX) (t0 : Lo) : List W → List W → Sto → R W
  | [], acc, S => .ok (.lst acc) S
  | w :: ws, acc, S => match g.put w t0 with
    | some t1 => match tt t1 S with
      | .ok true S2 => match te t1 S2 with
        | .ok x S3 => if acc.length < sizeLine then lcL g tt te t0 ws (acc ++ [x]) S3 else .no
        | _ => .no
      | .ok false S2 => lcL g tt te t0 ws acc S2
      | _ => .no
    | none => .no
def dLc (d : DA) (g : Tg) (tt : DT) (te : DX) (vs : List Nat) : DX := fun t S => (d t S).bind fun ws S1 => lcL g tt te (wipeW t vs) ws [] S1
theorem toLc {d : DA} {g : Tg} {tt : DT} {te : DX} {vs : List Nat} (hv : ∀ i ∈ g.places, i ∈ vs) (s : L2.St) (H : Hp) (Q : VK) : toE G xv Wx (dLc d g tt te vs) s H Q → tLc (toI G xv Wx d) (g.toTG G.K) (toT G xv W0 tt) (toE G xv W0 te) vs s H Q := by
  rintro ⟨r, t, S, l, rl, o⟩
  refine toX.bind l rl o fun ws S1 r1 H1 J _ e1 rl1 l1 q o1 => ?_
  intro D hD
  obtain ⟨f1, z1⟩ := r1
  have hz1 : ¬ z1 D := fun z => by
    obtain ⟨u, h⟩ := rl1.zs D z
    rw [hD] at h; cases h
  have sub : ∀ a, z1 a → (z1 a ∨ a = D) := fun a h => .inl h
  -- from the base into a state with D
  have inn : ∀ {H2 : Hp} {S2 : Sto} {f2 : Nat → Addr}, Ev H1 S1 ⟨f1, z1⟩ H2 S2 ⟨f2, z1⟩ → Mp H1 S1 ⟨f1, z1⟩ H2 S2 ⟨f2, fun a => z1 a ∨ a = D⟩ := fun {H2 S2 f2} e2 =>
    ⟨fun a u ow k => ⟨(ow.ev e2 k.nt).1, fun lv => by
      rcases lv with lv | lv | lv
      · exact (ow.ev e2 k.nt).2 (.inl lv)
      · exact (ow.ev e2 k.nt).2 (.inr lv)
      · exact ne_of_none ow.1 hD lv⟩, e2.rho, e2.len⟩
  refine ⟨fun i m H2 => ∃ (f2 : Nat → Addr) (S2 : Sto) (acc : List W) (av : List V), m + i = ws.length ∧ Ev H1 S1 ⟨f1, z1⟩ H2 S2 ⟨f2, z1⟩ ∧ Rl G H2 S2 ⟨f2, fun a => z1 a ∨ a = D⟩ ∧ H2 D = some (.lst av) ∧ RWs G H2 S2 ⟨f2, fun a => z1 a ∨ a = D⟩ acc av ∧
      OutE G xv Wx (fun H S r w v => RW G H S r w v) s H1 S1 ⟨f1, z1⟩ (lcL g tt te (wipeW t vs) (ws.drop i) acc S2) Q,
    ⟨ws.length, f1, S1, [], [], rfl, Ev.fresh hD rl1, rl1.add hD, upd_same, .nil, o1⟩, ?_⟩
  rintro i m H2 ⟨f2, S2, acc, av, hm, e2, rl2, d2, qa, o2⟩
  by_cases hi : i < ws.length
  · have hw : ws[i]? = some ws[i] := List.getElem?_eq_getElem hi
    rw [List.drop_eq_getElem_cons hi] at o2
    unfold lcL at o2
    refine .inr ⟨q.go H2 S2 _ (inn e2) rl2 i _ hw, fun H3 => ∃ (f3 : Nat → Addr) (S3 : Sto) (acc : List W) (av : List V), Ev H1 S1 ⟨f1, z1⟩ H3 S3 ⟨f3, z1⟩ ∧ Rl G H3 S3 ⟨f3, fun a => z1 a ∨ a = D⟩ ∧ H3 D = some (.lst av) ∧ RWs G H3 S3 ⟨f3, fun a => z1 a ∨ a = D⟩ acc av ∧
      OutE G xv Wx (fun H S r w v => RW G H S r w v) s H1 S1 ⟨f1, z1⟩ (lcL g tt te (wipeW t vs) (ws.drop (i + 1)) acc S3) Q, fun H3 ⟨f3, S3, acc, av, a1, a2, a3, a4, a5⟩ => ⟨m - 1, by omega, f3, S3, acc, av, by omega, a1, a2, a3, a4, a5⟩, fun x H3 hy => ?_⟩
    obtain ⟨e3, rl3, qx⟩ := q.yld H2 S2 _ (inn e2) rl2 i _ hw x H3 hy
    have b3 : Ev H1 S1 ⟨f1, z1⟩ H3 S2 ⟨f2, z1⟩ := e2.trans (e3.less rl3 sub)
    have d3 : H3 D = some (.lst av) := e3.kz D _ d2 (.inr rfl)
    have l3 : RLo G H3 S2 ⟨f2, fun a => z1 a ∨ a = D⟩ (wipeW t vs) (wipe s vs) := (l1.mp (inn b3)).wipe vs
    cases eg : g.put ws[i] (wipeW t vs) with
    | none => rw [eg] at o2; exact o2.elim
    | some t4 =>
      simp only [eg] at o2
      refine Tg.ok hv qx l3 eg fun s4 l4 w4 => ⟨by rw [w4, wipe_wipe], _, t4, S2, l4, rl3, ?_⟩
      cases et : tt t4 S2 with
      | er c ns us S5 => simp only [et] at o2; exact o2.elim
      | no => simp only [et] at o2; exact o2.elim
      | ok k S5 =>
        rintro ⟨f5, z5⟩ H5 k' e5 rl5 rfl
        have hz5 : z5 = fun a => z1 a ∨ a = D := e5.zz
        subst hz5
        have b5 : Ev H1 S1 ⟨f1, z1⟩ H5 S5 ⟨f5, z1⟩ := b3.trans (e5.less rl5 sub)
        have d5 : H5 D = some (.lst av) := e5.kz D _ d3 (.inr rfl)
        have qa5 := (qa.ev e3).ev e5
        cases k with
        | false =>
          simp only [et] at o2
          rw [if_neg Bool.false_ne_true]
          exact ⟨f5, S5, acc, av, b5, rl5, d5, qa5, o2⟩
        | true =>
          simp only [et] at o2
          rw [if_pos rfl]
          refine ⟨_, t4, S5, l4.ev e5, rl5, ?_⟩
          cases ee : te t4 S5 with
          | er c ns us S6 => simp only [ee] at o2; exact o2.elim
          | no => simp only [ee] at o2; exact o2.elim
          | ok y S6 =>
            simp only [ee] at o2
            rintro ⟨f6, z6⟩ H6 v e6 rl6 qy
            have hz6 : z6 = fun a => z1 a ∨ a = D := e6.zz
            subst hz6
            have b6 : Ev H1 S1 ⟨f1, z1⟩ H6 S6 ⟨f6, z1⟩ := b5.trans (e6.less rl6 sub)
            have d6 : H6 D = some (.lst av) := e6.kz D _ d5 (.inr rfl)
            have qa6 := qa5.ev e6
            have hl : av.length = acc.length := qa6.length.symm
            by_cases hs : acc.length < sizeLine
            · rw [if_pos hs] at o2
              have mp : Mp H6 S6 ⟨f6, fun a => z1 a ∨ a = D⟩ (upd H6 D (.lst (av ++ [v]))) S6 ⟨f6, fun a => z1 a ∨ a = D⟩ := Mp.poke (.inr rfl)
              exact ⟨av, d6, by rw [hl]; exact hs, f6, S6, acc ++ [y], av ++ [v], b6.poke hD, rl6.poke (.inr rfl), upd_same, (qa6.mp mp).snoc (qy.mp mp), o2⟩
            · rw [if_neg hs] at o2; exact o2.elim
  · have hl : ws.length ≤ i := Nat.le_of_not_lt hi
    rw [List.drop_eq_nil_of_le hl] at o2
    refine .inl ⟨q.stop H2 S2 _ (inn e2) rl2 i hl, o2 ⟨f2, z1⟩ H2 _ e2 (rl2.less sub) (.lst ⟨d2, ?_⟩ (qa.mp (.less sub)))⟩
    rintro (⟨j, u, e, d, z⟩ | z)
    · exact rl2.dz j u e d (.inr z)
    · exact hz1 z
def dYes : DT := fun _ S => .ok true S
theorem dts_nil : PTs X [] (toT G xv Wx dYes) := ⟨fun pins s σ H Q I h => pts_nil.run pins s σ H Q I (by
  obtain ⟨r, t, S, l, rl, o⟩ := h
  exact o r H true .refl rl rfl)⟩
/-! ### what is walked -/
def intsFrom (lo : Int) : Nat → List W
  | 0 => []
  | n + 1 => .int lo :: intsFrom (lo + 1) n
theorem intsFrom_length : ∀ (n : Nat) (lo : Int), (intsFrom lo n).length = n
  | 0, _ => rfl
  | n + 1, lo => congrArg Nat.succ (intsFrom_length n (lo + 1))
theorem intsFrom_get : ∀ (n : Nat) (lo : Int) (i : Nat) (w : W), (intsFrom lo n)[i]? = some w → i < n ∧ w = .int (lo + i)
  | 0, _, _, _, e => by simp [intsFrom] at e
  | n + 1, lo, 0, w, e => by
    simp [intsFrom] at e; subst e
    exact ⟨Nat.succ_pos n, by simp⟩
  | n + 1, lo, i + 1, w, e => by
    simp only [intsFrom, List.getElem?_cons_succ] at e
    obtain ⟨h1, h2⟩ := intsFrom_get n (lo + 1) i w e
    refine ⟨Nat.succ_lt_succ h1, ?_⟩
    rw [h2]
    congr 1
    omega
theorem itr {lo : Int} {n : Nat} : ItOk G H S r (Itr lo n) (intsFrom lo n) where
  go := fun H1 S1 r1 e rl i w hw => (intsFrom_get n lo i w hw).1
  yld := fun H1 S1 r1 e rl i w hw x H2 hy => by
    obtain ⟨rfl, rfl⟩ := hy
    obtain ⟨_, rfl⟩ := intsFrom_get n lo i w hw
    exact ⟨.refl, rl, .int _⟩
  stop := fun H1 S1 r1 e rl i hi => by rw [intsFrom_length] at hi; exact hi
def dRange1 (d : DA) : DA := fun t S => (d t S).bind fun ws S1 => match ws with
  | [.int j] => if -(2 ^ 62) ≤ j ∧ j < 2 ^ 62 then .ok (intsFrom 0 j.toNat) S1 else .no
  | _ => .no
theorem di_range1 {tg a : Expr} {d : DA} {p pos : Pos} (ha : PA X [a] (toA G xv Wx d)) (hm : X.mg "range" = none) (hg : Gl X "range" := by rfl) (hs : starEach [a] X.env = [(false, eval a X.env)] := by rfl) : PI X tg (.Call (.Name "range" p) [a] [] pos) (toI G xv Wx (dRange1 d)) :=
  PIi (pi_range1 hg hm ha hs) fun s H Q ⟨r, t, S, l, rl, o⟩ => toX.bind l rl o fun ws S1 r1 H1 vs _ e1 rl1 l1 q o1 => by
    cases q with
    | nil => exact o1.elim
    | cons a q =>
      cases q with
      | nil =>
        cases a with
        | int j =>
          simp only [] at o1
          split at o1
          · rename_i h
            exact ⟨j, rfl, h.1, h.2, o1 r1 H1 _ .refl rl1 itr⟩
          · exact o1.elim
        | _ => exact o1.elim
      | cons _ _ => cases a <;> exact o1.elim
end
end DD
namespace DD
open PySem PySem.Spec PyProof.Rows L2
abbrev Fn := List W → Sto → R W
section
variable {G : Gx} {xv : Nat → Value} {Wx : WX} {X : Cx} {H H' : Hp} {S S' : Sto} {r r' : Rh}
/-! ### cutting what a call has left behind -/
/-- what stood ahead has no hold on what is newer -/
def GcS (S S' : Sto) : Prop := S.length ≤ S'.length ∧ ∀ i, i < S.length → S'[i]? = S[i]? ∨ ∃ o, S'[i]? = some o ∧ lowO S.length o = true
open Classical in
noncomputable def gcR (S : Sto) (x : R W) : R W :=
  match x with
  | .ok w S' => if GcS S S' ∧ lowW S.length w = true then .ok w (S'.take S.length) else .no
  | .er c ns ws S' => if GcS S S' ∧ lowL S.length ws = true then .er c ns ws (S'.take S.length) else .no
  | .no => .no
theorem GcS.low (g : GcS S S') (rl : Rl G H S r) : ∀ i o, i < S.length → S'[i]? = some o → lowO S.length o = true := fun i o hi e => by
  rcases g.2 i hi with z | ⟨u, e1, l⟩
  · rw [e] at z
    exact rl.low z.symm
  · rw [e] at e1; cases e1; exact l
theorem Xd.cut {n : Nat} {d : Option Addr} {ns : List Str} {ws : List W} (x : Xd G H S r d ns ws) (hn : n ≤ S.length) (l : lowL n ws = true) : Xd G H (S.take n) r d ns ws := by
  rcases x with x | ⟨a, vs, h1, h2, h3, h4⟩
  · exact .inl x
  · exact .inr ⟨a, vs, h1, h2.cut, h3, h4.cut hn l⟩
theorem outGc {s : L2.St} {x : R W} {Q : VK} (rl : Rl G H S r) (o : OutE G xv Wx (fun H S r w v => RW G H S r w v) s H S r (gcR S x) Q) : OutE G xv Wx (fun H S r w v => RW G H S r w v) s H S r x Q := by
  cases x with
  | no => exact o
  | ok w S1 =>
    unfold gcR at o
    simp only [] at o
    split at o
    · rename_i g
      exact fun r1 H1 v e1 rl1 q => o r1 H1 v (e1.cut (Nat.le_refl _) g.1.1) (rl1.cut g.1.1 (g.1.low rl)) (q.cut g.1.1 g.2)
    · exact o.elim
  | er c ns ws S1 =>
    unfold gcR at o
    simp only [] at o
    split at o
    · rename_i g
      exact fun r1 H1 d e1 rl1 q => o r1 H1 d (e1.cut (Nat.le_refl _) g.1.1) (rl1.cut g.1.1 (g.1.low rl)) (q.cut g.1.1 g.2)
    · exact o.elim
/-! ### defs -/
def dFn (n : Nat) (b : DS) : Fn := fun ws S => match b (ws.map some ++ List.replicate (n - ws.length) none) S with
  | .nx _ S1 => .ok .non S1
  | .rt w S1 => .ok w S1
  | .er c ns us _ S1 => .er c ns us S1
  | _ => .no
noncomputable def gcF (f : Fn) : Fn := fun ws S => gcR S (f ws S)
def spF (G : Gx) (xv : Nat → Value) (n : Nat) (fn : Fn) : Sp := fun vs H Q E => vs.length = n ∧ ∃ r S ws, RWs G H S r ws vs ∧ Rl G H S r ∧ OutE G xv (fun c d _ H => E c d H) (fun H S r w v => RW G H S r w v) [] H S r (fn ws S) Q
/-- a def as its callers see it -/
structure DefOk (P : Program) (w : World) (K : PySem.W.Frag) (mg : Str → Option Value) (base : Heap) (G : Gx) (xv : Nat → Value) (f : Addr) (k : Nat) (n : Nat) (fn : Fn) : Prop where
  ex : ∃ (fd : FuncData) (ps : List Str), ps.length = n ∧ FnOk P w K mg base (L2.CX P w) k f fd ps (spF G xv n fn) ∧ Binds K fd ps []
  kp : PySem.W.keepIn K (.ref f) = true
theorem DefOk.mono {P : Program} {w : World} {K : PySem.W.Frag} {mg : Str → Option Value} {base : Heap} {f : Addr} {j k n : Nat} {fn : Fn} (h : DefOk P w K mg base G xv f j n fn) (le : j ≤ k) : DefOk P w K mg base G xv f k n fn :=
  ⟨let ⟨fd, ps, a, b, c⟩ := h.ex; ⟨fd, ps, a, b.mono le, c⟩, h.kp⟩
theorem DefOk.gc {P : Program} {w : World} {K : PySem.W.Frag} {mg : Str → Option Value} {base : Heap} {f : Addr} {k n : Nat} {fn : Fn} (h : DefOk P w K mg base G xv f k n fn) : DefOk P w K mg base G xv f k n (gcF fn) :=
  ⟨let ⟨fd, ps, a, b, c⟩ := h.ex; ⟨fd, ps, a, b.imp fun vs H Q E ⟨l, r, S, ws, q, rl, o⟩ => ⟨l, r, S, ws, q, rl, outGc rl o⟩, c⟩, h.kp⟩
theorem outFn {b : DS} {n : Nat} {ws : List W} {Q : VK} {E : XK} (o : OutE G xv (fun c d _ H => E c d H) (fun H S r w v => RW G H S r w v) [] H S r (dFn n b ws S) Q) :
    OutS G xv (fun c d _ H => E c d H) H S r (b (ws.map some ++ List.replicate (n - ws.length) none) S) { nx := fun _ H' => Q .non H', rt := Q } := by
  unfold dFn at o
  generalize b (ws.map some ++ List.replicate (n - ws.length) none) S = x at o
  cases x with
  | nx t S1 => exact fun r1 H1 s e rl l => o r1 H1 _ e rl .non
  | rt w S1 => exact o
  | bk t S1 => exact o.elim
  | ct t S1 => exact o.elim
  | er c ns us t S1 => exact fun r1 H1 s d e rl l x => o r1 H1 d e rl x
  | no => exact o.elim
theorem fn_ok {P : Program} {w : World} {K : PySem.W.Frag} {mg : Str → Option Value} {base : Heap} {cm : Nat → Addr} {TB : List (Addr × Str)} {lm : Option Addr} {li : Option LI} {x qual : Str} {params : Arguments} {body : List Stmt} {scope : Scope} {dvs : List V} {kws : List (Str × V)} {f : Addr} {fd : FuncData} {N ps : List Str} {k : Nat} {d : DS}
    (F : FunD K x qual params body scope dvs kws f fd) (Sc : FnScope N ps scope)
    (hd : ∀ (cdv : Value) (A : Around) (outer : List Env) (s : Shared) (H : Hp) (E : XK), Room k (A.deeper (envOfC qual scope s.heap.objs.size f cdv)) → Cok ⟨K, cm, w, TB, lm, li⟩ (cxOf (L2.CX P w) P w K mg base N qual scope f cdv A outer s H E) (fun c d _ H => E c d H) →
      PSs (cxOf (L2.CX P w) P w K mg base N qual scope f cdv A outer s H E) body (toS ⟨K, cm, w, TB, lm, li⟩ xv (fun c d _ H => E c d H) d)) : FnOk P w K mg base (L2.CX P w) (k + 1) f fd ps (spF ⟨K, cm, w, TB, lm, li⟩ xv ps.length (dFn N.length d)) := by
  refine F.ok Sc (fun vs H Q E h => h.1) fun cdv A outer s H vs Q E hr ⟨l, r, S, ws, q, rl, o⟩ => ⟨_, hd cdv A outer s H E hr ⟨rfl, rfl, takes_of rfl rfl rfl rfl, passes_of rfl, rfl, Sc.nd⟩, r, _, S, ?_, rl, outFn o⟩
  have : ws.length = vs.length := q.length
  unfold L2.start
  rw [← this]
  exact RLo.vals _ q
theorem def_ok {P : Program} {w : World} {K : PySem.W.Frag} {mg : Str → Option Value} {base : Heap} {cm : Nat → Addr} {TB : List (Addr × Str)} {lm : Option Addr} {li : Option LI} {x qual : Str} {params : Arguments} {body : List Stmt} {scope : Scope} {kws : List (Str × V)} {f : Addr} {fd : FuncData} {N ps : List Str} {k : Nat} {d : DS}
    (F : FunD K x qual params body scope [] kws f fd) (Sc : FnScope N ps scope)
    (hb : ∀ (kV doc pm : Value) (an : Option Addr) (cdv ct : Value) (us : List Value), us.length = ps.length → bindArgs (PySem.W.fnOf x qual params body scope .none kV doc pm an cdv ct) ⟨us, []⟩ = pure (ps.zip us))
    (hd : ∀ (cdv : Value) (A : Around) (outer : List Env) (s : Shared) (H : Hp) (E : XK), Room k (A.deeper (envOfC qual scope s.heap.objs.size f cdv)) → Cok ⟨K, cm, w, TB, lm, li⟩ (cxOf (L2.CX P w) P w K mg base N qual scope f cdv A outer s H E) (fun c d _ H => E c d H) →
      PSs (cxOf (L2.CX P w) P w K mg base N qual scope f cdv A outer s H E) body (toS ⟨K, cm, w, TB, lm, li⟩ xv (fun c d _ H => E c d H) d)) : DefOk P w K mg base ⟨K, cm, w, TB, lm, li⟩ xv f (k + 1) ps.length (dFn N.length d) :=
  ⟨⟨fd, ps, rfl, fn_ok F Sc hd, F.bindsN hb⟩, F.kp⟩
/-! ### calls -/
def dCall (fn : Fn) (d : DA) : DX := fun t S => (d t S).bind fun ws S1 => fn ws S1
theorem spOut {s : L2.St} {fn : Fn} {n : Nat} {ws : List W} {vs : List V} {Q : VK} (hl : vs.length = n) (q : RWs G H S r ws vs) (rl : Rl G H S r) (o : OutE G xv Wx (fun H S r w v => RW G H S r w v) s H S r (fn ws S) Q) : spF G xv n fn vs H Q (WE Wx s) := by
  refine ⟨hl, r, S, ws, q, rl, ?_⟩
  cases e : fn ws S with
  | ok w S1 => rw [e] at o; exact o
  | er c ns us S1 => rw [e] at o; exact o
  | no => rw [e] at o; exact o.elim
theorem de_call {x : Str} {p pos : Pos} {e : Expr} {es : List Expr} {d : DA} {f : Addr} {k n : Nat} {fn : Fn} (c : Cok G X Wx) (h : DefOk X.prog X.w X.K X.mg X.base G xv f k n fn) (hm : X.mg x = some (.ref f)) (hr : Room k X.A) (ha : PA X (e :: es) (toA G xv Wx d)) (hn : (e :: es).length = n := by rfl) (hg : Gl X x := by rfl)
    (hdb : (x == ("__debug__" : Str)) = false := by decide) (he : starEach (e :: es) X.env = (false, eval e X.env) :: starEach es X.env := by rfl) (hpl : (backTo pos (starEach es X.env)).any (·.1) = false := by rfl)
    (hlen : ∀ t S ws S', d t S = .ok ws S' → ws.length = (e :: es).length) : PE X (.Call (.Name x p) (e :: es) [] pos) (toE G xv Wx (dCall fn d)) := by
  obtain ⟨⟨fd, ps, hl, F, b⟩, kp⟩ := h
  refine PEi (pe_callSD (dvs := []) F hr hg hm kp b .nil (fun σ => passAt c.tk σ) ha hdb he hpl) fun s H Q ⟨r, t, S, l, rl, o⟩ => ?_
  refine toX.bind l rl o fun ws S1 r1 H1 vs e1 ev rl1 l1 q o1 => ?_
  rw [List.append_nil]
  exact spOut (by rw [← q.length, hlen t S ws S1 e1, hn]) q rl1 o1
theorem dNil_len : ∀ t S ws S', dNil t S = .ok ws S' → ws.length = 0 := fun t S ws S' e => by cases e; rfl
theorem dCons_len {a : DX} {b : DA} {n : Nat} (h : ∀ t S ws S', b t S = .ok ws S' → ws.length = n) : ∀ t S ws S', dCons a b t S = .ok ws S' → ws.length = n + 1 := fun t S ws S' e => by
  unfold dCons at e
  cases e1 : a t S with
  | ok w S1 =>
    rw [e1] at e
    simp only [R.bind_ok] at e
    cases e2 : b t S1 with
    | ok us S2 =>
      rw [e2] at e
      simp only [R.bind_ok, R.ok.injEq] at e
      rw [← e.1]
      exact congrArg Nat.succ (h t S1 us S2 e2)
    | er c ns us S2 => rw [e2] at e; cases e
    | no => rw [e2] at e; cases e
  | er c ns us S1 => rw [e1] at e; cases e
  | no => rw [e1] at e; cases e
/-! ### instances -/
/-! ### fields -/
def fget (ns : List Str) (ws : List W) (f : Str) : Option W := (ns.zip ws).lookup f
theorem fget_ok {f : Str} {w : W} : ∀ {ns : List Str} {ws : List W} {vs : List V}, RWs G H S r ws vs → fget ns ws f = some w → ∃ v, (ns.zip vs).lookup f = some v ∧ RW G H S r w v
  | [], _, _, _, e => by simp [fget] at e
  | _ :: _, _, _, .nil, e => by simp [fget] at e
  | n :: ns, _, _, .cons a q, e => by
    simp only [fget, List.zip_cons_cons, List.lookup_cons] at e ⊢
    by_cases h : (f == n) = true
    · simp only [h] at e ⊢
      cases e
      exact ⟨_, rfl, a⟩
    · have h : (f == n) = false := by simpa using h
      simp only [h] at e ⊢
      exact fget_ok q e
def fieldOf (cs : List Nat) (f : Str) (w : W) (S : Sto) : Option W :=
  match w with
  | .obj c ns ws => if cs.contains c = true then fget ns ws f else none
  | .ref i => match S[i]? with
    | some (.ins c ns ws) => if cs.contains c = true then fget ns ws f else none
    | _ => none
  | _ => none
/-- o.f, of instances of the classes cs -/
def dFld (cs : List Nat) (f : Str) (d : DX) : DX := fun t S => (d t S).bind fun w S1 => match fieldOf cs f w S1 with
  | some x => .ok x S1
  | none => .no
end
end DD
namespace DD
open PySem PySem.Spec PyProof.Rows L2
section
variable {G : Gx} {xv : Nat → Value} {Wx : WX} {X : Cx} {H H' : Hp} {S S' : Sto} {r r' : Rh}
/-! ### ints -/
def intD (C : Int → Int → Bool) (g : Int → Int → W) : D2 := fun a b S => match a, b with
  | .int i, .int j => if C i j = true then .ok (g i j) S else .no
  | _, _ => .no
def orD (f g : D2) : D2 := fun a b S => match f a b S with
  | .no => g a b S
  | x => x
theorem op_or {sem : Value → Value → Sem Value} {f g : D2} (hf : OpR X sem (toR2 G xv f)) (hg : OpR X sem (toR2 G xv g)) : OpR X sem (toR2 G xv (orD f g)) := by
  intro pins s σ H x y v u Q I rx ry ⟨r, S, a, b, rl, qa, qb, o⟩
  unfold orD at o
  cases e : f a b S with
  | ok w S1 => rw [e] at o; exact hf pins s σ H x y v u Q I rx ry ⟨r, S, a, b, rl, qa, qb, by rw [e]; exact o⟩
  | er c ns ws S1 => rw [e] at o; exact hf pins s σ H x y v u Q I rx ry ⟨r, S, a, b, rl, qa, qb, by rw [e]; exact o⟩
  | no => rw [e] at o; exact hg pins s σ H x y v u Q I rx ry ⟨r, S, a, b, rl, qa, qb, o⟩
theorem op_intD {sem : Value → Value → Sem Value} {C : Int → Int → Bool} {g : Int → Int → W} {gv : Int → Int → V} (hg : ∀ H S r i j, RW G H S r (g i j) (gv i j)) (h : OpR X sem (rI (fun i j => C i j = true) gv)) : OpR X sem (toR2 G xv (intD C g)) := by
  intro pins s σ H x y v u Q I rx ry ⟨r, S, a, b, rl, qa, qb, o⟩
  cases a with
  | int i =>
    cases b with
    | int j =>
      cases qa
      cases qb
      simp only [intD] at o
      split at o
      · rename_i hc
        exact h pins s σ H _ _ v u Q I rx ry ⟨i, j, rfl, rfl, hc, o r H _ .refl rl (hg H S r i j)⟩
      · exact o.elim
    | _ => exact o.elim
  | _ => exact o.elim
theorem opC {sem : Value → Value → Sem Value} {C C' : Int → Int → Prop} {g : Int → Int → V} (h : OpR X sem (rI C g)) (hi : ∀ i j, C' i j → C i j) : OpR X sem (rI C' g) := by
  intro pins s σ H x y v u Q I rx ry ⟨i, j, e1, e2, c, q⟩
  exact h pins s σ H x y v u Q I rx ry ⟨i, j, e1, e2, hi i j c, q⟩
theorem opC0 {sem : Value → Value → Sem Value} {C' : Int → Int → Prop} {g : Int → Int → V} (h : OpR X sem (rI0 g)) : OpR X sem (rI C' g) := by
  intro pins s σ H x y v u Q I rx ry ⟨i, j, e1, e2, c, q⟩
  exact h pins s σ H x y v u Q I rx ry ⟨i, j, e1, e2, q⟩
theorem opV {sem : Value → Value → Sem Value} {C : Int → Int → Prop} {g g' : Int → Int → V} (h : OpR X sem (rI C g)) (e : ∀ i j, C i j → g' i j = g i j) : OpR X sem (rI C g') := by
  intro pins s σ H x y v u Q I rx ry ⟨i, j, e1, e2, c, q⟩
  exact h pins s σ H x y v u Q I rx ry ⟨i, j, e1, e2, c, by rw [← e i j c]; exact q⟩
theorem opU {sem : Value → Value → Sem Value} {C C' : Int → Int → Prop} {g : Int → Int → V} (h : OpR X sem (rI C g)) (h' : OpR X sem (rI C' g)) : OpR X sem (rI (fun i j => C i j ∨ C' i j) g) := by
  intro pins s σ H x y v u Q I rx ry ⟨i, j, e1, e2, c, q⟩
  rcases c with c | c
  · exact h pins s σ H x y v u Q I rx ry ⟨i, j, e1, e2, c, q⟩
  · exact h' pins s σ H x y v u Q I rx ry ⟨i, j, e1, e2, c, q⟩
def yes2 : Int → Int → Bool := fun _ _ => true
def iAdd : D2 := intD yes2 fun i j => .int (i + j)
def iSub : D2 := intD yes2 fun i j => .int (i - j)
def mulOk (i j : Int) : Bool := decide (-(2 ^ 64) < i ∧ i < 2 ^ 64) || decide (-(2 ^ 64) < j ∧ j < 2 ^ 64) || decide (i.natAbs.log2 + j.natAbs.log2 < 1000000)
def iMul : D2 := intD mulOk fun i j => .int (i * j)
def divOk (_ j : Int) : Bool := decide (j ≠ 0) && decide (j.natAbs.log2 < 9000)
def fdiv (i j : Int) : Int := if 0 < j then i / j else i.fdiv j
def fmod (i j : Int) : Int := if 0 < j then i % j else i.fmod j
def iDiv : D2 := intD divOk fun i j => .int (fdiv i j)
def iMod : D2 := intD (fun _ j => decide (j ≠ 0)) fun i j => .int (fmod i j)
def powOk (i j : Int) : Bool := decide (0 ≤ j) && decide (j ≤ 1000000) && decide (i.natAbs < 2 ^ 64)
def iPow : D2 := intD powOk fun i j => .int (i ^ j.toNat)
def iOr : D2 := intD yes2 fun i j => .int (Builtin.bitOr i j)
def iLt : D2 := intD yes2 fun i j => .bl (decide (i < j))
def iLe : D2 := intD yes2 fun i j => .bl (decide (i ≤ j))
def iGt : D2 := intD yes2 fun i j => .bl (decide (j < i))
def iGe : D2 := intD yes2 fun i j => .bl (decide (j ≤ i))
theorem o_add : OpR X (binaryOp .Add) (toR2 G xv iAdd) := op_intD (fun _ _ _ _ _ => .int _) (opC0 op_add)
theorem o_mul : OpR X (binaryOp .Mult) (toR2 G xv iMul) := op_intD (fun _ _ _ _ _ => .int _) (opC (opU op_mul op_mulW) fun i j h => by
  simp only [mulOk, Bool.or_eq_true, decide_eq_true_eq] at h
  exact h)
theorem o_div : OpR X (binaryOp .FloorDiv) (toR2 G xv iDiv) := op_intD (fun _ _ _ _ _ => .int _) (gv := fun i j => .int (fdiv i j)) (opV (g := fun i j => .int (i.fdiv j)) (opI fun i j _ _ _ _ _ hc q => by
    simp only [divOk, Bool.and_eq_true, decide_eq_true_eq] at hc
    exact floordiv_int hc.1 q (.inl (PyProof.noPylong_of_log2 hc.2))) fun i j c => by
  unfold fdiv
  split
  · rw [Int.fdiv_eq_ediv_of_nonneg i (by omega)]
  · rfl)
theorem o_mod : OpR X (binaryOp .Mod) (toR2 G xv iMod) := op_intD (fun _ _ _ _ _ => .int _) (gv := fun i j => .int (fmod i j)) (opV (opC op_modN fun i j h => of_decide_eq_true h) fun i j c => by
  unfold fmod
  split
  · rw [Int.fmod_eq_emod_of_nonneg i (by omega)]
  · rfl)
theorem powC {i j : Int} (h : powOk i j = true) : CPow i j := by
  simp only [powOk, Bool.and_eq_true, decide_eq_true_eq] at h
  exact ⟨h.1.1, h.1.2, h.2⟩
theorem o_pow : OpR X (binaryOp .Pow) (toR2 G xv iPow) := op_intD (fun _ _ _ _ _ => .int _) (opC op_pow fun i j h => powC h)
theorem o_lt : OpR X (compareOp .Lt) (toR2 G xv iLt) := op_intD (fun _ _ _ _ _ => .bl _) (opC0 op_lt)
theorem o_le : OpR X (compareOp .LtE) (toR2 G xv iLe) := op_intD (fun _ _ _ _ _ => .bl _) (opC0 op_le)
theorem o_gt : OpR X (compareOp .Gt) (toR2 G xv iGt) := op_intD (fun _ _ _ _ _ => .bl _) (opC0 op_gt)
theorem o_ge : OpR X (compareOp .GtE) (toR2 G xv iGe) := op_intD (fun _ _ _ _ _ => .bl _) (opC0 op_ge)
/-! ### reading lists and tuples, of the store or not -/
def seqL (S : Sto) : W → Option (List W)
  | .lst ws => some ws
  | .scr ws => some ws
  | .ref i => match S[i]? with
    | some (.lst ws) => some ws
    | _ => none
  | _ => none
def seqT : W → Option (List W)
  | .tup ws => some ws
  | _ => none
theorem seqL_ok {w : W} {v : V} {ws : List W} (rl : Rl G H S r) (q : RW G H S r w v) (e : seqL S w = some ws) : ∃ a vs, v = .ref a ∧ SqL G.K H a vs ∧ RWs G H S r ws vs := by
  cases w with
  | lst us =>
    cases e
    cases q with
    | lst ow q => exact ⟨_, _, rfl, .inl (.inl ow.1), q⟩
  | scr us =>
    cases e
    cases q with
    | scr ow q => exact ⟨_, _, rfl, ow.sq, q⟩
  | ref i =>
    simp only [seqL] at e
    cases e1 : S[i]? with
    | none => rw [e1] at e; cases e
    | some o =>
      rw [e1] at e
      cases o with
      | lst us =>
        cases e
        obtain ⟨ho, h1, h2⟩ := rl.at_ i _ e1 (fun z => by cases z)
        cases q with
        | ref hi =>
          cases h2 with
          | lst q => exact ⟨_, _, rfl, .inl (.inl h1), q⟩
      | _ => cases e
  | _ => cases e
theorem seqT_ok {w : W} {v : V} {ws : List W} (q : RW G H S r w v) (e : seqT w = some ws) : ∃ a vs, v = .ref a ∧ SqT G.K H a vs ∧ RWs G H S r ws vs := by
  cases w with
  | tup us =>
    cases e
    cases q with
    | tup ta q => exact ⟨_, _, rfl, ta.sq, q⟩
  | _ => cases e
theorem RWs.atI {ws : List W} {vs : List V} {i : Int} {w : W} (q : RWs G H S r ws vs) (e : L2.atI ws i = some w) : ∃ v, L2.atI vs i = some v ∧ RW G H S r w v := by
  unfold L2.atI at e ⊢
  rw [← q.length]
  cases e1 : ixN ws.length i with
  | none => rw [e1] at e; cases e
  | some j =>
    rw [e1] at e
    exact q.get e
/-! ### items -/
def ixD : D2 := fun a b S => match b with
  | .int i => match seqL S a with
    | some ws => match L2.atI ws i with
      | some w => .ok w S
      | none => .no
    | none => match seqT a with
      | some ws => match L2.atI ws i with
        | some w => .ok w S
        | none => .no
      | none => .no
  | _ => .no
theorem ixR_ixD (hk : X.K = G.K) : IxR X (toR2 G xv ixD) := by
  intro value slice pins s σ H x y v u Q I rx ry ⟨r, S, a, b, rl, qa, qb, o⟩ hs
  cases b with
  | int i =>
    cases qb
    simp only [ixD] at o
    cases e : seqL S a with
    | some ws =>
      rw [e] at o
      simp only [] at o
      obtain ⟨p, vs, rfl, hq, q⟩ := seqL_ok rl qa e
      cases e1 : L2.atI ws i with
      | none => rw [e1] at o; exact o.elim
      | some w =>
        rw [e1] at o
        obtain ⟨z, h1, h2⟩ := q.atI e1
        exact ix_list value slice pins s σ H _ _ v u Q I rx ry ⟨p, vs, i, z, rfl, rfl, by rw [hk]; exact hq, h1, o r H z .refl rl h2⟩ hs
    | none =>
      rw [e] at o
      simp only [] at o
      cases e2 : seqT a with
      | none => rw [e2] at o; exact o.elim
      | some ws =>
        rw [e2] at o
        simp only [] at o
        obtain ⟨p, vs, rfl, hq, q⟩ := seqT_ok qa e2
        cases e1 : L2.atI ws i with
        | none => rw [e1] at o; exact o.elim
        | some w =>
          rw [e1] at o
          obtain ⟨z, h1, h2⟩ := q.atI e1
          exact ix_tup value slice pins s σ H _ _ v u Q I rx ry ⟨p, vs, i, z, rfl, rfl, by rw [hk]; exact hq, h1, o r H z .refl rl h2⟩ hs
  | _ => exact o.elim
theorem de_ix {a b : Expr} {da db : DX} {pos : Pos} (c : Cok G X Wx) (ha : PE X a (toE G xv Wx da)) (hb : PE X b (toE G xv Wx db)) (hs : PlainIx b := by intro _ _; rfl) : PE X (.Subscript a b pos) (toE G xv Wx (dOp ixD da db)) :=
  PEi (pe_ix (ixR_ixD c.kk) ha hb hs) toOp
/-- xs[i] = e, of a list of the store -/
def gIx (da db : DX) : DG := fun w t S => match da t S with
  | .ok (.ref p) S1 => match db t S1 with
    | .ok (.int i) S2 => match S2[p]? with
      | some (.lst ws) => match ixN ws.length i with
        | some j => .ok t (S2.set p (.lst (ws.set j w)))
        | none => .no
      | _ => .no
    | _ => .no
  | _ => .no
theorem dg_ix {a b : Expr} {da db : DX} {pos : Pos} (ck : Cok G X Wx) (ha : PE X a (toE G xv Wx da)) (hb : PE X b (toE G xv Wx db)) (hs : ∀ v, assign (.Subscript a b pos) X.env v = (do
      let ov ← holding [v] (eval a X.env)
      let iv ← holding [v, ov] (eval b X.env)
      standAt pos
      holding [v, ov, iv] (setItem ov iv v)
      release [v, ov, iv] []) := by intro _; rfl) : PG X (.Subscript a b pos) (toG G xv (gIx da db)) :=
  PGi (pg_sub ha hb set_list hs) fun v s H Q ⟨r, t, S, w, l, rl, q, o⟩ => by
    refine ⟨r, t, S, l, rl, ?_⟩
    unfold gIx at o
    cases e : da t S with
    | no => rw [e] at o; exact o.elim
    | er c ns ws S1 => rw [e] at o; exact o.elim
    | ok p S1 =>
      rw [e] at o
      intro r1 H1 pv e1 rl1 qp
      cases p with
      | ref p =>
        cases qp with
        | ref hp =>
          refine ⟨r1, t, S1, l.ev e1, rl1, ?_⟩
          simp only [] at o
          cases eb : db t S1 with
          | no => rw [eb] at o; exact o.elim
          | er c ns ws S2 => rw [eb] at o; exact o.elim
          | ok i S2 =>
            rw [eb] at o
            intro r2 H2 iv e2 rl2 qi
            cases i with
            | int i =>
              cases qi
              simp only [] at o
              cases e3 : S2[p]? with
              | none => rw [e3] at o; exact o.elim
              | some u =>
                rw [e3] at o
                cases u with
                | lst ws =>
                  simp only [] at o
                  cases e4 : ixN ws.length i with
                  | none => rw [e4] at o; exact o.elim
                  | some j =>
                    rw [e4] at o
                    obtain ⟨ho, h1, h2⟩ := rl2.at_ p _ e3 (fun z => by cases z)
                    cases h2 with
                    | @lst _ vs qs =>
                      refine ⟨r1 p, vs, i, j, rfl, rfl, by rw [← e2.rho p hp]; exact h1, by rw [← qs.length]; exact e4, ?_⟩
                      have ev := (e1.trans e2).trans (Ev.set (o := .lst (ws.set j w)) (ho := .lst (vs.set j v)) rl2 e3 (fun z => by cases z))
                      rw [← e2.rho p hp]
                      exact o r2 _ s ev (rl2.set e3 (fun z => by cases z) (.lst (qs.set ((q.ev e1).ev e2) j))) (l.ev ev)
                | _ => exact o.elim
            | _ => exact o.elim
      | _ => exact o.elim
/-! ### data, compared -/
mutual
def eqW : W → W → Bool
  | .non, .non => true
  | .bl a, .bl b => a == b
  | .bl a, .int j => (if a then 1 else 0) == j
  | .int i, .bl b => i == (if b then 1 else 0)
  | .int i, .int j => i == j
  | .str x, .str y => x == y
  | .lst xs, .lst ys => eqWs xs ys
  | .lst xs, .scr ys => eqWs xs ys
  | .scr xs, .lst ys => eqWs xs ys
  | .scr xs, .scr ys => eqWs xs ys
  | .tup xs, .tup ys => eqWs xs ys
  | _, _ => false
def eqWs : List W → List W → Bool
  | [], [] => true
  | x :: xs, y :: ys => eqW x y && eqWs xs ys
  | _, _ => false
end
mutual
def toD : W → PyData
  | .bl b => .bool b
  | .int i => .int i
  | .str x => .str x
  | .tup l => .tuple (toDs l)
  | .lst l => .list (toDs l)
  | .scr l => .list (toDs l)
  | _ => .none
def toDs : List W → List PyData
  | [] => []
  | w :: l => toD w :: toDs l
end
/-- plain data of a depth of n at most -/
def dat : Nat → W → Bool
  | _, .non => true
  | _, .bl _ => true
  | _, .int _ => true
  | _, .str x => PyData.strOk x
  | n + 1, .tup l => l.all (dat n)
  | n + 1, .lst l => l.all (dat n)
  | n + 1, .scr l => l.all (dat n)
  | _, _ => false
theorem dat_lay : ∀ {n : Nat} {w : W}, dat n w = true → (toD w).canLay0 = true ∧ (toD w).depth ≤ n
  | _, .non, _ => by simp [toD, PyData.canLay0, PyData.depth]
  | _, .bl _, _ => by simp [toD, PyData.canLay0, PyData.depth]
  | _, .int _, _ => by simp [toD, PyData.canLay0, PyData.depth]
  | n, .str x, h => by
    have h : PyData.strOk x = true := by cases n <;> exact h
    simp [toD, PyData.canLay0, PyData.depth, h]
  | 0, .tup l, h => by simp [dat] at h
  | 0, .lst l, h => by simp [dat] at h
  | 0, .scr l, h => by simp [dat] at h
  | n + 1, .tup l, h => by
    have ⟨a, b⟩ := go n l h
    simp only [toD, PyData.canLay0, PyData.depth]
    exact ⟨a, by omega⟩
  | n + 1, .lst l, h => by
    have ⟨a, b⟩ := go n l h
    simp only [toD, PyData.canLay0, PyData.depth]
    exact ⟨a, by omega⟩
  | n + 1, .scr l, h => by
    have ⟨a, b⟩ := go n l h
    simp only [toD, PyData.canLay0, PyData.depth]
    exact ⟨a, by omega⟩
  | n, .ref _, h => by cases n <;> simp [dat] at h
  | n, .dic _ _, h => by cases n <;> simp [dat] at h
  | n, .dn _ _, h => by cases n <;> simp [dat] at h
  | n, .obj _ _ _, h => by cases n <;> simp [dat] at h
  | n, .cls _, h => by cases n <;> simp [dat] at h
  | n, .ty _, h => by cases n <;> simp [dat] at h
  | n, .lam, h => by cases n <;> simp [dat] at h
  | n, .exn _ _ _, h => by cases n <;> simp [dat] at h
where
  go (n : Nat) : ∀ (l : List W), l.all (dat n) = true → PyData.canLayAll0 (toDs l) = true ∧ PyData.depthAll (toDs l) ≤ n
    | [], _ => by simp [toDs, PyData.canLayAll0, PyData.depthAll]
    | w :: l, h => by
      simp only [List.all_cons, Bool.and_eq_true] at h
      have ⟨a, b⟩ := dat_lay h.1
      have ⟨c, d⟩ := go n l h.2
      simp only [toDs, PyData.canLayAll0, PyData.depthAll, a, c, Bool.and_self, true_and]
      exact Nat.max_le.mpr ⟨b, d⟩
theorem dat_shaped {n : Nat} {w : W} (h : dat n w = true) (hn : n ≤ 64) : SeqAt.shaped (toD w) = true := by
  have ⟨a, b⟩ := dat_lay h
  unfold SeqAt.shaped
  rw [a, Bool.true_and]
  exact decide_eq_true (by omega)
theorem dat_dp : ∀ {n : Nat} {w : W} {v : V}, dat n w = true → RW G H S r w v → Dp G.K H v (toD w)
  | _, .non, _, _, .non => by simp only [toD]; exact .non
  | _, .bl _, _, _, .bl b => by simp only [toD]; exact .bl b
  | _, .int _, _, _, .int b => by simp only [toD]; exact .int b
  | _, .str _, _, _, .str b => by simp only [toD]; exact .str b
  | n + 1, .tup l, _, h, .tup ta q => by simp only [toD]; exact .tup ta.sq (go n l _ h q)
  | n + 1, .lst l, _, h, .lst ow q => by simp only [toD]; exact .lst (.inl (.inl ow.1)) (go n l _ h q)
  | n + 1, .scr l, _, h, .scr ow q => by simp only [toD]; exact .lst ow.sq (go n l _ h q)
  | 0, .tup l, _, h, _ => by simp [dat] at h
  | 0, .lst l, _, h, _ => by simp [dat] at h
  | 0, .scr l, _, h, _ => by simp [dat] at h
  | n, .ref _, _, h, _ => by cases n <;> simp [dat] at h
  | n, .dic _ _, _, h, _ => by cases n <;> simp [dat] at h
  | n, .dn _ _, _, h, _ => by cases n <;> simp [dat] at h
  | n, .obj _ _ _, _, h, _ => by cases n <;> simp [dat] at h
  | n, .cls _, _, h, _ => by cases n <;> simp [dat] at h
  | n, .ty _, _, h, _ => by cases n <;> simp [dat] at h
  | n, .lam, _, h, _ => by cases n <;> simp [dat] at h
  | n, .exn _ _ _, _, h, _ => by cases n <;> simp [dat] at h
where
  go (n : Nat) : ∀ (l : List W) (vs : List V), l.all (dat n) = true → RWs G H S r l vs → DpAll G.K H vs (toDs l)
    | [], _, _, .nil => by simp only [toDs]; exact .nil
    | w :: l, _, h, .cons a q => by
      simp only [List.all_cons, Bool.and_eq_true] at h
      simp only [toDs]
      exact .cons (dat_dp h.1 a) (go n l _ h.2 q)
theorem eqvs_eqWs {n m : Nat} (ih : ∀ {a b : W}, dat n a = true → dat m b = true → PyData.eqv (toD a) (toD b) = eqW a b) : ∀ (l k : List W), l.all (dat n) = true → k.all (dat m) = true → PyData.eqvAll (toDs l) (toDs k) = eqWs l k
  | [], [], _, _ => by simp [toDs, PyData.eqvAll, eqWs]
  | [], _ :: _, _, _ => by simp [toDs, PyData.eqvAll, eqWs]
  | _ :: _, [], _, _ => by simp [toDs, PyData.eqvAll, eqWs]
  | a :: l, b :: k, h, g => by
    simp only [List.all_cons, Bool.and_eq_true] at h g
    simp only [toDs, PyData.eqvAll, eqWs, ih h.1 g.1, eqvs_eqWs ih l k h.2 g.2]
theorem eqv_eqW : ∀ {n m : Nat} {a b : W}, dat n a = true → dat m b = true → PyData.eqv (toD a) (toD b) = eqW a b := by
  intro n
  induction n with
  | zero =>
    intro m a b h g
    cases a <;> cases b <;> first | (simp [dat] at h; done) | (cases m <;> simp [dat] at g; done) | simp [toD, PyData.eqv, eqW]
  | succ n ih =>
    intro m a b h g
    cases m with
    | zero => cases a <;> cases b <;> first | (simp [dat] at h; done) | (simp [dat] at g; done) | simp [toD, PyData.eqv, eqW]
    | succ m =>
      cases a <;> cases b <;> first
        | (simp [dat] at h; done)
        | (simp [dat] at g; done)
        | (simp only [toD, PyData.eqv, eqW]; exact eqvs_eqWs (fun h g => ih h g) _ _ h g)
        | simp [toD, PyData.eqv, eqW]
/-- a list of the store as it stands -/
def lookS (S : Sto) : W → W
  | .ref i => match S[i]? with
    | some (.lst ws) => .lst ws
    | _ => .ref i
  | w => w
theorem look_dp {n : Nat} {w : W} {v : V} (rl : Rl G H S r) (h : dat n (lookS S w) = true) (q : RW G H S r w v) : Dp G.K H v (toD (lookS S w)) := by
  cases w with
  | ref i =>
    simp only [lookS] at h ⊢
    cases e1 : S[i]? with
    | none => simp only [e1] at h; cases n <;> simp [dat] at h
    | some o =>
      simp only [e1] at h ⊢
      cases o with
      | lst us =>
        obtain ⟨ho, h1, h2⟩ := rl.at_ i _ e1 (fun z => by cases z)
        cases q with
        | ref hi =>
          cases h2 with
          | lst q =>
            cases n with
            | zero => simp [dat] at h
            | succ n =>
              simp only [toD]
              exact .lst (.inl (.inl h1)) (dat_dp.go n us _ h q)
      | _ => cases n <;> simp [dat] at h
  | _ => exact dat_dp h q
/-- the depth of data that we compare -/
def dDep : Nat := 16
def eqD : D2 := fun a b S => if (dat dDep (lookS S a) && dat dDep (lookS S b)) = true then .ok (.bl (eqW (lookS S a) (lookS S b))) S else .no
def neD : D2 := fun a b S => if (dat dDep (lookS S a) && dat dDep (lookS S b)) = true then .ok (.bl (!eqW (lookS S a) (lookS S b))) S else .no
theorem o_eq (hk : X.K = G.K) (hu : X.A.units + 64 < cLine) : OpR X (compareOp .Eq) (toR2 G xv eqD) := by
  intro pins s σ H x y v u Q I rx ry ⟨r, S, a, b, rl, qa, qb, o⟩
  unfold eqD at o
  split at o
  · rename_i h
    rw [Bool.and_eq_true] at h
    refine op_eqD hu pins s σ H x y v u Q I rx ry ⟨_, _, by rw [hk]; exact look_dp rl h.1 qa, by rw [hk]; exact look_dp rl h.2 qb, dat_shaped h.1 (by decide), dat_shaped h.2 (by decide), ?_⟩
    rw [eqv_eqW h.1 h.2]
    exact o r H _ .refl rl (.bl _)
  · exact o.elim
theorem o_ne (hk : X.K = G.K) (hu : X.A.units + 64 < cLine) : OpR X (compareOp .NotEq) (toR2 G xv neD) := by
  intro pins s σ H x y v u Q I rx ry ⟨r, S, a, b, rl, qa, qb, o⟩
  unfold neD at o
  split at o
  · rename_i h
    rw [Bool.and_eq_true] at h
    refine op_neD hu pins s σ H x y v u Q I rx ry ⟨_, _, by rw [hk]; exact look_dp rl h.1 qa, by rw [hk]; exact look_dp rl h.2 qb, dat_shaped h.1 (by decide), dat_shaped h.2 (by decide), ?_⟩
    rw [eqv_eqW h.1 h.2]
    exact o r H _ .refl rl (.bl _)
  · exact o.elim
/-! ### in, not in -/
def inW (w : W) (ws : List W) : Bool := ws.any fun y => eqW y w
def notInD : D2 := fun a b S => match lookS S b with
  | .lst ws => if (dat dDep a && ws.all (dat dDep)) = true then .ok (.bl (!inW a ws)) S else .no
  | .tup ws => if (dat dDep a && ws.all (dat dDep)) = true then .ok (.bl (!inW a ws)) S else .no
  | _ => .no
theorem any_inW {a : W} {ws : List W} (h : dat dDep a = true) : ws.all (dat dDep) = true → ((toDs ws).any fun y => PyData.eqv y (toD a)) = inW a ws := by
  unfold inW
  induction ws with
  | nil => intro _; simp [toDs]
  | cons w ws ih =>
    intro g
    simp only [List.all_cons, Bool.and_eq_true] at g
    simp only [toDs, List.any_cons, eqv_eqW g.1 h, ih g.2]
theorem in_room {A : Around} {a : W} {ws : List W} (h : dat dDep a = true) (hu : A.units + 64 < cLine) : A.units + 1 + min (PyData.depthAll (toDs ws)) (toD a).depth < cLine := by
  have h1 := (dat_lay h).2
  have h2 : min (PyData.depthAll (toDs ws)) (toD a).depth ≤ (toD a).depth := Nat.min_le_right _ _
  have h3 : dDep = 16 := rfl
  omega
theorem o_notIn (hk : X.K = G.K) (hu : X.A.units + 64 < cLine) : OpR X (compareOp .NotIn) (toR2 G xv notInD) := by
  intro pins s σ H x y v u Q I rx ry ⟨r, S, a, b, rl, qa, qb, o⟩
  unfold notInD at o
  cases e : lookS S b with
  | lst ws =>
    rw [e] at o
    simp only [] at o
    split at o
    · rename_i h
      rw [Bool.and_eq_true] at h
      have hd : dat (dDep + 1) (lookS S b) = true := by rw [e]; exact h.2
      have d1 := look_dp rl hd qb
      rw [e] at d1
      simp only [toD] at d1
      obtain ⟨as, r1⟩ := Dp.reads I _ x v (by rw [hk]; exact dat_dp h.1 qa) rx
      obtain ⟨bs, r2⟩ := Dp.reads I _ y u (by rw [hk]; exact d1) ry
      refine SeqAt.notIn_list_reads r2 r1 (dat_lay.go dDep ws h.2).1 (dat_lay h.1).1 (in_room h.1 hu) ⟨.bl _, H, I, rfl, ?_⟩
      rw [any_inW h.1 h.2]
      exact o r H _ .refl rl (.bl _)
    · exact o.elim
  | tup ws =>
    rw [e] at o
    simp only [] at o
    split at o
    · rename_i h
      rw [Bool.and_eq_true] at h
      have hd : dat (dDep + 1) (lookS S b) = true := by rw [e]; exact h.2
      have d1 := look_dp rl hd qb
      rw [e] at d1
      simp only [toD] at d1
      obtain ⟨as, r1⟩ := Dp.reads I _ x v (by rw [hk]; exact dat_dp h.1 qa) rx
      obtain ⟨bs, r2⟩ := Dp.reads I _ y u (by rw [hk]; exact d1) ry
      refine SeqAt.notIn_tuple_reads r2 r1 (dat_lay.go dDep ws h.2).1 (dat_lay h.1).1 (in_room h.1 hu) ⟨.bl _, H, I, rfl, ?_⟩
      rw [any_inW h.1 h.2]
      exact o r H _ .refl rl (.bl _)
    · exact o.elim
  | _ => rw [e] at o; exact o.elim
end
end DD
namespace DD
open PySem PySem.Spec PyProof.Rows L2
section
variable {G : Gx} {xv : Nat → Value} {Wx : WX} {X : Cx} {H H' : Hp} {S S' : Sto} {r r' : Rh}
/-! ### truth -/
def truW (S : Sto) : W → Option Bool
  | .non => some false
  | .bl b => some b
  | .int i => some (i != 0)
  | .str x => if x.length ≤ sizeLine then some ((x.length : Int) != 0) else none
  | .tup l => some (!l.isEmpty)
  | .lst l => some (!l.isEmpty)
  | .scr l => some (!l.isEmpty)
  | .dic ks l => some (!l.isEmpty)
  | .ref i => match S[i]? with
    | some (.lst l) => some (!l.isEmpty)
    | some (.dic ks l) => some (!l.isEmpty)
    | _ => none
  | _ => none
theorem RWs.isEmpty {ws : List W} {vs : List V} (q : RWs G H S r ws vs) : vs.isEmpty = ws.isEmpty := by cases q <;> rfl
theorem zip_isEmpty {ks : List Key} {ws : List W} {vs : List V} (hl : ks.length = ws.length) (q : RWs G H S r ws vs) : (ks.zip vs).isEmpty = ws.isEmpty := by
  cases q with
  | nil => simp
  | cons a b =>
    cases ks with
    | nil => simp at hl
    | cons k ks => rfl
theorem truW_ok {w : W} {v : V} {k : Bool} (rl : Rl G H S r) (q : RW G H S r w v) (e : truW S w = some k) : TruV G.K v H k := by
  cases q with
  | non => cases e; rfl
  | bl b => cases e; rfl
  | int i => cases e; rfl
  | str x =>
    simp only [truW] at e
    split at e
    · rename_i h; cases e; exact ⟨h, rfl⟩
    · cases e
  | tup ta q => cases e; exact .inr (.inl ⟨_, ta.sq, by rw [q.isEmpty]⟩)
  | lst ow q => cases e; exact .inl ⟨_, .inl (.inl ow.1), by rw [q.isEmpty]⟩
  | scr ow q => cases e; exact .inl ⟨_, ow.sq, by rw [q.isEmpty]⟩
  | dic ow hl q => cases e; exact .inr (.inr ⟨_, ow.1, by rw [zip_isEmpty hl q]⟩)
  | dn _ _ _ _ => cases e
  | @ref i hi =>
    simp only [truW] at e
    cases e1 : S[i]? with
    | none => rw [e1] at e; cases e
    | some o =>
      rw [e1] at e
      cases o with
      | lst us =>
        cases e
        obtain ⟨ho, h1, h2⟩ := rl.at_ i _ e1 (fun z => by cases z)
        cases h2 with
        | lst q => exact .inl ⟨_, .inl (.inl h1), by rw [q.isEmpty]⟩
      | dic ks us =>
        cases e
        obtain ⟨ho, h1, h2⟩ := rl.at_ i _ e1 (fun z => by cases z)
        cases h2 with
        | dic hl q => exact .inr (.inr ⟨_, h1, by rw [zip_isEmpty hl q]⟩)
      | _ => cases e
  | obj _ _ _ => cases e
  | cls _ => cases e
  | ty _ => cases e
  | lam _ => cases e
  | exn _ _ _ _ _ => cases e
def dTru (d : DX) : DT := fun t S => (d t S).bind fun w S1 => match truW S1 w with
  | some k => .ok k S1
  | none => .no
theorem dt_truth {a : Expr} {d : DX} (c : Cok G X Wx) (ha : PE X a (toE G xv Wx d)) (he : ∀ whole, isTrue a X.env whole = (do let v ← whole; standAt a.pos; holding [v] (truthy v)) := by intro _; rfl) : PT X a (toT G xv Wx (dTru d)) := PTi (pt_truth ha he) fun s H Q ⟨r, t, S, l, rl, o⟩ =>
  toX.bind l rl o fun w S1 r1 H1 v _ e1 rl1 l1 q o1 => by
    cases e : truW S1 w with
    | none => rw [e] at o1; exact o1.elim
    | some k =>
      rw [e] at o1
      exact ⟨k, by rw [c.kk]; exact truW_ok rl1 q e, o1 r1 H1 k .refl rl1 rfl⟩
/-- not x, by truth -/
def dNotT (d : DX) : DX := fun t S => (d t S).bind fun w S1 => match truW S1 w with
  | some k => .ok (.bl (!k)) S1
  | none => .no
/-- x and y, x or y, by truth -/
def dAndT (a b : DX) : DX := fun t S => (a t S).bind fun w S1 => match truW S1 w with
  | some true => b t S1
  | some false => .ok w S1
  | none => .no
def dOrT (a b : DX) : DX := fun t S => (a t S).bind fun w S1 => match truW S1 w with
  | some true => .ok w S1
  | some false => b t S1
  | none => .no
theorem de_andT {a b : Expr} {rest : List Expr} {d e : DX} {pos : Pos} (c : Cok G X Wx) (ha : PE X a (toE G xv Wx d)) (hb : PE X (.BoolOp .And (b :: rest) pos) (toE G xv Wx e)) : PE X (.BoolOp .And (a :: b :: rest) pos) (toE G xv Wx (dAndT d e)) := PEi (pe_andT ha hb) fun s H Q ⟨r, t, S, l, rl, o⟩ =>
  toX.bind l rl o fun w S1 r1 H1 v _ e1 rl1 l1 q o1 => by
    cases e : truW S1 w with
    | none => rw [e] at o1; exact o1.elim
    | some k =>
      rw [e] at o1
      refine ⟨k, by rw [c.kk]; exact truW_ok rl1 q e, ?_⟩
      cases k with
      | true => exact ⟨r1, t, S1, l1, rl1, o1⟩
      | false => exact o1 r1 H1 _ .refl rl1 q
/-! ### built-ins -/
def toC1 (G : Gx) (xv : Nat → Value) (f : Fn) : List V → Hp → VK → Prop := fun vs H Q => ∃ r S ws, Rl G H S r ∧ RWs G H S r ws vs ∧ OutE G xv W0 (fun H S r w v => RW G H S r w v) [] H S r (f ws S) Q
def dBi (f : Fn) (d : DA) : DX := fun t S => (d t S).bind fun ws S1 => match f ws S1 with
  | .ok w S2 => .ok w S2
  | _ => .no
theorem toBi {f : Fn} {d : DA} (s : L2.St) (H : Hp) (Q : VK) : toE G xv Wx (dBi f d) s H Q → tCB (toC1 G xv f) (toA G xv Wx d) s H Q := by
  rintro ⟨r, t, S, l, rl, o⟩
  refine toX.bind l rl o fun ws S1 r1 H1 vs _ e1 rl1 l1 q o1 => ⟨r1, S1, ws, rl1, q, ?_⟩
  cases e : f ws S1 with
  | ok w S2 => rw [e] at o1; exact o1
  | er c ns us S2 => rw [e] at o1; exact o1.elim
  | no => rw [e] at o1; exact o1.elim
theorem de_callB {x : Str} {id : String} {e : Expr} {es : List Expr} {f : Fn} {d : DA} {p pos : Pos} (hc : CallR X (.builtin id) (toC1 G xv f)) (hv : bootBuiltins x = some (.builtin id)) (hm : X.mg x = none) (ha : PA X (e :: es) (toA G xv Wx d)) (hg : Gl X x := by rfl) (hn : x ≠ "__name__" := by decide) (hdb : (x == ("__debug__" : Str)) = false := by decide)
    (he : starEach (e :: es) X.env = (false, eval e X.env) :: starEach es X.env := by rfl) (hpl : (backTo pos (starEach es X.env)).any (·.1) = false := by rfl) : PE X (.Call (.Name x p) (e :: es) [] pos) (toE G xv Wx (dBi f d)) :=
  PEi (pe_callB hc hg hm hv ha hn hdb he hpl) toBi
theorem de_callTy {x : Str} {T : String} {e : Expr} {es : List Expr} {f : Fn} {d : DA} {p pos : Pos} (hc : CallR X (.type T) (toC1 G xv f)) (hv : bootBuiltins x = some (.type T)) (hm : X.mg x = none) (ha : PA X (e :: es) (toA G xv Wx d)) (hg : Gl X x := by rfl) (hn : x ≠ "__name__" := by decide) (hdb : (x == ("__debug__" : Str)) = false := by decide)
    (he : starEach (e :: es) X.env = (false, eval e X.env) :: starEach es X.env := by rfl) (hpl : (backTo pos (starEach es X.env)).any (·.1) = false := by rfl) : PE X (.Call (.Name x p) (e :: es) [] pos) (toE G xv Wx (dBi f d)) :=
  PEi (pe_callTy hc hg hm hv ha hn hdb he hpl) toBi
/-! len -/
def lenF : Fn := fun ws S => match ws with
  | [.str x] => if x.length ≤ sizeLine then .ok (.int x.length) S else .no
  | [w] => match seqL S w with
    | some l => .ok (.int l.length) S
    | none => match seqT w with
      | some l => .ok (.int l.length) S
      | none => .no
  | _ => .no
theorem c_len (hk : X.K = G.K) : CallR X (.builtin "len") (toC1 G xv lenF) := by
  intro pins s σ H xs us Q I rv ⟨r, S, ws, rl, q, o⟩
  cases q with
  | nil => exact o.elim
  | @cons w ws v vs a q =>
    cases q with
    | cons _ _ => cases w <;> exact o.elim
    | nil =>
      have seq : ∀ w', w = w' → (∀ x, w' ≠ .str x) → OutE G xv W0 (fun H S r w v => RW G H S r w v) [] H S r (match seqL S w with
          | some l => .ok (.int l.length) S
          | none => match seqT w with
            | some l => .ok (.int l.length) S
            | none => .no) Q → wpAny (model X.prog X.w) X.A (call (.builtin "len") us) (EP X pins σ Q) X.xe s := fun w' _ _ o => by
        cases e : seqL S w with
        | some l =>
          rw [e] at o
          obtain ⟨p, vs, rfl, hq, q⟩ := seqL_ok rl a e
          exact call_len_seq pins s σ H _ us Q I rv ⟨p, vs, rfl, .inl (by rw [hk]; exact hq), by rw [← q.length]; exact o r H _ .refl rl (.int _)⟩
        | none =>
          rw [e] at o
          simp only [] at o
          cases e2 : seqT w with
          | none => rw [e2] at o; exact o.elim
          | some l =>
            rw [e2] at o
            obtain ⟨p, vs, rfl, hq, q⟩ := seqT_ok a e2
            exact call_len_seq pins s σ H _ us Q I rv ⟨p, vs, rfl, .inr (by rw [hk]; exact hq), by rw [← q.length]; exact o r H _ .refl rl (.int _)⟩
      cases w with
      | str x =>
        cases a
        simp only [lenF] at o
        split at o
        · rename_i h
          exact call_len_str pins s σ H _ us Q I rv ⟨x, rfl, h, o r H _ .refl rl (.int _)⟩
        · exact o.elim
      | _ => exact seq _ rfl (fun x z => by cases z) o
/-! ints -/
def absF : Fn := fun ws S => match ws with
  | [.int i] => .ok (.int (if i < 0 then -i else i)) S
  | _ => .no
theorem c_abs : CallR X (.builtin "abs") (toC1 G xv absF) := by
  intro pins s σ H xs us Q I rv ⟨r, S, ws, rl, q, o⟩
  cases q with
  | nil => exact o.elim
  | @cons w ws v vs a q =>
    cases q with
    | cons _ _ => cases w <;> exact o.elim
    | nil =>
      cases w with
      | int i => cases a; exact call_abs pins s σ H _ us Q I rv ⟨i, rfl, o r H _ .refl rl (.int _)⟩
      | _ => exact o.elim
def intF : Fn := fun ws S => match ws with
  | [.int i] => .ok (.int i) S
  | [.bl k] => .ok (.int (if k then 1 else 0)) S
  | _ => .no
theorem c_int : CallR X (.type "int") (toC1 G xv intF) := by
  intro pins s σ H xs us Q I rv ⟨r, S, ws, rl, q, o⟩
  cases q with
  | nil => exact o.elim
  | @cons w ws v vs a q =>
    cases q with
    | cons _ _ => cases w <;> exact o.elim
    | nil =>
      cases w with
      | int i => cases a; exact call_int1 pins s σ H _ us Q I rv (.inl ⟨i, rfl, o r H _ .refl rl (.int _)⟩)
      | bl i => cases a; exact call_int1 pins s σ H _ us Q I rv (.inr ⟨i, rfl, o r H _ .refl rl (.int _)⟩)
      | _ => exact o.elim
def strF : Fn := fun ws S => match ws with
  | [.int i] => if i.natAbs.log2 < 1920 then .ok (.str (toString i)) S else .no
  | _ => .no
theorem c_str : CallR X (.type "str") (toC1 G xv strF) := by
  intro pins s σ H xs us Q I rv ⟨r, S, ws, rl, q, o⟩
  cases q with
  | nil => exact o.elim
  | @cons w ws v vs a q =>
    cases q with
    | cons _ _ => cases w <;> exact o.elim
    | nil =>
      cases w with
      | int i =>
        cases a
        simp only [strF] at o
        split at o
        · rename_i h; exact call_str_int pins s σ H _ us Q I rv ⟨i, rfl, h, o r H _ .refl rl (.str _)⟩
        · exact o.elim
      | _ => exact o.elim
def twoI (f : Int → Int → R W) : List W → R W
  | [.int i, .int j] => f i j
  | _ => .no
def max2F : Fn := fun ws S => twoI (fun i j => .ok (.int (if j > i then j else i)) S) ws
def min2F : Fn := fun ws S => twoI (fun i j => .ok (.int (if j < i then j else i)) S) ws
/-! list(..), tuple(..) -/
def listF : Fn := fun ws S => match ws with
  | [w] => match seqL S w with
    | some l => .ok (.lst l) S
    | none => match seqT w with
      | some l => .ok (.lst l) S
      | none => .no
  | _ => .no
/-- list(..), to be changed -/
def newListF : Fn := fun ws S => match ws with
  | [w] => match seqL S w with
    | some l => .ok (.ref S.length) (S ++ [.lst l])
    | none => match seqT w with
      | some l => .ok (.ref S.length) (S ++ [.lst l])
      | none => .no
  | _ => .no
def tupleF : Fn := fun ws S => match ws with
  | [w] => match seqL S w with
    | some l => .ok (.tup l) S
    | none => match seqT w with
      | some l => .ok (.tup l) S
      | none => .no
  | _ => .no
theorem c_list (hk : X.K = G.K) : CallR X (.type "list") (toC1 G xv listF) := by
  intro pins s σ H xs us Q I rv ⟨r, S, ws, rl, q, o⟩
  cases q with
  | nil => exact o.elim
  | @cons w ws v vs a q =>
    cases q with
    | cons _ _ => exact o.elim
    | nil =>
      simp only [listF] at o
      cases e : seqL S w with
      | some l =>
        rw [e] at o
        obtain ⟨p, vs, rfl, hq, q⟩ := seqL_ok rl a e
        exact call_list_of pins s σ H _ us Q I rv ⟨p, vs, rfl, .inl (by rw [hk]; exact hq), fun l hl => o r _ _ (Ev.fresh hl rl) (rl.fresh hl) (.lst (Own.new hl rl) (q.ev (Ev.fresh hl rl)))⟩
      | none =>
        rw [e] at o
        simp only [] at o
        cases e2 : seqT w with
        | none => rw [e2] at o; exact o.elim
        | some l =>
          rw [e2] at o
          obtain ⟨p, vs, rfl, hq, q⟩ := seqT_ok a e2
          exact call_list_of pins s σ H _ us Q I rv ⟨p, vs, rfl, .inr (by rw [hk]; exact hq), fun l hl => o r _ _ (Ev.fresh hl rl) (rl.fresh hl) (.lst (Own.new hl rl) (q.ev (Ev.fresh hl rl)))⟩
theorem newRef {p : Addr} {o : O} {ho : HO} : RW G (upd H p ho) (S ++ [o]) (put r S.length p) (.ref S.length) (.ref p) := by
  have := RW.ref (G := G) (H := upd H p ho) (S := S ++ [o]) (r := put r S.length p) (i := S.length) (by simp)
  rw [put_same] at this
  exact this
theorem c_tuple (hk : X.K = G.K) : CallR X (.type "tuple") (toC1 G xv tupleF) := by
  intro pins s σ H xs us Q I rv ⟨r, S, ws, rl, q, o⟩
  cases q with
  | nil => exact o.elim
  | @cons w ws v vs a q =>
    cases q with
    | cons _ _ => exact o.elim
    | nil =>
      simp only [tupleF] at o
      cases e : seqL S w with
      | some l =>
        rw [e] at o
        obtain ⟨p, vs, rfl, hq, q⟩ := seqL_ok rl a e
        exact call_tuple_of pins s σ H _ us Q I rv ⟨p, vs, rfl, .inl ⟨by rw [hk]; exact hq, fun l hl => o r _ _ (Ev.fresh hl rl) (rl.fresh hl) (.tup (.inl (Own.new hl rl)) (q.ev (Ev.fresh hl rl)))⟩⟩
      | none =>
        rw [e] at o
        simp only [] at o
        cases w with
        | tup l =>
          simp only [seqT] at o
          cases a with
          | tup ta q => exact call_tuple_of pins s σ H _ us Q I rv ⟨_, _, rfl, .inr ⟨by rw [hk]; exact ta.sq, o r H _ .refl rl (.tup ta q)⟩⟩
        | _ => exact o.elim
/-! all, any -/
def blsOf : List W → Option (List Bool)
  | [] => some []
  | .bl b :: l => (blsOf l).map (b :: ·)
  | _ => none
theorem blsOf_ok : ∀ {ws : List W} {vs : List V} {bs : List Bool}, RWs G H S r ws vs → blsOf ws = some bs → vs = bs.map V.bl
  | [], _, _, .nil, e => by cases e; rfl
  | w :: ws, _, bs, .cons a q, e => by
    cases w with
    | bl b =>
      cases a
      simp only [blsOf] at e
      cases e1 : blsOf ws with
      | none => rw [e1] at e; cases e
      | some l =>
        rw [e1] at e
        cases e
        rw [blsOf_ok q e1]
        rfl
    | _ => cases e
def allF : Fn := fun ws S => match ws with
  | [w] => match seqL S w with
    | some l => match blsOf l with
      | some bs => .ok (.bl (bs.all id)) S
      | none => .no
    | none => .no
  | _ => .no
theorem c_all (hk : X.K = G.K) (hc : X.calm = true) : CallR X (.builtin "all") (toC1 G xv allF) := by
  intro pins s σ H xs us Q I rv ⟨r, S, ws, rl, q, o⟩
  cases q with
  | nil => exact o.elim
  | @cons w ws v vs a q =>
    cases q with
    | cons _ _ => exact o.elim
    | nil =>
      simp only [allF] at o
      cases e : seqL S w with
      | none => rw [e] at o; exact o.elim
      | some l =>
        rw [e] at o
        simp only [] at o
        obtain ⟨p, vs, rfl, hq, q⟩ := seqL_ok rl a e
        cases eb : blsOf l with
        | none => rw [eb] at o; exact o.elim
        | some bs =>
          rw [eb] at o
          have hv := blsOf_ok q eb
          subst hv
          exact cr_all hc pins s σ H _ us Q I rv ⟨p, bs, rfl, by rw [hk]; exact hq, o r H _ .refl rl (.bl _)⟩
/-! sum of ints -/
/-! isinstance -/
/-! ### lists joined, repeated; texts joined -/
def catD : D2 := fun a b S => match a, b with
  | .lst xs, .lst ys => if xs.length + ys.length ≤ sizeLine then .ok (.lst (xs ++ ys)) S else .no
  | _, _ => .no
theorem o_cat : OpR X (binaryOp .Add) (toR2 G xv catD) := by
  intro pins s σ H x y v u Q I rx ry ⟨r, S, a, b, rl, qa, qb, o⟩
  cases a with
  | lst ws =>
    cases b with
    | lst us =>
      cases qa with
      | lst ow q =>
        cases qb with
        | lst ow' q' =>
          simp only [catD] at o
          split at o
          · rename_i h
            exact op_cat pins s σ H _ _ v u Q I rx ry ⟨_, _, _, _, rfl, rfl, ow.1, ow'.1, by rw [← q.length, ← q'.length]; exact h, fun p hp => o r _ _ (Ev.fresh hp rl) (rl.fresh hp) (.lst (Own.new hp rl) ((q.append q').ev (Ev.fresh hp rl)))⟩
          · exact o.elim
    | _ => exact o.elim
  | _ => exact o.elim
def catT : D2 := fun a b S => match a, b with
  | .tup xs, .tup ys => if xs.length + ys.length ≤ sizeLine then .ok (.tup (xs ++ ys)) S else .no
  | _, _ => .no
theorem o_catT (hk : X.K = G.K) : OpR X (binaryOp .Add) (toR2 G xv catT) := by
  intro pins s σ H x y v u Q I rx ry ⟨r, S, a, b, rl, qa, qb, o⟩
  cases a with
  | tup ws =>
    cases b with
    | tup us =>
      cases qa with
      | @tup _ _ xs ta q =>
        cases qb with
        | @tup _ _ ys tb q' =>
          simp only [catT] at o
          split at o
          · rename_i h
            refine op_catA pins s σ H _ _ v u Q I rx ry ⟨_, _, _, _, rfl, rfl, by rw [hk]; exact ta.sq, by rw [hk]; exact tb.sq, by rw [← q.length, ← q'.length]; exact h, fun z => ?_, fun _ z => ?_, fun _ z p hp => ?_⟩
            · subst z; cases q
              rw [List.nil_append] at o
              exact o r H _ .refl rl (.tup tb q')
            · subst z; cases q'
              rw [List.append_nil] at o
              exact o r H _ .refl rl (.tup ta q)
            · exact o r _ _ (Ev.fresh hp rl) (rl.fresh hp) (.tup (.inl (Own.new hp rl)) ((q.append q').ev (Ev.fresh hp rl)))
          · exact o.elim
    | _ => exact o.elim
  | _ => exact o.elim
def catS : D2 := fun a b S => match a, b with
  | .str x, .str y => if x.length + y.length ≤ sizeLine then .ok (.str (x ++ y)) S else .no
  | _, _ => .no
theorem o_catS : OpR X (binaryOp .Add) (toR2 G xv catS) := by
  intro pins s σ H x y v u Q I rx ry ⟨r, S, a, b, rl, qa, qb, o⟩
  cases a with
  | str i =>
    cases b with
    | str j =>
      cases qa
      cases qb
      simp only [catS] at o
      split at o
      · rename_i h
        exact op_add_str pins s σ H _ _ v u Q I rx ry ⟨_, _, rfl, rfl, h, o r H _ .refl rl (.str _)⟩
      · exact o.elim
    | _ => exact o.elim
  | _ => exact o.elim
/-- a list times a number; new: it will be changed -/
def repD (new : Bool) : D2 := fun a b S => match a, b with
  | .lst xs, .int k => if -(2 ^ 63) ≤ k ∧ k < 2 ^ 63 ∧ xs.length * k.toNat ≤ sizeLine then (if new = true then .ok (.ref S.length) (S ++ [.lst (List.replicate k.toNat xs).flatten]) else .ok (.lst (List.replicate k.toNat xs).flatten) S) else .no
  | _, _ => .no
theorem RWs.rep {ws : List W} {vs : List V} (q : RWs G H S r ws vs) : ∀ n : Nat, RWs G H S r (List.replicate n ws).flatten (List.replicate n vs).flatten
  | 0 => .nil
  | n + 1 => by
    rw [List.replicate_succ, List.replicate_succ, List.flatten_cons, List.flatten_cons]
    exact q.append (q.rep n)
theorem o_rep {new : Bool} : OpR X (binaryOp .Mult) (toR2 G xv (repD new)) := by
  intro pins s σ H x y v u Q I rx ry ⟨r, S, a, b, rl, qa, qb, o⟩
  cases a with
  | lst ws =>
    cases b with
    | int k =>
      cases qa with
      | lst ow q =>
        cases qb
        simp only [repD] at o
        split at o
        · rename_i h
          refine op_rep pins s σ H _ _ v u Q I rx ry ⟨_, k, _, rfl, rfl, ow.1, h.1, h.2.1, by rw [← q.length]; exact h.2.2, fun p hp => ?_⟩
          cases new with
          | false => exact o r _ _ (Ev.fresh hp rl) (rl.fresh hp) (.lst (Own.new hp rl) ((q.rep _).ev (Ev.fresh hp rl)))
          | true => exact o _ _ _ (Ev.snoc hp) (rl.snoc hp (.lst (q.rep _))) newRef
        · exact o.elim
    | _ => exact o.elim
  | _ => exact o.elim
/-! ### is, is not -/
def isNone (neg : Bool) (d : DX) : DX := fun t S => (d t S).bind fun w S1 => match w with
  | .non => .ok (.bl (!neg)) S1
  | _ => .ok (.bl neg) S1
/-! ### signs -/
def dNeg (d : DX) : DX := fun t S => (d t S).bind fun w S1 => match w with
  | .int i => .ok (.int (-i)) S1
  | _ => .no
theorem de_neg {a : Expr} {d : DX} {pos : Pos} (ha : PE X a (toE G xv Wx d)) : PE X (.UnaryOp .USub a pos) (toE G xv Wx (dNeg d)) := PEi (pe_un un_neg ha) fun s H Q ⟨r, t, S, l, rl, o⟩ =>
  toX.bind l rl o fun w S1 r1 H1 v _ e1 rl1 l1 q o1 => by
    cases w with
    | int i => cases q; exact ⟨i, rfl, o1 r1 H1 _ .refl rl1 (.int _)⟩
    | _ => exact o1.elim
/-! ### methods of lists of the store -/
def toM (G : Gx) (xv : Nat → Value) (f : W → List W → Sto → R W) : V → List V → Hp → VK → Prop := fun x vs H Q => ∃ r S w ws, Rl G H S r ∧ RW G H S r w x ∧ RWs G H S r ws vs ∧ OutE G xv W0 (fun H S r w v => RW G H S r w v) [] H S r (f w ws S) Q
def appendM : W → List W → Sto → R W := fun w ws S => match w, ws with
  | .ref p, [y] => match S[p]? with
    | some (.lst xs) => if xs.length < sizeLine then .ok .non (S.set p (.lst (xs ++ [y]))) else .no
    | _ => .no
  | _, _ => .no
theorem m_append : MtR X "list.append" (toM G xv appendM) := by
  intro pins s σ H x xs v us Q I rx rv ⟨r, S, w, ws, rl, qw, q, o⟩
  cases w with
  | ref p =>
    cases q with
    | nil => exact o.elim
    | @cons y ws yv vs a q =>
      cases q with
      | cons _ _ => exact o.elim
      | nil =>
        simp only [appendM] at o
        cases e : S[p]? with
        | none => rw [e] at o; exact o.elim
        | some u =>
          rw [e] at o
          cases u with
          | lst zs =>
            simp only [] at o
            split at o
            · rename_i h
              obtain ⟨ho, h1, h2⟩ := rl.at_ p _ e (fun z => by cases z)
              cases qw with
              | ref hp =>
                cases h2 with
                | @lst _ zv qz =>
                  refine mt_append pins s σ H _ _ v us Q I rx rv ⟨r p, zv, yv, rfl, rfl, h1, by rw [← qz.length]; exact h, ?_⟩
                  exact o r _ _ (Ev.set rl e (fun z => by cases z)) (rl.set e (fun z => by cases z) (.lst (qz.snoc a))) .non
            · exact o.elim
          | _ => exact o.elim
  | _ => exact o.elim
theorem RWs.dropLast : ∀ {ws : List W} {vs : List V}, RWs G H S r ws vs → RWs G H S r ws.dropLast vs.dropLast
  | _, _, .nil => .nil
  | _, _, .cons a .nil => .nil
  | _, _, .cons a (.cons b q) => .cons a (RWs.dropLast (.cons b q))
def dMt (f : W → List W → Sto → R W) (o : DX) (d : DA) : DX := fun t S => (o t S).bind fun w S1 => match seqL S1 w with
  | some _ => (d t S1).bind fun ws S2 => match f w ws S2 with
    | .ok x S3 => .ok x S3
    | _ => .no
  | none => .no
theorem outMt {f : W → List W → Sto → R W} {w : W} {ws : List W} {s : L2.St} {Q : VK} (o : OutE G xv Wx (fun H S r w v => RW G H S r w v) s H S r (match f w ws S with
  | .ok x S3 => .ok x S3
  | _ => .no) Q) : OutE G xv W0 (fun H S r w v => RW G H S r w v) [] H S r (f w ws S) Q := by
  cases e : f w ws S with
  | ok x S3 => rw [e] at o; exact o
  | er c ns us S3 => rw [e] at o; exact o.elim
  | no => rw [e] at o; exact o.elim
theorem de_mtL {o e : Expr} {es : List Expr} {name : Str} {id : String} {f : W → List W → Sto → R W} {dob : DX} {d : DA} {apos cpos : Pos} (c : Cok G X Wx) (slot : Slot "list" name id) (hty : typeOf (.builtin id) = pure (.type "method_descriptor")) (hm : MtR X id (toM G xv f)) (ho : PE X o (toE G xv Wx dob)) (ha : PA X (e :: es) (toA G xv Wx d))
    (hbase : attributeBase o name X.env (eval o X.env) = eval o X.env := by rfl)
    (hfew : ((backTo cpos (starEach (e :: es) X.env)).all (fun x => !x.1) && (backToKw cpos (keywordEach [] X.env)).all (fun x => x.1.isSome)
      && decide ((e :: es).length + ([] : List Keyword).length + (if ([] : List Keyword).isEmpty then 0 else 1) < 30)) = true := by rfl)
    (hline : (apos.endLine == cpos.line) = true := by rfl) (hs : starEach (e :: es) X.env = (false, eval e X.env) :: starEach es X.env := by rfl) (hplain : (backTo cpos (starEach es X.env)).any (·.1) = false := by rfl) :
    PE X (.Call (.Attribute o name apos) (e :: es) [] cpos) (toE G xv Wx (dMt f dob d)) :=
  PEi (pe_bm PySem.F.plainAttrs_list slot hty hm ho ha hbase hfew hline hs hplain) fun s H Q ⟨r, t, S, l, rl, o⟩ =>
    toX.bind l rl o fun w S1 r1 H1 v _ e1 rl1 l1 q o1 => by
      cases e : seqL S1 w with
      | none => rw [e] at o1; exact o1.elim
      | some us =>
        rw [e] at o1
        obtain ⟨p, vs, rfl, hq, _⟩ := seqL_ok rl1 q e
        refine ⟨.inl ⟨rfl, vs, by rw [c.kk]; exact hq⟩, ?_⟩
        exact toX.bind l1 rl1 o1 fun ws S2 r2 H2 vs _ e2 rl2 l2 qs o2 => ⟨r2, S2, w, ws, rl2, q.ev e2, qs, outMt o2⟩
/-! ### slices -/
def cutW (xs : List W) (lo hi : Option Int) : List W := (xs.drop (HT.sIx xs.length 0 lo)).take (HT.sIx xs.length xs.length hi - HT.sIx xs.length 0 lo)
abbrev DO := Lo → Sto → R (Option Int)
abbrev toO (G : Gx) (xv : Nat → Value) (Wx : WX) (d : DO) : TO := toX G xv Wx (fun _ _ _ (w : Option Int) v => w = v) d
def dNoP : DO := fun _ S => .ok none S
def dPart (d : DX) : DO := fun t S => (d t S).bind fun w S1 => match w with
  | .int i => .ok (some i) S1
  | _ => .no
theorem POi {e : Option Expr} {t t' : TO} (h : PO X e t) (i : ∀ s H Q, t' s H Q → t s H Q) : PO X e t' := ⟨fun pins s σ H Q I q => h.run pins s σ H Q I (i _ _ _ q)⟩
theorem do_none : PO X none (toO G xv Wx dNoP) := POi po_none fun s H Q ⟨r, t, S, l, rl, o⟩ => o r H none .refl rl rfl
theorem do_some {e : Expr} {d : DX} (h : PE X e (toE G xv Wx d)) : PO X (some e) (toO G xv Wx (dPart d)) := POi (po_some h) fun s H Q ⟨r, t, S, l, rl, o⟩ =>
  toX.bind l rl o fun w S1 r1 H1 v _ e1 rl1 l1 q o1 => by
    cases w with
    | int i => cases q; exact ⟨i, rfl, o1 r1 H1 _ .refl rl1 rfl⟩
    | _ => exact o1.elim
/-- a slice of a list is a new list (held as a value), of a tuple a tuple -/
def slW (w : W) (lo hi : Option Int) (S : Sto) : R W := match seqL S w with
  | some ws => .ok (.lst (cutW ws lo hi)) S
  | none => match seqT w with
    | some ws => .ok (.tup (cutW ws lo hi)) S
    | none => .no
def dSl (d : DX) (lo hi : DO) : DX := fun t S => (d t S).bind fun w S1 => (lo t S1).bind fun a S2 => (hi t S2).bind fun b S3 => match slW w a b S3 with
  | .ok x S4 => .ok x S4
  | _ => .no
end
end DD
namespace DD
open PySem PySem.Spec PyProof.Rows L2
section
variable {G : Gx} {xv : Nat → Value} {Wx : WX} {X : Cx} {H H' : Hp} {S S' : Sto} {r r' : Rh}
/-! ### sums of several kinds -/
def addD : D2 := orD iAdd (orD catD (orD catS catT))
theorem o_addD (hk : X.K = G.K) : OpR X (binaryOp .Add) (toR2 G xv addD) := op_or o_add (op_or o_cat (op_or o_catS (o_catT hk)))
def mulD (new : Bool) : D2 := orD iMul (repD new)
theorem o_mulD {new : Bool} : OpR X (binaryOp .Mult) (toR2 G xv (mulD new)) := op_or o_mul o_rep
theorem dt_isNone {a : Expr} {d : DX} {pos pos' : Pos} {j} (ha : PE X a (toE G xv Wx d)) : PT X (.Compare a [.Is] [.Constant .none j pos'] pos) (toT G xv Wx (dTest (isNone false d))) := PTi (pt_cmp (pc_isN ha) rfl) fun s H Q ⟨r, t, S, l, rl, o⟩ => by
  refine ⟨r, t, S, l, rl, ?_⟩
  unfold dTest isNone at o
  cases e : d t S with
  | no => rw [e] at o; exact o
  | er c ns ws S1 => rw [e] at o; exact o
  | ok w S1 =>
    rw [e] at o
    intro r1 H1 v e1 rl1 q
    cases q with
    | non => exact ⟨true, rfl, o r1 H1 true e1 rl1 rfl⟩
    | _ => exact ⟨false, rfl, o r1 H1 false e1 rl1 rfl⟩
/-- a list, the script, a tuple, one kind or the other -/
def dSeqI (d : DX) : DA := fun t S => (d t S).bind fun w S1 => match w with
  | .lst ws => .ok ws S1
  | .scr ws => .ok ws S1
  | .tup ws => .ok ws S1
  | _ => .no
theorem PIor {tg e : Expr} {t t' : TI} (h : PI X tg e t) (h' : PI X tg e t') : PI X tg e (fun s H R => t s H R ∨ t' s H R) := ⟨fun pins s σ H Q I q => q.elim (h.run pins s σ H Q I) (h'.run pins s σ H Q I)⟩
theorem di_seq {tg e : Expr} {d : DX} (k : Cok G X Wx) (he : PE X e (toE G xv Wx d)) : PI X tg e (toI G xv Wx (dSeqI d)) := by
  have key : PI X tg e (fun s H R => toE G xv Wx d s H fun x H1 => (∃ a, x = .ref a ∧ (∃ xs, SqL X.K H1 a xs) ∧ R (Itl X.K a) H1) ∨ (∃ a, x = .ref a ∧ (∃ xs, SqT X.K H1 a xs) ∧ R (Itt X.K a) H1)) := by
    refine ⟨fun pins s σ H R I h => ?_⟩
    refine thn (he.run pins s σ H _ I h) fun v s1 ⟨x, H1, I1, r1, q1⟩ => ?_
    rcases q1 with q1 | q1
    · obtain ⟨a, e, ⟨xs, hq⟩, q⟩ := q1
      subst e
      cases r1
      obtain ⟨its, rv, p, hz⟩ := I1.list hq
      refine wpAny_pyIter_list p.isList ?_
      refine ⟨s1.heap.objs.size, [s1.heap.objs.size], _, _, H1, rfl, I1.kept (t' := s1.toks) fun b o e => Heap.get?_push_of_some _ e, turn_list a _, ⟨_, Heap.get?_push_size _ rfl, rfl, rfl⟩, fun b hb => ?_, q⟩
      have e : b = s1.heap.objs.size := by simpa using hb
      subst e
      exact I1.fpOk (Nat.le_refl _) (I1.hok.fresh (Nat.le_refl _))
    · obtain ⟨a, e, ⟨xs, hq⟩, q⟩ := q1
      subst e
      cases r1
      obtain ⟨its, rv, p, hz⟩ := I1.tuple hq
      refine wpAny_pyIter_tuple (show s1.heap.IsTuple a its.toArray from p) ?_
      refine ⟨s1.heap.objs.size, [s1.heap.objs.size], _, _, H1, rfl, I1.kept (t' := s1.toks) fun b o e => Heap.get?_push_of_some _ e, turn_tuple a _, ⟨_, Heap.get?_push_size _ rfl, rfl, rfl⟩, fun b hb => ?_, q⟩
      have e : b = s1.heap.objs.size := by simpa using hb
      subst e
      exact I1.fpOk (Nat.le_refl _) (I1.hok.fresh (Nat.le_refl _))
  refine PIi key fun s H Q ⟨r, t, S, l, rl, o⟩ => ?_
  refine toX.bind l rl o fun w S1 r1 H1 v _ e1 rl1 l1 q o1 => ?_
  rw [k.kk]
  cases w with
  | lst ws =>
    cases q with
    | lst ow q => exact .inl ⟨_, rfl, ⟨_, .inl (.inl ow.1)⟩, o1 r1 H1 _ .refl rl1 (itl (fun H2 S2 r2 e2 => .inl (.inl (e2.own _ _ ow).1)) q)⟩
  | scr ws =>
    cases q with
    | scr ow q => exact .inl ⟨_, rfl, ⟨_, ow.sq⟩, o1 r1 H1 _ .refl rl1 (itl (fun H2 S2 r2 e2 => (ow.mp e2).sq) q)⟩
  | tup ws =>
    cases q with
    | tup ta q => exact .inr ⟨_, rfl, ⟨_, ta.sq⟩, o1 r1 H1 _ .refl rl1 (itt ta q)⟩
  | _ => exact o1.elim
end
/-! ### isinstance of built-in kinds -/
/-! ### the end -/
theorem ints_rw {G : Gx} {H : Hp} {S : Sto} {r : Rh} : ∀ ns : List Int, RWs G H S r (ns.map W.int) (ns.map V.int)
  | [] => .nil
  | n :: ns => .cons (.int n) (ints_rw ns)
theorem scr_rw {G : Gx} {H : Hp} {a : Addr} {ns : List Int} (h : SqL G.K H a (ns.map V.int)) : RW G H [] ⟨fun _ => 0, fun _ => False⟩ (.scr (ns.map W.int)) (.ref a) := by
  have nl : ¬ Lv [] ⟨fun _ => 0, fun _ => False⟩ a := by
    rintro (⟨i, o, e, _⟩ | z)
    · simp at e
    · exact z
  refine .scr ?_ (ints_rw ns)
  rcases h with (h | ⟨o, h⟩) | h
  · exact .inr (.inl ⟨h, nl⟩)
  · exact .inl ⟨o, h, nl⟩
  · exact .inr (.inr h)
theorem rl_nil {G : Gx} {H : Hp} (ht : ∀ p ∈ G.T, TabR H [] ⟨fun _ => 0, fun _ => False⟩ p.1 p.2 := by intro p h; cases h) (hl : ∀ li, G.li = some li → LamR G H [] ⟨fun _ => 0, fun _ => False⟩ li := by intro li h; cases h) : Rl G H [] ⟨fun _ => 0, fun _ => False⟩ := ⟨fun i o e => by simp at e, fun i j o u e => by simp at e, fun a z => z.elim, fun i o e => by simp at e, ht, hl⟩
/-- the law's own promise, by its mirror -/
theorem law_at {l : PySem.W.OpenLaw} {w : World} {K : PySem.W.Frag} {cm : Nat → Addr} {xv : Nat → Value} {k : Nat} {x : Str} {mg : Str → Option Value} {f : Addr} {h : Heap} {fn : Fn}
    (hb : ∃ fd : FuncData, (∀ (s : Shared) (u : Value), BindsTo s fd ⟨[u], []⟩ [(x, u)]) ∧ ∀ base : Heap, K.In base → base.Ns mainGlobals mg → FnOk l.prog w K mg base (L2.CX l.prog w) k f fd [x] (spF ⟨K, cm, w, [], none, none⟩ xv 1 fn))
    (hl : ∀ ns : List Int, ns.length ≤ 63 → (∀ z ∈ ns, Builtin.Int.intBits z ≤ 1048576) → ∃ S', fn [.scr (ns.map W.int)] [] = .ok (.bl true) S') : LamX.LawAtS l w K (L2.CX l.prog w) k 63 x mg f h := by
  obtain ⟨fd, b, F⟩ := hb
  refine ⟨fd, [], _, by simp, by simp, by simp, b, fun H a ns hn hbits _ hS => ?_, fun base h1 h2 _ => F base h1 h2⟩
  obtain ⟨S', e⟩ := hl ns hn hbits
  refine ⟨rfl, _, [], _, .cons (scr_rw hS) .nil, rl_nil, ?_⟩
  rw [e]
  intro r' H' v _ _ q
  cases q
  rfl
theorem cx_end (P : Program) (w : World) (H : Hp) (s : Shared) (e : Value) (s' : Shared) : L2.CX P w [] H s (fun _ _ _ => False) e s' → False := fun ⟨_, _, _, _, _, _, _, _, _, _, _, _, z⟩ => z
end DD
namespace DD
open PySem PySem.Spec PyProof.Rows L2
section
variable {G : Gx} {xv : Nat → Value} {Wx : WX} {X : Cx} {H H' : Hp} {S S' : Sto} {r r' : Rh}
/-! ### dicts of the store: int and text keys -/
def keyW : W → Option Key
  | .int i => some (.inl i)
  | .str x => some (.inr x)
  | _ => none
def dGetW (ks : List Key) (ws : List W) (k : Key) : Option W := match ks, ws with
  | a :: ks, w :: ws => if a = k then some w else dGetW ks ws k
  | _, _ => none
def dPutW (ks : List Key) (ws : List W) (k : Key) (x : W) : List Key × List W := match ks, ws with
  | a :: ks, w :: ws => if a = k then (a :: ks, x :: ws) else let p := dPutW ks ws k x; (a :: p.1, w :: p.2)
  | _, _ => ([k], [x])
/-- what a dict holds: of the store or a value -/
def dicOf (S : Sto) : W → Option (List Key × List W)
  | .dic ks ws => some (ks, ws)
  | .ref i => match S[i]? with
    | some (.dic ks ws) => some (ks, ws)
    | _ => none
  | _ => none
def dDIn (neg : Bool) (k d : DX) : DX := fun t S => (k t S).bind fun y S1 => (d t S1).bind fun w S2 => match dicOf S2 w, keyW y with
  | some p, some k => .ok (.bl (neg != (dGetW p.1 p.2 k).isSome)) S2
  | _, _ => .no
/-- d[k] = v -/
def dDPut (d k v : DX) : DS := fun t S => (v t S).toF t fun x S1 => (d t S1).toF t fun w S2 => (k t S2).toF t fun y S3 => match w with
  | .ref i => match S3[i]?, keyW y with
    | some (.dic ks ws), some k => if ks.Nodup ∧ ks.length < 1000000 then .nx t (S3.set i (.dic (dPutW ks ws k x).1 (dPutW ks ws k x).2)) else .no
    | _, _ => .no
  | _ => .no
/-! ### starred parts of a display -/
/-! ### operators of own classes -/
/-- an instance of the class c -/
def isOf (c : Nat) (w : W) (S : Sto) : Bool := match w with
  | .obj c' _ _ => decide (c' = c)
  | .ref i => match S[i]? with
    | some (.ins c' _ _) => decide (c' = c)
    | _ => false
  | _ => false
/-! ### x op= e -/
/-! ### enumerate, ranges by steps -/
/-! ### is True, is False -/
/-! ### list(range(n)), list(range(a, b)) -/
/-! ### one or the other -/
end
end DD
namespace DD
open PySem PySem.Spec PyProof.Rows L2
section
variable {G : Gx} {xv : Nat → Value} {Wx : WX} {X : Cx} {H H' : Hp} {S S' : Sto} {r r' : Rh}
/-! ### a list of the store is walked: it must stay as it is meanwhile -/
structure ItG (G : Gx) (H : Hp) (S : Sto) (r : Rh) (J : It) (p : Nat) (ws : List W) : Prop where
  go : ∀ H1 S1 r1, Mp H S r H1 S1 r1 → Rl G H1 S1 r1 → S1[p]? = some (.lst ws) → ∀ i w, ws[i]? = some w → J.go i H1
  yld : ∀ H1 S1 r1, Mp H S r H1 S1 r1 → Rl G H1 S1 r1 → S1[p]? = some (.lst ws) → ∀ i w, ws[i]? = some w → ∀ x H2, J.yld i H1 x H2 → Ev H1 S1 r1 H2 S1 r1 ∧ Rl G H2 S1 r1 ∧ RW G H2 S1 r1 w x
  stop : ∀ H1 S1 r1, Mp H S r H1 S1 r1 → Rl G H1 S1 r1 → S1[p]? = some (.lst ws) → ∀ i, ws.length ≤ i → J.stop i H1
abbrev toIR (G : Gx) (xv : Nat → Value) (Wx : WX) (d : Lo → Sto → R (Nat × List W)) : TI := toX G xv Wx (fun H S r w J => ItG G H S r J w.1 w.2) d
def dSeqR (d : DX) : Lo → Sto → R (Nat × List W) := fun t S => (d t S).bind fun w S1 => match w with
  | .ref p => match S1[p]? with
    | some (.lst ws) => .ok (p, ws) S1
    | _ => .no
  | _ => .no
theorem itG {p : Nat} {ws : List W} (hp : p < S.length) : ItG G H S r (Itl G.K (r p)) p ws where
  go := fun H1 S1 r1 e rl hg i w hw => by
    obtain ⟨ho, h1, h2⟩ := rl.at_ p _ hg (fun z => by cases z)
    cases h2 with
    | lst q =>
      obtain ⟨v, h3, _⟩ := q.get hw
      exact ⟨_, v, .inl (.inl (by rw [← e.rho p hp]; exact h1)), h3⟩
  yld := fun H1 S1 r1 e rl hg i w hw x H2 hy => by
    obtain ⟨ho, h1, h2⟩ := rl.at_ p _ hg (fun z => by cases z)
    cases h2 with
    | lst q =>
      obtain ⟨v, h3, h4⟩ := q.get hw
      obtain ⟨rfl, f⟩ := hy
      have := f _ (.inl (.inl (by rw [← e.rho p hp]; exact h1)))
      rw [h3] at this
      cases this
      exact ⟨.refl, rl, h4⟩
  stop := fun H1 S1 r1 e rl hg i hi => by
    obtain ⟨ho, h1, h2⟩ := rl.at_ p _ hg (fun z => by cases z)
    cases h2 with
    | lst q => exact ⟨_, .inl (.inl (by rw [← e.rho p hp]; exact h1)), by rw [← q.length]; exact hi⟩
theorem di_seqR {tg e : Expr} {d : DX} (k : Cok G X Wx) (he : PE X e (toE G xv Wx d)) : PI X tg e (toIR G xv Wx (dSeqR d)) := PIi (pi_list he) fun s H Q ⟨r, t, S, l, rl, o⟩ =>
  toX.bind l rl o fun w S1 r1 H1 v _ e1 rl1 l1 q o1 => by
    rw [k.kk]
    cases w with
    | ref p =>
      simp only [] at o1
      cases es : S1[p]? with
      | none => rw [es] at o1; exact o1.elim
      | some u =>
        rw [es] at o1
        cases u with
        | lst ws =>
          obtain ⟨ho, h1, h2⟩ := rl1.at_ p _ es (fun z => by cases z)
          cases q with
          | ref hi =>
            cases h2 with
            | lst q => exact ⟨_, rfl, ⟨_, .inl (.inl h1)⟩, o1 r1 H1 _ .refl rl1 (itG (List.getElem?_eq_some_iff.mp es).1)⟩
        | _ => exact o1.elim
    | _ => exact o1.elim
open Classical in
noncomputable def forLR (g : DG) (b : DS) (p : Nat) (us : List W) : List W → Lo → Sto → F
  | [], t, S => if S[p]? = some (.lst us) then .nx t S else .no
  | w :: ws, t, S => if S[p]? = some (.lst us) then match g w t S with
    | .ok t1 S1 => match b t1 S1 with
      | .nx t2 S2 => forLR g b p us ws t2 S2
      | .ct t2 S2 => forLR g b p us ws t2 S2
      | .bk t2 S2 => .nx t2 S2
      | x => x
    | _ => .no
    else .no
noncomputable def dForR (d : Lo → Sto → R (Nat × List W)) (g : DG) (b : DS) : DS := fun t S => (d t S).toF t fun ws S1 => forLR g b ws.1 ws.2 ws.2 t S1
open Classical in
noncomputable def lcLR (g : Tg) (tt : DT) (te : DX) (t0 : Lo) (p : Nat) (us : List W) : List W → List W → Sto → R W
  | [], acc, S => if S[p]? = some (.lst us) then .ok (.lst acc) S else .no
  | w :: ws, acc, S => if S[p]? = some (.lst us) then match g.put w t0 with
    | some t1 => match tt t1 S with
      | .ok true S2 => match te t1 S2 with
        | .ok x S3 => if acc.length < sizeLine then lcLR g tt te t0 p us ws (acc ++ [x]) S3 else .no
        | _ => .no
      | .ok false S2 => lcLR g tt te t0 p us ws acc S2
      | _ => .no
    | none => .no
    else .no
noncomputable def dLcR (d : Lo → Sto → R (Nat × List W)) (g : Tg) (tt : DT) (te : DX) (vs : List Nat) : DX := fun t S => (d t S).bind fun ws S1 => lcLR g tt te (wipeW t vs) ws.1 ws.2 ws.2 [] S1
theorem toLcR {d : Lo → Sto → R (Nat × List W)} {g : Tg} {tt : DT} {te : DX} {vs : List Nat} (hv : ∀ i ∈ g.places, i ∈ vs) (s : L2.St) (H : Hp) (Q : VK) : toE G xv Wx (dLcR d g tt te vs) s H Q → tLc (toIR G xv Wx d) (g.toTG G.K) (toT G xv W0 tt) (toE G xv W0 te) vs s H Q := by
  rintro ⟨r, t, S, l, rl, o⟩
  refine toX.bind l rl o fun pw S1 r1 H1 J _ e1 rl1 l1 q o1 => ?_
  obtain ⟨p, ws⟩ := pw
  intro D hD
  obtain ⟨f1, z1⟩ := r1
  have hz1 : ¬ z1 D := fun z => by
    obtain ⟨u, h⟩ := rl1.zs D z
    rw [hD] at h; cases h
  have sub : ∀ a, z1 a → (z1 a ∨ a = D) := fun a h => .inl h
  -- from the base into a state with D
  have inn : ∀ {H2 : Hp} {S2 : Sto} {f2 : Nat → Addr}, Ev H1 S1 ⟨f1, z1⟩ H2 S2 ⟨f2, z1⟩ → Mp H1 S1 ⟨f1, z1⟩ H2 S2 ⟨f2, fun a => z1 a ∨ a = D⟩ := fun {H2 S2 f2} e2 =>
    ⟨fun a u ow k => ⟨(ow.ev e2 k.nt).1, fun lv => by
      rcases lv with lv | lv | lv
      · exact (ow.ev e2 k.nt).2 (.inl lv)
      · exact (ow.ev e2 k.nt).2 (.inr lv)
      · exact ne_of_none ow.1 hD lv⟩, e2.rho, e2.len⟩
  refine ⟨fun i m H2 => ∃ (f2 : Nat → Addr) (S2 : Sto) (acc : List W) (av : List V), m + i = ws.length ∧ Ev H1 S1 ⟨f1, z1⟩ H2 S2 ⟨f2, z1⟩ ∧ Rl G H2 S2 ⟨f2, fun a => z1 a ∨ a = D⟩ ∧ H2 D = some (.lst av) ∧ RWs G H2 S2 ⟨f2, fun a => z1 a ∨ a = D⟩ acc av ∧
      OutE G xv Wx (fun H S r w v => RW G H S r w v) s H1 S1 ⟨f1, z1⟩ (lcLR g tt te (wipeW t vs) p ws (ws.drop i) acc S2) Q,
    ⟨ws.length, f1, S1, [], [], rfl, Ev.fresh hD rl1, rl1.add hD, upd_same, .nil, o1⟩, ?_⟩
  rintro i m H2 ⟨f2, S2, acc, av, hm, e2, rl2, d2, qa, o2⟩
  by_cases hi : i < ws.length
  · have hw : ws[i]? = some ws[i] := List.getElem?_eq_getElem hi
    rw [List.drop_eq_getElem_cons hi] at o2
    unfold lcLR at o2
    split at o2
    · rename_i hG
      refine .inr ⟨q.go H2 S2 _ (inn e2) rl2 hG i _ hw, fun H3 => ∃ (f3 : Nat → Addr) (S3 : Sto) (acc : List W) (av : List V), Ev H1 S1 ⟨f1, z1⟩ H3 S3 ⟨f3, z1⟩ ∧ Rl G H3 S3 ⟨f3, fun a => z1 a ∨ a = D⟩ ∧ H3 D = some (.lst av) ∧ RWs G H3 S3 ⟨f3, fun a => z1 a ∨ a = D⟩ acc av ∧
        OutE G xv Wx (fun H S r w v => RW G H S r w v) s H1 S1 ⟨f1, z1⟩ (lcLR g tt te (wipeW t vs) p ws (ws.drop (i + 1)) acc S3) Q, fun H3 ⟨f3, S3, acc, av, a1, a2, a3, a4, a5⟩ => ⟨m - 1, by omega, f3, S3, acc, av, by omega, a1, a2, a3, a4, a5⟩, fun x H3 hy => ?_⟩
      obtain ⟨e3, rl3, qx⟩ := q.yld H2 S2 _ (inn e2) rl2 hG i _ hw x H3 hy
      have b3 : Ev H1 S1 ⟨f1, z1⟩ H3 S2 ⟨f2, z1⟩ := e2.trans (e3.less rl3 sub)
      have d3 : H3 D = some (.lst av) := e3.kz D _ d2 (.inr rfl)
      have l3 : RLo G H3 S2 ⟨f2, fun a => z1 a ∨ a = D⟩ (wipeW t vs) (wipe s vs) := (l1.mp (inn b3)).wipe vs
      cases eg : g.put ws[i] (wipeW t vs) with
      | none => rw [eg] at o2; exact o2.elim
      | some t4 =>
        simp only [eg] at o2
        refine Tg.ok hv qx l3 eg fun s4 l4 w4 => ⟨by rw [w4, wipe_wipe], _, t4, S2, l4, rl3, ?_⟩
        cases et : tt t4 S2 with
        | er c ns us S5 => simp only [et] at o2; exact o2.elim
        | no => simp only [et] at o2; exact o2.elim
        | ok k S5 =>
          rintro ⟨f5, z5⟩ H5 k' e5 rl5 rfl
          have hz5 : z5 = fun a => z1 a ∨ a = D := e5.zz
          subst hz5
          have b5 : Ev H1 S1 ⟨f1, z1⟩ H5 S5 ⟨f5, z1⟩ := b3.trans (e5.less rl5 sub)
          have d5 : H5 D = some (.lst av) := e5.kz D _ d3 (.inr rfl)
          have qa5 := (qa.ev e3).ev e5
          cases k with
          | false =>
            simp only [et] at o2
            rw [if_neg Bool.false_ne_true]
            exact ⟨f5, S5, acc, av, b5, rl5, d5, qa5, o2⟩
          | true =>
            simp only [et] at o2
            rw [if_pos rfl]
            refine ⟨_, t4, S5, l4.ev e5, rl5, ?_⟩
            cases ee : te t4 S5 with
            | er c ns us S6 => simp only [ee] at o2; exact o2.elim
            | no => simp only [ee] at o2; exact o2.elim
            | ok y S6 =>
              simp only [ee] at o2
              rintro ⟨f6, z6⟩ H6 v e6 rl6 qy
              have hz6 : z6 = fun a => z1 a ∨ a = D := e6.zz
              subst hz6
              have b6 : Ev H1 S1 ⟨f1, z1⟩ H6 S6 ⟨f6, z1⟩ := b5.trans (e6.less rl6 sub)
              have d6 : H6 D = some (.lst av) := e6.kz D _ d5 (.inr rfl)
              have qa6 := qa5.ev e6
              have hl : av.length = acc.length := qa6.length.symm
              by_cases hs : acc.length < sizeLine
              · rw [if_pos hs] at o2
                have mp : Mp H6 S6 ⟨f6, fun a => z1 a ∨ a = D⟩ (upd H6 D (.lst (av ++ [v]))) S6 ⟨f6, fun a => z1 a ∨ a = D⟩ := Mp.poke (.inr rfl)
                exact ⟨av, d6, by rw [hl]; exact hs, f6, S6, acc ++ [y], av ++ [v], b6.poke hD, rl6.poke (.inr rfl), upd_same, (qa6.mp mp).snoc (qy.mp mp), o2⟩
              · rw [if_neg hs] at o2; exact o2.elim
    · exact o2.elim
  · have hl : ws.length ≤ i := Nat.le_of_not_lt hi
    rw [List.drop_eq_nil_of_le hl] at o2
    unfold lcLR at o2
    split at o2
    · rename_i hG
      refine .inl ⟨q.stop H2 S2 _ (inn e2) rl2 hG i hl, o2 ⟨f2, z1⟩ H2 _ e2 (rl2.less sub) (.lst ⟨d2, ?_⟩ (qa.mp (.less sub)))⟩
      rintro (⟨j, u, e, d, z⟩ | z)
      · exact rl2.dz j u e d (.inr z)
      · exact hz1 z
    · exact o2.elim
end
end DD
namespace DD
open PySem PySem.Spec PyProof.Rows L2
/-! ### errors of one's own -/
def oexB (K : PySem.W.Frag) (C : Addr) : Bool := (match K.lookup C with
  | some ⟨.type "type", _, .cls cd, sl⟩ => (match cd.mro, sl.toList with
    | .ref C' :: bm, [_, _, _, _, some (.builtin n), _] => C' == C && n == "ValueError.__new__" && !cd.hasDel && cd.hasDict && PySem.HandSPX.refsVE bm
    | _, _ => false)
  | _ => false) && decide (PySem.W.findIn K (.ref C) "__setattr__" = some (some (.builtin "object.__setattr__"))) && decide (PySem.W.subIn K (.ref C) (.type "BaseException") = some true) && decide (PySem.W.typeIn K (.ref C) = some (.type "type")) && PySem.W.keepIn K (.ref C)
theorem oexB_ok {K : PySem.W.Frag} {C : Addr} (h : oexB K C = true) : OexC K C := by
  unfold oexB at h
  rw [Bool.and_eq_true, Bool.and_eq_true, Bool.and_eq_true, Bool.and_eq_true] at h
  obtain ⟨⟨⟨⟨q, h2⟩, h3⟩, h4⟩, h5⟩ := h
  refine ⟨?_, of_decide_eq_true h2, of_decide_eq_true h3, of_decide_eq_true h4, h5⟩
  split at q
  · rename_i dd cd sl ho
    split at q
    · rename_i C' bm k0 k1 k2 k3 n k5 hm hs
      simp only [Bool.and_eq_true, beq_iff_eq, Bool.not_eq_true'] at q
      obtain ⟨⟨⟨⟨rfl, rfl⟩, hdel⟩, hd⟩, ht⟩ := q
      obtain ⟨nm, bs, mro, ns, qn, hd', sn, sub, ab, col, del⟩ := cd
      dsimp only at hm hdel hd
      subst hm hdel hd
      have hsl : sl = #[k0, k1, k2, k3, some (.builtin "ValueError.__new__"), k5] := by
        obtain ⟨l⟩ := sl
        simp only at hs
        rw [hs]
      subst hsl
      exact ⟨nm, qn, ns, bs, bm, sn, sub, ab, col, dd, k0, k1, k2, k3, k5, ho, ht⟩
    · cases q
  · cases q
/-- what the top says of an error class with an __init__ at fI -/
structure Exc1 (K : PySem.W.Frag) (C fI : Addr) (f : Str) : Prop where
  ox : OexC K C
  iC : PySem.W.findIn K (.ref C) "__init__" = some (some (.ref fI))
  tI : PySem.W.typeIn K (.ref fI) = some (.type "function")
  no : PySem.W.findIn K (.ref C) f = some none
/-- what __init__ does: self.f = f -/
def spX1 (C : Addr) (f : Str) : Sp := fun vs H Q _ => ∃ (a : Addr) (v : V), vs = [.ref a, v] ∧ H a = some (exo a C none) ∧ ∀ dx, H dx = none → dx ≠ a → Q .non (upd (upd H dx (exd dx [(f, v)])) a (exo a C (some dx)))
theorem init1_ok {P : Program} {w : World} {K : PySem.W.Frag} {mg : Str → Option Value} {base : Heap} {C fI : Addr} {f x y qual nm : Str} {params : Arguments} {body : List Stmt} {scope : Scope} {dvs : List V} {kws : List (Str × V)} {fd : FuncData}
    (F : FunD K nm qual params body scope dvs kws fI fd) (Sc : FnScope [x, y] [x, y] scope) (T : Exc1 K C fI f)
    (hb : ∀ (cdv : Value) (A : Around) (outer : List Env) (s : Shared) (H : Hp) (E : XK), PSs (cxOf (L2.CX P w) P w K mg base [x, y] qual scope fI cdv A outer s H E) body (tOst K f (tVar 0) (tVar 1))) : FnOk P w K mg base (L2.CX P w) 1 fI fd [x, y] (spX1 C f) := by
  refine F.ok Sc (fun vs H Q E h => ?_) fun cdv A outer s H vs Q E hr h => ⟨tOst K f (tVar 0) (tVar 1), hb cdv A outer s H E, ?_⟩
  · obtain ⟨a, v, rfl, _⟩ := h
    rfl
  · obtain ⟨a, v, rfl, ha, h⟩ := h
    exact ⟨_, rfl, _, rfl, a, C, rfl, T.ox, T.no, .inl ⟨ha, fun dx h1 h2 => h dx h1 h2⟩⟩
section
variable {G : Gx} {xv : Nat → Value} {Wx : WX} {X : Cx} {H H' : Hp} {S S' : Sto} {r r' : Rh}
/-- an __init__ that keeps its promise -/
def InitOk (P : Program) (w : World) (K : PySem.W.Frag) (mg : Str → Option Value) (base : Heap) (C fI : Addr) (f : Str) (k : Nat) : Prop := ∃ fd ps, ps.length = 2 ∧ FnOk P w K mg base (L2.CX P w) k fI fd ps (spX1 C f) ∧ Binds K fd ps []
theorem init1_ok' {P : Program} {w : World} {K : PySem.W.Frag} {mg : Str → Option Value} {base : Heap} {C fI : Addr} {f x y qual nm : Str} {params : Arguments} {body : List Stmt} {scope : Scope} {kws : List (Str × V)}
    (F : ∃ fd, FunD K nm qual params body scope [] kws fI fd) (Sc : FnScope [x, y] [x, y] scope) (T : Exc1 K C fI f)
    (hb : ∀ (cdv : Value) (A : Around) (outer : List Env) (s : Shared) (H : Hp) (E : XK), PSs (cxOf (L2.CX P w) P w K mg base [x, y] qual scope fI cdv A outer s H E) body (tOst K f (tVar 0) (tVar 1)))
    (hbi : ∀ fd, FunD K nm qual params body scope [] kws fI fd → Binds K fd [x, y] []) : InitOk P w K mg base C fI f 1 := by
  obtain ⟨fd, F⟩ := F
  exact ⟨fd, [x, y], rfl, init1_ok F Sc T hb, hbi fd F⟩
/-- raise C(e), C with the one field f -/
def dRaise1 (c : Nat) (f : Str) (e : DX) : DS := fun t S => (e t S).toF t fun v S1 => .er c [f] [v] t S1
theorem upd_raise {H : Hp} {a d : Addr} {u u' v w : HO} (ha : H a = none) (hd : H d = none) (ne : d ≠ a) : upd (del (upd (upd (upd H a u) d v) a u') a) d w = upd H d w := by
  funext b
  by_cases h : b = d
  · subst h; rw [upd_same, upd_same]
  · rw [upd_ne h, upd_ne h]
    by_cases h2 : b = a
    · subst h2; rw [del_same, ha]
    · rw [del_ne h2, upd_ne h2, upd_ne h, upd_ne h2]
theorem ds_raise1 {c : Nat} {x f : Str} {e : Expr} {de : DX} {fI : Addr} {j : Nat} {p pos pos2 : Pos} (k : Cok G X Wx) (T : Exc1 X.K (G.cm c) fI f) (hi : InitOk X.prog X.w X.K X.mg X.base (G.cm c) fI f j) (hr : Room (j + 1) X.A) (hm : X.mg x = some (.ref (G.cm c))) (hx : xv c = .ref (G.cm c))
    (he : PE X e (toE G xv Wx de)) (hg : Gl X x := by rfl) (hdb : (x == ("__debug__" : Str)) = false := by decide) (hs : starEach [e] X.env = (false, eval e X.env) :: starEach [] X.env := by rfl) :
    PS X (.Raise (some (.Call (.Name x p) [e] [] pos)) none pos2) (toS G xv Wx (dRaise1 c f de)) := by
  obtain ⟨fd, ps, hp, F, hb⟩ := hi
  have hx0 : Passes (L2.CX X.prog X.w) X (fun _ _ _ => False) := passL
  refine PSi (ps_raise k.calm k.tk (pmk_oex (dvs := []) (ta := toA G xv Wx (dCons de dNil)) T.ox T.iC T.tI F hr hb .nil hx0 hg hm (da_cons he da_nil hs) hdb hs rfl)) fun D s H ⟨r, t, S, l, rl, o⟩ => ?_
  unfold dRaise1 at o
  refine ⟨r, t, S, l, rl, ?_⟩
  unfold dCons
  cases ee : de t S with
  | no => rw [ee] at o; exact o.elim
  | er c' ns ws S1 =>
    rw [ee] at o
    exact fun r1 H1 d e1 rl1 xd => o r1 H1 s d e1 rl1 (l.ev e1) xd
  | ok w S1 =>
    rw [ee] at o
    intro r1 H1 vs e1 rl1 q
    cases q with
    | @cons _ _ v _ q1 qn =>
      cases qn
      refine ⟨by simp, fun a ha => ⟨a, v, rfl, upd_same, fun dx h1 h2 => ⟨rfl, dx, [(f, v)], upd_same, ?_, ?_, ?_⟩⟩⟩
      · rw [upd_ne h2, upd_same]
      · rw [upd_ne h2] at h1; exact h1
      · have hd1 : H1 dx = none := by rw [upd_ne h2] at h1; exact h1
        rw [upd_raise ha hd1 h2, ← hx]
        exact o r1 _ s (some dx) (e1.trans (Ev.fresh hd1 rl1)) (rl1.fresh hd1) ((l.ev e1).ev (Ev.fresh hd1 rl1)) (.inr ⟨dx, [v], rfl, Own.new hd1 rl1, rfl, .cons (q1.ev (Ev.fresh hd1 rl1)) .nil⟩)
theorem pvx {x : Str} {pos : Pos} (i : Nat) (hN : X.N[i]? = some x := by rfl) (hv : Vis X.env.scope x := by first | exact Or.inl rfl | exact Or.inr (Or.inl rfl) | exact Or.inr (Or.inr rfl)) (hd : (x == ("__debug__" : Str)) = false := by decide) (hcd : (x == ("__classdict__" : Str)) = false := by decide) : PE X (.Name x pos) (tVar i) := pe_var (i := i) hN hv hd hcd
/-! ### try .. except X as n -/
def dTry1 (b : DS) (m : Nat → Option Bool) (i : Nat) (h : Nat → List Str → List W → DS) : DS := fun t S => match b t S with
  | .er c ns ws t1 S1 => match m c with
    | some true => if i < t1.length then (match h c ns ws (t1.set i none) S1 with
        | .nx t2 S2 => .nx (t2.set i none) S2
        | .bk t2 S2 => .bk (t2.set i none) S2
        | .ct t2 S2 => .ct (t2.set i none) S2
        | .rt w S2 => .rt w S2
        | _ => .no) else .no
    | some false => .er c ns ws t1 S1
    | none => .no
  | x => x
theorem RLo.setN {o : Option V} : ∀ {t : Lo} {s : L2.St} (i : Nat), RLo G H S r t s → RLo G H S r (t.set i none) (s.set i o)
  | _, _, _, .nil => .nil
  | _, _, 0, .non q => .non q
  | _, _, 0, .som _ q => .non q
  | _, _, i + 1, .non q => .non (q.setN i)
  | _, _, i + 1, .som a q => .som a (q.setN i)
theorem RLo.len : ∀ {t : Lo} {s : L2.St}, RLo G H S r t s → t.length = s.length
  | _, _, .nil => rfl
  | _, _, .non q => congrArg Nat.succ q.len
  | _, _, .som _ q => congrArg Nat.succ q.len
/-- in an except suite: the error at a, of the class cls, its own dict d, its name in slot i -/
def toXx (G : Gx) (xv : Nat → Value) (a : Addr) (cls : Value) (d : Option Addr) (i : Nat) {α β : Type} (rel : Hp → Sto → Rh → α → β → Prop) (e : Nat → List Str → List W → Lo → Sto → R α) : L2.St → Hp → (β → Hp → Prop) → Prop := fun s H Q =>
  ∃ r t S c ns ws, cls = xv c ∧ s[i]? = some (some (.ref a)) ∧ Xd G H S r d ns ws ∧ RLo G H S r t s ∧ Rl G H S r ∧ OutE G xv W0 rel s H S r (e c ns ws t S) Q
abbrev toEx (G : Gx) (xv : Nat → Value) (a : Addr) (cls : Value) (d : Option Addr) (i : Nat) (e : Nat → List Str → List W → DX) : TE := toXx G xv a cls d i (fun H S r w v => RW G H S r w v) e
abbrev toAx (G : Gx) (xv : Nat → Value) (a : Addr) (cls : Value) (d : Option Addr) (i : Nat) (e : Nat → List Str → List W → DA) : TA := toXx G xv a cls d i (fun H S r w v => RWs G H S r w v) e
def toSx (G : Gx) (xv : Nat → Value) (a : Addr) (cls : Value) (d : Option Addr) (i : Nat) (b : Nat → List Str → List W → DS) : TS := fun D s H =>
  ∃ r t S c ns ws, cls = xv c ∧ s[i]? = some (some (.ref a)) ∧ Xd G H S r d ns ws ∧ RLo G H S r t s ∧ Rl G H S r ∧ OutS G xv W0 H S r (b c ns ws t S) D
theorem ds_try1 {i : Nat} {x n : Str} {cE : Value} {body suite : List Stmt} {b₀ : Stmt} {np pos pos' : Pos} {db : DS} {dh : Nat → List Str → List W → DS} {m : Nat → Option Bool} (k : Cok G X Wx) (hs : X.stack = X.env :: X.outer) (hf : X.env.frame = some X.env.locals) (hc : Names X x cE)
    (hm : ∀ c b, m c = some b → PySem.W.exmOne X.K (xv c) cE = some b)
    (hb : ∀ (W : WX) (pn : List (Addr × Obj)) (xe : Value → Shared → Prop), Cok G (X.tr pn xe) W → PSs (X.tr pn xe) body (toS G xv W db))
    (hsu : ∀ (a : Addr) (oe : Obj) (cls : Value) (d : Option Addr) (pn : List (Addr × Obj)), Zc cls d oe → (∃ vs, oe.data = .fields vs) → PSs (X.suite a ((a, oe) :: pn)) (b₀ :: suite) (toSx G xv a cls d i dh))
    (hi : X.N[i]? = some n := by rfl) (hln : X.env.kindOf n = some .local := by rfl) :
    PS X (.Try body [.ExceptHandler (some (.Name x np)) (some n) (b₀ :: suite) pos'] [] [] pos) (toS G xv Wx (dTry1 db m i dh)) :=
  PSi (ps_try_as (tb := fun W => toS G xv W db) (ts := fun a cls d => toSx G xv a cls d i dh) hs hf k.nd hi hln hc k.tk (fun W pn xe tk po => hb W pn xe ⟨k.kk, k.ww, tk, po, k.calm, k.nd⟩) hsu) fun D s H ⟨r, t, S, l, rl, o⟩ => by
    refine ⟨r, t, S, l, rl, ?_⟩
    unfold dTry1 at o
    cases e : db t S with
    | nx t1 S1 => rw [e] at o; exact o
    | rt w S1 => rw [e] at o; exact o
    | bk t1 S1 => rw [e] at o; exact o
    | ct t1 S1 => rw [e] at o; exact o
    | no => rw [e] at o; exact o
    | er c ns ws t1 S1 =>
      rw [e] at o
      intro r1 H1 s1 d e1 rl1 l1 xd
      simp only [] at o
      cases em : m c with
      | none => rw [em] at o; exact o.elim
      | some b =>
        refine ⟨b, hm c b em, ?_, ?_⟩
        · rintro rfl
          intro a ha
          rw [em] at o
          simp only [] at o
          split at o
          · rename_i hlt
            have hl1 : i < s1.length := by rw [← l1.len]; exact hlt
            refine ⟨r1, t1.set i none, S1, c, ns, ws, rfl, List.getElem?_set_self hl1, xd, l1.setN i, rl1, ?_⟩
            have o2 := OutS.from e1 o
            cases eh : dh c ns ws (t1.set i none) S1 with
            | nx t2 S2 => rw [eh] at o2; exact fun r2 H2 s2 e2 rl2 l2 => o2 r2 H2 _ e2 rl2 (l2.setN i)
            | bk t2 S2 => rw [eh] at o2; exact fun r2 H2 s2 e2 rl2 l2 => o2 r2 H2 _ e2 rl2 (l2.setN i)
            | ct t2 S2 => rw [eh] at o2; exact fun r2 H2 s2 e2 rl2 l2 => o2 r2 H2 _ e2 rl2 (l2.setN i)
            | rt w S2 => rw [eh] at o2; exact o2
            | er c2 ns2 ws2 t2 S2 => rw [eh] at o2; exact o2.elim
            | no => rw [eh] at o2; exact o2.elim
          · exact o.elim
        · rintro rfl
          rw [em] at o
          exact o r1 H1 s1 d e1 rl1 l1 xd
/-! what an except suite is made of -/
section
variable {a : Addr} {cls : Value} {d : Option Addr} {i : Nat}
theorem toXx.bind {α β γ δ : Type} {rel : Hp → Sto → Rh → α → β → Prop} {rel' : Hp → Sto → Rh → γ → δ → Prop} {f : α → Sto → R γ} {t : Lo} {s : L2.St} {Q : β → Hp → Prop} {Q' : δ → Hp → Prop} {e : Nat → List Str → List W → Lo → Sto → R α} {c : Nat} {ns : List Str} {ws : List W}
    (hc : cls = xv c) (hi : s[i]? = some (some (.ref a))) (x : Xd G H S r d ns ws) (l : RLo G H S r t s) (rl : Rl G H S r) (o : OutE G xv W0 rel' s H S r ((e c ns ws t S).bind f) Q')
    (h : ∀ u S' r' H' b, e c ns ws t S = .ok u S' → Ev H S r H' S' r' → Rl G H' S' r' → RLo G H' S' r' t s → Xd G H' S' r' d ns ws → rel H' S' r' u b → OutE G xv W0 rel' s H' S' r' (f u S') Q' → Q b H') : toXx G xv a cls d i rel e s H Q := by
  refine ⟨r, t, S, c, ns, ws, hc, hi, x, l, rl, ?_⟩
  cases ee : e c ns ws t S with
  | ok u S1 =>
    rw [ee] at o
    exact fun r1 H1 b e1 rl1 q => h u S1 r1 H1 b ee e1 rl1 (l.ev e1) (x.ev e1) q (OutE.from e1 o)
  | er c' ns' ws' S1 => rw [ee] at o; exact o
  | no => rw [ee] at o; exact o
theorem xe_of {e : Expr} {de : DX} (h : PE X e (toE G xv W0 de)) : PE X e (toEx G xv a cls d i fun _ _ _ => de) := PEi h fun s H Q ⟨r, t, S, c, ns, ws, _, _, _, l, rl, o⟩ => ⟨r, t, S, l, rl, o⟩
theorem xa_nil : PA X [] (toAx G xv a cls d i fun _ _ _ => dNil) := PAi pa_nil fun s H Q ⟨r, t, S, c, ns, ws, _, _, _, l, rl, o⟩ => o r H [] .refl rl .nil
theorem xa_cons {e : Expr} {es : List Expr} {d1 : Nat → List Str → List W → DX} {d2 : Nat → List Str → List W → DA} (h1 : PE X e (toEx G xv a cls d i d1)) (h2 : PA X es (toAx G xv a cls d i d2)) (he : starEach (e :: es) X.env = (false, eval e X.env) :: starEach es X.env := by rfl) : PA X (e :: es) (toAx G xv a cls d i fun c ns ws => dCons (d1 c ns ws) (d2 c ns ws)) :=
  PAi (pa_cons h1 h2 he) fun s H Q ⟨r, t, S, c, ns, ws, hc, hi, x, l, rl, o⟩ => toXx.bind hc hi x l rl o fun w S1 r1 H1 v _ e1 rl1 l1 x1 q o1 => toXx.bind hc hi x1 l1 rl1 o1 fun us S2 r2 H2 vs _ e2 rl2 l2 x2 qs o2 => o2 r2 H2 _ .refl rl2 (.cons (q.ev e2) qs)
theorem xe_tup {es : List Expr} {x1} {de : Nat → List Str → List W → DA} {pos : Pos} (h : PA X es (toAx G xv a cls d i de)) : PE X (.Tuple es x1 pos) (toEx G xv a cls d i fun c ns ws => dTup (de c ns ws)) := PEi (pe_tup h) fun s H Q ⟨r, t, S, c, ns, ws, hc, hi, x, l, rl, o⟩ =>
  toXx.bind hc hi x l rl o fun us S1 r1 H1 vs _ e1 rl1 l1 x1 q o1 => by
    by_cases hl : us.length ≤ sizeLine
    · rw [if_pos hl] at o1
      exact ⟨by rw [← q.length]; exact hl, fun p hp => o1 r1 _ _ (Ev.fresh hp rl1) (rl1.fresh hp) (.tup (.inl (Own.new hp rl1)) (q.ev (Ev.fresh hp rl1)))⟩
    · rw [if_neg hl] at o1; exact o1.elim
/-- n.f -/
def dXf (cs : List Nat) (f : Str) : Nat → List Str → List W → DX := fun c ns ws _ S => if cs.contains c = true then match fget ns ws f with
  | some w => .ok w S
  | none => .no
  else .no
theorem xe_fld {n f : Str} {oe : Obj} {pn : List (Addr × Obj)} {cs : List Nat} {np pos : Pos} (hz : Zc cls d oe) (hf : ∃ vs, oe.data = .fields vs) (hx : ∀ c, xv c = .ref (G.cm c)) (hcs : ∀ c ∈ cs, XfC X.K (G.cm c) ∧ PySem.W.findIn X.K (.ref (G.cm c)) f = some none)
    (hn : PE (X.suite a ((a, oe) :: pn)) (.Name n np) (tVar i)) (hb : attributeBase (.Name n np) f X.env (eval (.Name n np) X.env) = eval (.Name n np) X.env := by rfl) :
    PE (X.suite a ((a, oe) :: pn)) (.Attribute (.Name n np) f pos) (toEx G xv a cls d i (dXf cs f)) := by
  refine ⟨fun pins s σ H Q I h => ?_⟩
  obtain ⟨r, t, S, c, ns, ws, hc, hi, x, l, rl, o⟩ := h
  unfold dXf at o
  split at o
  · rename_i hm
    have hm' : c ∈ cs := by simpa using hm
    obtain ⟨T, hno⟩ := hcs c hm'
    refine (pe_xf (C := G.cm c) T hno hz hf hn hb).run pins s σ H Q I ?_
    cases eg : fget ns ws f with
    | none => rw [eg] at o; exact o.elim
    | some w =>
      rw [eg] at o
      rcases x with ⟨rfl, rfl, _⟩ | ⟨dd, vs, rfl, ow, hl, q⟩
      · simp [fget] at eg
      · obtain ⟨v, h1, h2⟩ := fget_ok q eg
        exact ⟨_, hi, rfl, by rw [hc, hx], dd, _, v, rfl, ow.1, h1, o r H v .refl rl h2⟩
  · exact o.elim
theorem xs_ret {e : Expr} {de : Nat → List Str → List W → DX} {pos : Pos} (he : PE X e (toEx G xv a cls d i de)) : PS X (.Return (some e) pos) (toSx G xv a cls d i fun c ns ws => dRet (de c ns ws)) := PSi (ps_ret he) fun D s H ⟨r, t, S, c, ns, ws, hc, hi, x, l, rl, o⟩ => by
  refine ⟨r, t, S, c, ns, ws, hc, hi, x, l, rl, ?_⟩
  change OutS G xv W0 H S r ((de c ns ws t S).toF t fun w S1 => F.rt w S1) D at o
  cases ee : de c ns ws t S with
  | ok u S1 => rw [ee] at o; exact o
  | er c' ns' ws' S1 => rw [ee] at o; exact fun r1 H1 d1 e1 rl1 x1 => o r1 H1 s d1 e1 rl1 (l.ev e1) x1
  | no => rw [ee] at o; exact o
end
/-! ### a for over a list of the store or a value -/
/-! ### xs[::-1] -/
end
end DD
namespace DD
open PySem PySem.Spec PyProof.Rows L2
end DD
namespace DD
open PySem PySem.Spec PyProof.Rows L2
section
variable {G : Gx} {xv : Nat → Value} {Wx : WX} {X : Cx} {H H' : Hp} {S S' : Sto} {r r' : Rh}
/-! ### defs with defaults and keywords -/
/-- a def whose parameters may be bound in several ways -/
structure DefG (P : Program) (w : World) (K : PySem.W.Frag) (mg : Str → Option Value) (base : Heap) (G : Gx) (xv : Nat → Value) (f : Addr) (k : Nat) (ps : List Str) (fn : Fn) (Fd : FuncData → Prop) : Prop where
  ex : ∃ fd : FuncData, Fd fd ∧ FnOk P w K mg base (L2.CX P w) k f fd ps (spF G xv ps.length fn)
  kp : PySem.W.keepIn K (.ref f) = true
theorem DefG.mono {P : Program} {w : World} {K : PySem.W.Frag} {mg : Str → Option Value} {base : Heap} {f : Addr} {j k : Nat} {ps : List Str} {fn : Fn} {Fd : FuncData → Prop} (h : DefG P w K mg base G xv f j ps fn Fd) (le : j ≤ k) : DefG P w K mg base G xv f k ps fn Fd :=
  ⟨let ⟨fd, a, b⟩ := h.ex; ⟨fd, a, b.mono le⟩, h.kp⟩
end
end DD
namespace DD
open PySem PySem.Spec PyProof.Rows L2
/-! ### a, *b = t -/
end DD
namespace DD
open PySem PySem.Spec PyProof.Rows L2
/-! ### isinstance of one own class -/
end DD
namespace DD
open PySem PySem.Spec PyProof.Rows L2
/-! ### enumerate(tuple) -/
section
variable {G : Gx} {xv : Nat → Value} {Wx : WX} {X : Cx} {H H' : Hp} {S S' : Sto} {r r' : Rh}
/-! ### a, *b = t -/
def gStar (j : Nat) (gs : DGs) : DG := fun w t S => match w with
  | .tup ws => if j ≤ ws.length then gs (ws.take j ++ [.lst (ws.drop j)]) t S else .no
  | _ => .no
/-! ### xs.insert(i, y) -/
/-! ### comprehensions, whatever is walked -/
def LcOf (G : Gx) (xv : Nat → Value) (Wx : WX) (dl : DX) (wi : TI) (g : Tg) (tt : DT) (te : DX) (vs : List Nat) : Prop := ∀ (s : L2.St) (H : Hp) (Q : VK), toE G xv Wx dl s H Q → tLc wi (g.toTG G.K) (toT G xv W0 tt) (toE G xv W0 te) vs s H Q
theorem de_lcG {elt tg iter : Expr} {ifs : List Expr} {scope : Scope} {own : List (Str × Nat)} {pos : Pos} {wi : TI} {dl : DX} {g : Tg} {tt : DT} {te : DX} (k : Cok G X Wx) (hi : PI X tg iter wi) (ok : blkC X.N X.env.scope scope own = true)
    (hg : ∀ (s : Shared) (H : Hp) (C : Addr) (cl : List (Str × Addr)) (fp : List Addr), Cok G (X.blk s H scope (compEnvC scope cl C X.env) fp) W0 → PG (X.blk s H scope (compEnvC scope cl C X.env) fp) tg (g.toTG G.K))
    (ht : ∀ (s : Shared) (H : Hp) (C : Addr) (cl : List (Str × Addr)) (fp : List Addr), Cok G (X.blk s H scope (compEnvC scope cl C X.env) fp) W0 → PTs (X.blk s H scope (compEnvC scope cl C X.env) fp) ifs (toT G xv W0 tt))
    (he : ∀ (s : Shared) (H : Hp) (C : Addr) (cl : List (Str × Addr)) (fp : List Addr), Cok G (X.blk s H scope (compEnvC scope cl C X.env) fp) W0 → PE (X.blk s H scope (compEnvC scope cl C X.env) fp) elt (toE G xv W0 te))
    (h : LcOf G xv Wx dl wi g tt te (own.map (·.2))) (hs : ∀ x, foldedSetIterable iter X.env x = pure x := by intro _; rfl) :
    PE X (.ListComp elt [⟨tg, iter, ifs, 0⟩] scope pos) (toE G xv Wx dl) :=
  PEi (pe_lc k.calm k.nd hi (blkOk_by ok) (fun s H C cl fp => hg s H C cl fp (k.blk s H _ _ fp)) (fun s H C cl fp => ht s H C cl fp (k.blk s H _ _ fp)) (fun s H C cl fp => he s H C cl fp (k.blk s H _ _ fp)) hs) h
theorem ds_setLcG {i : Nat} {y : Str} {py : Pos} {elt tg iter : Expr} {ifs : List Expr} {scope : Scope} {own : List (Str × Nat)} {pos spos : Pos} {wi : TI} {dl : DX} {g : Tg} {tt : DT} {te : DX} (k : Cok G X Wx) (hi : PI X tg iter wi) (ok : blkC X.N X.env.scope scope own = true)
    (hg : ∀ (s : Shared) (H : Hp) (C : Addr) (cl : List (Str × Addr)) (fp : List Addr), Cok G (X.blk s H scope (compEnvC scope cl C X.env) fp) W0 → PG (X.blk s H scope (compEnvC scope cl C X.env) fp) tg (g.toTG G.K))
    (ht : ∀ (s : Shared) (H : Hp) (C : Addr) (cl : List (Str × Addr)) (fp : List Addr), Cok G (X.blk s H scope (compEnvC scope cl C X.env) fp) W0 → PTs (X.blk s H scope (compEnvC scope cl C X.env) fp) ifs (toT G xv W0 tt))
    (he : ∀ (s : Shared) (H : Hp) (C : Addr) (cl : List (Str × Addr)) (fp : List Addr), Cok G (X.blk s H scope (compEnvC scope cl C X.env) fp) W0 → PE (X.blk s H scope (compEnvC scope cl C X.env) fp) elt (toE G xv W0 te))
    (h : LcOf G xv Wx dl wi g tt te (own.map (·.2)))
    (hsw : swapsWith (.ListComp elt [⟨tg, iter, ifs, 0⟩] scope pos) (some (.Name y py)) spos.line X.env = pure true) (hy : X.N[i]? = some y := by rfl) (hyl : X.env.scope.names.lookup y = some .local := by rfl)
    (hs : ∀ x, foldedSetIterable iter X.env x = pure x := by intro _; rfl) :
    PS X (.Assign [.Name y py] (.ListComp elt [⟨tg, iter, ifs, 0⟩] scope pos) spos) (toS G xv Wx (dAsg dl (gN i))) :=
  PSi (ps_setLc k.calm k.nd hy hyl hsw hi (blkOk_by ok) (fun s H C cl fp => hg s H C cl fp (k.blk s H _ _ fp)) (fun s H C cl fp => ht s H C cl fp (k.blk s H _ _ fp)) (fun s H C cl fp => he s H C cl fp (k.blk s H _ _ fp)) hs) fun D s H ⟨r, t, S, l, rl, o⟩ => by
    refine h s H _ ⟨r, t, S, l, rl, ?_⟩
    unfold dAsg at o
    cases e : dl t S with
    | ok w S1 =>
      rw [e] at o
      exact fun r1 H1 v e1 rl1 q => o r1 H1 _ e1 rl1 ((l.ev e1).set q i)
    | er c ns ws S1 =>
      rw [e] at o
      exact fun r1 H1 dd e1 rl1 x => o r1 H1 s dd e1 rl1 (l.ev e1) x
    | no => rw [e] at o; exact o.elim
theorem plc {g : Tg} {vs : List Nat} (hv : (g.places.all fun i => vs.contains i) = true) : ∀ i ∈ g.places, i ∈ vs := fun i h => by
  have := List.all_eq_true.mp hv i h
  simpa using this
theorem lc_v {d : DA} {g : Tg} {tt : DT} {te : DX} {vs : List Nat} (hv : (g.places.all fun i => vs.contains i) = true := by rfl) : LcOf G xv Wx (dLc d g tt te vs) (toI G xv Wx d) g tt te vs := toLc (plc hv)
/-- over a list of the store, a list or a tuple -/
noncomputable def dLcA (d : DX) (g : Tg) (tt : DT) (te : DX) (vs : List Nat) : DX := fun t S => match d t S with
  | .ok (.ref _) _ => dLcR (dSeqR d) g tt te vs t S
  | _ => dLc (dSeqI d) g tt te vs t S
def tOr (t t' : TI) : TI := fun s H R => t s H R ∨ t' s H R
theorem di_a {tg e : Expr} {d : DX} (k : Cok G X Wx) (he : PE X e (toE G xv Wx d)) : PI X tg e (tOr (toI G xv Wx (dSeqI d)) (toIR G xv Wx (dSeqR d))) := PIor (di_seq k he) (di_seqR k he)
theorem lc_a {d : DX} {g : Tg} {tt : DT} {te : DX} {vs : List Nat} (hv : (g.places.all fun i => vs.contains i) = true := by rfl) : LcOf G xv Wx (dLcA d g tt te vs) (tOr (toI G xv Wx (dSeqI d)) (toIR G xv Wx (dSeqR d))) g tt te vs := fun s H Q ⟨r, t, S, l, rl, o⟩ => by
  unfold dLcA at o
  split at o
  · exact .inr (toLcR (plc hv) s H Q ⟨r, t, S, l, rl, o⟩)
  · exact .inl (toLc (plc hv) s H Q ⟨r, t, S, l, rl, o⟩)
end
end DD
namespace DD
open PySem PySem.Spec PyProof.Rows L2
end DD
/-! Plain reasoning about mirrors. -/
namespace DD
open PySem L2
/-! ### gc -/
theorem gc_ok {S S' : Sto} {w : W} (h : GcS S S') (l : lowW S.length w = true) : gcR S (.ok w S') = .ok w (S'.take S.length) := by
  unfold gcR
  simp only [h, l, and_self, if_true]
theorem gc_er {S S' : Sto} {c : Nat} {ns : List Str} {ws : List W} (h : GcS S S') (l : lowL S.length ws = true) : gcR S (.er c ns ws S') = .er c ns ws (S'.take S.length) := by
  unfold gcR
  simp only [h, l, and_self, if_true]
theorem gcs_same (S : Sto) : GcS S S := ⟨Nat.le_refl _, fun i hi => .inl rfl⟩
theorem gcs_app (S g : Sto) : GcS S (S ++ g) := ⟨by simp, fun i hi => .inl (List.getElem?_append_left hi)⟩
theorem gc_same {S : Sto} {w : W} (l : lowW S.length w = true) : gcR S (.ok w S) = .ok w S := by
  rw [gc_ok (gcs_same S) l, List.take_length]
theorem gc_app {S g : Sto} {w : W} (l : lowW S.length w = true) : gcR S (.ok w (S ++ g)) = .ok w S := by
  rw [gc_ok (gcs_app S g) l]; simp
/-- the same length, all that is there is low -/
theorem gc_set {S S' : Sto} {w : W} (hl : S'.length = S.length) (h : ∀ i, i < S.length → S'[i]? = S[i]? ∨ ∃ o, S'[i]? = some o ∧ lowO S.length o = true) (l : lowW S.length w = true) : gcR S (.ok w S') = .ok w S' := by
  rw [gc_ok ⟨by omega, h⟩ l, ← hl, List.take_length]
theorem gc_set1 {S : Sto} {p : Nat} {o : O} {w : W} (l1 : lowO S.length o = true) (l : lowW S.length w = true) : gcR S (.ok w (S.set p o)) = .ok w (S.set p o) := by
  refine gc_set (by simp) (fun i hi => ?_) l
  by_cases h : p = i
  · subst h; exact .inr ⟨o, List.getElem?_set_self hi, l1⟩
  · exact .inl (List.getElem?_set_ne h)
/-! ### what is low -/
theorem lowL_all {n : Nat} : ∀ {l : List W}, (∀ w ∈ l, lowW n w = true) → lowL n l = true
  | [], _ => rfl
  | w :: l, h => by
    simp only [lowL, Bool.and_eq_true]
    exact ⟨h w (List.mem_cons_self ..), lowL_all fun x hx => h x (List.mem_cons_of_mem _ hx)⟩
theorem lowL_ints {n : Nat} (l : List Int) : lowL n (l.map W.int) = true := lowL_all fun w hw => by
  obtain ⟨i, _, rfl⟩ := List.mem_map.mp hw; rfl
/-! ### loops -/
/-- one turn of a for -/
def turn (g : DG) (b : DS) (w : W) (t : Lo) (S : Sto) : F := match g w t S with
  | .ok t1 S1 => b t1 S1
  | _ => .no
theorem forL_cons {g : DG} {b : DS} {w : W} {ws : List W} {t : Lo} {S : Sto} : forL g b (w :: ws) t S = match turn g b w t S with
  | .nx t2 S2 => forL g b ws t2 S2
  | .ct t2 S2 => forL g b ws t2 S2
  | .bk t2 S2 => .nx t2 S2
  | x => x := by
  unfold turn
  rw [forL]
  cases g w t S <;> rfl
@[simp] theorem forL_nil {g : DG} {b : DS} {t : Lo} {S : Sto} : forL g b [] t S = .nx t S := rfl
/-- a loop that goes through: an invariant by the turn -/
theorem forL_inv {g : DG} {b : DS} (ws : List W) (I : Nat → Lo → Sto → Prop)
    (h : ∀ i w t S, ws[i]? = some w → I i t S → ∃ t' S', (turn g b w t S = .nx t' S' ∨ turn g b w t S = .ct t' S') ∧ I (i + 1) t' S') {t : Lo} {S : Sto} (h0 : I 0 t S) : ∃ t' S', forL g b ws t S = .nx t' S' ∧ I ws.length t' S' := by
  have key : ∀ (us : List W) (k : Nat) (t : Lo) (S : Sto), ws.drop k = us → k ≤ ws.length → I k t S → ∃ t' S', forL g b us t S = .nx t' S' ∧ I ws.length t' S' := by
    intro us
    induction us with
    | nil =>
      intro k t S e hk i
      have : ws.length ≤ k := by
        have := congrArg List.length e
        simp at this; omega
      have : k = ws.length := by omega
      subst this
      exact ⟨t, S, rfl, i⟩
    | cons w us ih =>
      intro k t S e hk i
      have hw : ws[k]? = some w := by
        have : (ws.drop k)[0]? = some w := by rw [e]; rfl
        simpa using this
      have hlt : k < ws.length := (List.getElem?_eq_some_iff.mp hw).1
      obtain ⟨t', S', e1, i1⟩ := h k w t S hw i
      have e2 : ws.drop (k + 1) = us := by
        rw [← List.drop_drop, e]; rfl
      obtain ⟨t2, S2, e3, i3⟩ := ih (k + 1) t' S' e2 hlt i1
      refine ⟨t2, S2, ?_, i3⟩
      rw [forL_cons]
      rcases e1 with e1 | e1 <;> rw [e1] <;> exact e3
  exact key ws 0 t S rfl (Nat.zero_le _) h0
/-- a comprehension that keeps every item -/
theorem lcL_inv {g : Tg} {te : DX} {t0 : Lo} (ws : List W) (I : Nat → List W → Sto → Prop) (hz : ws.length ≤ 1000)
    (h : ∀ i w acc S, ws[i]? = some w → I i acc S → ∃ t1 x S', g.put w t0 = some t1 ∧ te t1 S = .ok x S' ∧ I (i + 1) (acc ++ [x]) S') {S : Sto} (h0 : I 0 [] S) : ∃ acc S', lcL g dYes te t0 ws [] S = .ok (.lst acc) S' ∧ I ws.length acc S' ∧ acc.length = ws.length := by
  have key : ∀ (us : List W) (k : Nat) (acc : List W) (S : Sto), ws.drop k = us → k ≤ ws.length → I k acc S → acc.length = k → ∃ acc' S', lcL g dYes te t0 us acc S = .ok (.lst acc') S' ∧ I ws.length acc' S' ∧ acc'.length = ws.length := by
    intro us
    induction us with
    | nil =>
      intro k acc S e hk i ha
      have : ws.length ≤ k := by
        have := congrArg List.length e
        simp at this; omega
      have : k = ws.length := by omega
      subst this
      exact ⟨acc, S, rfl, i, ha⟩
    | cons w us ih =>
      intro k acc S e hk i ha
      have hw : ws[k]? = some w := by
        have : (ws.drop k)[0]? = some w := by rw [e]; rfl
        simpa using this
      have hlt : k < ws.length := (List.getElem?_eq_some_iff.mp hw).1
      obtain ⟨t1, x, S', e0, e1, i1⟩ := h k w acc S hw i
      have e2 : ws.drop (k + 1) = us := by
        rw [← List.drop_drop, e]; rfl
      obtain ⟨acc', S2, e3, i3⟩ := ih (k + 1) (acc ++ [x]) S' e2 hlt i1 (by simp [ha])
      refine ⟨acc', S2, ?_, i3⟩
      have hs : acc.length < sizeLine := by rw [sizeLine_eq]; omega
      rw [lcL]
      simp only [e0, dYes, e1, if_pos hs]
      exact e3
  exact key ws 0 [] S rfl (Nat.zero_le _) h0 rfl
/-! ### ranges -/
theorem intsFrom_eq (lo : Int) (n : Nat) : intsFrom lo n = (List.range n).map fun (i : Nat) => W.int (lo + (i : Int)) := by
  induction n generalizing lo with
  | zero => rfl
  | succ n ih =>
    rw [List.range_succ_eq_map, List.map_cons, List.map_map]
    simp only [intsFrom, ih]
    congr 1
    · simp
    · apply List.map_congr_left
      intro i _
      simp only [Function.comp]
      congr 1
      push_cast
      omega
/-! ### small -/
theorem atI0 {α : Type} (x : α) (l : List α) : atI (x :: l) 0 = some x := atI_nat (j := 0) rfl
theorem atI1 {α : Type} (x y : α) (l : List α) : atI (x :: y :: l) 1 = some y := atI_nat (j := 1) rfl
theorem atI2 {α : Type} (x y z : α) (l : List α) : atI (x :: y :: z :: l) 2 = some z := atI_nat (j := 2) rfl
theorem atI3 {α : Type} (x y z u : α) (l : List α) : atI (x :: y :: z :: u :: l) 3 = some u := atI_nat (j := 3) rfl
theorem atI4 {α : Type} (x y z u v : α) (l : List α) : atI (x :: y :: z :: u :: v :: l) 4 = some v := atI_nat (j := 4) rfl
theorem atI_in {α : Type} {l : List α} {i : Int} (h0 : 0 ≤ i) (h1 : i < l.length) : ∃ x, atI l i = some x ∧ l[i.toNat]? = some x := by
  obtain ⟨x, hx⟩ : ∃ x, l[i.toNat]? = some x := ⟨l[i.toNat]'(by omega), List.getElem?_eq_getElem _⟩
  refine ⟨x, ?_, hx⟩
  have := atI_nat hx
  rwa [Int.toNat_of_nonneg h0] at this
theorem ixN_in {n : Nat} {i : Int} (h0 : 0 ≤ i) (h1 : i < n) : ixN n i = some i.toNat := by
  unfold ixN; rw [if_pos h0, if_pos h1]
theorem fmod_pos {i j : Int} (h : 0 < j) : fmod i j = i % j := if_pos h
theorem fdiv_pos {i j : Int} (h : 0 < j) : fdiv i j = i / j := if_pos h
/-! ### how mirrors run -/
section
variable {t : Lo} {S : Sto}
@[simp] theorem e_nx {k : Lo → Sto → F} : (F.nx t S).andThen k = k t S := rfl
@[simp] theorem e_rt {w : W} {k : Lo → Sto → F} : (F.rt w S).andThen k = .rt w S := rfl
@[simp] theorem e_bk {k : Lo → Sto → F} : (F.bk t S).andThen k = .bk t S := rfl
@[simp] theorem e_ct {k : Lo → Sto → F} : (F.ct t S).andThen k = .ct t S := rfl
@[simp] theorem e_er {c : Nat} {ns : List Str} {ws : List W} {k : Lo → Sto → F} : (F.er c ns ws t S).andThen k = .er c ns ws t S := rfl
@[simp] theorem e_seq {a b : DS} : dSeq a b t S = (a t S).andThen b := rfl
@[simp] theorem e_next : dNext t S = .nx t S := rfl
@[simp] theorem e_drop {d : DX} : dDrop d t S = (d t S).toF t fun _ S1 => .nx t S1 := rfl
@[simp] theorem e_ret {d : DX} : dRet d t S = (d t S).toF t fun w S1 => .rt w S1 := rfl
@[simp] theorem e_ifS {c : DT} {a b : DS} : dIfS c a b t S = (c t S).toF t fun k S1 => if k = true then a t S1 else b t S1 := rfl
@[simp] theorem e_if {c : DT} {a b : DX} : dIf c a b t S = (c t S).bind fun k S1 => if k = true then a t S1 else b t S1 := rfl
@[simp] theorem e_setN {d : DX} {i : Nat} : dAsg d (gN i) t S = (d t S).toF t fun w S1 => .nx (t.set i (some w)) S1 := rfl
@[simp] theorem e_var0 {w : W} {t : Lo} : dVar 0 (some w :: t) S = .ok w S := rfl
@[simp] theorem e_varS {i : Nat} {o : Option W} {t : Lo} : dVar (i + 1) (o :: t) S = dVar i t S := by simp [dVar]
@[simp] theorem e_C {w : W} : dC w t S = .ok w S := rfl
@[simp] theorem e_op {f : D2} {a b : DX} : dOp f a b t S = (a t S).bind fun x S1 => (b t S1).bind fun y S2 => match f x y S2 with
  | .ok w S3 => .ok w S3
  | _ => .no := rfl
@[simp] theorem e_nil : dNil t S = .ok [] S := rfl
@[simp] theorem e_cons {a : DX} {b : DA} : dCons a b t S = (a t S).bind fun w S1 => (b t S1).bind fun ws S2 => .ok (w :: ws) S2 := rfl
@[simp] theorem e_call {f : Fn} {d : DA} : dCall f d t S = (d t S).bind fun ws S1 => f ws S1 := rfl
@[simp] theorem e_bi {f : Fn} {d : DA} : dBi f d t S = (d t S).bind fun ws S1 => match f ws S1 with
  | .ok w S2 => .ok w S2
  | _ => .no := rfl
@[simp] theorem e_and {a b : DT} : dtAnd a b t S = (a t S).bind fun k S1 => if k = true then b t S1 else .ok false S1 := rfl
@[simp] theorem e_or {a b : DT} : dtOr a b t S = (a t S).bind fun k S1 => if k = true then .ok true S1 else b t S1 := rfl
@[simp] theorem e_not {a : DT} : dtNot a t S = (a t S).bind fun k S1 => .ok (!k) S1 := rfl
@[simp] theorem e_yes : dYes t S = .ok true S := rfl
@[simp] theorem e_tru {d : DX} : dTru d t S = (d t S).bind fun w S1 => match truW S1 w with
  | some k => .ok k S1
  | none => .no := rfl
@[simp] theorem e_test {d : DX} : dTest d t S = match d t S with
  | .ok (.bl b) S1 => .ok b S1
  | .er c ns ws S1 => .er c ns ws S1
  | _ => .no := rfl
@[simp] theorem e_neg {d : DX} : dNeg d t S = (d t S).bind fun w S1 => match w with
  | .int i => .ok (.int (-i)) S1
  | _ => .no := rfl
@[simp] theorem e_notT {d : DX} : dNotT d t S = (d t S).bind fun w S1 => match truW S1 w with
  | some k => .ok (.bl (!k)) S1
  | none => .no := rfl
@[simp] theorem e_andT {a b : DX} : dAndT a b t S = (a t S).bind fun w S1 => match truW S1 w with
  | some true => b t S1
  | some false => .ok w S1
  | none => .no := rfl
@[simp] theorem e_orT {a b : DX} : dOrT a b t S = (a t S).bind fun w S1 => match truW S1 w with
  | some true => .ok w S1
  | some false => b t S1
  | none => .no := rfl
@[simp] theorem e_for {d : DA} {g : DG} {b : DS} : dFor d g b t S = (d t S).toF t fun ws S1 => forL g b ws t S1 := rfl
@[simp] theorem e_seqI {d : DX} : dSeqI d t S = (d t S).bind fun w S1 => match w with
  | .lst ws => .ok ws S1
  | .scr ws => .ok ws S1
  | .tup ws => .ok ws S1
  | _ => .no := rfl
@[simp] theorem e_lc {d : DA} {g : Tg} {tt : DT} {te : DX} {vs : List Nat} : dLc d g tt te vs t S = (d t S).bind fun ws S1 => lcL g tt te (wipeW t vs) ws [] S1 := rfl
@[simp] theorem e_chain {f g : D2} {a b c : DX} : dChain f g a b c t S = (a t S).bind fun x S1 => (b t S1).bind fun y S2 => match f x y S2 with
  | .ok (.bl true) S3 => (c t S3).bind fun z S4 => match g y z S4 with
    | .ok w S5 => .ok w S5
    | _ => .no
  | .ok (.bl false) S3 => .ok (.bl false) S3
  | _ => .no := rfl
@[simp] theorem e_par {i j : Nat} {d : DA} : dPar i j d t S = (d t S).toF t fun ws S1 => match ws with
  | [a, b] => .nx ((t.set i (some a)).set j (some b)) S1
  | _ => .no := rfl
@[simp] theorem e_tup {d : DA} : dTup d t S = (d t S).bind fun ws S1 => if ws.length ≤ sizeLine then .ok (.tup ws) S1 else .no := rfl
@[simp] theorem e_lst {d : DA} : dLst d t S = (d t S).bind fun ws S1 => if ws.length ≤ sizeLine then .ok (.lst ws) S1 else .no := rfl
@[simp] theorem e_newL {d : DA} : dNewL d t S = (d t S).bind fun ws S1 => if ws.length ≤ sizeLine then .ok (.ref S1.length) (S1 ++ [.lst ws]) else .no := rfl
@[simp] theorem e_wipe0 : wipeW t [] = t := rfl
@[simp] theorem e_wipe1 {v : Nat} {vs : List Nat} : wipeW t (v :: vs) = (wipeW t vs).set v none := rfl
@[simp] theorem e_add {i j : Int} : addD (.int i) (.int j) S = .ok (.int (i + j)) S := rfl
@[simp] theorem e_sub {i j : Int} : iSub (.int i) (.int j) S = .ok (.int (i - j)) S := rfl
@[simp] theorem e_lt {i j : Int} : iLt (.int i) (.int j) S = .ok (.bl (decide (i < j))) S := rfl
@[simp] theorem e_le {i j : Int} : iLe (.int i) (.int j) S = .ok (.bl (decide (i ≤ j))) S := rfl
@[simp] theorem e_gt {i j : Int} : iGt (.int i) (.int j) S = .ok (.bl (decide (j < i))) S := rfl
@[simp] theorem e_ge {i j : Int} : iGe (.int i) (.int j) S = .ok (.bl (decide (j ≤ i))) S := rfl
theorem e_mod {i j : Int} (h : 0 < j) : iMod (.int i) (.int j) S = .ok (.int (i % j)) S := by
  show (if decide (j ≠ 0) = true then R.ok (W.int (fmod i j)) S else .no) = _
  rw [if_pos (decide_eq_true (by omega)), fmod_pos h]
theorem log2_le {n k : Nat} (h : n < 2 ^ k) (h0 : 0 < k) : n.log2 < k := PySem.Flt.log2_lt_of h0 h
theorem e_div {i j : Int} (h : 0 < j) (h2 : j < 2 ^ 8000) : iDiv (.int i) (.int j) S = .ok (.int (i / j)) S := by
  have : j.natAbs.log2 < 9000 := Nat.lt_trans (log2_le (k := 8000) (by omega) (by decide)) (by decide)
  show (if (decide (j ≠ 0) && decide (j.natAbs.log2 < 9000)) = true then R.ok (W.int (fdiv i j)) S else .no) = _
  rw [if_pos (by rw [decide_eq_true (show j ≠ 0 by omega), decide_eq_true this]; rfl), fdiv_pos h]
theorem e_mulR {b : Bool} {i j : Int} (h : -(2 ^ 64) < j ∧ j < 2 ^ 64) : mulD b (.int i) (.int j) S = .ok (.int (i * j)) S := by
  have : mulOk i j = true := by unfold mulOk; rw [decide_eq_true h]; simp
  show (match (if mulOk i j = true then R.ok (W.int (i * j)) S else .no) with
    | .no => _
    | x => x) = _
  rw [if_pos this]
theorem e_pow {i j : Int} (h : powOk i j = true) : iPow (.int i) (.int j) S = .ok (.int (i ^ j.toNat)) S := by
  show (if powOk i j = true then R.ok (W.int (i ^ j.toNat)) S else .no) = _
  rw [if_pos h]
@[simp] theorem e_intF {i : Int} : intF [.int i] S = .ok (.int i) S := rfl
@[simp] theorem e_intB {k : Bool} : intF [.bl k] S = .ok (.int (if k then 1 else 0)) S := rfl
@[simp] theorem e_absF {i : Int} : absF [.int i] S = .ok (.int (if i < 0 then -i else i)) S := rfl
@[simp] theorem e_maxF {i j : Int} : max2F [.int i, .int j] S = .ok (.int (if j > i then j else i)) S := rfl
@[simp] theorem e_minF {i j : Int} : min2F [.int i, .int j] S = .ok (.int (if j < i then j else i)) S := rfl
/-- an item of a list, a tuple, a list of the store -/
theorem e_ixT {ws : List W} {i : Int} {w : W} (h : atI ws i = some w) : ixD (.tup ws) (.int i) S = .ok w S := by simp [ixD, seqL, seqT, h]
theorem e_ixC {ws : List W} {i : Int} {w : W} (h : atI ws i = some w) : ixD (.scr ws) (.int i) S = .ok w S := by simp [ixD, seqL, h]
theorem e_ixR {ws : List W} {i : Int} {w : W} {p : Nat} (e : S[p]? = some (.lst ws)) (h : atI ws i = some w) : ixD (.ref p) (.int i) S = .ok w S := by simp [ixD, seqL, e, h]
@[simp] theorem e_lenT {ws : List W} : lenF [.tup ws] S = .ok (.int ws.length) S := rfl
@[simp] theorem e_lenL {ws : List W} : lenF [.lst ws] S = .ok (.int ws.length) S := rfl
@[simp] theorem e_lenC {ws : List W} : lenF [.scr ws] S = .ok (.int ws.length) S := rfl
@[simp] theorem e_tupL {ws : List W} : tupleF [.lst ws] S = .ok (.tup ws) S := rfl
@[simp] theorem e_tupT {ws : List W} : tupleF [.tup ws] S = .ok (.tup ws) S := rfl
theorem e_tupR {ws : List W} {p : Nat} (e : S[p]? = some (.lst ws)) : tupleF [.ref p] S = .ok (.tup ws) S := by simp [tupleF, seqL, e]
@[simp] theorem e_listL {ws : List W} : listF [.lst ws] S = .ok (.lst ws) S := rfl
@[simp] theorem e_listT {ws : List W} : listF [.tup ws] S = .ok (.lst ws) S := rfl
@[simp] theorem e_listC {ws : List W} : listF [.scr ws] S = .ok (.lst ws) S := rfl
@[simp] theorem e_newListC {ws : List W} : newListF [.scr ws] S = .ok (.ref S.length) (S ++ [.lst ws]) := rfl
@[simp] theorem e_asgIx {d da db : DX} : dAsg d (gIx da db) t S = (d t S).toF t fun w S1 => match da t S1 with
  | .ok (.ref p) S1 => match db t S1 with
    | .ok (.int i) S2 => match S2[p]? with
      | some (.lst ws) => match ixN ws.length i with
        | some j => .nx t (S2.set p (.lst (ws.set j w)))
        | none => .no
      | _ => .no
    | _ => .no
  | _ => .no := by
  unfold dAsg gIx
  congr 1
  funext w S1
  cases da t S1 with
  | ok p S1 =>
    cases p <;> try rfl
    simp only []
    cases db t S1 with
    | ok i S2 =>
      cases i <;> try rfl
      simp only []
      rename_i p i
      cases S2[p]? with
      | none => rfl
      | some o =>
        cases o <;> try rfl
        simp only []
        rename_i ws
        cases ixN ws.length i <;> rfl
    | _ => rfl
  | _ => rfl
@[simp] theorem e_asgTp {d : DX} {n : Nat} {gs : DGs} : dAsg d (gTp n gs) t S = (d t S).toF t fun w S1 => match gTp n gs w t S1 with
  | .ok t' S2 => .nx t' S2
  | _ => .no := rfl
@[simp] theorem e_mt {f : W → List W → Sto → R W} {o : DX} {d : DA} : dMt f o d t S = (o t S).bind fun w S1 => match seqL S1 w with
  | some _ => (d t S1).bind fun ws S2 => match f w ws S2 with
    | .ok x S3 => .ok x S3
    | _ => .no
  | none => .no := rfl
theorem e_append {p : Nat} {xs : List W} {y : W} (e : S[p]? = some (.lst xs)) (h : xs.length < 1000000) : appendM (.ref p) [y] S = .ok .non (S.set p (.lst (xs ++ [y]))) := by
  simp only [appendM, e]
  rw [if_pos (by rw [sizeLine_eq]; omega)]
@[simp] theorem e_range1 {d : DA} : dRange1 d t S = (d t S).bind fun ws S1 => match ws with
  | [.int j] => if -(2 ^ 62) ≤ j ∧ j < 2 ^ 62 then .ok (intsFrom 0 j.toNat) S1 else .no
  | _ => .no := rfl
end
theorem dat_look {S : Sto} {n : Nat} {a : W} (h : dat n a = true) : lookS S a = a := by
  cases a <;> first | rfl | (cases n <;> simp [dat] at h)
theorem e_eq {S : Sto} {a b : W} (h1 : dat dDep a = true) (h2 : dat dDep b = true) : eqD a b S = .ok (.bl (eqW a b)) S := by
  unfold eqD
  rw [dat_look h1, dat_look h2, h1, h2]; rfl
theorem e_ne {S : Sto} {a b : W} (h1 : dat dDep a = true) (h2 : dat dDep b = true) : neD a b S = .ok (.bl (!eqW a b)) S := by
  unfold neD
  rw [dat_look h1, dat_look h2, h1, h2]; rfl
@[simp] theorem e_eqI {S : Sto} {i j : Int} : eqD (.int i) (.int j) S = .ok (.bl (decide (i = j))) S := by
  rw [e_eq rfl rfl]; simp [eqW]; by_cases h : i = j <;> simp [h]
@[simp] theorem e_neI {S : Sto} {i j : Int} : neD (.int i) (.int j) S = .ok (.bl (!decide (i = j))) S := by
  rw [e_ne rfl rfl]; simp [eqW]; by_cases h : i = j <;> simp [h]
@[simp] theorem e_eqB {S : Sto} {i j : Bool} : eqD (.bl i) (.bl j) S = .ok (.bl (i == j)) S := by rw [e_eq rfl rfl]; rfl
@[simp] theorem e_neB {S : Sto} {i j : Bool} : neD (.bl i) (.bl j) S = .ok (.bl (!(i == j))) S := by rw [e_ne rfl rfl]; rfl
theorem e_notInL {S : Sto} {a : W} {ws : List W} (h1 : dat dDep a = true) (h2 : ws.all (dat dDep) = true) : notInD a (.lst ws) S = .ok (.bl (!inW a ws)) S := by
  simp [notInD, lookS, h1, h2]
theorem blsOf_map {α : Type} (g : α → Bool) : ∀ l : List α, blsOf (l.map fun x => W.bl (g x)) = some (l.map g)
  | [] => rfl
  | x :: l => by simp [blsOf, blsOf_map g l]
theorem e_all {S : Sto} {ws : List W} {bs : List Bool} (h : blsOf ws = some bs) : allF [.lst ws] S = .ok (.bl (bs.all id)) S := by simp [allF, seqL, h]
@[simp] theorem e_putN {i : Nat} {w : W} {t : Lo} : (Tg.nm i).put w t = some (t.set i (some w)) := rfl
theorem eqW_refl : ∀ {n : Nat} {w : W}, dat n w = true → eqW w w = true := by
  intro n
  induction n with
  | zero => intro w h; cases w <;> first | (simp [dat] at h; done) | simp [eqW]
  | succ n ih =>
    intro w h
    have key : ∀ l : List W, l.all (dat n) = true → eqWs l l = true := fun l => by
      induction l with
      | nil => intro _; rfl
      | cons x l il =>
        intro g
        simp only [List.all_cons, Bool.and_eq_true] at g
        simp only [eqWs, ih g.1, il g.2, Bool.and_self]
    cases w <;> first
      | (simp [dat] at h; done)
      | (simp only [eqW]; exact key _ (by simpa only [dat] using h))
      | simp [eqW]
/-- the start of a def -/
theorem dFn_eq {n : Nat} {b : DS} {ws : List W} {S : Sto} : dFn n b ws S = match b (ws.map some ++ List.replicate (n - ws.length) none) S with
  | .nx _ S1 => .ok .non S1
  | .rt w S1 => .ok w S1
  | .er c ns us _ S1 => .er c ns us S1
  | _ => .no := rfl
theorem gcF_eq {f : Fn} {ws : List W} {S : Sto} : gcF f ws S = gcR S (f ws S) := rfl
end DD
namespace DD
open PySem L2
/-! ### dicts, plainly -/
/-! ### a list of the store is walked -/
section
variable {t : Lo} {S : Sto}
@[simp] theorem e_seqR {d : DX} : dSeqR d t S = (d t S).bind fun w S1 => match w with
  | .ref p => match S1[p]? with
    | some (.lst ws) => .ok (p, ws) S1
    | _ => .no
  | _ => .no := rfl
@[simp] theorem e_forR {d : Lo → Sto → R (Nat × List W)} {g : DG} {b : DS} : dForR d g b t S = (d t S).toF t fun ws S1 => forLR g b ws.1 ws.2 ws.2 t S1 := rfl
@[simp] theorem e_lcR {d : Lo → Sto → R (Nat × List W)} {g : Tg} {tt : DT} {te : DX} {vs : List Nat} : dLcR d g tt te vs t S = (d t S).bind fun ws S1 => lcLR g tt te (wipeW t vs) ws.1 ws.2 ws.2 [] S1 := rfl
end
/-! ### rows of ints -/
abbrev wl (l : List Int) : List W := l.map W.int
@[simp] theorem eqWs_ints : ∀ (a b : List Int), eqWs (wl a) (wl b) = decide (a = b)
  | [], [] => by simp [wl, eqWs]
  | [], b :: bs => by simp [wl, eqWs]
  | a :: as, [] => by simp [wl, eqWs]
  | a :: as, b :: bs => by
    have := eqWs_ints as bs
    simp only [wl, List.map_cons] at this ⊢
    simp [eqWs, eqW, this, Bool.decide_and]
    rfl
@[simp] theorem inW_ints (z : Int) (l : List Int) : inW (.int z) (wl l) = decide (z ∈ l) := by
  induction l with
  | nil => simp [wl, inW]
  | cons a l ih =>
    simp only [wl, inW, List.map_cons, List.any_cons, eqW] at ih ⊢
    rw [ih]
    by_cases h : a = z
    · subst h; simp
    · simp [h, Ne.symm h]
theorem rng_wl (n : Nat) : intsFrom 0 n = wl ((List.range n).map fun (i : Nat) => (i : Int)) := by rw [intsFrom_eq]; simp [wl, List.map_map, Function.comp_def]
end DD
namespace DD
open PySem PySem.Spec PyProof.Rows L2
end DD
namespace DD
open PySem PySem.Spec PyProof.Rows L2
end DD
namespace DD
open PySem PySem.Spec PyProof.Rows L2
open PySem.W (InstAt)
end DD
namespace DD
open PySem PySem.Spec PyProof.Rows L2
open PySem.W (InstAt)
end DD
namespace DD
open PySem PySem.Spec PyProof.Rows L2
end DD
namespace DD
open PySem PySem.Spec PyProof.Rows L2
end DD
namespace DD
open PySem PySem.Spec PyProof.Rows L2
end DD
namespace DD
open PySem L2
/-! ### the first kind of pool: a script, a count, a place, a big cell and a mix -/
noncomputable def drawB1 : DS :=
    (dSeq (dAsg (dOp addD (dOp ixD (dVar 0) (dC (.int 1))) (dC (.int 1))) (gIx (dVar 0) (dC (.int 1))))
    (dSeq (dIfS (dtAnd (dTest (dOp eqD (dOp ixD (dVar 0) (dC (.int 3))) (dC (.int 0)))) (dTest (dOp iLt (dOp ixD (dVar 0) (dC (.int 2))) (dBi lenF (dCons (dOp ixD (dVar 0) (dC (.int 0))) dNil)))))
    (dSeq (dAsg (dBi absF (dCons (dOp ixD (dOp ixD (dVar 0) (dC (.int 0))) (dOp ixD (dVar 0) (dC (.int 2)))) dNil)) (gN 3))
    (dSeq (dAsg (dOp addD (dOp ixD (dVar 0) (dC (.int 2))) (dC (.int 1))) (gIx (dVar 0) (dC (.int 2))))
    (dIfS (dTest (dOp iGe (dVar 3) (dOp iPow (dC (.int 10)) (dC (.int 18)))))
    (dAsg (dVar 3) (gIx (dVar 0) (dC (.int 3))))
    (dAsg (dOp iMod (dBi intF (dCons (dOp (mulD false) (dOp addD (dOp addD (dOp ixD (dVar 0) (dC (.int 4))) (dVar 3)) (dC (.int 1))) (dC (.int 48271))) dNil)) (dC (.int 2147483629))) (gIx (dVar 0) (dC (.int 4)))))))
    dNext)
    (dSeq (dIfS (dTest (dOp iGt (dOp ixD (dVar 0) (dC (.int 3))) (dC (.int 0))))
    (dSeq (dAsg (dOp iMod (dBi intF (dCons (dOp ixD (dVar 0) (dC (.int 3))) dNil)) (dVar 1)) (gN 4))
    (dSeq (dAsg (dOp iDiv (dOp ixD (dVar 0) (dC (.int 3))) (dVar 1)) (gIx (dVar 0) (dC (.int 3))))
    (dRet (dVar 4))))
    dNext)
    (dSeq (dAsg (dOp iMod (dBi intF (dCons (dOp iPow (dOp addD (dOp ixD (dVar 0) (dC (.int 4))) (dOp (mulD false) (dOp ixD (dVar 0) (dC (.int 1))) (dC (.int 7919)))) (dC (.int 3))) dNil)) (dC (.int 2147483647))) (gN 2))
    (dRet (dOp iMod (dBi intF (dCons (dOp iDiv (dVar 2) (dC (.int 16))) dNil)) (dVar 1)))))))
noncomputable def drawF1 : Fn := gcF (dFn 5 drawB1)
/-- at p a drawing list that has been asked at most k times -/
def Pl (S : Sto) (p k : Nat) : Prop := ∃ (ns : List Int) (c i b m : Int), S[p]? = some (.lst [.scr (ns.map W.int), .int c, .int i, .int b, .int m]) ∧ 0 ≤ c ∧ c ≤ k ∧ 0 ≤ i ∧ 0 ≤ b ∧ 0 ≤ m ∧ m < 2147483629
theorem Pl.mono {S : Sto} {p k k' : Nat} (P : Pl S p k) (h : k ≤ k') : Pl S p k' := by
  obtain ⟨ns, c, i, b, m, h1, h2, h3, h4⟩ := P
  exact ⟨ns, c, i, b, m, h1, h2, by omega, h4⟩
theorem Pl.set {S : Sto} {p n k : Nat} {o : O} (P : Pl S p k) (h : n ≠ p) : Pl (S.set n o) p k := by
  obtain ⟨ns, c, i, b, m, h1, h2⟩ := P
  exact ⟨ns, c, i, b, m, by rw [List.getElem?_set_ne h]; exact h1, h2⟩
/-- a later store: only the drawing list has turned, and it has been asked at most k times -/
structure Af (p k : Nat) (S S' : Sto) : Prop where
  len : S'.length = S.length
  keep : ∀ i, i ≠ p → S'[i]? = S[i]?
  pool : Pl S' p k
theorem Af.refl {p k : Nat} {S : Sto} (P : Pl S p k) : Af p k S S := ⟨rfl, fun _ _ => rfl, P⟩
theorem Af.trans {p k k' : Nat} {S S1 S2 : Sto} (a : Af p k S S1) (b : Af p k' S1 S2) : Af p k' S S2 := ⟨b.len.trans a.len, fun i h => (b.keep i h).trans (a.keep i h), b.pool⟩
theorem Af.mono {p k k' : Nat} {S S1 : Sto} (a : Af p k S S1) (h : k ≤ k') : Af p k' S S1 := ⟨a.len, a.keep, a.pool.mono h⟩
theorem draw1_ok {S : Sto} {p k : Nat} {lim : Int} (P : Pl S p k) (hk : k < 1000000000000) (h0 : 0 < lim) (h1 : lim < 100000000000000000000000000000000000000000) : ∃ r S', drawF1 [.ref p, .int lim] S = .ok (.int r) S' ∧ 0 ≤ r ∧ r < lim ∧ Af p (k + 1) S S' := by
  obtain ⟨ns, c, i, b, m, hp, hc, hck, hi, hb, hm, hm1⟩ := id P
  have lp : p < S.length := (List.getElem?_eq_some_iff.mp hp).1
  have hdiv : ∀ S (x : Int), iDiv (.int x) (.int lim) S = .ok (.int (x / lim)) S := fun S x => e_div h0 (by omega)
  have hmod : ∀ S (x : Int), iMod (.int x) (.int lim) S = .ok (.int (x % lim)) S := fun S x => e_mod h0
  have hdv : ∀ S (i : Int), iDiv (.int i) (.int 16) S = .ok (.int (i / 16)) S := fun S i => e_div (by decide) (by decide)
  have hd1 : ∀ S (i : Int), iMod (.int i) (.int 2147483647) S = .ok (.int (i % 2147483647)) S := fun S i => e_mod (by decide)
  have hd2 : ∀ S (i : Int), iMod (.int i) (.int 2147483629) S = .ok (.int (i % 2147483629)) S := fun S i => e_mod (by decide)
  have hm1' : ∀ S (i : Int), mulD false (.int i) (.int 48271) S = .ok (.int (i * 48271)) S := fun S i => e_mulR (by decide)
  have hm2' : ∀ S (i : Int), mulD false (.int i) (.int 7919) S = .ok (.int (i * 7919)) S := fun S i => e_mulR (by decide)
  have hp10 : ∀ S, iPow (.int 10) (.int 18) S = .ok (.int 1000000000000000000) S := fun S => e_pow (by decide)
  have hp3 : ∀ S (x y : Int), 0 ≤ x → x < 2147483629 → 0 ≤ y → y ≤ k + 1 → iPow (.int (x + y * 7919)) (.int 3) S = .ok (.int ((x + y * 7919) ^ 3)) S := fun S x y a0 a1 a2 a3 => e_pow (by
    unfold powOk
    rw [decide_eq_true (show (x + y * 7919).natAbs < 2 ^ 64 by omega)]
    decide)
  have hixn : ∀ j : Int, 0 ≤ j → j < 5 → ixN 5 j = some j.toNat := fun j a0 a1 => ixN_in a0 a1
  have i1 : ixN 5 1 = some 1 := by decide
  have i2 : ixN 5 2 = some 2 := by decide
  have i3 : ixN 5 3 = some 3 := by decide
  have i4 : ixN 5 4 = some 4 := by decide
  -- what a state of the list gives
  have mk : ∀ (S0 : Sto) (c i b m : Int), S0 = S.set p (.lst [.scr (ns.map W.int), .int c, .int i, .int b, .int m]) → 0 ≤ c → c ≤ (k + 1 : Nat) → 0 ≤ i → 0 ≤ b → 0 ≤ m → m < 2147483629 → Af p (k + 1) S S0 := fun S0 c i b m e a0 a1 a2 a3 a4 a5 => by
    subst e
    exact ⟨by simp, fun i h => by rw [List.getElem?_set_ne (Ne.symm h)], ns, c, i, b, m, by rw [List.getElem?_set_self lp], a0, a1, a2, a3, a4, a5⟩
  have at_ : ∀ o, (S.set p o)[p]? = some o := fun o => List.getElem?_set_self lp
  have low : ∀ c i b m : Int, lowO S.length (.lst [.scr (ns.map W.int), .int c, .int i, .int b, .int m]) = true := fun c i b m => by simp [lowO, lowL, lowW, lowL_ints]
  have fin : ∀ (c i b m r : Int), gcR S (.ok (.int r) (S.set p (.lst [.scr (ns.map W.int), .int c, .int i, .int b, .int m]))) = .ok (.int r) (S.set p (.lst [.scr (ns.map W.int), .int c, .int i, .int b, .int m])) := fun c i b m r => gc_set1 (low c i b m) rfl
  have x0 : ∀ (S : Sto) (w0 w1 w2 w3 w4 : W), S[p]? = some (.lst [w0, w1, w2, w3, w4]) → ixD (.ref p) (.int 0) S = .ok w0 S := fun S w0 w1 w2 w3 w4 h => e_ixR h (atI0 _ _)
  have x1 : ∀ (S : Sto) (w0 w1 w2 w3 w4 : W), S[p]? = some (.lst [w0, w1, w2, w3, w4]) → ixD (.ref p) (.int 1) S = .ok w1 S := fun S w0 w1 w2 w3 w4 h => e_ixR h (atI1 _ _ _)
  have x2 : ∀ (S : Sto) (w0 w1 w2 w3 w4 : W), S[p]? = some (.lst [w0, w1, w2, w3, w4]) → ixD (.ref p) (.int 2) S = .ok w2 S := fun S w0 w1 w2 w3 w4 h => e_ixR h (atI2 _ _ _ _)
  have x3 : ∀ (S : Sto) (w0 w1 w2 w3 w4 : W), S[p]? = some (.lst [w0, w1, w2, w3, w4]) → ixD (.ref p) (.int 3) S = .ok w3 S := fun S w0 w1 w2 w3 w4 h => e_ixR h (atI3 _ _ _ _ _)
  have x4 : ∀ (S : Sto) (w0 w1 w2 w3 w4 : W), S[p]? = some (.lst [w0, w1, w2, w3, w4]) → ixD (.ref p) (.int 4) S = .ok w4 S := fun S w0 w1 w2 w3 w4 h => e_ixR h (atI4 _ _ _ _ _ _)
  -- the end of the walk, from a state of the list
  have tail : ∀ (c i b m : Int) (t2 t3 t4 : Option W), 0 ≤ c → c ≤ (k + 1 : Nat) → 0 ≤ i → 0 ≤ b → 0 ≤ m → m < 2147483629 → ∃ r S', ((dSeq (dIfS (dTest (dOp iGt (dOp ixD (dVar 0) (dC (.int 3))) (dC (.int 0))))
    (dSeq (dAsg (dOp iMod (dBi intF (dCons (dOp ixD (dVar 0) (dC (.int 3))) dNil)) (dVar 1)) (gN 4))
    (dSeq (dAsg (dOp iDiv (dOp ixD (dVar 0) (dC (.int 3))) (dVar 1)) (gIx (dVar 0) (dC (.int 3))))
    (dRet (dVar 4))))
    dNext)
    (dSeq (dAsg (dOp iMod (dBi intF (dCons (dOp iPow (dOp addD (dOp ixD (dVar 0) (dC (.int 4))) (dOp (mulD false) (dOp ixD (dVar 0) (dC (.int 1))) (dC (.int 7919)))) (dC (.int 3))) dNil)) (dC (.int 2147483647))) (gN 2))
    (dRet (dOp iMod (dBi intF (dCons (dOp iDiv (dVar 2) (dC (.int 16))) dNil)) (dVar 1))))) [some (.ref p), some (.int lim), t2, t3, t4] (S.set p (.lst [.scr (ns.map W.int), .int c, .int i, .int b, .int m])) = .rt (.int r) S') ∧ gcR S (.ok (.int r) S') = .ok (.int r) S' ∧ 0 ≤ r ∧ r < lim ∧ Af p (k + 1) S S' := by
    intro c i b m t2 t3 t4 a0 a1 a2 a3 a4 a5
    have hS := at_ (.lst [.scr (ns.map W.int), .int c, .int i, .int b, .int m])
    by_cases h : 0 < b
    · refine ⟨b % lim, S.set p (.lst [.scr (ns.map W.int), .int c, .int i, .int (b / lim), .int m]), ?_, fin c i (b / lim) m _, Int.emod_nonneg _ (by omega), Int.emod_lt_of_pos _ h0, mk _ c i (b / lim) m rfl a0 a1 a2 (Int.ediv_nonneg a3 (by omega)) a4 a5⟩
      simp [x3 _ _ _ _ _ _ hS, h, hmod, hdiv, hS, i3]
    · refine ⟨((m + c * 7919) ^ 3 % 2147483647) / 16 % lim, S.set p (.lst [.scr (ns.map W.int), .int c, .int i, .int b, .int m]), ?_, fin c i b m _, Int.emod_nonneg _ (by omega), Int.emod_lt_of_pos _ h0, mk _ c i b m rfl a0 a1 a2 a3 a4 a5⟩
      simp [x3 _ _ _ _ _ _ hS, x1 _ _ _ _ _ _ hS, x4 _ _ _ _ _ _ hS, h, hm2', hp3 _ m c a4 a5 a0 a1, hd1, hdv, hmod]
  have hS := at_ (.lst [.scr (ns.map W.int), .int (c + 1), .int i, .int b, .int m])
  have fold : ∀ (t2 t3 t4 : Option W) (S2 : Sto) (r : Int) (S' : Sto), drawB1 [some (.ref p), some (.int lim), none, none, none] S = .rt (.int r) S' → gcR S (.ok (.int r) S') = .ok (.int r) S' → drawF1 [.ref p, .int lim] S = .ok (.int r) S' := fun t2 t3 t4 S2 r S' e g => by
    unfold drawF1
    rw [gcF_eq, dFn_eq]
    simp [List.replicate_succ, e, g]
  by_cases hbr : b = 0 ∧ i < ns.length
  · obtain ⟨hb0, hil⟩ := hbr
    subst hb0
    obtain ⟨w, hw, hw'⟩ := atI_in (l := ns.map W.int) hi (by simpa using hil)
    obtain ⟨x, _, rfl⟩ : ∃ x, x ∈ ns ∧ W.int x = w := List.mem_map.mp (List.mem_of_getElem? hw')
    have hx0 : (0 : Int) ≤ (if x < 0 then -x else x) := by split <;> omega
    generalize hxa : (if x < 0 then -x else x) = xa at hx0
    have hS1 := at_ (.lst [.scr (ns.map W.int), .int (c + 1), .int (i + 1), .int 0, .int m])
    by_cases hbig : (1000000000000000000 : Int) ≤ xa
    · obtain ⟨r, S', e, g, r0, r1, a⟩ := tail (c + 1) (i + 1) xa m none (some (.int xa)) none (by omega) (by omega) (by omega) hx0 hm hm1
      refine ⟨r, S', fold none none none S r S' ?_ g, r0, r1, a⟩
      unfold drawB1
      rw [e_seq]
      simp only [e_asgIx, e_op, e_var0, e_C, R.bind_ok, x1 _ _ _ _ _ _ hp, e_add, R.toF_ok, hp, i1, List.length_cons, List.length_nil, Nat.reduceAdd, List.set_cons_succ, List.set_cons_zero, e_nx]
      rw [e_seq]
      have : (dIfS (dtAnd (dTest (dOp eqD (dOp ixD (dVar 0) (dC (.int 3))) (dC (.int 0)))) (dTest (dOp iLt (dOp ixD (dVar 0) (dC (.int 2))) (dBi lenF (dCons (dOp ixD (dVar 0) (dC (.int 0))) dNil)))))
    (dSeq (dAsg (dBi absF (dCons (dOp ixD (dOp ixD (dVar 0) (dC (.int 0))) (dOp ixD (dVar 0) (dC (.int 2)))) dNil)) (gN 3))
    (dSeq (dAsg (dOp addD (dOp ixD (dVar 0) (dC (.int 2))) (dC (.int 1))) (gIx (dVar 0) (dC (.int 2))))
    (dIfS (dTest (dOp iGe (dVar 3) (dOp iPow (dC (.int 10)) (dC (.int 18)))))
    (dAsg (dVar 3) (gIx (dVar 0) (dC (.int 3))))
    (dAsg (dOp iMod (dBi intF (dCons (dOp (mulD false) (dOp addD (dOp addD (dOp ixD (dVar 0) (dC (.int 4))) (dVar 3)) (dC (.int 1))) (dC (.int 48271))) dNil)) (dC (.int 2147483629))) (gIx (dVar 0) (dC (.int 4)))))))
    dNext) [some (.ref p), some (.int lim), none, none, none] (S.set p (.lst [.scr (ns.map W.int), .int (c + 1), .int i, .int 0, .int m])) = .nx [some (.ref p), some (.int lim), none, some (.int xa), none] (S.set p (.lst [.scr (ns.map W.int), .int (c + 1), .int (i + 1), .int xa, .int m])) := by
        simp [x0 _ _ _ _ _ _ hS, x2 _ _ _ _ _ _ hS, x3 _ _ _ _ _ _ hS, hil, e_ixC hw, hxa, hS, hS1, hp10, hbig, i2, i3]
      rw [this]
      exact e
    · obtain ⟨r, S', e, g, r0, r1, a⟩ := tail (c + 1) (i + 1) 0 ((m + xa + 1) * 48271 % 2147483629) none (some (.int xa)) none (by omega) (by omega) (by omega) (by omega) (Int.emod_nonneg _ (by omega)) (Int.emod_lt_of_pos _ (by omega))
      refine ⟨r, S', fold none none none S r S' ?_ g, r0, r1, a⟩
      unfold drawB1
      rw [e_seq]
      simp only [e_asgIx, e_op, e_var0, e_C, R.bind_ok, x1 _ _ _ _ _ _ hp, e_add, R.toF_ok, hp, i1, List.length_cons, List.length_nil, Nat.reduceAdd, List.set_cons_succ, List.set_cons_zero, e_nx]
      rw [e_seq]
      have : (dIfS (dtAnd (dTest (dOp eqD (dOp ixD (dVar 0) (dC (.int 3))) (dC (.int 0)))) (dTest (dOp iLt (dOp ixD (dVar 0) (dC (.int 2))) (dBi lenF (dCons (dOp ixD (dVar 0) (dC (.int 0))) dNil)))))
    (dSeq (dAsg (dBi absF (dCons (dOp ixD (dOp ixD (dVar 0) (dC (.int 0))) (dOp ixD (dVar 0) (dC (.int 2)))) dNil)) (gN 3))
    (dSeq (dAsg (dOp addD (dOp ixD (dVar 0) (dC (.int 2))) (dC (.int 1))) (gIx (dVar 0) (dC (.int 2))))
    (dIfS (dTest (dOp iGe (dVar 3) (dOp iPow (dC (.int 10)) (dC (.int 18)))))
    (dAsg (dVar 3) (gIx (dVar 0) (dC (.int 3))))
    (dAsg (dOp iMod (dBi intF (dCons (dOp (mulD false) (dOp addD (dOp addD (dOp ixD (dVar 0) (dC (.int 4))) (dVar 3)) (dC (.int 1))) (dC (.int 48271))) dNil)) (dC (.int 2147483629))) (gIx (dVar 0) (dC (.int 4)))))))
    dNext) [some (.ref p), some (.int lim), none, none, none] (S.set p (.lst [.scr (ns.map W.int), .int (c + 1), .int i, .int 0, .int m])) = .nx [some (.ref p), some (.int lim), none, some (.int xa), none] (S.set p (.lst [.scr (ns.map W.int), .int (c + 1), .int (i + 1), .int 0, .int ((m + xa + 1) * 48271 % 2147483629)])) := by
        simp [x0 _ _ _ _ _ _ hS, x2 _ _ _ _ _ _ hS, x3 _ _ _ _ _ _ hS, x4 _ _ _ _ _ _ hS1, hil, e_ixC hw, hxa, hS, hS1, hp10, hbig, i2, i3, i4, hm1', hd2]
      rw [this]
      exact e
  · obtain ⟨r, S', e, g, r0, r1, a⟩ := tail (c + 1) i b m none none none (by omega) (by omega) (by omega) hb hm hm1
    refine ⟨r, S', fold none none none S r S' ?_ g, r0, r1, a⟩
    unfold drawB1
    rw [e_seq]
    simp only [e_asgIx, e_op, e_var0, e_C, R.bind_ok, x1 _ _ _ _ _ _ hp, e_add, R.toF_ok, hp, i1, List.length_cons, List.length_nil, Nat.reduceAdd, List.set_cons_succ, List.set_cons_zero, e_nx]
    rw [e_seq]
    have : (dIfS (dtAnd (dTest (dOp eqD (dOp ixD (dVar 0) (dC (.int 3))) (dC (.int 0)))) (dTest (dOp iLt (dOp ixD (dVar 0) (dC (.int 2))) (dBi lenF (dCons (dOp ixD (dVar 0) (dC (.int 0))) dNil)))))
    (dSeq (dAsg (dBi absF (dCons (dOp ixD (dOp ixD (dVar 0) (dC (.int 0))) (dOp ixD (dVar 0) (dC (.int 2)))) dNil)) (gN 3))
    (dSeq (dAsg (dOp addD (dOp ixD (dVar 0) (dC (.int 2))) (dC (.int 1))) (gIx (dVar 0) (dC (.int 2))))
    (dIfS (dTest (dOp iGe (dVar 3) (dOp iPow (dC (.int 10)) (dC (.int 18)))))
    (dAsg (dVar 3) (gIx (dVar 0) (dC (.int 3))))
    (dAsg (dOp iMod (dBi intF (dCons (dOp (mulD false) (dOp addD (dOp addD (dOp ixD (dVar 0) (dC (.int 4))) (dVar 3)) (dC (.int 1))) (dC (.int 48271))) dNil)) (dC (.int 2147483629))) (gIx (dVar 0) (dC (.int 4)))))))
    dNext) [some (.ref p), some (.int lim), none, none, none] (S.set p (.lst [.scr (ns.map W.int), .int (c + 1), .int i, .int b, .int m])) = .nx [some (.ref p), some (.int lim), none, none, none] (S.set p (.lst [.scr (ns.map W.int), .int (c + 1), .int i, .int b, .int m])) := by
      by_cases hb0 : b = 0
      · subst hb0
        have hil : ¬ i < ns.length := fun z => hbr ⟨rfl, z⟩
        simp [x0 _ _ _ _ _ _ hS, x2 _ _ _ _ _ _ hS, x3 _ _ _ _ _ _ hS, hil]
      · simp [x0 _ _ _ _ _ _ hS, x2 _ _ _ _ _ _ hS, x3 _ _ _ _ _ _ hS, hb0]
    rw [this]
    exact e
end DD
namespace DD
open PySem PySem.Spec PyProof.Rows L2
variable {G : Gx} {xv : Nat → Value} {Wx : WX} {X : Cx} {H H' : Hp} {S S' : Sto} {r r' : Rh}
/-- (a, b, ..) = a tuple or a list of that length -/
def gSq (n : Nat) (gs : DGs) : DG := fun w t S => match w with
  | .tup ws => if ws.length = n then gs ws t S else .no
  | w => match seqL S w with
    | some ws => if ws.length = n then gs ws t S else .no
    | none => .no
theorem PG.either {e : Expr} {t t' : TG} (h : PG X e t) (h' : PG X e t') : PG X e (fun v s H Q => t v s H Q ∨ t' v s H Q) := ⟨fun pins s σ H v u Q I rv q => by
  rcases q with q | q
  · exact h.run pins s σ H v u Q I rv q
  · exact h'.run pins s σ H v u Q I rv q⟩
@[simp] theorem e_asgSq {d : DX} {n : Nat} {gs : DGs} {t : Lo} {S : Sto} : dAsg d (gSq n gs) t S = (d t S).toF t fun w S1 => match gSq n gs w t S1 with
  | .ok t' S2 => .nx t' S2
  | _ => .no := rfl
end DD
namespace DD
open PySem PySem.Spec PyProof.Rows L2
end DD
namespace DD
open PySem PySem.Spec PyProof.Rows L2 RT RZ
variable {G : Gx} {xv : Nat → Value} {Wx : WX} {X : Cx} {H H' : Hp} {S S' : Sto} {r r' : Rh}
/-! ### list.pop(i), list.extend -/
/-! ### reversed(a list or a tuple) -/
/-! ### zip of two lists, of two tuples (values) -/
/-! ### sorted(a list of ints) -/
/-! ### x = y = e -/
def dAsg2 (d : DX) (i j : Nat) : DS := fun t S => (d t S).toF t fun w S1 => .nx ((t.set i (some w)).set j (some w)) S1
@[simp] theorem e_asg2 {d : DX} {i j : Nat} {t : Lo} {S : Sto} : dAsg2 d i j t S = (d t S).toF t fun w S1 => .nx ((t.set i (some w)).set j (some w)) S1 := rfl
/-! ### constants that are tuples -/
end DD
namespace DD
open PySem PySem.Spec PyProof.Rows L2
variable {G : Gx} {xv : Nat → Value} {Wx : WX} {X : Cx} {H H' : Hp} {S S' : Sto} {r r' : Rh}
/-! ### dicts with nested keys: the heap's side -/
theorem dn_at {P : Program} {w : World} {h : Heap} {a : Addr} {rows : List Row} {ob : Obj} (ok : HOk P w H h) (e : H a = some (DnO w a rows ob)) : DnAt w a rows ob h := (show ObjOk P w H h a (DnO w a rows ob) from ok a _ e).1
theorem rows_mem : ∀ {rows : List Row} {xs : List (NestedKey × Addr × Value)}, RowsR rows xs → ∀ x ∈ xs, ∃ p ∈ rows, p.1 = x.1 ∧ p.2.1 = x.2.1
  | _, _, .nil, x, hx => nomatch hx
  | _, _, .cons h t, x, hx => by
    rcases List.mem_cons.mp hx with rfl | hx
    · exact ⟨_, List.mem_cons_self .., h.1, h.2.1⟩
    · obtain ⟨p, hp, q⟩ := rows_mem t x hx
      exact ⟨p, List.mem_cons_of_mem _ hp, q⟩
theorem dn_dict {P : Program} {w : World} {h : Heap} {a : Addr} {rows : List Row} {ob : Obj} (d : DnAt w a rows ob h) (hk : ∀ x ∈ rows, NestedIs h x.1 (.ref x.2.1)) : (a == sysModules) = false ∧ ∃ xs, RowsR rows xs ∧ h.DictOfH (nestedKind P w) a xs := by
  obtain ⟨e, z, y, xs, rr, dp, es, ep, c1, c2, c3, c4⟩ := d
  refine ⟨y, xs, rr, ob, es, ep, e, c1, c2, c3, fun x hx => ?_, c4⟩
  obtain ⟨p, hp, h1, h2⟩ := rows_mem rr x hx
  exact ⟨by rw [← h1, ← h2]; exact hk p hp, dp x hx⟩
/-! ### keys -/
/-- what lies at b is the key k, whatever comes while H stands -/
def KeyAt (K : PySem.W.Frag) (H : Hp) (b : Addr) (k : NestedKey) : Prop := ∀ (X : Cx) (pins : List (Addr × Obj)) (σ : L2.St) (s : Shared), X.K = K → Inv X pins σ H s → NestedIs s.heap k (.ref b)
structure DnKeys (K : PySem.W.Frag) (w : World) (H : Hp) (a : Addr) (rows : List Row) (b : Addr) (k : NestedKey) : Prop where
  at_ : ∃ ob, H a = some (DnO w a rows ob)
  keys : ∀ x ∈ rows, KeyAt K H x.2.1 x.1
  key : KeyAt K H b k
  deep : k.depth ≤ 8
section
variable {pins : List (Addr × Obj)} {σ : L2.St} {s : Shared} {a b : Addr} {rows : List Row} {k : NestedKey} {v : V} {u : Value} {A : Around} {E : Value → Shared → Prop}
theorem DnKeys.dict (g : DnKeys X.K X.w H a rows b k) (I : Inv X pins σ H s) : (a == sysModules) = false ∧ ∃ xs, RowsR rows xs ∧ s.heap.DictOfH (nestedKind X.prog X.w) a xs :=
  let ⟨_, e⟩ := g.at_; dn_dict (dn_at I.hok e) fun x hx => g.keys x hx X pins σ s rfl I
end
/-! ### the values' side -/
/-! ### rules -/
end DD
namespace DD
open PySem PySem.Spec PyProof.Rows L2
variable {G : Gx} {xv : Nat → Value} {Wx : WX} {X : Cx} {H H' : Hp} {S S' : Sto} {r r' : Rh}
/-! ### for k in d -/
/-- the keys of a dict that is a value -/
def dSeqN (d : DX) : DA := fun t S => (d t S).bind fun w S1 => match w with
  | .dn ks _ => .ok ks S1
  | _ => .no
@[simp] theorem e_seqN {d : DX} {t : Lo} {S : Sto} : dSeqN d t S = (d t S).bind fun w S1 => match w with
  | .dn ks _ => .ok ks S1
  | _ => .no := rfl
/-! ### list(d) -/
end DD
namespace DD
open PySem PySem.Spec PyProof.Rows L2
/-! ### {k: v for target in iter if ..}, keys nested -/
end DD
namespace DD
open PySem PySem.Spec PyProof.Rows L2
/-! ### d.get(k, x), keys nested -/
end DD
namespace DD
open PySem PySem.Spec PyProof.Rows L2 RT RZ
/-! ### t < u of tuples -/
/-! ### a list of the store is a value from here on -/
/-! ### zip of a tuple and a list -/
end DD
set_option maxHeartbeats 4000000
namespace DD
open PySem PySem.Spec PyProof.Rows L2
/-! ### lists added, of the store too -/
/-! ### a tuple times a number -/
end DD
/-! bool(o) of an own class with __bool__ -/
namespace PySem
end PySem
namespace DD
open PySem PySem.Spec PyProof.Rows L2
end DD
/-! In an except suite: x.m(e). -/
namespace DD
open PySem PySem.Spec PyProof.Rows L2
end DD
namespace DD
open PySem PySem.Spec PyProof.Rows L2
/-! ### a list of lists of the store is from here on a value -/
/-! ### max of a list of ints -/
end DD
namespace DD
open PySem PySem.Spec PyProof.Rows L2
/-! ### list.remove(x), x in the list -/
end DD
/-! A lambda handed to a def: what is lent, and how it is called. -/
namespace DD
open PySem PySem.Spec PyProof.Rows L2 NdefX
/-! ### what is lent: cells that are known for the time of a call -/
/-! ### at a call -/
/-! ### the lambda is called -/
/-! ### no lambda is held -/
/-! ### the call to which the lambda is handed -/
/-! ### defs that make lambdas: the code object is told -/
end DD
/-! errors as values; several except clauses; defs called while an error is handled -/
namespace DD
open PySem PySem.Spec PyProof.Rows L2
/-! ### the error is tracked while its suite runs, and behind it -/
/-- what a clause wishes: its class, the slot of its name, its suite -/
abbrev Clz := Value × Option Nat × TS
def wMX (K : PySem.W.Frag) (Wout : WX) (D : Ends) : List Clz → WX
  | [] => Wout
  | (c, i, ts) :: r => fun cls d σ H => ∃ b, PySem.W.exmOne K cls c = some b ∧
      (b = true → ∀ a oe, H a = none → Zc cls d oe → (∃ vs, oe.data = .fields vs) → match i with
        | none => ts D σ (upd H a (ExV a oe))
        | some i => ts { nx := fun σ' H' => D.nx (σ'.set i none) H', rt := D.rt, bk := fun σ' H' => D.bk (σ'.set i none) H', ct := fun σ' H' => D.ct (σ'.set i none) H' } (σ.set i (some (.ref a))) (upd H a (ExV a oe))) ∧
      (b = false → wMX K Wout D r cls d σ H)
inductive HdX (X : Cx) : List ExceptHandler → List Clz → Prop
  | nil : HdX X [] []
  | cons {x : Str} {c : Value} {ts : TS} {b₀ : Stmt} {suite : List Stmt} {np pos' : Pos} {hds : List ExceptHandler} {l : List Clz} (hc : Names X x c)
      (hsu : ∀ (a : Addr) (pn : List (Addr × Obj)), PSs (X.suite a pn) (b₀ :: suite) ts) (r : HdX X hds l) :
      HdX X (.ExceptHandler (some (.Name x np)) none (b₀ :: suite) pos' :: hds) ((c, none, ts) :: l)
  | consAs {x n : Str} {c : Value} {i : Nat} {ts : TS} {b₀ : Stmt} {suite : List Stmt} {np pos' : Pos} {hds : List ExceptHandler} {l : List Clz} (hc : Names X x c) (hi : X.N[i]? = some n) (hln : X.env.kindOf n = some .local)
      (hsu : ∀ (a : Addr) (pn : List (Addr × Obj)), PSs (X.suite a pn) (b₀ :: suite) ts) (r : HdX X hds l) :
      HdX X (.ExceptHandler (some (.Name x np)) (some n) (b₀ :: suite) pos' :: hds) ((c, some i, ts) :: l)
end DD
namespace DD
open PySem PySem.Spec PyProof.Rows L2
/-! ### the clauses as mirrors -/
abbrev Cla := (Nat → Option Bool) × Option Nat × DS
def unX : Option Nat → F → F
  | _, .er _ _ _ _ _ => .no
  | _, .no => .no
  | _, .rt w S => .rt w S
  | none, .nx t S => .nx t S
  | none, .bk t S => .bk t S
  | none, .ct t S => .ct t S
  | some i, .nx t S => .nx (t.set i none) S
  | some i, .bk t S => .bk (t.set i none) S
  | some i, .ct t S => .ct (t.set i none) S
def dHnd : List Cla → Nat → List Str → List W → DS
  | [], c, ns, ws => fun t S => .er c ns ws t S
  | (m, i, h) :: l, c, ns, ws => fun t S => match m c with
    | some true => match i with
      | none => unX none (h t S)
      | some i => unX (some i) (h (t.set i (some (.exn c ns ws))) S)
    | some false => dHnd l c ns ws t S
    | none => .no
section
variable {G : Gx} {xv : Nat → Value} {Wx : WX} {X : Cx} {H H' : Hp} {S S' : Sto} {r r' : Rh}
inductive HdD (G : Gx) (xv : Nat → Value) (X : Cx) : List ExceptHandler → List Cla → Prop
  | nil : HdD G xv X [] []
  | cons {x : Str} {cE : Value} {m : Nat → Option Bool} {h : DS} {b₀ : Stmt} {suite : List Stmt} {np pos' : Pos} {hds : List ExceptHandler} {l : List Cla} (hc : Names X x cE) (hm : ∀ c b, m c = some b → PySem.W.exmOne X.K (xv c) cE = some b)
      (hsu : ∀ (a : Addr) (pn : List (Addr × Obj)), PSs (X.suite a pn) (b₀ :: suite) (toS G xv W0 h)) (q : HdD G xv X hds l) :
      HdD G xv X (.ExceptHandler (some (.Name x np)) none (b₀ :: suite) pos' :: hds) ((m, none, h) :: l)
  | consAs {x n : Str} {cE : Value} {i : Nat} {m : Nat → Option Bool} {h : DS} {b₀ : Stmt} {suite : List Stmt} {np pos' : Pos} {hds : List ExceptHandler} {l : List Cla} (hc : Names X x cE) (hm : ∀ c b, m c = some b → PySem.W.exmOne X.K (xv c) cE = some b)
      (hi : X.N[i]? = some n) (hln : X.env.kindOf n = some .local)
      (hsu : ∀ (a : Addr) (pn : List (Addr × Obj)), PSs (X.suite a pn) (b₀ :: suite) (toS G xv W0 h)) (q : HdD G xv X hds l) :
      HdD G xv X (.ExceptHandler (some (.Name x np)) (some n) (b₀ :: suite) pos' :: hds) ((m, some i, h) :: l)
theorem HdD.ok (hx : ∀ c, xv c = .ref (G.cm c)) {hds : List ExceptHandler} {l : List Cla} (h : HdD G xv X hds l) : ∃ L : List Clz, HdX X hds L ∧ ∀ (D : Ends) (d : Option Addr) (s : L2.St) (H : Hp) (c : Nat) (ns : List Str) (ws : List W) (t : Lo) (S : Sto) (r : Rh),
    RLo G H S r t s → Rl G H S r → Xd G H S r d ns ws → OutS G xv Wx H S r (dHnd l c ns ws t S) D → wMX X.K Wx D L (xv c) d s H := by
  induction h with
  | nil => exact ⟨[], .nil, fun D d s H c ns ws t S r lo rl xd o => o r H s d .refl rl lo xd⟩
  | @cons x cE m hh b₀ suite np pos' hds l hc hm hsu q ih =>
    obtain ⟨L, hL, hw⟩ := ih
    refine ⟨(cE, none, toS G xv W0 hh) :: L, .cons hc hsu hL, fun D d s H c ns ws t S r lo rl xd o => ?_⟩
    simp only [dHnd] at o
    cases em : m c with
    | none => rw [em] at o; exact o.elim
    | some b =>
      rw [em] at o
      refine ⟨b, hm c b em, ?_, ?_⟩
      · rintro rfl a oe na hz hf
        simp only [] at o
        have e1 : Ev H S r (upd H a (ExV a oe)) S r := Ev.fresh na rl
        refine ⟨r, t, S, lo.ev e1, rl.fresh na, ?_⟩
        have o2 := OutS.from e1 o
        cases eh : hh t S with
        | nx t2 S2 => rw [eh] at o2; exact o2
        | bk t2 S2 => rw [eh] at o2; exact o2
        | ct t2 S2 => rw [eh] at o2; exact o2
        | rt w S2 => rw [eh] at o2; exact o2
        | er c2 ns2 ws2 t2 S2 => rw [eh] at o2; exact o2.elim
        | no => rw [eh] at o2; exact o2.elim
      · rintro rfl
        exact hw D d s H c ns ws t S r lo rl xd o
  | @consAs x n cE i m hh b₀ suite np pos' hds l hc hm hi hln hsu q ih =>
    obtain ⟨L, hL, hw⟩ := ih
    refine ⟨(cE, some i, toS G xv W0 hh) :: L, .consAs hc hi hln hsu hL, fun D d s H c ns ws t S r lo rl xd o => ?_⟩
    simp only [dHnd] at o
    cases em : m c with
    | none => rw [em] at o; exact o.elim
    | some b =>
      rw [em] at o
      refine ⟨b, hm c b em, ?_, ?_⟩
      · rintro rfl a oe na hz hf
        simp only [] at o
        have e1 : Ev H S r (upd H a (ExV a oe)) S r := Ev.fresh na rl
        have hq : RW G (upd H a (ExV a oe)) S r (.exn c ns ws) (.ref a) := by
          rcases xd with ⟨rfl, rfl, rfl⟩ | ⟨dx, vs, rfl, ow, hl, q⟩
          · exact .exn (Own.new na rl) (hz.1.trans (hx c)) hf (.inl ⟨rfl, rfl, hz.2⟩) .nil
          · exact .exn (Own.new na rl) (hz.1.trans (hx c)) hf (.inr ⟨dx, hz.2, ow.ev e1, hl⟩) (q.ev e1)
        refine ⟨r, t.set i (some (.exn c ns ws)), S, (lo.ev e1).set hq i, rl.fresh na, ?_⟩
        have o2 := OutS.from e1 o
        cases eh : hh (t.set i (some (.exn c ns ws))) S with
        | nx t2 S2 => rw [eh] at o2; exact fun r2 H2 s2 e2 rl2 l2 => o2 r2 H2 _ e2 rl2 (l2.setN i)
        | bk t2 S2 => rw [eh] at o2; exact fun r2 H2 s2 e2 rl2 l2 => o2 r2 H2 _ e2 rl2 (l2.setN i)
        | ct t2 S2 => rw [eh] at o2; exact fun r2 H2 s2 e2 rl2 l2 => o2 r2 H2 _ e2 rl2 (l2.setN i)
        | rt w S2 => rw [eh] at o2; exact o2
        | er c2 ns2 ws2 t2 S2 => rw [eh] at o2; exact o2.elim
        | no => rw [eh] at o2; exact o2.elim
      · rintro rfl
        exact hw D d s H c ns ws t S r lo rl xd o
/-! ### what is read of an error -/
/-! ### isinstance of an error -/
/-! ### where an error is handled -/
end
end DD
namespace DD
open PySem PySem.Spec PyProof.Rows L2
end DD
/-! {k: v}, the key a nested tuple: a dict of one row. -/
namespace DD
open PySem PySem.Spec PyProof.Rows L2
end DD
/-! Generators whose consumer may do more than put the items into a list: what the consumer owns is pinned, what it makes is tracked. -/
namespace DD
open PySem PySem.Spec PyProof.Rows L2 GenW
/-- what the two sides tell each other: yl, of an item x that is handed out behind what the consumer made of the items so far; tr, of what the consumer makes of x -/
structure GPr where
  yl : List V → V → Hp → Prop
  tr : List V → V → Hp → V → Hp → Prop
end DD
namespace DD
open PySem PySem.Spec PyProof.Rows L2 GenW
end DD
namespace DD
open PySem PySem.Spec PyProof.Rows L2 GenW
end DD
/-! A comprehension over a generator: each item a tuple, taken apart by names. -/
namespace DD
open PySem PySem.Spec PyProof.Rows L2 GenW
end DD
/-! Calls of generator defs; [.. for x, y, z in f(..)]. -/
namespace DD
open PySem PySem.Spec PyProof.Rows L2 GenW
/-! ### the comprehension -/
end DD
/-! [.. for x, y, z in f(..)], f a generator def. -/
namespace DD
open PySem PySem.Spec PyProof.Rows L2 GenW
end DD
/-! Generator defs, by mirrors: a mirror tells the list of the items. -/
namespace DD
open PySem PySem.Spec PyProof.Rows L2 GenW
/-- the store at the beginning; what is asked of an item -/
structure GIn where
  S : Sto
  ok : W → Bool
section
variable {G : Gx} {xv : Nat → Value} {Wx : WX} {X : Cx} {N : GPr} {mW : W → W} {i : GIn} {H H' : Hp} {S S' : Sto} {r r' : Rh}
def OutY (G : Gx) (xv : Nat → Value) (Wx : WX) (mW : W → W) (H : Hp) (S : Sto) (r : Rh) (x : F × List W) (D : GEnds) : Prop :=
  match x with
  | (.nx t S1, os) => ∀ r1 H1 s ys, Ev H S r H1 S1 r1 → Rl G H1 S1 r1 → RLo G H1 S1 r1 t s → RWs G H1 S1 r1 (os.map mW) ys → D.nx ys s H1
  | (.bk t S1, os) => ∀ r1 H1 s ys, Ev H S r H1 S1 r1 → Rl G H1 S1 r1 → RLo G H1 S1 r1 t s → RWs G H1 S1 r1 (os.map mW) ys → D.bk ys s H1
  | (.ct t S1, os) => ∀ r1 H1 s ys, Ev H S r H1 S1 r1 → Rl G H1 S1 r1 → RLo G H1 S1 r1 t s → RWs G H1 S1 r1 (os.map mW) ys → D.ct ys s H1
  | (.rt w S1, os) => ∀ r1 H1 v ys, Ev H S r H1 S1 r1 → Rl G H1 S1 r1 → RW G H1 S1 r1 w v → RWs G H1 S1 r1 (os.map mW) ys → D.rt ys v H1
  | (.er c ns ws t S1, _) => ∀ r1 H1 s d, Ev H S r H1 S1 r1 → Rl G H1 S1 r1 → RLo G H1 S1 r1 t s → Xd G H1 S1 r1 d ns ws → Wx (xv c) d s H1
  | (.no, _) => False
theorem OutY.from {x : F × List W} {D : GEnds} (e : Ev H S r H' S' r') (o : OutY G xv Wx mW H S r x D) : OutY G xv Wx mW H' S' r' x D := by
  obtain ⟨x, os⟩ := x
  cases x with
  | nx t S1 => exact fun r1 H1 v ys e1 => o r1 H1 v ys (e.trans e1)
  | bk t S1 => exact fun r1 H1 v ys e1 => o r1 H1 v ys (e.trans e1)
  | ct t S1 => exact fun r1 H1 v ys e1 => o r1 H1 v ys (e.trans e1)
  | rt w S1 => exact fun r1 H1 v ys e1 => o r1 H1 v ys (e.trans e1)
  | er c ns ws t S1 => exact fun r1 H1 s d e1 => o r1 H1 s d (e.trans e1)
  | no => exact o
end
end DD
/-! The promise of a generator def; a comprehension over its call. -/
namespace DD
open PySem PySem.Spec PyProof.Rows L2 GenW
/-! ### the comprehension -/
end DD
/-! list(f(..)), f a generator def. -/
namespace DD
open PySem PySem.Spec PyProof.Rows L2 GenW
end DD
/-! Sets of ints made on the spot: len({..}), sorted({..}). -/
namespace DD
open PySem PySem.Spec PyProof.Rows L2
/-! ### the mirror -/
/-! ### len of it -/
/-! ### sorted of it -/
end DD
/-! tuple(range(n)), list(range(n)) as a new list of the store, raise C(a, b). -/
namespace DD
open PySem PySem.Spec PyProof.Rows L2
/-! ### raise C(a, b) -/
end DD
/-! A dict that a field holds is a value from a place on. -/
namespace DD
open PySem PySem.Spec PyProof.Rows L2
end DD
/-! t[::-1], of a tuple too. -/
namespace DD
open PySem PySem.Spec PyProof.Rows L2 HT
end DD
/-! The law's head: the facts are told of named addresses; the run's three looks are shown apart. -/
namespace DD
open PySem PySem.Spec PyProof.Rows L2
def obA (as : List Addr) (fa : List He.Fa) (fn : List He.DefD) (tf : List He.Defn) (ex : PySem.W.Frag → Bool) (g : Addr → Option Obj) : He.AlT × Bool :=
  (He.obsT fa fn [] (He.frT g as), ex (He.frT g as) && He.tabsB g tf (He.frT g as))
/-- the tables of the defs that make lambdas -/
def TabsA (tf : List He.Defn) (h : Heap) (K : PySem.W.Frag) : Prop := ∀ p ∈ tf, h.get? (He.cT K p).2 = some { cls := .none, data := .fields #[] } ∧ K.lookup (He.cT K p).2 = none ∧ PySem.W.codeHdIn K (He.cT K p).1 (He.cT K p).2 = true
theorem tabsA_of {as : List Addr} {tf : List He.Defn} {h : Heap} (e : He.tabsB h.get? tf (He.frT h.get? as) = true) : TabsA tf h (He.frT h.get? as) := fun p hp => by
  obtain ⟨h3, h4⟩ := He.ba (List.all_eq_true.mp e p hp)
  cases q : h.get? (He.cT (He.frT h.get? as) p).2 with
  | none => rw [q] at h4; cases h4
  | some o =>
    rw [q] at h4
    exact ⟨by rw [He.emptyTab_eq h4], He.frT_none q h4, h3⟩
/-- what is told of a heap: facts of the part at the named addresses -/
def hookA (as : List Addr) (fa : List He.Fa) (fn : List He.DefD) (tf : List He.Defn) (ex : PySem.W.Frag → Bool) : PySem.W.Hook where
  α := He.AlT × Bool
  obs := fun st => obA as fa fn tf ex st.heap.get?
  val := fun w => (He.valT fn [] w, true)
  says := fun w h => ∃ K : PySem.W.Frag, K.In h ∧ He.SaysT fa fn [] w K ∧ ex K = true ∧ TabsA tf h K
  of := fun _ st e => ⟨He.frT st.heap.get? as, He.frT_in, congrArg Prod.fst e, (He.ba (congrArg Prod.snd e)).1, tabsA_of (He.ba (congrArg Prod.snd e)).2⟩
  keeps := fun _ h h' ⟨K, inK, tx, ex, tt⟩ stay => ⟨K, inK.keeps stay, tx, ex, fun p hp => ⟨stay _ _ (tt p hp).1, (tt p hp).2⟩⟩
theorem obA_eq {as : List Addr} {fa : List He.Fa} {fn : List He.DefD} {tf : List He.Defn} {ex : PySem.W.Frag → Bool} (s : PySem.W.SharedT) : obA as fa fn tf ex (HandSHeadRun.getT s) = (hookA as fa fn tf ex).obs s.abs := by
  have e : HandSHeadRun.getT s = s.abs.heap.get? := funext (HandSHeadRun.getT_eq s)
  rw [e]; rfl
theorem run_all {β γ : Type} {as : List Addr} {fa : List He.Fa} {fn : List He.DefD} {tf : List He.Defn} {ex : PySem.W.Frag → Bool} {o : Option PySem.W.SharedT} {a : PySem.W.SharedT → β} {b : PySem.W.SharedT → γ} {x : β} {y : γ} {w : World}
    (h1 : o.map (fun s => (a s, b s)) = some (x, y)) (h2 : o.map (fun s => He.obsT fa fn [] (He.frT (HandSHeadRun.getT s) as)) = some (He.valT fn [] w)) (h3 : o.map (fun s => ex (He.frT (HandSHeadRun.getT s) as) && He.tabsB (HandSHeadRun.getT s) tf (He.frT (HandSHeadRun.getT s) as)) = some true) :
    o.map (fun s => (a s, b s, obA as fa fn tf ex (HandSHeadRun.getT s))) = some (x, y, (He.valT fn [] w, true)) := by
  cases o with
  | none => cases h1
  | some s =>
    have e1 : (a s, b s) = (x, y) := Option.some.inj h1
    obtain ⟨e2, e3⟩ := Prod.mk.inj e1
    have e4 : He.obsT fa fn [] (He.frT (HandSHeadRun.getT s) as) = He.valT fn [] w := Option.some.inj h2
    have e5 : (ex (He.frT (HandSHeadRun.getT s) as) && He.tabsB (HandSHeadRun.getT s) tf (He.frT (HandSHeadRun.getT s) as)) = true := Option.some.inj h3
    show some (a s, b s, (He.obsT fa fn [] (He.frT (HandSHeadRun.getT s) as), ex (He.frT (HandSHeadRun.getT s) as) && He.tabsB (HandSHeadRun.getT s) tf (He.frT (HandSHeadRun.getT s) as))) = _
    rw [e2, e3, e4, e5]
end DD
/-! Properties of own classes: read, assigned. -/
namespace DD
open PySem PySem.Spec PyProof.Rows L2
/-! ### the head: functions that stand within a property -/
end DD
/-! The law's head where properties are told too. -/
namespace DD
open PySem PySem.Spec PyProof.Rows L2
end DD
/-! d.get(k, x) of a dict with plain keys. -/
namespace DD
open PySem PySem.Spec PyProof.Rows L2
end DD
/-! str of ints and of own instances, f-strings, isinstance of an error by a built-in class. -/
namespace DD
open PySem PySem.Spec PyProof.Rows L2
section
variable {G : Gx} {xv : Nat → Value} {Wx : WX} {X : Cx} {H H' : Hp} {S S' : Sto} {r r' : Rh}
/-- {x} -/
def dFmt (d : DX) : DX := fun t S => (d t S).bind fun w S1 => match w with
  | .str y => if y.length ≤ sizeLine then .ok (.str y) S1 else .no
  | .int i => if i.natAbs.log2 < 1920 then .ok (.str (toString i)) S1 else .no
  | _ => .no
theorem de_fmt {e : Expr} {d : DX} {pos : Pos} (he : PE X e (toE G xv Wx d)) : PE X (.FormattedValue e (-1) none pos) (toE G xv Wx (dFmt d)) :=
  PEi (pe_fmt he) fun s H Q ⟨r, t, S, l, rl, o⟩ => toX.bind l rl o fun w S1 r1 H1 v _ e1 rl1 l1 q o1 => by
    cases q with
    | str y =>
      simp only [] at o1
      split at o1
      · rename_i hy
        exact .inl ⟨y, rfl, hy, o1 r1 H1 _ .refl rl1 (.str y)⟩
      · exact o1.elim
    | int i =>
      simp only [] at o1
      split at o1
      · rename_i hy
        exact .inr ⟨i, rfl, hy, o1 r1 H1 _ .refl rl1 (.str _)⟩
      · exact o1.elim
    | _ => exact o1.elim
def dJs : List DX → Str → DX
  | [], acc => fun _ S => .ok (.str acc) S
  | d :: ds, acc => fun t S => (d t S).bind fun w S1 => match w with
    | .str y => if (acc ++ y).length ≤ sizeLine then dJs ds (acc ++ y) t S1 else .no
    | _ => .no
theorem dJs_ok {s : L2.St} {Q : VK} : ∀ (ds : List DX) (acc : Str) (H : Hp), toE G xv Wx (dJs ds acc) s H Q → tJs (ds.map fun d => toE G xv Wx d) acc s H fun out H1 => Q (.str out) H1
  | [], acc, H, ⟨r, t, S, l, rl, o⟩ => o r H _ .refl rl (.str acc)
  | d :: ds, acc, H, ⟨r, t, S, l, rl, o⟩ => toX.bind l rl o fun w S1 r1 H1 v _ e1 rl1 l1 q o1 => by
    cases q with
    | str y =>
      simp only [] at o1
      split at o1
      · rename_i hy
        exact ⟨y, rfl, hy, dJs_ok ds _ H1 ⟨r1, t, S1, l1, rl1, o1⟩⟩
      · exact o1.elim
    | _ => exact o1.elim
inductive PJd (G : Gx) (xv : Nat → Value) (Wx : WX) (X : Cx) : List Expr → List DX → Prop where
  | nil : PJd G xv Wx X [] []
  | cons {e : Expr} {d : DX} {es : List Expr} {ds : List DX} (h : PE X e (toE G xv Wx d)) (r : PJd G xv Wx X es ds) : PJd G xv Wx X (e :: es) (d :: ds)
theorem PJd.pj {es : List Expr} {ds : List DX} (h : PJd G xv Wx X es ds) : PJ X es (ds.map fun d => toE G xv Wx d) := by
  induction h with
  | nil => exact .nil
  | cons h _ ih => exact .cons h ih
def dJoin (ds : List DX) : DX := dJs ds Str.empty
theorem de_joined {v1 v2 : Expr} {rest : List Expr} {ds : List DX} {pos : Pos} (h : PJd G xv Wx X (v1 :: v2 :: rest) ds) : PE X (.JoinedStr (v1 :: v2 :: rest) pos) (toE G xv Wx (dJoin ds)) :=
  PEi (pe_joined h.pj) fun s H Q o => dJs_ok ds _ H o
end
end DD
/-! Texts: items, slices, parts, joins. -/
namespace DD
open PySem PySem.Spec PyProof.Rows L2
section
variable {G : Gx} {xv : Nat → Value} {Wx : WX} {X : Cx} {H H' : Hp} {S S' : Sto} {r r' : Rh}
/-- text[i] -/
def ixS : D2 := fun a b S => match a, b with
  | .str z, .int i => if z.length ≤ sizeLine then match L2.atI z.cps.toList i with
    | some c => .ok (.str ⟨#[c]⟩) S
    | none => .no
    else .no
  | _, _ => .no
theorem de_ixS {a b : Expr} {da db : DX} {pos : Pos} (ha : PE X a (toE G xv Wx da)) (hb : PE X b (toE G xv Wx db)) (hs : PlainIx b := by intro _ _; rfl) : PE X (.Subscript a b pos) (toE G xv Wx (dOp ixS da db)) :=
  PEi (pe_ix ix_str ha hb hs) fun s H Q ⟨r, t, S, l, rl, o⟩ => toX.bind l rl o fun w S1 r1 H1 x _ e1 rl1 l1 q o1 => toX.bind l1 rl1 o1 fun y S2 r2 H2 yv _ e2 rl2 l2 qy o2 => by
    have q2 := q.ev e2
    cases w with
    | str z =>
      cases y with
      | int i =>
        by_cases hz : z.length ≤ sizeLine
        · cases ec : L2.atI z.cps.toList i with
          | none =>
            have : ixS (.str z) (.int i) S2 = .no := by simp only [ixS, if_pos hz, ec]
            rw [this] at o2; exact o2.elim
          | some c =>
            have : ixS (.str z) (.int i) S2 = .ok (.str ⟨#[c]⟩) S2 := by simp only [ixS, if_pos hz, ec]
            rw [this] at o2
            cases q2; cases qy
            exact ⟨z, i, c, rfl, rfl, hz, ec, o2 r2 H2 _ .refl rl2 (.str _)⟩
        · have : ixS (.str z) (.int i) S2 = .no := by simp only [ixS, if_neg hz]
          rw [this] at o2; exact o2.elim
      | _ => exact o2.elim
    | _ => exact o2.elim
/-- text[lo:hi] -/
def dSlS (d : DX) (lo hi : DO) : DX := fun t S => (d t S).bind fun w S1 => (lo t S1).bind fun a S2 => (hi t S2).bind fun b S3 => match w with
  | .str z => if z.length ≤ sizeLine then .ok (.str (Txt.slice z a b)) S3 else .no
  | _ => .no
theorem de_slS {e : Expr} {lo hi : Option Expr} {d : DX} {dl dh : DO} {p2 pos : Pos} (he : PE X e (toE G xv Wx d)) (hl : PO X lo (toO G xv Wx dl)) (hh : PO X hi (toO G xv Wx dh)) : PE X (.Subscript e (.Slice lo hi none p2) pos) (toE G xv Wx (dSlS d dl dh)) :=
  PEi (pe_slice C8.sl_txt he hl hh) fun s H Q ⟨r, t, S, l, rl, o⟩ =>
    toX.bind l rl o fun w S1 r1 H1 v _ e1 rl1 l1 q o1 => toX.bind l1 rl1 o1 fun a S2 r2 H2 av _ e2 rl2 l2 qa o2 => toX.bind l2 rl2 o2 fun b S3 r3 H3 bv _ e3 rl3 l3 qb o3 => by
      subst qa
      subst qb
      cases w with
      | str z =>
        simp only [] at o3
        split at o3
        · rename_i hz
          cases q
          exact ⟨z, rfl, hz, o3 r3 H3 _ .refl rl3 (.str _)⟩
        · exact o3.elim
      | _ => exact o3.elim
/-- a text in a text -/
def inS : D2 := fun a b S => match a, b with
  | .str i, .str j => .ok (.bl (!(Builtin.Str.occurrences j i 0 j.length 1).isEmpty)) S
  | _, _ => .no
theorem o_inS : OpR X (compareOp .In) (toR2 G xv inS) := by
  intro pins s σ H x y v u Q I rx ry ⟨r, S, a, b, rl, qa, qb, o⟩
  cases a with
  | str i =>
    cases b with
    | str j =>
      cases qa; cases qb
      exact op_in_str pins s σ H _ _ v u Q I rx ry ⟨_, _, rfl, rfl, o r H _ .refl rl (.bl _)⟩
    | _ => exact o.elim
  | _ => exact o.elim
def notInS : D2 := fun a b S => match a, b with
  | .str i, .str j => .ok (.bl (!(!(Builtin.Str.occurrences j i 0 j.length 1).isEmpty))) S
  | _, _ => .no
theorem o_notInS : OpR X (compareOp .NotIn) (toR2 G xv notInS) := by
  intro pins s σ H x y v u Q I rx ry ⟨r, S, a, b, rl, qa, qb, o⟩
  cases a with
  | str i =>
    cases b with
    | str j =>
      cases qa; cases qb
      exact op_notIn_str pins s σ H _ _ v u Q I rx ry ⟨_, _, rfl, rfl, o r H _ .refl rl (.bl _)⟩
    | _ => exact o.elim
  | _ => exact o.elim
theorem rws_strs {ys : List Str} : RWs G H S r (ys.map W.str) (ys.map V.str) := by
  induction ys with
  | nil => exact .nil
  | cons y ys ih => exact .cons (.str y) ih
/-- text.split(sep) -/
def dSplit (o e : DX) : DX := fun t S => (o t S).bind fun w S1 => match w with
  | .str a => (e t S1).bind fun u S2 => match u with
    | .str b => if (b.length == 0) = false ∧ a.length + 2 ≤ sizeLine then .ok (.lst ((Txt.split a b).map W.str)) S2 else .no
    | _ => .no
  | _ => .no
theorem de_split {o e : Expr} {do_ de : DX} {apos pos : Pos} (ho : PE X o (toE G xv Wx do_)) (he : PE X e (toE G xv Wx de)) (hs : starEach [e] X.env = [(false, eval e X.env)] := by rfl) (hbase : attributeBase o "split" X.env (eval o X.env) = eval o X.env := by rfl) (hline : (apos.endLine == pos.line) = true := by rfl) :
    PE X (.Call (.Attribute o "split" apos) [e] [] pos) (toE G xv Wx (dSplit do_ de)) :=
  PEi (pe_split ho he hs hbase hline) fun s H Q ⟨r, t, S, l, rl, oo⟩ => toX.bind l rl oo fun w S1 r1 H1 x _ e1 rl1 l1 q o1 => by
    cases q with
    | str a =>
      refine ⟨⟨a, rfl⟩, toX.bind l1 rl1 o1 fun u S2 r2 H2 y _ e2 rl2 l2 qy o2 => ?_⟩
      cases qy with
      | str b =>
        simp only [] at o2
        split at o2
        · rename_i hc
          exact ⟨a, b, rfl, rfl, hc.1, hc.2, fun p hp => o2 r2 _ _ (Ev.fresh hp rl2) (rl2.fresh hp) (.lst (Own.new hp rl2) rws_strs)⟩
        · exact o2.elim
      | _ => exact o2.elim
    | _ => exact o1.elim
/-- texts of values -/
def strsOf : List W → Option (List Str)
  | [] => some []
  | .str y :: l => (strsOf l).map (y :: ·)
  | _ :: _ => none
theorem strsOf_ok : ∀ {ws : List W} {ys : List Str} {vs : List V}, strsOf ws = some ys → RWs G H S r ws vs → vs = ys.map V.str
  | [], _, _, e, .nil => by cases e; rfl
  | .str y :: l, ys, _, e, .cons q qs => by
    simp only [strsOf] at e
    cases e1 : strsOf l with
    | none => rw [e1] at e; cases e
    | some zs =>
      rw [e1] at e
      cases e
      cases q
      rw [strsOf_ok e1 qs]; rfl
  | .non :: _, _, _, e, _ => by cases e
  | .int _ :: _, _, _, e, _ => by cases e
  | .bl _ :: _, _, _, e, _ => by cases e
  | .tup _ :: _, _, _, e, _ => by cases e
  | .lst _ :: _, _, _, e, _ => by cases e
  | .ref _ :: _, _, _, e, _ => by cases e
/-- sep.join(texts) -/
def dJoinT (o e : DX) : DX := fun t S => (o t S).bind fun w S1 => match w with
  | .str a => (e t S1).bind fun u S2 => match (match seqL S2 u with | some ws => some ws | none => seqT u) with
    | some ws => match strsOf ws with
      | some ys => if (ys.map (·.length)).sum + ys.length * a.length ≤ 16777216 then .ok (.str (Txt.join a ys)) S2 else .no
      | none => .no
    | none => .no
  | _ => .no
theorem de_join {o e : Expr} {do_ de : DX} {apos pos : Pos} (c : Cok G X Wx) (ho : PE X o (toE G xv Wx do_)) (he : PE X e (toE G xv Wx de)) (hs : starEach [e] X.env = [(false, eval e X.env)] := by rfl) (hbase : attributeBase o "join" X.env (eval o X.env) = eval o X.env := by rfl) (hline : (apos.endLine == pos.line) = true := by rfl) :
    PE X (.Call (.Attribute o "join" apos) [e] [] pos) (toE G xv Wx (dJoinT do_ de)) :=
  PEi (pe_join ho he hs hbase hline) fun s H Q ⟨r, t, S, l, rl, oo⟩ => toX.bind l rl oo fun w S1 r1 H1 x _ e1 rl1 l1 q o1 => by
    cases q with
    | str a =>
      refine ⟨⟨a, rfl⟩, toX.bind l1 rl1 o1 fun u S2 r2 H2 y _ e2 rl2 l2 qy o2 => ?_⟩
      cases e3 : seqL S2 u with
      | some ws =>
        rw [e3] at o2
        simp only [] at o2
        obtain ⟨p, vs, rfl, hq, qs⟩ := seqL_ok rl2 qy e3
        cases e4 : strsOf ws with
        | none => rw [e4] at o2; exact o2.elim
        | some ys =>
          rw [e4] at o2
          simp only [] at o2
          split at o2
          · rename_i hz
            have := strsOf_ok e4 qs
            subst this
            exact ⟨a, p, ys, rfl, rfl, .inl (by rw [c.kk]; exact hq), hz, o2 r2 H2 _ .refl rl2 (.str _)⟩
          · exact o2.elim
      | none =>
        rw [e3] at o2
        simp only [] at o2
        cases e5 : seqT u with
        | none => rw [e5] at o2; exact o2.elim
        | some ws =>
          rw [e5] at o2
          simp only [] at o2
          obtain ⟨p, vs, rfl, hq, qs⟩ := seqT_ok qy e5
          cases e4 : strsOf ws with
          | none => rw [e4] at o2; exact o2.elim
          | some ys =>
            rw [e4] at o2
            simp only [] at o2
            split at o2
            · rename_i hz
              have := strsOf_ok e4 qs
              subst this
              exact ⟨a, p, ys, rfl, rfl, .inr (by rw [c.kk]; exact hq), hz, o2 r2 H2 _ .refl rl2 (.str _)⟩
            · exact o2.elim
    | _ => exact o1.elim
/-- int(text) -/
def intS : Fn := fun ws S => match ws with
  | [.str a] => if a.length ≤ 640 then match PySem.intText? a with
    | some n => .ok (.int n) S
    | none => .no
    else .no
  | _ => .no
theorem c_intS : CallR X (.type "int") (toC1 G xv intS) := by
  intro pins s σ H xs us Q I rv ⟨r, S, ws, rl, q, o⟩
  cases q with
  | nil => exact o.elim
  | @cons w ws v vs a q =>
    cases q with
    | cons _ _ => cases a <;> exact o.elim
    | nil =>
      cases a with
      | str z =>
        by_cases hz : z.length ≤ 640
        · cases ec : PySem.intText? z with
          | none =>
            have : intS [.str z] S = .no := by simp only [intS, if_pos hz, ec]
            rw [this] at o; exact o.elim
          | some n =>
            have : intS [.str z] S = .ok (.int n) S := by simp only [intS, if_pos hz, ec]
            rw [this] at o
            exact call_int_str pins s σ H _ us Q I rv ⟨z, n, rfl, ec, hz, o r H _ .refl rl (.int _)⟩
        · have : intS [.str z] S = .no := by simp only [intS, if_neg hz]
          rw [this] at o; exact o.elim
      | _ => exact o.elim
/-- the signs of a text -/
def dSeqS (d : DX) : DA := fun t S => (d t S).bind fun w S1 => match w with
  | .str z => .ok (z.cps.toList.map fun c => W.str ⟨#[c]⟩) S1
  | _ => .no
theorem itS_ok {z : Str} : ItOk G H S r (Its z) (z.cps.toList.map fun c => W.str ⟨#[c]⟩) where
  go := fun H1 S1 r1 e rl i w hw => by
    have := (List.getElem?_eq_some_iff.mp hw).1
    show i < z.cps.size
    simpa using this
  yld := fun H1 S1 r1 e rl i w hw x H2 hy => by
    obtain ⟨rfl, c, hc, rfl⟩ := hy
    rw [List.getElem?_map] at hw
    have hc' : z.cps.toList[i]? = some c := by simpa using hc
    rw [hc'] at hw
    cases hw
    exact ⟨.refl, rl, .str _⟩
  stop := fun H1 S1 r1 e rl i hi => by
    show z.cps.size ≤ i
    simpa using hi
theorem di_seqS {tg e : Expr} {d : DX} (he : PE X e (toE G xv Wx d)) : PI X tg e (toI G xv Wx (dSeqS d)) :=
  PIi (pi_str he) fun s H Q ⟨r, t, S, l, rl, o⟩ => toX.bind l rl o fun w S1 r1 H1 v _ e1 rl1 l1 q o1 => by
    cases q with
    | str z => exact ⟨z, rfl, o1 r1 H1 _ .refl rl1 itS_ok⟩
    | _ => exact o1.elim
/-- texts.index(text) -/
def indexM : W → List W → Sto → R W := fun w ws S => match seqL S w, ws with
  | some zs, [.str z] => match strsOf zs with
    | some ys => if z ∈ ys then .ok (.int (ys.idxOf z : Nat)) S else .no
    | none => .no
  | _, _ => .no
theorem flat_strs (ys : List Str) : (ys.map V.str).all flatV = true := by
  rw [List.all_map, List.all_eq_true]; intro _ _; rfl
theorem m_index (hk : X.K = G.K) : MtR X "list.index" (toM G xv indexM) := by
  intro pins s σ H x xs v us Q I rx rv ⟨r, S, w, ws, rl, qw, q, o⟩
  unfold indexM at o
  split at o
  case h_2 => exact o.elim
  rename_i zs z e
  cases q with
  | cons a q =>
    cases q with
    | nil =>
      cases a
      cases eb : strsOf zs with
      | none => rw [eb] at o; exact o.elim
      | some ys =>
        rw [eb] at o
        simp only [] at o
        split at o
        · rename_i hz
          obtain ⟨p, vs, rfl, hs, qs⟩ := seqL_ok rl qw e
          have hv := strsOf_ok eb qs
          subst hv
          have hl := List.idxOf_lt_length_of_mem hz
          refine mt_index pins s σ H _ _ v us Q I rx rv ⟨p, ys.map V.str, .str z, ys.idxOf z, .str z, rfl, rfl, by rw [hk]; exact hs, rfl, flat_strs ys, ?_, ?_, ?_, o r H _ .refl rl (.int _)⟩
          · rw [List.getElem?_map, List.getElem?_eq_getElem hl, List.getElem_idxOf]; rfl
          · simp [eqV]
          · intro m z' hm hz'
            rw [List.getElem?_map] at hz'
            obtain ⟨y, hy, rfl⟩ := Option.map_eq_some_iff.mp hz'
            show (y == z) = false
            have := List.not_of_lt_findIdx (p := (· == z)) (xs := ys) (i := m) hm
            have hy2 := (List.getElem?_eq_some_iff.mp hy).2
            rw [hy2] at this
            simpa using this
        · exact o.elim
/-- text * int, twice or more -/
def repS : D2 := fun a b S => match a, b with
  | .str x, .int n => if 1 < n ∧ n ≤ 1000000 ∧ 1 ≤ x.length ∧ x.length ≤ 8 then .ok (.str ⟨(List.replicate n.toNat x.cps).foldl (· ++ ·) #[]⟩) S else .no
  | _, _ => .no
theorem rep_len (c : Array Nat) : ∀ (n : Nat) (acc : Array Nat), ((List.replicate n c).foldl (· ++ ·) acc).size = acc.size + n * c.size
  | 0, acc => by simp
  | n + 1, acc => by
    rw [List.replicate_succ, List.foldl_cons, rep_len c n, Array.size_append, Nat.add_mul]; omega
theorem o_repS : OpR X (binaryOp .Mult) (toR2 G xv repS) := by
  intro pins s σ H x y v u Q I rx ry ⟨r, S, a, b, rl, qa, qb, o⟩
  cases a with
  | str x =>
    cases b with
    | int n =>
      simp only [repS] at o
      split at o
      · rename_i h
        obtain ⟨h1, h2, h3, h4⟩ := h
        cases qa; cases qb
        obtain ⟨t, rfl⟩ := rx
        obtain ⟨t', rfl⟩ := ry
        refine PySem.P.mul_str ?_ (fun _ _ => ?_) (fun _ _ => ?_) ?_
        · rw [decide_eq_false (by omega), decide_eq_false (by omega)]; rfl
        · have hm : (x.length : Int) * n ≤ 8 * 1000000 := Int.mul_le_mul (by omega) h2 (by omega) (by omega)
          have : (x.length : Int) ≤ (2 ^ 63 - 1) / n := Int.le_ediv_of_mul_le (by omega) (by omega)
          omega
        · have hm : x.length * n.toNat ≤ 8 * 1000000 := Nat.mul_le_mul h4 (by omega)
          unfold Builtin.Str.tooLong
          rw [sizeLine_eq]
          exact decide_eq_false (by omega)
        · rw [if_neg (by omega), if_neg (by simp; omega)]
          refine ⟨?_, ?_⟩
          · have hm : n.toNat * x.length ≤ 1000000 * 8 := Nat.mul_le_mul (by omega) h4
            show Str.length _ ≤ sizeLine
            unfold Str.length at hm ⊢
            rw [rep_len, sizeLine_eq]
            simp; omega
          · exact ⟨.str _, H, I.tok _, ⟨_, rfl⟩, o r H _ .refl rl (.str _)⟩
      · exact o.elim
    | _ => exact o.elim
  | _ => exact o.elim
end
end DD
namespace U
end U
namespace Zk74
open PySem PySem.Spec PyProof.Rows L2 DD U
def topS (i : Nat) : Stmt := PySem.Challenge.pw_steppedtests_k74_run_texts.main.body.getD i (.Pass ⟨0, 0, 0, 0⟩)
abbrev s_l_draw : Stmt := topS 12
abbrev s_l_due : Stmt := topS 14
abbrev s_l_pool : Stmt := topS 11
abbrev s_write_run : Stmt := topS 8
abbrev s_plain_number : Stmt := topS 7
abbrev s_l_changed : Stmt := topS 13
abbrev s_read_run : Stmt := topS 9
abbrev s_l_told : Stmt := topS 15
abbrev s_law : Stmt := topS 16
abbrev s_BadLine_init : Stmt := inClass (topS 2) 0
def dd_l_draw : He.DefD := ⟨("_law_draw", none), "_law_draw", "_law_draw", defArgs s_l_draw, defBody s_l_draw, defScope s_l_draw, [], []⟩
def dd_l_due : He.DefD := ⟨("_law_due", none), "_law_due", "_law_due", defArgs s_l_due, defBody s_l_due, defScope s_l_due, [], []⟩
def dd_l_pool : He.DefD := ⟨("_law_pool", none), "_law_pool", "_law_pool", defArgs s_l_pool, defBody s_l_pool, defScope s_l_pool, [], []⟩
def dd_write_run : He.DefD := ⟨("write_run", none), "write_run", "write_run", defArgs s_write_run, defBody s_write_run, defScope s_write_run, [], []⟩
def dd_plain_number : He.DefD := ⟨("plain_number", none), "plain_number", "plain_number", defArgs s_plain_number, defBody s_plain_number, defScope s_plain_number, [], []⟩
def dd_l_changed : He.DefD := ⟨("_law_changed", none), "_law_changed", "_law_changed", defArgs s_l_changed, defBody s_l_changed, defScope s_l_changed, [], []⟩
def dd_read_run : He.DefD := ⟨("read_run", none), "read_run", "read_run", defArgs s_read_run, defBody s_read_run, defScope s_read_run, [], []⟩
def dd_l_told : He.DefD := ⟨("_law_told", none), "_law_told", "_law_told", defArgs s_l_told, defBody s_l_told, defScope s_l_told, [], []⟩
def dd_law : He.DefD := ⟨("law", none), "law", "law", defArgs s_law, defBody s_law, defScope s_law, [], []⟩
def dd_BadLine_init : He.DefD := ⟨("BadLine", some "__init__"), "__init__", "BadLine.__init__", defArgs s_BadLine_init, defBody s_BadLine_init, defScope s_BadLine_init, [], []⟩
def fn : List He.DefD := [dd_l_draw, dd_l_due, dd_l_pool, dd_write_run, dd_plain_number, dd_l_changed, dd_read_run, dd_l_told, dd_law, dd_BadLine_init]
def fa : List He.Fa := [.free "abs", .free "all", .free "int", .free "len", .free "list", .free "range", .free "str", .free "tuple", .str "DIGITS" "0123456789", .int "MOST_DIGITS" 4, .int "QUESTIONS" 48, .glo "_law_draw", .glo "_law_due", .glo "_law_pool", .glo "write_run", .glo "plain_number", .glo "_law_changed", .glo "read_run", .glo "_law_told", .glo "law", .glo "BadLine"]
def cm (K : PySem.W.Frag) : Nat → Addr
  | 0 => He.ga K "TestError"
  | 26 => He.ga K "BadLine"
  | _ => 0
def xv (K : PySem.W.Frag) : Nat → Value := fun i => .ref (cm K i)
def exK (K : PySem.W.Frag) : Bool := decide (oexB K (cm K 26) = true) && decide (PySem.W.findIn K (.ref (cm K 26)) "__init__" = some (some (.ref (He.fAd K ("BadLine", some "__init__"))))) && decide (PySem.W.typeIn K (.ref (He.fAd K ("BadLine", some "__init__"))) = some (.type "function")) && decide (PySem.W.findIn K (.ref (cm K 26)) "line" = some none) && decide (xfB K (cm K 26) = true) && decide (PySem.W.exmOne K (.ref (cm K 26)) (.ref (cm K 26)) = some true)
end Zk74
namespace Zk74
open PySem PySem.Spec PyProof.Rows L2 DD PySem.W PySem.Calls
abbrev RR : PySem.W.OpenRow := PySem.W.OpenLaw.row PySem.Challenge.rw_steppedtests_k74_run_texts
def asL : List Addr := List.range 1024
abbrev hk : PySem.W.Hook := DD.hookA asL fa fn [] exK
def ob (s : PySem.W.SharedT) : He.AlT × Bool := DD.obA asL fa fn [] exK (HandSHeadRun.getT s)
theorem ob_eq (s : PySem.W.SharedT) : ob s = hk.obs s.abs := DD.obA_eq s
def loose : List PySem.Str := (["TestError", "BadLine", "QUESTIONS", "DIGITS", "MOST_DIGITS", "plain_number", "write_run", "read_run", "_law_pool", "_law_draw", "_law_changed", "_law_due", "_law_told"] : List PySem.Str)
set_option maxHeartbeats 0 in
theorem run_a (w : World) (os : OsState) : (HandSHeadRun.endF (HandSHeadRun.stepQ (HandSHeadRun.denQ HandSHeadRun.tabQ) RR.prog w) 20000 RR.prog w os).map (fun s => (HandSHeadRun.looksF RR.prog (boot_heap w.params) s.abs, HandSHeadRun.seenQ (PySem.W.view RR.prog [16]) loose (importedModules RR.prog.main.body) (fun s => PySem.W.xlAt (PySem.W.view RR.prog [16]) [] s && PySem.W.recOk RR.toRowW.records s) s.abs)) = some (true, PySem.W.openGood (PySem.W.view RR.prog [16]) loose) := by
  kernel_rfl
set_option maxHeartbeats 0 in
theorem run_b (w : World) (os : OsState) : (HandSHeadRun.endF (HandSHeadRun.stepQ (HandSHeadRun.denQ HandSHeadRun.tabQ) RR.prog w) 20000 RR.prog w os).map (fun s => He.obsT fa fn [] (He.frT (HandSHeadRun.getT s) asL)) = some (He.valT fn [] w) := by
  kernel_rfl
set_option maxHeartbeats 0 in
theorem run_c (w : World) (os : OsState) : (HandSHeadRun.endF (HandSHeadRun.stepQ (HandSHeadRun.denQ HandSHeadRun.tabQ) RR.prog w) 20000 RR.prog w os).map (fun s => exK (He.frT (HandSHeadRun.getT s) asL) && He.tabsB (HandSHeadRun.getT s) [] (He.frT (HandSHeadRun.getT s) asL)) = some true := by
  kernel_rfl
theorem run (w : World) : HandSHeadRun.RunEq RR (PySem.W.view RR.prog [16]) hk ob 20000 loose w := fun os => DD.run_all (run_a w os) (run_b w os) (run_c w os)
end Zk74
namespace U
open PySem L2 DD
noncomputable def b_l_draw : DS :=
    (dSeq (dAsg (dOp addD (dOp ixD (dVar 0) (dC (.int 1))) (dC (.int 1))) (gIx (dVar 0) (dC (.int 1))))
    (dSeq (dIfS (dtAnd (dTest (dOp eqD (dOp ixD (dVar 0) (dC (.int 3))) (dC (.int 0)))) (dTest (dOp iLt (dOp ixD (dVar 0) (dC (.int 2))) (dBi lenF (dCons (dOp ixD (dVar 0) (dC (.int 0))) dNil)))))
    (dSeq (dAsg (dBi absF (dCons (dOp ixD (dOp ixD (dVar 0) (dC (.int 0))) (dOp ixD (dVar 0) (dC (.int 2)))) dNil)) (gN 3))
    (dSeq (dAsg (dOp addD (dOp ixD (dVar 0) (dC (.int 2))) (dC (.int 1))) (gIx (dVar 0) (dC (.int 2))))
    (dIfS (dTest (dOp iGe (dVar 3) (dOp iPow (dC (.int 10)) (dC (.int 18)))))
    (dAsg (dVar 3) (gIx (dVar 0) (dC (.int 3))))
    (dAsg (dOp iMod (dBi intF (dCons (dOp (mulD false) (dOp addD (dOp addD (dOp ixD (dVar 0) (dC (.int 4))) (dVar 3)) (dC (.int 1))) (dC (.int 48271))) dNil)) (dC (.int 2147483629))) (gIx (dVar 0) (dC (.int 4)))))))
    dNext)
    (dSeq (dIfS (dTest (dOp iGt (dOp ixD (dVar 0) (dC (.int 3))) (dC (.int 0))))
    (dSeq (dAsg (dOp iMod (dBi intF (dCons (dOp ixD (dVar 0) (dC (.int 3))) dNil)) (dVar 1)) (gN 4))
    (dSeq (dAsg (dOp iDiv (dOp ixD (dVar 0) (dC (.int 3))) (dVar 1)) (gIx (dVar 0) (dC (.int 3))))
    (dRet (dVar 4))))
    dNext)
    (dSeq (dAsg (dOp iMod (dBi intF (dCons (dOp iPow (dOp addD (dOp ixD (dVar 0) (dC (.int 4))) (dOp (mulD false) (dOp ixD (dVar 0) (dC (.int 1))) (dC (.int 7919)))) (dC (.int 3))) dNil)) (dC (.int 2147483647))) (gN 2))
    (dRet (dOp iMod (dBi intF (dCons (dOp iDiv (dVar 2) (dC (.int 16))) dNil)) (dVar 1)))))))
noncomputable def fn_l_draw : Fn := gcF (dFn 5 b_l_draw)
noncomputable def b_l_pool : DS :=
    (dRet (dNewL (dCons (dVar 0) (dCons (dC (.int 0)) (dCons (dC (.int 0)) (dCons (dC (.int 0)) (dCons (dC (.int 7)) dNil)))))))
noncomputable def fn_l_pool : Fn := dFn 1 b_l_pool
end U
namespace SP
/-! a promise, at a call's result -/
theorem at2 {α β γ : Type} {a d : α} {f : β → γ → α} {p : β → γ → Prop} (hd : a = d) (h : ∃ x y, a = f x y ∧ p x y) : ∃ x y, d = f x y ∧ p x y := hd ▸ h
end SP
namespace SP
open PySem L2 DD U
/-! ### the pool -/
/-- a drawing list that has been asked at most k times -/
def Pol (k : Nat) (P : O) : Prop := ∃ (ns : List Int) (c i b m : Int), P = .lst [.scr (ns.map W.int), .int c, .int i, .int b, .int m] ∧ 0 ≤ c ∧ c ≤ k ∧ 0 ≤ i ∧ 0 ≤ b ∧ 0 ≤ m ∧ m < 2147483629
theorem Pol.mono {P : O} {k k' : Nat} (h : Pol k P) (le : k ≤ k') : Pol k' P := by
  obtain ⟨ns, c, i, b, m, h1, h2, h3, h4⟩ := h
  exact ⟨ns, c, i, b, m, h1, h2, by omega, h4⟩
theorem Pol.low {P : O} {k n : Nat} (h : Pol k P) : lowO n P = true := by
  obtain ⟨ns, c, i, b, m, rfl, _⟩ := h
  simp [lowO, lowL, lowW, lowL_ints]
theorem draw_ok {P : O} {S : Sto} {k : Nat} {lim : Int} (h : Pol k P) (hk : k < 1000000000000) (h0 : 0 < lim) (h1 : lim < 100000000000000000000000000000000000000000) :
    ∃ r P', U.fn_l_draw [.ref 0, .int lim] (P :: S) = .ok (.int r) (P' :: S) ∧ 0 ≤ r ∧ r < lim ∧ Pol (k + 1) P' := by
  obtain ⟨ns, c, i, b, m, h1', h2, h3, h4⟩ := h
  have hp : Pl (P :: S) 0 k := ⟨ns, c, i, b, m, by simp [h1'], h2, h3, h4⟩
  obtain ⟨r, S', e, r0, r1, af⟩ := draw1_ok (lim := lim) hp hk h0 h1
  obtain ⟨ns', c', i', b', m', g1, g2⟩ := af.pool
  have hS : S' = .lst [.scr (ns'.map W.int), .int c', .int i', .int b', .int m'] :: S := by
    refine List.ext_getElem? fun j => ?_
    cases j with
    | zero => simpa using g1
    | succ j => rw [af.keep (j + 1) (by omega)]; simp
  subst hS
  exact ⟨r, _, e, r0, r1, ns', c', i', b', m', rfl, g2⟩
theorem pool_ok {ns : List Int} {S : Sto} : U.fn_l_pool [.scr (ns.map W.int)] S = .ok (.ref S.length) (S ++ [.lst [.scr (ns.map W.int), .int 0, .int 0, .int 0, .int 7]]) := by
  unfold U.fn_l_pool
  rw [dFn_eq]
  simp [U.b_l_pool, List.replicate_succ, sizeLine_eq]
theorem pol0 (ns : List Int) : Pol 0 (.lst [.scr (ns.map W.int), .int 0, .int 0, .int 0, .int 7]) := ⟨ns, 0, 0, 0, 7, rfl, by decide, by decide, by decide, by decide, by decide, by decide⟩
/-- the end of a def that has the pool: what was made behind it is let go -/
theorem gc_pool {P P' : O} {S g : Sto} {w : W} {k : Nat} (h : Pol k P') (l : lowW (S.length + 1) w = true) : gcR (P :: S) (.ok w (P' :: (S ++ g))) = .ok w (P' :: S) := by
  rw [gc_ok]
  · simp
  · refine ⟨by simp, fun i hi => ?_⟩
    cases i with
    | zero => exact .inr ⟨P', rfl, h.low⟩
    | succ i =>
      left
      simp only [List.length_cons] at hi
      simp [List.getElem?_append_left (show i < S.length by omega)]
  · simpa using l
end SP
namespace SP
open PySem L2 DD U
abbrev nW (n : List Int) : W := .tup (wl n)
abbrev lW (n : List Int) : W := .lst (wl n)
theorem atI_get {α : Type} {l : List α} {i : Int} {x : α} (h0 : 0 ≤ i) (h : l[i.toNat]? = some x) : atI l i = some x := by
  have := L2.atI_nat h
  rwa [Int.toNat_of_nonneg h0] at this
theorem intsFrom_mem {lo : Int} {n i : Nat} {w : W} (h : (intsFrom lo n)[i]? = some w) : i < n ∧ w = .int (lo + i) := intsFrom_get n lo i w h
theorem rgI {j : Int} (h0 : -1000000 ≤ j) (h1 : j < 1000000) : -4611686018427387904 ≤ j ∧ j < 4611686018427387904 := by omega
end SP
namespace SP
open PySem L2 DD U
/-- a target that a node with this index may have -/
def gt (t i n e : Int) : Bool := if t < 0 then decide (-1 - t < e) else decide (i < t) && decide (t < n)
/-- what the targets of a node lead to, by the lists below it -/
def usedOf (i : Int) (bs : List (List Int)) (ts : List Int) : List Int := ts.flatMap fun t => if 0 ≤ t then bs.getD (t - i - 1).toNat [] else []
structure NdOk (n e : Int) (names : List Int) (sk : Bool) (i : Int) (bs : List (List Int)) (node b : List Int) : Prop where
  ex : ∃ q ts, node = q :: ts ∧ (ts.length = 2 ∨ ts.length = 3 ∧ sk = true) ∧ (∀ t ∈ ts, gt t i n e = true) ∧ q ∈ names ∧ q ∉ usedOf i bs ts ∧ b = usedOf i bs ts ++ [q]
/-- nodes from the index i on, and what is asked from each on -/
inductive Nds (n e : Int) (names : List Int) (sk : Bool) : Int → List (List Int) → List (List Int) → Prop
  | nil : Nds n e names sk n [] []
  | cons {i : Int} {nodes bs : List (List Int)} {node b : List Int} : 0 ≤ i → Nds n e names sk (i + 1) nodes bs → NdOk n e names sk i bs node b → Nds n e names sk i (node :: nodes) (b :: bs)
theorem Nds.len {n e : Int} {names : List Int} {sk : Bool} {i : Int} {nodes bs : List (List Int)} (h : Nds n e names sk i nodes bs) : (nodes.length : Int) = n - i ∧ bs.length = nodes.length := by
  induction h with
  | nil => simp
  | cons h0 h1 h2 ih => simp; omega
end SP
namespace SP
open PySem L2 DD U
/-! ### bits -/
theorem bitOr_nat (a b : Nat) : Builtin.bitOr (a : Int) (b : Int) = ((a ||| b : Nat) : Int) := by
  unfold Builtin.bitOr Builtin.bitAnd Builtin.bitNot
  have h1 : ¬ (0 : Int) ≤ -(a : Int) - 1 := by omega
  have h2 : ¬ (0 : Int) ≤ -(b : Int) - 1 := by omega
  simp only [h1, h2, decide_false]
  have e1 : (-(-(a : Int) - 1) - 1).toNat = a := by omega
  have e2 : (-(-(b : Int) - 1) - 1).toNat = b := by omega
  rw [e1, e2]
  omega
theorem e_or {S : Sto} (a b : Nat) : iOr (.int a) (.int b) S = .ok (.int ((a ||| b : Nat) : Int)) S := by
  show (if yes2 a b = true then R.ok (W.int (Builtin.bitOr a b)) S else .no) = _
  rw [if_pos (show yes2 a b = true from rfl), bitOr_nat]
/-! ### a node -/
@[simp] theorem e_sl {d : DX} {lo hi : DO} {t : Lo} {S : Sto} : dSl d lo hi t S = (d t S).bind fun w S1 => (lo t S1).bind fun a S2 => (hi t S2).bind fun b S3 => match slW w a b S3 with
  | .ok x S4 => .ok x S4
  | _ => .no := rfl
@[simp] theorem e_part {d : DX} {t : Lo} {S : Sto} : dPart d t S = (d t S).bind fun w S1 => match w with
  | .int i => .ok (some i) S1
  | _ => .no := rfl
@[simp] theorem e_noP {t : Lo} {S : Sto} : dNoP t S = .ok none S := rfl
@[simp] theorem e_slT {ws : List W} {a b : Option Int} {S : Sto} : slW (.tup ws) a b S = .ok (.tup (cutW ws a b)) S := rfl
@[simp] theorem e_slL {ws : List W} {a b : Option Int} {S : Sto} : slW (.lst ws) a b S = .ok (.lst (cutW ws a b)) S := rfl
@[simp] theorem e_ixN0 {q : Int} {ts : List Int} {S : Sto} : ixD (nW (q :: ts)) (.int 0) S = .ok (.int q) S := e_ixT (atI0 _ _)
/-! ### what is asked behind a node -/
abbrev nl (l : List Nat) : List W := l.map fun (m : Nat) => W.int (m : Int)
def bh (off : Nat) (ms : List Nat) (b : Nat) (ts : List Int) : Nat := ts.foldl (fun b t => if 0 ≤ t then b ||| ms.getD (t.toNat - off - 1) 0 else b) b
/-- the masks of the nodes from off on, all targets counted -/
def mk (off : Nat) : List (List Int) → List Nat
  | [] => []
  | node :: rest => (bh off (mk (off + 1) rest) 0 node.tail ||| 2 ^ (node.headD 0).toNat) :: mk (off + 1) rest
/-- the least node whose question comes again behind it -/
def rp (off : Nat) : List (List Int) → Option Nat
  | [] => none
  | node :: rest => if (bh off (mk (off + 1) rest) 0 node.tail).testBit (node.headD 0).toNat = true then some off else rp (off + 1) rest
/-- the masks without skips -/
def mka (off : Nat) : List (List Int) → List Nat
  | [] => []
  | node :: rest => bh off (mka (off + 1) rest) (2 ^ (node.headD 0).toNat) (node.tail.take 2) :: mka (off + 1) rest
@[simp] theorem e_asgStar {d : DX} {n : Nat} {gs : DGs} {t : Lo} {S : Sto} : dAsg d (gStar n gs) t S = (d t S).toF t fun w S1 => match gStar n gs w t S1 with
  | .ok t' S2 => .nx t' S2
  | _ => .no := rfl
/-! ### questions_of, asked_behind -/
def qs48 : List Int := (List.range 48).map fun (i : Nat) => (i : Int)
def qsOf (m : Nat) : List Int := qs48.filter fun z => m.testBit z.toNat
/-- the questions behind each node -/
def behindOf (nodes : List (List Int)) : List (List Int) := (mka 0 nodes).map qsOf
end SP
namespace SP
open PySem L2 DD U
/-- lists or tuples of numbers -/
inductive NV : List W → List (List Int) → Prop
  | nil : NV [] []
  | cons {w : W} {ws : List W} {n : List Int} {ns : List (List Int)} : (w = nW n ∨ w = lW n) → NV ws ns → NV (w :: ws) (n :: ns)
theorem NV.len {ws : List W} {ns : List (List Int)} (h : NV ws ns) : ws.length = ns.length := by induction h with
  | nil => rfl
  | cons _ _ ih => simp [ih]
def webO (nodes : List (List Int)) (ends st : Int) : W := .obj 30 ["nodes", "ends", "start", "behind"] [.tup (nodes.map nW), .int ends, .int st, .lst ((behindOf nodes).map nW)]
end SP
namespace SP
open PySem L2 DD U
/-! ### where nodes lead -/
def f2 (node : List Int) : List Int := node.tail.take 2
end SP
namespace SP
open PySem L2 DD U
variable {n e : Int} {names : List Int} {sk : Bool}
theorem Nds.get {off : Int} {nodes bs : List (List Int)} (h : Nds n e names sk off nodes bs) : ∀ (j : Nat) (node : List Int), nodes[j]? = some node → ∃ b, bs[j]? = some b ∧ NdOk n e names sk (off + j) (bs.drop (j + 1)) node b := by
  induction h with
  | nil => intro j node hn; simp at hn
  | @cons i nodes bs node b h0 h1 h2 ih =>
    intro j nd hn
    cases j with
    | zero =>
      simp at hn; subst hn
      exact ⟨b, by simp, by simpa using h2⟩
    | succ j =>
      obtain ⟨b', h3, h4⟩ := ih j nd (by simpa using hn)
      refine ⟨b', by simpa using h3, ?_⟩
      rw [show i + ((j + 1 : Nat) : Int) = i + 1 + j by omega]
      simpa using h4
end SP
namespace SP
open PySem L2 DD U
variable {nodes : List (List Int)} {e st : Int} {S : Sto}
/-! ### a web's own -/
@[simp] theorem fld_nodes : fieldOf [30] "nodes" (webO nodes e st) S = some (.tup (nodes.map nW)) := rfl
@[simp] theorem fld_ends : fieldOf [30] "ends" (webO nodes e st) S = some (.int e) := rfl
@[simp] theorem fld_start : fieldOf [30] "start" (webO nodes e st) S = some (.int st) := rfl
@[simp] theorem fld_behind : fieldOf [30] "behind" (webO nodes e st) S = some (.lst ((behindOf nodes).map nW)) := rfl
@[simp] theorem isOf_web : isOf 30 (webO nodes e st) S = true := rfl
@[simp] theorem e_fld {cs : List Nat} {f : Str} {d : DX} {t : Lo} {S : Sto} : dFld cs f d t S = (d t S).bind fun w S1 => match fieldOf cs f w S1 with
  | some x => .ok x S1
  | none => .no := rfl
end SP
namespace SP
open PySem L2 DD U
end SP
namespace U
open PySem L2 DD
end U
namespace U
open PySem L2 DD
end U
namespace SP
open PySem L2 DD U
/-- a position that leads to another by right and wrong targets -/
inductive Ld (nodes : List (List Int)) : Int → Int → Prop
  | refl {p : Int} : Ld nodes p p
  | step {p t x : Int} {node : List Int} : 0 ≤ p → nodes[p.toNat]? = some node → t ∈ f2 node → Ld nodes t x → Ld nodes p x
variable {nodes : List (List Int)} {e st : Int} {S : Sto}
theorem Ld.snoc {p x t : Int} {node : List Int} (l : Ld nodes p x) (h0 : 0 ≤ x) (hn : nodes[x.toNat]? = some node) (ht : t ∈ f2 node) : Ld nodes p t := by
  induction l with
  | refl => exact .step h0 hn ht .refl
  | step a b c _ ih => exact .step a b c (ih h0 hn)
@[simp] theorem e_dDIn {neg : Bool} {k d : DX} {t : Lo} {S : Sto} : dDIn neg k d t S = (k t S).bind fun y S1 => (d t S1).bind fun w S2 => match dicOf S2 w, keyW y with
  | some p, some k => .ok (.bl (neg != (dGetW p.1 p.2 k).isSome)) S2
  | _, _ => .no := rfl
@[simp] theorem e_dDPut {d k v : DX} {t : Lo} {S : Sto} : dDPut d k v t S = (v t S).toF t fun x S1 => (d t S1).toF t fun w S2 => (k t S2).toF t fun y S3 => match w with
  | .ref i => match S3[i]?, keyW y with
    | some (.dic ks ws), some k => if ks.Nodup ∧ ks.length < 1000000 then .nx t (S3.set i (.dic (dPutW ks ws k x).1 (dPutW ks ws k x).2)) else .no
    | _, _ => .no
  | _ => .no := rfl
/-- positions of a web -/
def Ps (n : Nat) (e : Int) (x : Int) : Prop := -1 - e < x ∧ x < n
end SP
namespace SP
open PySem L2 DD U
end SP
namespace SP
open PySem L2 DD U
/-- the second kind of pool: the cells, the state -/
def Po2 (C T : O) : Prop := ∃ (cells : List Int) (c : Int), C = .lst (cells.map W.int) ∧ T = .lst [.ref 0, .int c]
theorem Po2.low {C T : O} {n : Nat} (h : Po2 C T) (hn : 0 < n) : lowO n C = true ∧ lowO n T = true := by
  obtain ⟨cells, c, rfl, rfl⟩ := h
  exact ⟨by simp [lowO, lowL_ints], by simp [lowO, lowL, lowW, hn]⟩
end SP
namespace SP
open PySem L2 DD U
end SP
namespace U
open PySem L2 DD
end U
namespace U
open PySem L2 DD
end U
namespace U
open PySem L2 DD
end U
namespace U
open PySem L2 DD
end U
namespace U
open PySem L2 DD
end U
namespace SP
open PySem L2 DD U
/-! ### the plain joint walk -/
abbrev Ent := Int × List Int
abbrev eW (e : Ent) : W := .tup [.int e.1, nW e.2]
abbrev mW (M : List Ent) : W := .tup (M.map eW)
/-! ### whose turn it is -/
end SP
namespace SP
open PySem L2 DD U
/-! ### the memory with an answer -/
end SP
namespace SP
open PySem L2 DD U
/-- a web: its nodes, ends, start -/
abbrev Wb := List (List Int) × Int × Int
/-- positions of the webs -/
def PosOk (L : List Wb) (P : List Int) : Prop := P.length = L.length ∧ ∀ (i : Nat) (w : Wb) (p : Int), L[i]? = some w → P[i]? = some p → Ps w.1.length w.2.1 p
/-! ### does an entry count -/
end SP
namespace SP
open PySem L2 DD U
theorem lc_enc {α : Type} {g : Tg} {tt : DT} {te : DX} {t0 : Lo} {S : Sto} (enc : α → W) (p : α → Bool) (f : α → W) : ∀ (l : List α) (acc : List W), acc.length + l.length ≤ 100000 → (∀ a ∈ l, ∃ t1, g.put (enc a) t0 = some t1 ∧ tt t1 S = .ok (p a) S ∧ (p a = true → te t1 S = .ok (f a) S)) → lcL g tt te t0 (l.map enc) acc S = .ok (.lst (acc ++ (l.filter p).map f)) S
  | [], acc, _, _ => by simp [lcL]
  | a :: l, acc, hz, h => by
    obtain ⟨t1, e0, e1, e2⟩ := h a (List.mem_cons_self ..)
    have hs : acc.length < sizeLine := by rw [sizeLine_eq]; simp at hz; omega
    rw [List.map_cons, lcL]
    simp only [e0, e1]
    cases hp : p a with
    | true =>
      simp only [e2 hp, if_pos hs]
      rw [lc_enc enc p f l (acc ++ [f a]) (by simp at hz ⊢; omega) fun x hx => h x (List.mem_cons_of_mem _ hx)]
      simp [List.filter_cons, hp]
    | false =>
      simp only []
      rw [lc_enc enc p f l acc (by simp at hz ⊢; omega) fun x hx => h x (List.mem_cons_of_mem _ hx)]
      simp [List.filter_cons, hp]
/-! ### whose turn: a node -/
theorem PosOk.set {L : List Wb} {P : List Int} {w : Nat} {wb : Wb} {t : Int} (hP : PosOk L P) (hb : L[w]? = some wb) (ht : Ps wb.1.length wb.2.1 t) : PosOk L (P.set w t) := by
  refine ⟨by simp [hP.1], fun i w' p hw hp => ?_⟩
  rw [List.getElem?_set] at hp
  split at hp
  · rename_i e
    subst e
    rw [hb] at hw
    cases hw
    split at hp
    · cases hp; exact ht
    · cases hp
  · exact hP.2 i w' p hw hp
end SP
namespace U
open PySem L2 DD
end U
namespace U
open PySem L2 DD
end U
namespace U
open PySem L2 DD
end U
namespace U
open PySem L2 DD
end U
namespace U
open PySem L2 DD
end U
namespace U
open PySem L2 DD
end U
namespace U
open PySem L2 DD
end U
namespace U
open PySem L2 DD
end U
namespace U
open PySem L2 DD
end U
namespace U
open PySem L2 DD
end U
namespace U
open PySem L2 DD
end U
namespace U
open PySem L2 DD
end U
namespace U
open PySem L2 DD
end U
namespace U
open PySem L2 DD
end U
namespace U
open PySem L2 DD
end U
namespace U
open PySem L2 DD
end U
namespace U
open PySem L2 DD
end U
namespace U
open PySem L2 DD
end U
namespace U
open PySem L2 DD
end U
namespace U
open PySem L2 DD
end U
namespace U
open PySem L2 DD
end U
namespace U
open PySem L2 DD
end U
namespace U
open PySem L2 DD
end U
namespace U
open PySem L2 DD
end U
namespace U
open PySem L2 DD
end U
namespace U
open PySem L2 DD
end U
namespace U
open PySem L2 DD
end U
namespace U
open PySem L2 DD
end U
namespace U
open PySem L2 DD
end U
namespace U
open PySem L2 DD
end U
namespace U
open PySem L2 DD
end U
namespace U
open PySem L2 DD
end U
namespace U
open PySem L2 DD
end U
namespace U
open PySem L2 DD
end U
namespace U
open PySem L2 DD
end U
namespace U
open PySem L2 DD
end U
namespace U
open PySem L2 DD
end U
namespace U
open PySem L2 DD
end U
namespace U
open PySem L2 DD
end U
namespace U
open PySem L2 DD
end U
namespace U
open PySem L2 DD
end U
namespace U
open PySem L2 DD
end U
namespace U
open PySem L2 DD
end U
namespace U
open PySem L2 DD
end U
namespace U
open PySem L2 DD
end U
namespace U
open PySem L2 DD
end U
namespace U
open PySem L2 DD
end U
namespace U
open PySem L2 DD
end U
namespace U
open PySem L2 DD
end U
namespace U
open PySem L2 DD
end U
namespace U
open PySem L2 DD
end U
namespace U
open PySem L2 DD
end U
namespace U
open PySem L2 DD
def xm_BadLine : Nat → Option Bool
  | 26 => some true
  | _ => none
noncomputable def b_l_due_10_l0 : DS :=
    (dSeq (dIfS (dtOr (dTest (dOp notInD (dSlS (dVar 3) dNoP (dPart (dNeg (dC (.int 1))))) (dVar 1))) (dTest (dOp notInD (dSlS (dVar 3) (dPart (dNeg (dC (.int 1)))) dNoP) (dLst (dCons (dC (.str "+")) (dCons (dC (.str "-")) dNil))))))
    (dRet (dTup (dCons (dC (.str "bad")) (dCons (dC (.int 1)) dNil))))
    dNext)
    (dDrop (dMt appendM (dVar 2) (dCons (dTup (dCons (dMt indexM (dVar 1) (dCons (dSlS (dVar 3) dNoP (dPart (dNeg (dC (.int 1))))) dNil)) (dCons (dBi intF (dCons (dOp eqD (dSlS (dVar 3) (dPart (dNeg (dC (.int 1)))) dNoP) (dC (.str "+"))) dNil)) dNil))) dNil))))
noncomputable def b_l_due_10 : DS :=
    (dSeq (dIfS (dTest (dOp eqD (dVar 0) (dC (.str ""))))
    (dRet (dTup dNil))
    dNext)
    (dSeq (dAsg (dLc (dRange1 (dCons (dC (.int 48)) dNil)) (.nm 4) dYes (dBi strF (dCons (dVar 4) dNil)) [4]) (gN 1))
    (dSeq (dAsg (dNewL dNil) (gN 2))
    (dSeq (dFor (dSeqI (dSplit (dVar 0) (dC (.str " ")))) (gN 3)
    b_l_due_10_l0)
    (dRet (dBi tupleF (dCons (dVar 2) dNil)))))))
noncomputable def fn_l_due_10 : Fn := gcF (dFn 5 b_l_due_10)
noncomputable def b_write_run : DS :=
    (dRet (dJoinT (dC (.str " ")) (dLcA (dVar 0) (.sq [1, 2]) dYes (dJoin [(dFmt (dVar 1)), (dFmt (dIf (dTru (dVar 2)) (dC (.str "+")) (dC (.str "-"))))]) [2, 1])))
noncomputable def fn_write_run : Fn := gcF (dFn 3 b_write_run)
noncomputable def b_plain_number : DS :=
    (dSeq (dIfS (dtOr (dtNot (dTest (dChain iLe iLe (dC (.int 1)) (dBi lenF (dCons (dVar 0) dNil)) (dC (.int 4))))) (dtNot (dTru (dBi allF (dCons (dLc (dSeqS (dVar 0)) (.nm 1) dYes (dOp inS (dVar 1) (dC (.str "0123456789"))) [1]) dNil)))))
    (dRet (dC .non))
    dNext)
    (dSeq (dIfS (dtAnd (dTest (dOp eqD (dOp ixS (dVar 0) (dC (.int 0))) (dC (.str "0")))) (dTest (dOp neD (dVar 0) (dC (.str "0")))))
    (dRet (dC .non))
    dNext)
    (dRet (dBi intS (dCons (dVar 0) dNil)))))
noncomputable def fn_plain_number : Fn := gcF (dFn 2 b_plain_number)
noncomputable def b_l_changed : DS :=
    (dSeq (dAsg (dOp ixS (dC (.str "0123456789+-# \n")) (dCall fn_l_draw (dCons (dVar 0) (dCons (dC (.int 15)) dNil)))) (gN 2))
    (dSeq (dAsg (dCall fn_l_draw (dCons (dVar 0) (dCons (dOp addD (dBi lenF (dCons (dVar 1) dNil)) (dC (.int 1))) dNil))) (gN 3))
    (dSeq (dAsg (dCall fn_l_draw (dCons (dVar 0) (dCons (dC (.int 4)) dNil))) (gN 4))
    (dSeq (dIfS (dTest (dOp eqD (dVar 4) (dC (.int 0))))
    (dRet (dOp addD (dOp addD (dSlS (dVar 1) dNoP (dPart (dVar 3))) (dVar 2)) (dSlS (dVar 1) (dPart (dVar 3)) dNoP)))
    dNext)
    (dSeq (dIfS (dTest (dOp eqD (dVar 4) (dC (.int 1))))
    (dRet (dOp addD (dSlS (dVar 1) dNoP (dPart (dVar 3))) (dSlS (dVar 1) (dPart (dOp addD (dVar 3) (dC (.int 1)))) dNoP)))
    dNext)
    (dSeq (dIfS (dTest (dOp eqD (dVar 4) (dC (.int 2))))
    (dRet (dOp addD (dOp addD (dSlS (dVar 1) dNoP (dPart (dVar 3))) (dVar 2)) (dSlS (dVar 1) (dPart (dOp addD (dVar 3) (dC (.int 1)))) dNoP)))
    dNext)
    (dRet (dVar 1))))))))
noncomputable def fn_l_changed : Fn := gcF (dFn 5 b_l_changed)
noncomputable def b_read_run_l0 : DS :=
    (dSeq (dAsg (dCall fn_plain_number (dCons (dSlS (dVar 2) dNoP (dPart (dNeg (dC (.int 1))))) dNil)) (gN 3))
    (dSeq (dIfS (dtOr (dTest (isNone false (dVar 3))) (dtOr (dTest (dOp iGe (dVar 3) (dC (.int 48)))) (dTest (dOp notInS (dOp ixS (dVar 2) (dNeg (dC (.int 1)))) (dC (.str "+-"))))))
    (dRaise1 26 "line" (dC (.int 1)))
    dNext)
    (dDrop (dMt appendM (dVar 1) (dCons (dTup (dCons (dVar 3) (dCons (dBi intF (dCons (dOp eqD (dOp ixS (dVar 2) (dNeg (dC (.int 1)))) (dC (.str "+"))) dNil)) dNil))) dNil)))))
noncomputable def b_read_run : DS :=
    (dSeq (dIfS (dTest (dOp eqD (dVar 0) (dC (.str ""))))
    (dRet (dTup dNil))
    dNext)
    (dSeq (dAsg (dNewL dNil) (gN 1))
    (dSeq (dFor (dSeqI (dSplit (dVar 0) (dC (.str " ")))) (gN 2)
    b_read_run_l0)
    (dRet (dBi tupleF (dCons (dVar 1) dNil))))))
noncomputable def fn_read_run : Fn := gcF (dFn 4 b_read_run)
noncomputable def b_l_told_8 : DS :=
    (dTry1 (dRet (dCall fn_read_run (dCons (dVar 0) dNil))) xm_BadLine 1 (fun c ns ws => (dRet (dTup (dCons (dC (.str "bad")) (dCons (dXf [26] "line" c ns ws) dNil))))))
noncomputable def fn_l_told_8 : Fn := gcF (dFn 2 b_l_told_8)
noncomputable def b_law_61_l0 : DS :=
    (dSeq (dAsg (dCall fn_l_changed (dCons (dVar 1) (dCons (dVar 3) dNil))) (gN 6))
    (dSeq (dIfS (dTest (dOp eqD (dCall fn_l_draw (dCons (dVar 1) (dCons (dC (.int 2)) dNil))) (dC (.int 1))))
    (dAsg (dCall fn_l_changed (dCons (dVar 1) (dCons (dVar 6) dNil))) (gN 6))
    dNext)
    (dIfS (dTest (dOp neD (dCall fn_l_told_8 (dCons (dVar 6) dNil)) (dCall fn_l_due_10 (dCons (dVar 6) dNil))))
    (dRet (dC (.bl false)))
    dNext)))
noncomputable def b_law_61_l1 : DS :=
    (dIfS (dTest (dOp neD (dCall fn_l_told_8 (dCons (dVar 6) dNil)) (dTup (dCons (dC (.str "bad")) (dCons (dC (.int 1)) dNil)))))
    (dRet (dC (.bl false)))
    dNext)
noncomputable def b_law_61 : DS :=
    (dSeq (dAsg (dCall fn_l_pool (dCons (dVar 0) dNil)) (gN 1))
    (dSeq (dAsg (dLc (dRange1 (dCons (dCall fn_l_draw (dCons (dVar 1) (dCons (dC (.int 9)) dNil))) dNil)) (.nm 5) dYes (dTup (dCons (dCall fn_l_draw (dCons (dVar 1) (dCons (dC (.int 48)) dNil))) (dCons (dCall fn_l_draw (dCons (dVar 1) (dCons (dC (.int 2)) dNil))) dNil))) [5]) (gN 2))
    (dSeq (dAsg (dJoinT (dC (.str " ")) (dLc (dSeqI (dVar 2)) (.tp [8, 9]) dYes (dOp addD (dBi strF (dCons (dVar 8) dNil)) (dOp ixS (dC (.str "-+")) (dVar 9))) [9, 8])) (gN 3))
    (dSeq (dAsg (dLc (dSeqI (dVar 2)) (.nm 7) dYes (dBi listF (dCons (dVar 7) dNil)) [7]) (gN 4))
    (dSeq (dIfS (dtOr (dTest (dOp neD (dCall fn_write_run (dCons (dBi tupleF (dCons (dVar 2) dNil)) dNil)) (dVar 3))) (dtOr (dTest (dOp neD (dCall fn_write_run (dCons (dVar 4) dNil)) (dVar 3))) (dTest (dOp neD (dVar 4) (dLc (dSeqI (dVar 2)) (.nm 7) dYes (dBi listF (dCons (dVar 7) dNil)) [7])))))
    (dRet (dC (.bl false)))
    dNext)
    (dSeq (dIfS (dTest (dOp neD (dCall fn_l_told_8 (dCons (dVar 3) dNil)) (dBi tupleF (dCons (dVar 2) dNil))))
    (dRet (dC (.bl false)))
    dNext)
    (dSeq (dFor (dRange1 (dCons (dC (.int 4)) dNil)) (gN 5)
    b_law_61_l0)
    (dSeq (dFor (dSeqI (dLst (dCons (dC (.str " ")) (dCons (dC (.str "48+")) (dCons (dC (.str "047+")) (dCons (dC (.str "7")) (dCons (dC (.str "+")) (dCons (dC (.str "7+ ")) (dCons (dC (.str " 7+")) (dCons (dC (.str "7+  8-")) (dCons (dC (.str "7?")) (dCons (dOp addD (dOp repS (dC (.str "1")) (dC (.int 5000))) (dC (.str "+"))) dNil)))))))))))) (gN 6)
    b_law_61_l1)
    (dRet (dAndT (dOp eqD (dCall fn_write_run (dCons (dTup dNil) dNil)) (dC (.str ""))) (dOp eqD (dCall fn_read_run (dCons (dC (.str "")) dNil)) (dTup dNil))))))))))))
noncomputable def fn_law_61 : Fn := dFn 10 b_law_61
end U
/-! Texts: plain numbers. -/
namespace SP
open PySem L2 DD U TL
section
variable {S : Sto}
theorem tl_slice (z : Str) (lo hi : Option Int) : tl (Txt.slice z lo hi) = ((tl z).drop (HT.sIx z.length 0 lo)).take (HT.sIx z.length z.length hi - HT.sIx z.length 0 lo) := by
  rw [← C8.cutS_slice]; rfl
theorem sl_init (z : Str) : tl (Txt.slice z none (some (-1))) = (tl z).dropLast := by
  rw [tl_slice, len_tl]
  have h0 : HT.sIx (tl z).length 0 none = 0 := rfl
  have h1 : HT.sIx (tl z).length (tl z).length (some (-1)) = (tl z).length - 1 := by
    unfold HT.sIx
    simp only []
    rw [if_pos (by decide)]
    omega
  rw [h0, h1, List.drop_zero, Nat.sub_zero, List.dropLast_eq_take]
theorem sl_last (z : Str) : tl (Txt.slice z (some (-1)) none) = (tl z).drop ((tl z).length - 1) := by
  rw [tl_slice, len_tl]
  have h0 : HT.sIx (tl z).length 0 (some (-1)) = (tl z).length - 1 := by
    unfold HT.sIx
    simp only []
    rw [if_pos (by decide)]
    omega
  have h1 : HT.sIx (tl z).length (tl z).length none = (tl z).length := rfl
  rw [h0, h1, List.take_of_length_le (by rw [List.length_drop]; omega)]
/-- digits without a leading zero -/
theorem numL_ofN : ∀ (k : Nat) (l : List Nat), l.length ≤ k → NumText.AllDigits l → l ≠ [] → (l.head? = some 48 → l = [48]) → ∃ n, l = numL n ∧ n < 10 ^ l.length
  | k, l, hk, hd, h0, hz => by
    rcases List.eq_nil_or_concat l with rfl | ⟨l', d, rfl⟩
    · exact absurd rfl h0
    · rw [List.concat_eq_append] at *
      have hdd := hd d (by simp)
      cases l' with
      | nil =>
        refine ⟨d - 48, ?_, by simp; omega⟩
        rw [numL_lt (by omega)]
        simp; omega
      | cons c l' =>
        have hc : c ≠ 48 := fun h => by
          have := hz (by simp [h])
          simp at this
        obtain ⟨j, rfl⟩ : ∃ j, k = j + 1 := ⟨k - 1, by simp at hk; omega⟩
        obtain ⟨m, hm, hml⟩ := numL_ofN j (c :: l') (by simp at hk ⊢; omega) (fun x hx => hd x (List.mem_append_left _ hx)) (by simp) (fun h => by simp at h; exact absurd h hc)
        have hm1 : 1 ≤ m := by
          by_cases h : m = 0
          · subst h
            rw [numL_lt (by decide)] at hm
            cases hm
            exact absurd rfl hc
          · omega
        refine ⟨10 * m + (d - 48), ?_, ?_⟩
        · rw [numL_step (by omega)]
          have e1 : (10 * m + (d - 48)) / 10 = m := by omega
          have e2 : 48 + (10 * m + (d - 48)) % 10 = d := by omega
          rw [e1, e2, ← hm]
        · rw [List.length_append, List.length_singleton, Nat.pow_succ]
          omega
theorem numL_of {l : List Nat} (hd : NumText.AllDigits l) (h0 : l ≠ []) (hz : l.head? = some 48 → l = [48]) : ∃ n, l = numL n ∧ n < 10 ^ l.length := numL_ofN _ l (Nat.le_refl _) hd h0 hz
/-- no leading zero -/
theorem numL_head : ∀ (k n : Nat), n ≤ k → (numL n).head? = some 48 → n = 0
  | k, n, hk, h => by
    by_cases h10 : n < 10
    · rw [numL_lt h10] at h
      simp at h; omega
    · obtain ⟨j, rfl⟩ : ∃ j, k = j + 1 := ⟨k - 1, by omega⟩
      rw [numL_step (by omega)] at h
      have hne := numL_ne (n / 10)
      obtain ⟨a, r, e⟩ := List.exists_cons_of_ne_nil hne
      rw [e] at h
      simp at h
      have := numL_head j (n / 10) (by omega) (by rw [e, h]; rfl)
      omega
/-- a plain number: its digits are those of a number below 10000 -/
def pnL (l : List Nat) : Option Nat := if NumText.digitsVal l < 10000 ∧ l = numL (NumText.digitsVal l) then some (NumText.digitsVal l) else none
theorem pnL_some {l : List Nat} {n : Nat} : pnL l = some n ↔ n < 10000 ∧ l = numL n := by
  unfold pnL
  constructor
  · intro h
    split at h
    · rename_i h1
      cases h
      exact h1
    · cases h
  · rintro ⟨h1, rfl⟩
    rw [numL_val, if_pos ⟨h1, rfl⟩]
def digS : Str := "0123456789"
theorem tl_dig : tl digS = [48, 49, 50, 51, 52, 53, 54, 55, 56, 57] := by decide +kernel
theorem mem_dig {c : Nat} : c ∈ digS.cps.toList ↔ 48 ≤ c ∧ c ≤ 57 := by
  have : digS.cps.toList = [48, 49, 50, 51, 52, 53, 54, 55, 56, 57] := tl_dig
  rw [this]
  simp only [List.mem_cons, List.not_mem_nil, or_false]
  omega
theorem inS_one {c : Nat} {y : Str} : inS (.str ⟨#[c]⟩) (.str y) S = .ok (.bl (decide (c ∈ y.cps.toList))) S := by
  unfold inS
  simp only []
  rw [PySem.StrLaws.found_one]
theorem notInS_one {c : Nat} {y : Str} : notInS (.str ⟨#[c]⟩) (.str y) S = .ok (.bl (!decide (c ∈ y.cps.toList))) S := by
  unfold notInS
  simp only []
  rw [PySem.StrLaws.found_one]
theorem ok_str {x : Str} (h : PyData.strOk x = true) : dat dDep (.str x) = true := by
  have e : dDep = 15 + 1 := rfl
  rw [e]; simp only [dat]; exact h
theorem eq_str' {x y : Str} (h1 : PyData.strOk x = true) (h2 : PyData.strOk y = true) : eqD (.str x) (.str y) S = .ok (.bl (decide (x = y))) S := by
  rw [e_eq (ok_str h1) (ok_str h2)]
  refine congrArg (fun b : Bool => DD.R.ok (W.bl b) S) ?_
  simp only [eqW]
  by_cases h : x = y
  · subst h; simp
  · rw [decide_eq_false h]; simpa using h
theorem ne_str' {x y : Str} (h1 : PyData.strOk x = true) (h2 : PyData.strOk y = true) : neD (.str x) (.str y) S = .ok (.bl (!decide (x = y))) S := by
  have := eq_str' (S := S) h1 h2
  rw [e_eq (ok_str h1) (ok_str h2)] at this
  rw [e_ne (ok_str h1) (ok_str h2)]
  simp only [DD.R.ok.injEq, W.bl.injEq, and_true] at this
  rw [this]
theorem ok_iff {x : Str} : PyData.strOk x = true ↔ ∀ c ∈ tl x, c < 0x110000 := by
  unfold PyData.strOk
  rw [← Array.all_toList, List.all_eq_true]
  simp
theorem one_eq {c d : Nat} : ((⟨#[c]⟩ : Str) = ⟨#[d]⟩) ↔ c = d := by
  constructor
  · intro h; have := congrArg (fun z : Str => tl z) h; simpa [tl] using this
  · rintro rfl; rfl
def pnW (x : Str) : W := match pnL (tl x) with
  | some n => .int (n : Nat)
  | none => .non
theorem pnW_none {x : Str} (h : ∀ n, n < 10000 → tl x ≠ numL n) : pnW x = .non := by
  unfold pnW
  cases e : pnL (tl x) with
  | none => rfl
  | some n => obtain ⟨h1, h2⟩ := pnL_some.mp e; exact absurd h2 (h n h1)
theorem pnW_some {x : Str} {n : Nat} (h : n < 10000) (e : tl x = numL n) : pnW x = .int (n : Nat) := by
  unfold pnW
  rw [pnL_some.mpr ⟨h, e⟩]
theorem plain_ok {x : Str} (hx : PyData.strOk x = true) (hl : x.length ≤ 100000) : U.fn_plain_number [.str x] S = .ok (pnW x) S := by
  generalize hxz : U.fn_plain_number _ _ = z
  unfold U.fn_plain_number at hxz
  rw [DD.gcF_eq, DD.dFn_eq] at hxz
  generalize hy : U.b_plain_number _ _ = y at hxz
  unfold U.b_plain_number at hy
  have ln : ∀ X, lenF [.str x] X = .ok (.int (x.length : Nat)) X := fun X => by
    show (if _ then _ else _) = _
    rw [if_pos (by rw [sizeLine_eq]; omega)]
  have hlt := len_tl x
  have n4 : ∀ n, n < 10000 → 1 ≤ (numL n).length ∧ (numL n).length ≤ 4 := fun n hn => ⟨List.length_pos_iff.mpr (numL_ne n), numL_len (by decide) hn⟩
  by_cases h1 : 1 ≤ x.length ∧ x.length ≤ 4
  · have c1 : (1 : Int) ≤ (x.length : Nat) := by omega
    have c2 : ((x.length : Nat) : Int) ≤ 4 := by omega
    have lc : dLc (dSeqS (dVar 0)) (.nm 1) dYes (dOp inS (dVar 1) (dC (.str "0123456789"))) [1] [some (.str x), none] S = .ok (.lst ((tl x).map fun c => W.bl (decide (c ∈ digS.cps.toList)))) S := by
      unfold dLc
      have sq : dSeqS (dVar 0) [some (.str x), none] S = .ok ((tl x).map fun c => W.str ⟨#[c]⟩) S := rfl
      rw [sq, DD.R.bind_ok]
      have wp : wipeW [some (.str x), none] [1] = [some (.str x), none] := rfl
      have := lc_enc (g := .nm 1) (tt := dYes) (te := dOp inS (dVar 1) (dC (.str "0123456789"))) (t0 := [some (.str x), none]) (S := S) (fun c : Nat => W.str ⟨#[c]⟩) (fun _ => true) (fun c => W.bl (decide (c ∈ digS.cps.toList))) (tl x) [] (by rw [List.length_nil]; omega) (fun c hc => ⟨[some (.str x), some (.str ⟨#[c]⟩)], rfl, rfl, fun _ => by
        have := inS_one (S := S) (c := c) (y := digS)
        show (match inS (.str ⟨#[c]⟩) (.str digS) S with
          | .ok w S3 => DD.R.ok w S3
          | _ => .no) = _
        rw [this]⟩)
      rw [List.filter_eq_self.mpr (fun _ _ => rfl), List.nil_append] at this
      rw [wp]
      exact this
    have al := e_all (S := S) (blsOf_map (fun c : Nat => decide (c ∈ digS.cps.toList)) (tl x))
    have t1 : ∀ b X, truW X (.bl b) = some b := fun _ _ => rfl
    obtain ⟨dl, hdl⟩ : ∃ d, d = dLc (dSeqS (dVar 0)) (.nm 1) dYes (dOp inS (dVar 1) (dC (.str "0123456789"))) [1] := ⟨_, rfl⟩
    rw [← hdl] at lc hy
    by_cases hd : NumText.AllDigits (tl x)
    · have hall : ((tl x).map fun c => decide (c ∈ digS.cps.toList)).all id = true := by
        rw [List.all_map, List.all_eq_true]
        intro c hc
        exact decide_eq_true (mem_dig.mpr (hd c hc))
      rw [hall] at al
      have hne : tl x ≠ [] := List.length_pos_iff.mp (by omega)
      obtain ⟨a, r, ea⟩ := List.exists_cons_of_ne_nil hne
      have hat : L2.atI x.cps.toList 0 = some a := atI_get (by omega) (by
        show (tl x)[0]? = some a
        rw [ea]; rfl)
      have i0 : ∀ X, ixS (.str x) (.int 0) X = .ok (.str ⟨#[a]⟩) X := fun X => by
        simp only [ixS]
        rw [if_pos (by rw [sizeLine_eq]; omega), hat]
      have ha := hd a (by rw [ea]; exact List.mem_cons_self ..)
      have oka : PyData.strOk (⟨#[a]⟩ : Str) = true := ok_iff.mpr fun c hc => by
        have : c = a := by simpa [tl] using hc
        omega
      have ok0 : PyData.strOk (("0" : Str)) = true := by decide +kernel
      have e0 : ("0" : Str) = ⟨#[48]⟩ := by decide +kernel
      have eq0 : ∀ X, eqD (.str ⟨#[a]⟩) (.str "0") X = .ok (.bl (decide (a = 48))) X := fun X => by
        rw [eq_str' oka ok0]
        refine congrArg (fun b : Bool => DD.R.ok (W.bl b) X) ?_
        rw [Bool.eq_iff_iff, decide_eq_true_iff, decide_eq_true_iff, e0]
        exact one_eq
      have ne0 : ∀ X, neD (.str x) (.str "0") X = .ok (.bl (!decide (x = ("0" : Str)))) X := fun X => ne_str' hx ok0
      have tl0 : tl ("0" : Str) = [48] := by rw [e0]
      by_cases hz : a = 48 ∧ x ≠ ("0" : Str)
      · have e1 := pnW_none (x := x) fun n hn e => by
          have : (numL n).head? = some 48 := by rw [← e, ea, hz.1]; rfl
          have := numL_head n n (Nat.le_refl _) this
          subst this
          refine hz.2 (ext_tl ?_)
          rw [e, tl0, numL_lt (by decide)]
        rw [e1]
        rw [decide_eq_true hz.1] at eq0
        rw [decide_eq_false hz.2] at ne0
        generalize (⟨#[a]⟩ : Str) = A at i0 eq0
        generalize W.lst ((tl x).map fun c => W.bl (decide (c ∈ digS.cps.toList))) = LL at lc al
        generalize ((x.length : Nat) : Int) = n at ln c1 c2
        simp -implicitDefEqProofs [ln, dChain, c1, c2, lc, al, t1, i0, eq0, ne0] at hy
        subst hy
        exact hxz.symm.trans (gc_same rfl)
      · obtain ⟨n, hn, hn4⟩ := numL_of hd hne (fun h => by
          rw [ea] at h
          have ha48 : a = 48 := by simpa using h
          have hx0 : x = ("0" : Str) := by
            by_cases hxx : x = ("0" : Str)
            · exact hxx
            · exact absurd ⟨ha48, hxx⟩ hz
          rw [hx0, tl0])
        have hn5 : n < 10000 := Nat.lt_of_lt_of_le hn4 (by rw [← hlt]; exact (show 10 ^ x.length ≤ 10 ^ 4 from Nat.pow_le_pow_right (by decide) h1.2))
        rw [pnW_some hn5 hn]
        have hxs : x = Str.ofString (toString ((n : Nat) : Int)) := ext_tl (by rw [tl_num, hn])
        have it : ∀ X, intS [.str x] X = .ok (.int (n : Nat)) X := fun X => by
          simp only [intS]
          rw [if_pos (by omega)]
          have : PySem.intText? x = some (n : Int) := by
            rw [hxs]
            exact int_num (by rw [← hn, ← hlt]; omega)
          rw [this]
        generalize ((n : Nat) : Int) = nn at it ⊢
        generalize W.lst ((tl x).map fun c => W.bl (decide (c ∈ digS.cps.toList))) = LL at lc al
        generalize ((x.length : Nat) : Int) = m at ln c1 c2
        by_cases h48 : a = 48
        · have hx0 : x = ("0" : Str) := by
            by_cases hxx : x = ("0" : Str)
            · exact hxx
            · exact absurd ⟨h48, hxx⟩ hz
          rw [decide_eq_true h48] at eq0
          rw [decide_eq_true hx0] at ne0
          generalize (⟨#[a]⟩ : Str) = A at i0 eq0
          simp -implicitDefEqProofs [ln, dChain, c1, c2, lc, al, t1, i0, eq0, ne0, it] at hy
          subst hy
          exact hxz.symm.trans (gc_same rfl)
        · rw [decide_eq_false h48] at eq0
          generalize (⟨#[a]⟩ : Str) = A at i0 eq0
          simp -implicitDefEqProofs [ln, dChain, c1, c2, lc, al, t1, i0, eq0, it] at hy
          subst hy
          exact hxz.symm.trans (gc_same rfl)
    · have hall : ((tl x).map fun c => decide (c ∈ digS.cps.toList)).all id = false := by
        rw [List.all_map, List.all_eq_false]
        have : ∃ c ∈ tl x, ¬ (48 ≤ c ∧ c ≤ 57) := by
          by_cases h : ∃ c ∈ tl x, ¬ (48 ≤ c ∧ c ≤ 57)
          · exact h
          · exact absurd (fun c hc => by
              by_cases hh : 48 ≤ c ∧ c ≤ 57
              · exact hh
              · exact absurd ⟨c, hc, hh⟩ h) hd
        obtain ⟨c, hc, hn⟩ := this
        refine ⟨c, hc, ?_⟩
        simp only [Function.comp, id]
        rw [decide_eq_false (fun h => hn (mem_dig.mp h))]
        decide
      rw [hall] at al
      have e1 := pnW_none (x := x) fun n hn e => hd (by rw [e]; exact numL_digits n)
      rw [e1]
      generalize W.lst ((tl x).map fun c => W.bl (decide (c ∈ digS.cps.toList))) = LL at lc al
      generalize ((x.length : Nat) : Int) = n at ln c1 c2
      simp -implicitDefEqProofs [ln, dChain, c1, c2, lc, al, t1] at hy
      subst hy
      exact hxz.symm.trans (gc_same rfl)
  · have e1 := pnW_none (x := x) fun n hn e => by
      have := n4 n hn
      rw [← e] at this
      omega
    rw [e1]
    have c : ¬ ((1 : Int) ≤ (x.length : Nat) ∧ ((x.length : Nat) : Int) ≤ 4) := by omega
    by_cases c1 : (1 : Int) ≤ (x.length : Nat)
    · have c2 : ¬ (((x.length : Nat) : Int) ≤ 4) := by omega
      generalize ((x.length : Nat) : Int) = n at ln c1 c2
      simp -implicitDefEqProofs [ln, dChain, c1, c2] at hy
      subst hy
      exact hxz.symm.trans (gc_same rfl)
    · generalize ((x.length : Nat) : Int) = n at ln c1
      simp -implicitDefEqProofs [ln, dChain, c1] at hy
      subst hy
      exact hxz.symm.trans (gc_same rfl)
end
end SP
/-! Texts: words of a run. -/
namespace SP
open PySem L2 DD U TL
section
variable {S : Sto}
theorem spl_in : ∀ (l acc : List Nat), ∀ p ∈ spl [32] 0 acc l, p.length ≤ acc.length + l.length ∧ ∀ c ∈ p, c ∈ acc ∨ c ∈ l
  | [], acc, p, hp => by
    rw [spl_nil] at hp
    rw [List.mem_singleton] at hp; subst hp
    exact ⟨by simp, fun c hc => .inl hc⟩
  | c :: l, acc, p, hp => by
    by_cases h : pre [32] (c :: l) = true
    · rw [spl_hit h] at hp
      rcases List.mem_cons.mp hp with rfl | hp
      · exact ⟨by simp, fun c hc => .inl hc⟩
      · have := spl_in l [] p hp
        refine ⟨by simp at this ⊢; omega, fun d hd => ?_⟩
        rcases this.2 d hd with h | h
        · cases h
        · exact .inr (List.mem_cons_of_mem _ h)
    · rw [spl_miss (by simpa using h)] at hp
      have := spl_in l (acc ++ [c]) p hp
      refine ⟨by simp at this ⊢; omega, fun d hd => ?_⟩
      rcases this.2 d hd with h | h
      · rcases List.mem_append.mp h with h | h
        · exact .inl h
        · rw [List.mem_singleton] at h; subst h; exact .inr (List.mem_cons_self ..)
      · exact .inr (List.mem_cons_of_mem _ h)
theorem spl_cnt : ∀ (l acc : List Nat), (spl [32] 0 acc l).length ≤ l.length + 1
  | [], acc => by rw [spl_nil]; simp
  | c :: l, acc => by
    by_cases h : pre [32] (c :: l) = true
    · rw [spl_hit h]
      have := spl_cnt l []
      simp only [List.length_cons, List.length_nil] at this ⊢
      have e : (0 + 1 - 1 : Nat) = 0 := rfl
      rw [e]; omega
    · rw [spl_miss (by simpa using h)]
      have := spl_cnt l (acc ++ [c])
      rw [List.length_cons]; omega
def spS : Str := " "
theorem tl_sp : tl spS = [32] := by decide +kernel
theorem split_tl (x : Str) : (Txt.split x spS).map tl = spl [32] 0 [] (tl x) := by
  rw [split_spl x spS (by rw [tl_sp]; decide) (kind_ok (by decide +kernel)), tl_sp]
theorem split_in {x : Str} (hx : PyData.strOk x = true) : ∀ y ∈ Txt.split x spS, y.length ≤ x.length ∧ PyData.strOk y = true := fun y hy => by
  have : tl y ∈ spl [32] 0 [] (tl x) := by rw [← split_tl]; exact List.mem_map_of_mem hy
  obtain ⟨h1, h2⟩ := spl_in _ _ _ this
  refine ⟨by rw [len_tl, len_tl]; simpa using h1, ok_iff.mpr fun c hc => ?_⟩
  rcases h2 c hc with h | h
  · cases h
  · exact ok_iff.mp hx c h
theorem split_cnt {x : Str} : (Txt.split x spS).length ≤ x.length + 1 := by
  have := spl_cnt (tl x) []
  rw [← split_tl, List.length_map, ← len_tl] at this
  exact this
def sg (b : Bool) : Nat := if b then 43 else 45
open Classical in
/-- the pair that a word writes -/
noncomputable def wd (y : Str) : Option (Nat × Bool) := if h : ∃ p : Nat × Bool, p.1 < 48 ∧ tl y = numL p.1 ++ [sg p.2] then some h.choose else none
theorem wd_some {y : Str} {n : Nat} {b : Bool} (h : n < 48) (e : tl y = numL n ++ [sg b]) : wd y = some (n, b) := by
  unfold wd
  have hex : ∃ p : Nat × Bool, p.1 < 48 ∧ tl y = numL p.1 ++ [sg p.2] := ⟨(n, b), h, e⟩
  rw [dif_pos hex]
  obtain ⟨h1, h2⟩ := hex.choose_spec
  have h3 := h2.symm.trans e
  obtain ⟨h4, h5⟩ := List.append_inj' h3 rfl
  have h6 := numL_inj h4
  have h7 : sg hex.choose.2 = sg b := by simpa using h5
  have h8 : hex.choose.2 = b := by
    cases hb : hex.choose.2 <;> cases b <;> rw [hb] at h7 <;> first | rfl | (simp [sg] at h7)
  rw [← h6, ← h8]
theorem wd_ok {y : Str} {p : Nat × Bool} (h : wd y = some p) : p.1 < 48 ∧ tl y = numL p.1 ++ [sg p.2] := by
  unfold wd at h
  split at h
  · rename_i hex
    cases h
    exact hex.choose_spec
  · cases h
theorem wd_none {y : Str} (h : wd y = none) {n : Nat} {b : Bool} (hn : n < 48) : tl y ≠ numL n ++ [sg b] := fun e => by
  rw [wd_some hn e] at h; cases h
noncomputable def rdP : List Str → Option (List (Nat × Bool))
  | [] => some []
  | y :: ys => match wd y with
    | none => none
    | some p => (rdP ys).map (p :: ·)
def bT (b : Bool) : Int := if b then 1 else 0
def prW74 (p : Nat × Bool) : W := .tup [.int (p.1 : Nat), .int (bT p.2)]
theorem turnX_ {v : Nat} {b : DS} {w : W} {t : Lo} {S : Sto} : turn (gN v) b w t S = b (t.set v (some w)) S := rfl
theorem atI_lastX {α : Type} {l : List α} {a : α} : L2.atI (l ++ [a]) (-1) = some a := by
  unfold L2.atI
  have k : L2.ixN (l ++ [a]).length (-1) = some l.length := by
    unfold L2.ixN
    rw [if_neg (by omega), if_pos (by simp; omega)]
    congr 1
    simp; omega
  rw [k]
  simp
/-- a word that is read -/
theorem read_turn {y : Str} (hy : PyData.strOk y = true) (hl : y.length ≤ 10000) (x w1 w2 w3 : Option W) (acc : List W) (ha : acc.length ≤ 20000) (hw1 : w1 = some (.ref S.length)) :
    turn (gN 2) b_read_run_l0 (.str y) [x, w1, w2, w3] (S ++ [.lst acc]) = match wd y with
      | some p => .nx [x, w1, some (.str y), some (.int (p.1 : Nat))] (S ++ [.lst (acc ++ [prW74 p])])
      | none => .er 26 ["line"] [.int 1] [x, w1, some (.str y), some (pnW (Txt.slice y none (some (-1))))] (S ++ [.lst acc]) := by
  subst hw1
  obtain ⟨Y0, hY0⟩ : ∃ Y, Y = Txt.slice y none (some (-1)) := ⟨_, rfl⟩
  have t0 : tl Y0 = (tl y).dropLast := by rw [hY0, sl_init]
  have ok0 : PyData.strOk Y0 = true := ok_iff.mpr fun c hc => ok_iff.mp hy c (by rw [t0] at hc; exact List.dropLast_sublist _ |>.subset hc)
  have l0 : Y0.length ≤ 10000 := by
    rw [len_tl, t0, List.length_dropLast, ← len_tl]; omega
  have pn := plain_ok (S := S ++ [.lst acc]) ok0 (by omega)
  have sl : ∀ t X, dVar 2 t X = .ok (.str y) X → dSlS (dVar 2) dNoP (dPart (dNeg (dC (.int 1)))) t X = .ok (.str Y0) X := fun t X hv => by
    unfold dSlS
    rw [hv]
    show (if _ then _ else _) = _
    rw [if_pos (by rw [sizeLine_eq]; omega), hY0]
  rw [← hY0]
  generalize hu : turn _ _ _ _ _ = v
  rw [turnX_] at hu
  simp only [List.set_cons_succ, List.set_cons_zero] at hu
  unfold b_read_run_l0 at hu
  obtain ⟨ds, hds⟩ : ∃ d, d = dSlS (dVar 2) dNoP (dPart (dNeg (dC (.int 1)))) := ⟨_, rfl⟩
  rw [← hds] at sl hu
  have sl := sl [x, some (.ref S.length), some (.str y), w3] (S ++ [.lst acc]) rfl
  cases hw : wd y with
  | some p =>
    obtain ⟨hp, hty⟩ := wd_ok hw
    have h0 : tl Y0 = numL p.1 := by rw [t0, hty, List.dropLast_concat]
    rw [pnW_some (by omega) h0] at pn
    have il : ∀ X, ixS (.str y) (.int (-1)) X = .ok (.str ⟨#[sg p.2]⟩) X := fun X => by
      have hat : L2.atI y.cps.toList (-1) = some (sg p.2) := by
        have : y.cps.toList = numL p.1 ++ [sg p.2] := hty
        rw [this, atI_lastX]
      simp only [ixS]
      rw [if_pos (by rw [sizeLine_eq]; omega), hat]
    have hpm : tl ("+-" : Str) = [43, 45] := by decide +kernel
    have ni : ∀ X, notInS (.str ⟨#[sg p.2]⟩) (.str "+-") X = .ok (.bl false) X := fun X => by
      rw [notInS_one]
      refine congrArg (fun b : Bool => DD.R.ok (W.bl b) X) ?_
      have : ("+-" : Str).cps.toList = [43, 45] := hpm
      rw [this]
      cases p.2 <;> rfl
    have okg : PyData.strOk (⟨#[sg p.2]⟩ : Str) = true := ok_iff.mpr fun c hc => by
      have : c = sg p.2 := by simpa [tl] using hc
      rw [this]; cases p.2 <;> decide
    have okp : PyData.strOk (("+" : Str)) = true := by decide +kernel
    have ep : ("+" : Str) = ⟨#[43]⟩ := by decide +kernel
    have eqp : ∀ X, eqD (.str ⟨#[sg p.2]⟩) (.str "+") X = .ok (.bl p.2) X := fun X => by
      rw [eq_str' okg okp]
      refine congrArg (fun b : Bool => DD.R.ok (W.bl b) X) ?_
      rw [ep]
      cases hb : p.2
      · exact decide_eq_false (fun h => by rw [one_eq] at h; simp [sg] at h)
      · exact decide_eq_true (one_eq.mpr rfl)
    have ib : ∀ X, intF [.bl p.2] X = .ok (.int (bT p.2)) X := fun X => by cases p.2 <;> rfl
    have ge : ¬ (48 : Int) ≤ ((p.1 : Nat) : Int) := by omega
    have ap : appendM (.ref S.length) [prW74 p] (S ++ [.lst acc]) = .ok .non (S ++ [.lst (acc ++ [prW74 p])]) := by
      rw [e_append (xs := acc) (by simp) (by omega), List.set_append_right _ _ (Nat.le_refl _)]
      simp
    have sq : seqL (S ++ [O.lst acc]) (.ref S.length) = some acc := by unfold seqL; simp
    unfold prW74 at ap
    simp only [prW74]
    generalize S ++ [.lst (acc ++ [W.tup [.int (p.1 : Nat), .int (bT p.2)]])] = X' at ap ⊢
    generalize S ++ [O.lst acc] = X at sl pn ap sq hu
    generalize ((p.1 : Nat) : Int) = n at pn ge ap ⊢
    generalize bT p.2 = bb at ib ap
    generalize (⟨#[sg p.2]⟩ : Str) = G at il ni eqp
    simp -implicitDefEqProofs [sl, pn, isNone, ge, il, ni, eqp, ib, sizeLine_eq, sq, ap] at hu
    exact hu.symm
  | none =>
    -- what fails
    have il : ∀ c l, tl y = l ++ [c] → ∀ X, ixS (.str y) (.int (-1)) X = .ok (.str ⟨#[c]⟩) X := fun c l h X => by
      have hat : L2.atI y.cps.toList (-1) = some c := by
        have : y.cps.toList = l ++ [c] := h
        rw [this, atI_lastX]
      simp only [ixS]
      rw [if_pos (by rw [sizeLine_eq]; omega), hat]
    cases hp : pnL (tl Y0) with
    | none =>
      have e1 : pnW Y0 = .non := by unfold pnW; rw [hp]
      rw [e1] at pn ⊢
      generalize S ++ [O.lst acc] = X at sl pn hu ⊢
      simp -implicitDefEqProofs [sl, pn, isNone, dRaise1] at hu
      exact hu.symm
    | some n =>
      obtain ⟨hn, h0⟩ := pnL_some.mp hp
      have e1 : pnW Y0 = .int (n : Nat) := pnW_some hn h0
      rw [e1] at pn ⊢
      by_cases h48 : n < 48
      · have hne : tl y ≠ [] := fun h => by
          rw [t0, h] at h0
          exact numL_ne n h0.symm
        obtain ⟨c, hc⟩ : ∃ c, tl y = numL n ++ [c] := ⟨(tl y).getLast hne, by rw [← h0, t0, List.dropLast_concat_getLast]⟩
        have il := il c _ hc
        have hpm : ("+-" : Str).cps.toList = [43, 45] := by decide +kernel
        have ni : ∀ X, notInS (.str ⟨#[c]⟩) (.str "+-") X = .ok (.bl true) X := fun X => by
          rw [notInS_one]
          refine congrArg (fun b : Bool => DD.R.ok (W.bl b) X) ?_
          rw [hpm, decide_eq_false]; rfl
          intro hm
          simp only [List.mem_cons, List.not_mem_nil, or_false] at hm
          rcases hm with rfl | rfl
          · exact wd_none hw (b := true) h48 hc
          · exact wd_none hw (b := false) h48 hc
        have ge : ¬ (48 : Int) ≤ ((n : Nat) : Int) := by omega
        generalize S ++ [O.lst acc] = X at sl pn hu ⊢
        generalize ((n : Nat) : Int) = nn at pn ge ⊢
        generalize (⟨#[c]⟩ : Str) = G at il ni
        simp -implicitDefEqProofs [sl, pn, isNone, ge, il, ni, dRaise1] at hu
        exact hu.symm
      · have ge : (48 : Int) ≤ ((n : Nat) : Int) := by omega
        generalize S ++ [O.lst acc] = X at sl pn hu ⊢
        generalize ((n : Nat) : Int) = nn at pn ge ⊢
        simp -implicitDefEqProofs [sl, pn, isNone, ge, dRaise1] at hu
        exact hu.symm
end
end SP
/-! Texts: runs read, and what the law says of them. -/
namespace SP
open PySem L2 DD U TL
section
variable {S : Sto}
theorem rdP_some {y : Str} {ys : List Str} {p : Nat × Bool} (e : wd y = some p) : rdP (y :: ys) = (rdP ys).map (p :: ·) := by
  rw [rdP, e]
theorem rdP_none {y : Str} {ys : List Str} (e : wd y = none) : rdP (y :: ys) = none := by
  rw [rdP, e]
theorem read_loop : ∀ (ys : List Str) (x w2 w3 : Option W) (acc : List W), (∀ y ∈ ys, PyData.strOk y = true ∧ y.length ≤ 10000) → acc.length + ys.length ≤ 20000 →
    (∃ (l : List (Nat × Bool)) (a b : Option W), rdP ys = some l ∧ forL (gN 2) b_read_run_l0 (ys.map W.str) [x, some (.ref S.length), w2, w3] (S ++ [.lst acc]) = .nx [x, some (.ref S.length), a, b] (S ++ [.lst (acc ++ l.map prW74)])) ∨
    (rdP ys = none ∧ ∃ (t' : Lo) (acc' : List W), forL (gN 2) b_read_run_l0 (ys.map W.str) [x, some (.ref S.length), w2, w3] (S ++ [.lst acc]) = .er 26 ["line"] [.int 1] t' (S ++ [.lst acc']))
  | [], x, w2, w3, acc, _, _ => .inl ⟨[], w2, w3, rfl, by simp [forL]⟩
  | y :: ys, x, w2, w3, acc, h, hl => by
    rw [List.length_cons] at hl
    obtain ⟨hy, hyl⟩ := h y (List.mem_cons_self ..)
    have tn := read_turn (S := S) hy hyl x (some (.ref S.length)) w2 w3 acc (by omega) rfl
    cases e : wd y with
    | none =>
      rw [e] at tn
      refine .inr ⟨rdP_none e, [x, some (.ref S.length), some (.str y), some (pnW (Txt.slice y none (some (-1))))], acc, ?_⟩
      rw [List.map_cons, forL_cons, tn]
    | some p =>
      rw [e] at tn
      rcases read_loop ys x (some (.str y)) (some (.int (p.1 : Nat))) (acc ++ [prW74 p]) (fun y hy => h y (List.mem_cons_of_mem _ hy)) (by simp; omega) with ⟨l, a, b, e1, e2⟩ | ⟨e1, t', acc', e2⟩
      · refine .inl ⟨p :: l, a, b, by rw [rdP_some e, e1]; rfl, ?_⟩
        rw [List.map_cons, forL_cons, tn]
        simp only []
        rw [e2, List.append_assoc]; rfl
      · refine .inr ⟨by rw [rdP_some e, e1]; rfl, t', acc', ?_⟩
        rw [List.map_cons, forL_cons, tn]
        simp only []
        rw [e2]
noncomputable def resP (x : Str) : Option (List (Nat × Bool)) := if x = Str.ofString "" then some [] else rdP (Txt.split x spS)
theorem read_ok {x : Str} (hx : PyData.strOk x = true) (hl : x.length ≤ 6000) : U.fn_read_run [.str x] S = match resP x with
    | some l => .ok (.tup (l.map prW74)) S
    | none => .er 26 ["line"] [.int 1] S := by
  generalize hxz : U.fn_read_run _ _ = z
  unfold U.fn_read_run at hxz
  rw [DD.gcF_eq, DD.dFn_eq] at hxz
  generalize hy : U.b_read_run _ _ = y at hxz
  unfold U.b_read_run at hy
  have oke : PyData.strOk (Str.ofString "") = true := by decide +kernel
  have eqe : ∀ X, eqD (.str x) (.str "") X = .ok (.bl (decide (x = Str.ofString ""))) X := fun X => eq_str' hx oke
  unfold resP
  by_cases h0 : x = Str.ofString ""
  · rw [if_pos h0]
    rw [decide_eq_true h0] at eqe
    simp -implicitDefEqProofs [eqe, sizeLine_eq] at hy
    subst hy
    exact hxz.symm.trans (gc_same rfl)
  · rw [if_neg h0]
    rw [decide_eq_false h0] at eqe
    obtain ⟨ys, hys⟩ : ∃ ys, ys = Txt.split x spS := ⟨_, rfl⟩
    have hin : ∀ y ∈ ys, PyData.strOk y = true ∧ y.length ≤ 10000 := fun y hy => by
      rw [hys] at hy
      obtain ⟨h1, h2⟩ := split_in hx y hy
      exact ⟨h2, by omega⟩
    have hc : ys.length ≤ 6001 := by rw [hys]; have := split_cnt (x := x); omega
    have sp : ∀ t X, dVar 0 t X = .ok (.str x) X → dSplit (dVar 0) (dC (.str " ")) t X = .ok (.lst (ys.map W.str)) X := fun t X hv => by
      unfold dSplit
      rw [hv]
      show (if _ then _ else _) = _
      rw [if_pos ⟨by decide +kernel, by rw [sizeLine_eq]; omega⟩, hys]; rfl
    have nl : ∀ t, dNewL dNil t S = .ok (.ref S.length) (S ++ [.lst []]) := fun t => rfl
    have sq : dSeqI (dSplit (dVar 0) (dC (.str " "))) [some (.str x), some (.ref S.length), none, none] (S ++ [.lst []]) = .ok (ys.map W.str) (S ++ [.lst []]) := by
      have := sp [some (.str x), some (.ref S.length), none, none] (S ++ [.lst []]) rfl
      rw [e_seqI, this]; rfl
    have lp0 : dFor (dSeqI (dSplit (dVar 0) (dC (.str " ")))) (gN 2) b_read_run_l0 [some (.str x), some (.ref S.length), none, none] (S ++ [.lst []]) = forL (gN 2) b_read_run_l0 (ys.map W.str) [some (.str x), some (.ref S.length), none, none] (S ++ [.lst []]) := by
      rw [e_for, sq]; rfl
    obtain ⟨dn, hdn⟩ : ∃ d, d = dNewL dNil := ⟨_, rfl⟩
    obtain ⟨df, hdf⟩ : ∃ d, d = dFor (dSeqI (dSplit (dVar 0) (dC (.str " ")))) (gN 2) b_read_run_l0 := ⟨_, rfl⟩
    rw [← hdn] at nl hy
    rw [← hdf] at lp0 hy
    rw [← hys]
    rcases read_loop (S := S) ys (some (.str x)) none none [] hin (by simp; omega) with ⟨l, a, b, er, lp⟩ | ⟨er, t', acc', lp⟩
    · rw [lp] at lp0
      rw [er]
      simp only [List.nil_append] at lp0 ⊢
      have tp : tupleF [.ref S.length] (S ++ [.lst (l.map prW74)]) = .ok (.tup (l.map prW74)) (S ++ [.lst (l.map prW74)]) := e_tupR (by simp)
      have lw : lowW S.length (.tup (l.map prW74)) = true := by
        simp only [lowW]
        exact lowL_all fun w hw => by
          obtain ⟨p, _, rfl⟩ := List.mem_map.mp hw
          rfl
      have fin : gcR S (.ok (.tup (l.map prW74)) (S ++ [.lst (l.map prW74)])) = .ok (.tup (l.map prW74)) S := gc_app lw
      generalize S ++ [.lst (l.map prW74)] = X2 at lp0 tp fin
      generalize S ++ [O.lst []] = X1 at nl lp0
      generalize W.tup (l.map prW74) = R at tp fin ⊢
      simp -implicitDefEqProofs [eqe, nl, lp0, tp] at hy
      subst hy
      exact hxz.symm.trans fin
    · rw [lp] at lp0
      rw [er]
      simp only []
      have fin : gcR S (.er 26 ["line"] [.int 1] (S ++ [.lst acc'])) = .er 26 ["line"] [.int 1] S := by
        rw [gc_er (gcs_app _ _) rfl]; simp
      generalize S ++ [.lst acc'] = X2 at lp0 fin
      generalize S ++ [O.lst []] = X1 at nl lp0
      simp -implicitDefEqProofs [eqe, nl, lp0] at hy
      subst hy
      exact hxz.symm.trans fin
noncomputable def tdT (x : Str) : W := match resP x with
  | some l => .tup (l.map prW74)
  | none => .tup [.str "bad", .int 1]
theorem told8_ok {x : Str} (hx : PyData.strOk x = true) (hl : x.length ≤ 6000) : U.fn_l_told_8 [.str x] S = .ok (tdT x) S := by
  generalize hxz : U.fn_l_told_8 _ _ = z
  unfold U.fn_l_told_8 at hxz
  rw [DD.gcF_eq, DD.dFn_eq] at hxz
  generalize hy : U.b_l_told_8 _ _ = y at hxz
  unfold U.b_l_told_8 at hy
  have rd := read_ok (S := S) hx hl
  unfold tdT
  cases e : resP x with
  | some l =>
    rw [e] at rd
    simp only [] at rd ⊢
    have lw : lowW S.length (.tup (l.map prW74)) = true := by
      simp only [lowW]
      exact lowL_all fun w hw => by
        obtain ⟨p, _, rfl⟩ := List.mem_map.mp hw
        rfl
    generalize W.tup (l.map prW74) = R at rd lw ⊢
    simp -implicitDefEqProofs [dTry1, rd] at hy
    subst hy
    exact hxz.symm.trans (gc_same lw)
  | none =>
    rw [e] at rd
    simp only [] at rd ⊢
    simp -implicitDefEqProofs [dTry1, rd, U.xm_BadLine, dXf, fget, sizeLine_eq] at hy
    subst hy
    exact hxz.symm.trans (gc_same rfl)
end
end SP
/-! Texts: what is due. -/
namespace SP
open PySem L2 DD U TL
section
variable {S : Sto}
def numS (n : Nat) : Str := Str.ofString (toString ((n : Nat) : Int))
def WLs : List Str := (List.range 48).map numS
theorem tl_numS (n : Nat) : tl (numS n) = numL n := tl_num n
theorem numS_inj {m n : Nat} (h : numS m = numS n) : m = n := numL_inj (by rw [← tl_numS, ← tl_numS, h])
theorem WLs_nd : WLs.Nodup := by
  unfold WLs
  rw [List.Nodup, List.pairwise_map]
  exact List.nodup_range.imp fun hne h => hne (numS_inj h)
theorem WLs_ix {n : Nat} (h : n < 48) : WLs.idxOf (numS n) = n := by
  have hl : n < WLs.length := by simp [WLs]; exact h
  have e : WLs[n] = numS n := by simp [WLs]
  have := WLs_nd.idxOf_getElem n hl
  rwa [e] at this
theorem mem_WLs {x : Str} : x ∈ WLs ↔ ∃ n, n < 48 ∧ x = numS n := by
  unfold WLs
  rw [List.mem_map]
  constructor
  · rintro ⟨n, h, rfl⟩; exact ⟨n, List.mem_range.mp h, rfl⟩
  · rintro ⟨n, h, rfl⟩; exact ⟨n, List.mem_range.mpr h, rfl⟩
theorem ok_numS (n : Nat) : PyData.strOk (numS n) = true := ok_iff.mpr fun c hc => by
  rw [tl_numS] at hc
  have := numL_digits n c hc
  omega
theorem ok_WLs : ∀ x ∈ WLs, PyData.strOk x = true := fun x hx => by
  obtain ⟨n, _, rfl⟩ := mem_WLs.mp hx
  exact ok_numS n
theorem eqW_str {x y : Str} : eqW (.str x) (.str y) = decide (x = y) := by
  simp only [eqW]
  by_cases h : x = y
  · subst h; simp
  · rw [decide_eq_false h]; simpa using h
theorem inW_strs {x : Str} {l : List Str} : inW (.str x) (l.map W.str) = decide (x ∈ l) := by
  unfold inW
  rw [List.any_map]
  by_cases h : x ∈ l
  · rw [decide_eq_true h, List.any_eq_true]
    exact ⟨x, h, by simp [Function.comp, eqW_str]⟩
  · rw [decide_eq_false h, List.any_eq_false]
    intro y hy
    simp only [Function.comp, eqW_str, decide_eq_true_eq]
    rintro rfl; exact h hy
theorem ni_strs {x : Str} {l : List Str} (h1 : PyData.strOk x = true) (h2 : ∀ y ∈ l, PyData.strOk y = true) : notInD (.str x) (.lst (l.map W.str)) S = .ok (.bl (!decide (x ∈ l))) S := by
  rw [e_notInL (ok_str h1) (by
    rw [List.all_map, List.all_eq_true]
    exact fun y hy => ok_str (h2 y hy)), inW_strs]
theorem strsOf_map : ∀ l : List Str, strsOf (l.map W.str) = some l
  | [] => rfl
  | x :: l => by
    show (strsOf (l.map W.str)).map (x :: ·) = _
    rw [strsOf_map l]; rfl
def badW74 : W := .tup [.str "bad", .int 1]
theorem due_turn {y : Str} (hy : PyData.strOk y = true) (hl : y.length ≤ 10000) (x w1 w2 w3 w4 : Option W) (acc : List W) (ha : acc.length ≤ 20000) (hw1 : w1 = some (.lst (WLs.map W.str))) (hw2 : w2 = some (.ref S.length)) :
    turn (gN 3) b_l_due_10_l0 (.str y) [x, w1, w2, w3, w4] (S ++ [.lst acc]) = match wd y with
      | some p => .nx [x, w1, w2, some (.str y), w4] (S ++ [.lst (acc ++ [prW74 p])])
      | none => .rt badW74 (S ++ [.lst acc]) := by
  subst hw1 hw2
  obtain ⟨Y0, hY0⟩ : ∃ Y, Y = Txt.slice y none (some (-1)) := ⟨_, rfl⟩
  obtain ⟨Y1, hY1⟩ : ∃ Y, Y = Txt.slice y (some (-1)) none := ⟨_, rfl⟩
  have t0 : tl Y0 = (tl y).dropLast := by rw [hY0, sl_init]
  have t1 : tl Y1 = (tl y).drop ((tl y).length - 1) := by rw [hY1, sl_last]
  have ok0 : PyData.strOk Y0 = true := ok_iff.mpr fun c hc => ok_iff.mp hy c (by rw [t0] at hc; exact List.dropLast_sublist _ |>.subset hc)
  have ok1 : PyData.strOk Y1 = true := ok_iff.mpr fun c hc => ok_iff.mp hy c (by rw [t1] at hc; exact List.mem_of_mem_drop hc)
  have sl0 : ∀ t X, dVar 3 t X = .ok (.str y) X → dSlS (dVar 3) dNoP (dPart (dNeg (dC (.int 1)))) t X = .ok (.str Y0) X := fun t X hv => by
    unfold dSlS
    rw [hv]
    show (if _ then _ else _) = _
    rw [if_pos (by rw [sizeLine_eq]; omega), hY0]
  have sl1 : ∀ t X, dVar 3 t X = .ok (.str y) X → dSlS (dVar 3) (dPart (dNeg (dC (.int 1)))) dNoP t X = .ok (.str Y1) X := fun t X hv => by
    unfold dSlS
    rw [hv]
    show (if _ then _ else _) = _
    rw [if_pos (by rw [sizeLine_eq]; omega), hY1]
  have okp : PyData.strOk (("+" : Str)) = true := by decide +kernel
  have okm : PyData.strOk (("-" : Str)) = true := by decide +kernel
  have tp : tl ("+" : Str) = [43] := by decide +kernel
  have tm : tl ("-" : Str) = [45] := by decide +kernel
  have n0 : ∀ X, notInD (.str Y0) (.lst (WLs.map W.str)) X = .ok (.bl (!decide (Y0 ∈ WLs))) X := fun X => ni_strs ok0 ok_WLs
  have n1 : ∀ X, notInD (.str Y1) (.lst [.str "+", .str "-"]) X = .ok (.bl (!decide (Y1 ∈ [("+" : Str), ("-" : Str)]))) X := fun X => ni_strs (l := [("+" : Str), ("-" : Str)]) ok1 (fun z hz => by
    simp only [List.mem_cons, List.not_mem_nil, or_false] at hz
    rcases hz with rfl | rfl <;> assumption)
  generalize hu : turn _ _ _ _ _ = v
  rw [turnX_] at hu
  simp only [List.set_cons_succ, List.set_cons_zero] at hu
  unfold b_l_due_10_l0 at hu
  obtain ⟨ds, hds⟩ : ∃ d, d = dSlS (dVar 3) dNoP (dPart (dNeg (dC (.int 1)))) := ⟨_, rfl⟩
  obtain ⟨de, hde⟩ : ∃ d, d = dSlS (dVar 3) (dPart (dNeg (dC (.int 1)))) dNoP := ⟨_, rfl⟩
  rw [← hds, ← hde] at hu
  rw [← hds] at sl0
  rw [← hde] at sl1
  have sl0 := sl0 [x, some (.lst (WLs.map W.str)), some (.ref S.length), some (.str y), w4] (S ++ [.lst acc]) rfl
  have sl1 := sl1 [x, some (.lst (WLs.map W.str)), some (.ref S.length), some (.str y), w4] (S ++ [.lst acc]) rfl
  cases hw : wd y with
  | some p =>
    obtain ⟨hp, hty⟩ := wd_ok hw
    have hy0 : Y0 = numS p.1 := ext_tl (by rw [t0, hty, List.dropLast_concat, tl_numS])
    have hy1t : tl Y1 = [sg p.2] := by rw [t1, hty]; simp
    have hm0 : Y0 ∈ WLs := mem_WLs.mpr ⟨p.1, hp, hy0⟩
    have hy1 : Y1 = if p.2 then ("+" : Str) else ("-" : Str) := ext_tl (by
      rw [hy1t]
      cases p.2
      · simp only [Bool.false_eq_true, if_false]; rw [tm]; rfl
      · simp only [if_true]; rw [tp]; rfl)
    have hm1 : Y1 ∈ [("+" : Str), ("-" : Str)] := by rw [hy1]; cases p.2 <;> simp
    rw [decide_eq_true hm0] at n0
    rw [decide_eq_true hm1] at n1
    have ix : ∀ X, indexM (.lst (WLs.map W.str)) [.str Y0] X = .ok (.int (p.1 : Nat)) X := fun X => by
      unfold indexM
      simp only [seqL, strsOf_map]
      rw [if_pos hm0, hy0, WLs_ix hp]
    have sqL : ∀ X, seqL X (.lst (WLs.map W.str)) = some (WLs.map W.str) := fun X => rfl
    have eqp : ∀ X, eqD (.str Y1) (.str "+") X = .ok (.bl p.2) X := fun X => by
      rw [eq_str' ok1 okp]
      refine congrArg (fun b : Bool => DD.R.ok (W.bl b) X) ?_
      rw [hy1]
      cases p.2
      · refine decide_eq_false fun h => ?_
        have := congrArg (fun z : Str => tl z) h
        simp only [Bool.false_eq_true, if_false] at this
        rw [tm, tp] at this
        simp at this
      · exact decide_eq_true rfl
    have ib : ∀ X, intF [.bl p.2] X = .ok (.int (bT p.2)) X := fun X => by cases p.2 <;> rfl
    have ap : appendM (.ref S.length) [prW74 p] (S ++ [.lst acc]) = .ok .non (S ++ [.lst (acc ++ [prW74 p])]) := by
      rw [e_append (xs := acc) (by simp) (by omega), List.set_append_right _ _ (Nat.le_refl _)]
      simp
    have sq : seqL (S ++ [O.lst acc]) (.ref S.length) = some acc := by unfold seqL; simp
    unfold prW74 at ap
    simp only [prW74]
    generalize S ++ [.lst (acc ++ [W.tup [.int (p.1 : Nat), .int (bT p.2)]])] = X' at ap ⊢
    generalize S ++ [O.lst acc] = X at sl0 sl1 ap sq hu
    generalize WLs.map W.str = WM at sl0 sl1 n0 ix sqL hu ⊢
    generalize ((p.1 : Nat) : Int) = n at ix ap
    generalize bT p.2 = bb at ib ap
    simp -implicitDefEqProofs [sl0, n0, sl1, n1, sqL, ix, eqp, ib, sizeLine_eq, sq, ap] at hu
    exact hu.symm
  | none =>
    unfold badW74
    simp only []
    by_cases hm0 : Y0 ∈ WLs
    · have hm1 : Y1 ∉ [("+" : Str), ("-" : Str)] := fun hm => by
        obtain ⟨n, hn, hy0⟩ := mem_WLs.mp hm0
        have hne : tl y ≠ [] := fun h => by
          have : tl Y0 = numL n := by rw [hy0, tl_numS]
          rw [t0, h] at this
          exact numL_ne n this.symm
        obtain ⟨c, hc⟩ : ∃ c, tl y = numL n ++ [c] := ⟨(tl y).getLast hne, by rw [← tl_numS, ← hy0, t0, List.dropLast_concat_getLast]⟩
        have h1 : tl Y1 = [c] := by rw [t1, hc]; simp
        simp only [List.mem_cons, List.not_mem_nil, or_false] at hm
        rcases hm with hm | hm
        · rw [hm, tp] at h1
          cases h1
          exact wd_none hw (b := true) hn hc
        · rw [hm, tm] at h1
          cases h1
          exact wd_none hw (b := false) hn hc
      rw [decide_eq_true hm0] at n0
      rw [decide_eq_false hm1] at n1
      generalize S ++ [O.lst acc] = X at sl0 sl1 hu ⊢
      generalize WLs.map W.str = WM at sl0 sl1 n0 hu
      simp -implicitDefEqProofs [sl0, n0, sl1, n1, sizeLine_eq] at hu
      exact hu.symm
    · rw [decide_eq_false hm0] at n0
      generalize S ++ [O.lst acc] = X at sl0 sl1 hu ⊢
      generalize WLs.map W.str = WM at sl0 sl1 n0 hu
      simp -implicitDefEqProofs [sl0, n0, sizeLine_eq] at hu
      exact hu.symm
theorem due_loop74 : ∀ (ys : List Str) (x w3 w4 : Option W) (acc : List W), (∀ y ∈ ys, PyData.strOk y = true ∧ y.length ≤ 10000) → acc.length + ys.length ≤ 20000 →
    (∃ (l : List (Nat × Bool)) (a : Option W), rdP ys = some l ∧ forL (gN 3) b_l_due_10_l0 (ys.map W.str) [x, some (.lst (WLs.map W.str)), some (.ref S.length), w3, w4] (S ++ [.lst acc]) = .nx [x, some (.lst (WLs.map W.str)), some (.ref S.length), a, w4] (S ++ [.lst (acc ++ l.map prW74)])) ∨
    (rdP ys = none ∧ ∃ (acc' : List W), forL (gN 3) b_l_due_10_l0 (ys.map W.str) [x, some (.lst (WLs.map W.str)), some (.ref S.length), w3, w4] (S ++ [.lst acc]) = .rt badW74 (S ++ [.lst acc']))
  | [], x, w3, w4, acc, _, _ => .inl ⟨[], w3, rfl, by simp [forL]⟩
  | y :: ys, x, w3, w4, acc, h, hl => by
    rw [List.length_cons] at hl
    obtain ⟨hy, hyl⟩ := h y (List.mem_cons_self ..)
    have tn := due_turn (S := S) hy hyl x (some (.lst (WLs.map W.str))) (some (.ref S.length)) w3 w4 acc (by omega) rfl rfl
    cases e : wd y with
    | none =>
      rw [e] at tn
      refine .inr ⟨rdP_none e, acc, ?_⟩
      rw [List.map_cons, forL_cons, tn]
    | some p =>
      rw [e] at tn
      rcases due_loop74 ys x (some (.str y)) w4 (acc ++ [prW74 p]) (fun y hy => h y (List.mem_cons_of_mem _ hy)) (by simp; omega) with ⟨l, a, e1, e2⟩ | ⟨e1, acc', e2⟩
      · refine .inl ⟨p :: l, a, by rw [rdP_some e, e1]; rfl, ?_⟩
        rw [List.map_cons, forL_cons, tn]
        simp only []
        rw [e2, List.append_assoc]; rfl
      · refine .inr ⟨by rw [rdP_some e, e1]; rfl, acc', ?_⟩
        rw [List.map_cons, forL_cons, tn]
        simp only []
        rw [e2]
end
end SP
/-! Texts: runs written, texts changed. -/
namespace SP
open PySem L2 DD U TL
section
variable {S : Sto}
theorem low_td (n : Nat) (x : Str) : lowW n (tdT x) = true := by
  unfold tdT
  split
  · simp only [lowW]
    exact lowL_all fun w hw => by
      obtain ⟨p, _, rfl⟩ := List.mem_map.mp hw
      rfl
  · rfl
theorem due10_ok {x : Str} (hx : PyData.strOk x = true) (hl : x.length ≤ 6000) : U.fn_l_due_10 [.str x] S = .ok (tdT x) S := by
  generalize hxz : U.fn_l_due_10 _ _ = z
  unfold U.fn_l_due_10 at hxz
  rw [DD.gcF_eq, DD.dFn_eq] at hxz
  generalize hy : U.b_l_due_10 _ _ = y at hxz
  unfold U.b_l_due_10 at hy
  have oke : PyData.strOk (Str.ofString "") = true := by decide +kernel
  have eqe : ∀ X, eqD (.str x) (.str "") X = .ok (.bl (decide (x = Str.ofString ""))) X := fun X => eq_str' hx oke
  have lw := low_td S.length x
  unfold tdT resP at *
  by_cases h0 : x = Str.ofString ""
  · rw [if_pos h0] at *
    rw [decide_eq_true h0] at eqe
    simp -implicitDefEqProofs [eqe, sizeLine_eq] at hy
    subst hy
    exact hxz.symm.trans (gc_same rfl)
  · rw [if_neg h0] at *
    rw [decide_eq_false h0] at eqe
    obtain ⟨ys, hys⟩ : ∃ ys, ys = Txt.split x spS := ⟨_, rfl⟩
    have hin : ∀ y ∈ ys, PyData.strOk y = true ∧ y.length ≤ 10000 := fun y hy => by
      rw [hys] at hy
      obtain ⟨h1, h2⟩ := split_in hx y hy
      exact ⟨h2, by omega⟩
    have hc : ys.length ≤ 6001 := by rw [hys]; have := split_cnt (x := x); omega
    have sp : ∀ t X, dVar 0 t X = .ok (.str x) X → dSplit (dVar 0) (dC (.str " ")) t X = .ok (.lst (ys.map W.str)) X := fun t X hv => by
      unfold dSplit
      rw [hv]
      show (if _ then _ else _) = _
      rw [if_pos ⟨by decide +kernel, by rw [sizeLine_eq]; omega⟩, hys]; rfl
    -- the words
    have lcw : dLc (dRange1 (dCons (dC (.int 48)) dNil)) (.nm 4) dYes (dBi strF (dCons (dVar 4) dNil)) [4] [some (.str x), none, none, none, none] S = .ok (.lst (WLs.map W.str)) S := by
      unfold dLc
      have sq : dRange1 (dCons (dC (.int 48)) dNil) [some (.str x), none, none, none, none] S = .ok ((List.range 48).map fun (n : Nat) => W.int (n : Nat)) S := by
        have : DD.intsFrom 0 48 = (List.range 48).map fun (n : Nat) => W.int (n : Nat) := by
          rw [rng_wl]; simp [wl, List.map_map, Function.comp_def]
        rw [← this]
        simp [rgI]
      rw [sq, DD.R.bind_ok]
      have wp : wipeW [some (.str x), none, none, none, none] [4] = [some (.str x), none, none, none, none] := rfl
      have := lc_enc (g := .nm 4) (tt := dYes) (te := dBi strF (dCons (dVar 4) dNil)) (t0 := [some (.str x), none, none, none, none]) (S := S) (fun n : Nat => W.int (n : Nat)) (fun _ => true) (fun n => W.str (numS n)) (List.range 48) [] (by simp) (fun n hn => ⟨[some (.str x), none, none, none, some (.int (n : Nat))], rfl, rfl, fun _ => by
        have hn := List.mem_range.mp hn
        have hs : strF [.int (n : Nat)] S = .ok (.str (numS n)) S := by
          unfold strF
          simp only []
          rw [if_pos (by
            have : ((n : Nat) : Int).natAbs = n := by omega
            rw [this]
            by_cases h0 : n = 0
            · subst h0; decide
            · have := (Nat.log2_lt h0 (k := 1920)).mpr (Nat.lt_of_lt_of_le (show n < 2 ^ 6 by omega) (Nat.pow_le_pow_right (by decide) (by decide)))
              exact this)]
          rfl
        have bi : dBi strF (dCons (dVar 4) dNil) [some (.str x), none, none, none, some (.int (n : Nat))] S = strF [.int (n : Nat)] S := by
          rw [hs]
          simp [hs]
        rw [bi, hs]⟩)
      rw [List.filter_eq_self.mpr (fun _ _ => rfl), List.nil_append] at this
      rw [wp, this]
      unfold WLs
      rw [List.map_map]; rfl
    have nl : ∀ t, dNewL dNil t S = .ok (.ref S.length) (S ++ [.lst []]) := fun t => rfl
    have sq : dSeqI (dSplit (dVar 0) (dC (.str " "))) [some (.str x), some (.lst (WLs.map W.str)), some (.ref S.length), none, none] (S ++ [.lst []]) = .ok (ys.map W.str) (S ++ [.lst []]) := by
      have := sp [some (.str x), some (.lst (WLs.map W.str)), some (.ref S.length), none, none] (S ++ [.lst []]) rfl
      rw [e_seqI, this]; rfl
    have lp0 : dFor (dSeqI (dSplit (dVar 0) (dC (.str " ")))) (gN 3) b_l_due_10_l0 [some (.str x), some (.lst (WLs.map W.str)), some (.ref S.length), none, none] (S ++ [.lst []]) = forL (gN 3) b_l_due_10_l0 (ys.map W.str) [some (.str x), some (.lst (WLs.map W.str)), some (.ref S.length), none, none] (S ++ [.lst []]) := by
      rw [e_for, sq]; rfl
    obtain ⟨dw, hdw⟩ : ∃ d, d = dLc (dRange1 (dCons (dC (.int 48)) dNil)) (.nm 4) dYes (dBi strF (dCons (dVar 4) dNil)) [4] := ⟨_, rfl⟩
    obtain ⟨dn, hdn⟩ : ∃ d, d = dNewL dNil := ⟨_, rfl⟩
    obtain ⟨df, hdf⟩ : ∃ d, d = dFor (dSeqI (dSplit (dVar 0) (dC (.str " ")))) (gN 3) b_l_due_10_l0 := ⟨_, rfl⟩
    rw [← hdw] at lcw hy
    rw [← hdn] at nl hy
    rw [← hdf] at lp0 hy
    rw [← hys] at lw ⊢
    rcases due_loop74 (S := S) ys (some (.str x)) none none [] hin (by simp; omega) with ⟨l, a, er, lp⟩ | ⟨er, acc', lp⟩
    · rw [lp] at lp0
      rw [er] at lw ⊢
      simp only [List.nil_append] at lp0 lw ⊢
      have tp : tupleF [.ref S.length] (S ++ [.lst (l.map prW74)]) = .ok (.tup (l.map prW74)) (S ++ [.lst (l.map prW74)]) := e_tupR (by simp)
      have fin : gcR S (.ok (.tup (l.map prW74)) (S ++ [.lst (l.map prW74)])) = .ok (.tup (l.map prW74)) S := gc_app lw
      generalize S ++ [.lst (l.map prW74)] = X2 at lp0 tp fin
      generalize S ++ [O.lst []] = X1 at nl lp0
      generalize W.tup (l.map prW74) = R at tp fin ⊢
      generalize W.lst (WLs.map W.str) = WM at lcw lp0
      simp -implicitDefEqProofs [eqe, lcw, nl, lp0, tp] at hy
      subst hy
      exact hxz.symm.trans fin
    · rw [lp] at lp0
      rw [er]
      simp only []
      have fin : gcR S (.ok badW74 (S ++ [.lst acc'])) = .ok badW74 S := gc_app rfl
      generalize S ++ [.lst acc'] = X2 at lp0 fin
      generalize S ++ [O.lst []] = X1 at nl lp0
      generalize W.lst (WLs.map W.str) = WM at lcw lp0
      simp -implicitDefEqProofs [eqe, lcw, nl, lp0] at hy
      subst hy
      exact hxz.symm.trans fin
end
end SP
/-! Texts: a drawn change. -/
namespace SP
open PySem L2 DD U TL
section
variable {S : Sto}
theorem tl_add (x y : Str) : tl (x ++ y) = tl x ++ tl y := by
  show (x.cps ++ y.cps).toList = _
  simp [tl]
theorem ok_add {x y : Str} (h1 : PyData.strOk x = true) (h2 : PyData.strOk y = true) : PyData.strOk (x ++ y) = true := ok_iff.mpr fun c hc => by
  rw [tl_add] at hc
  rcases List.mem_append.mp hc with h | h
  · exact ok_iff.mp h1 c h
  · exact ok_iff.mp h2 c h
theorem ok_slice {x : Str} (h : PyData.strOk x = true) (lo hi : Option Int) : PyData.strOk (Txt.slice x lo hi) = true := ok_iff.mpr fun c hc => by
  rw [tl_slice] at hc
  exact ok_iff.mp h c (List.mem_of_mem_drop (List.mem_of_mem_take hc))
theorem len_pre (x : Str) {r : Int} (h0 : 0 ≤ r) (h1 : r ≤ (x.length : Nat)) : (Txt.slice x none (some r)).length = r.toNat := by
  rw [len_tl, tl_slice, List.length_take, List.length_drop, len_tl]
  have e0 : HT.sIx (tl x).length 0 none = 0 := rfl
  have e1 : HT.sIx (tl x).length (tl x).length (some r) = r.toNat := by
    rw [len_tl] at h1
    unfold HT.sIx
    simp only []
    rw [if_neg (by omega)]
    omega
  rw [e0, e1]
  rw [len_tl] at h1
  omega
theorem len_suf (x : Str) {r : Int} (h0 : 0 ≤ r) : (Txt.slice x (some r) none).length = x.length - r.toNat := by
  rw [len_tl, tl_slice, List.length_take, List.length_drop, len_tl]
  have e1 : HT.sIx (tl x).length (tl x).length none = (tl x).length := rfl
  have e0 : HT.sIx (tl x).length 0 (some r) = min r.toNat (tl x).length := by
    unfold HT.sIx
    simp only []
    rw [if_neg (by omega)]
  rw [e0, e1]
  omega
theorem e_catSW {x y : Str} (h : x.length + y.length ≤ 16777216) : addD (.str x) (.str y) S = .ok (.str (x ++ y)) S := by
  simp [addD, orD, iAdd, intD, catD, catS, sizeLine_eq, h]
theorem len_add (x y : Str) : (x ++ y).length = x.length + y.length := by
  rw [len_tl, len_tl, len_tl, tl_add, List.length_append]
theorem changed_ok {P : O} {k : Nat} {x : Str} (hP : Pol k P) (hk : k < 100000000000) (hx : PyData.strOk x = true) (hl : x.length ≤ 5000) :
    ∃ (x' : Str) (P' : O), U.fn_l_changed [.ref 0, .str x] (P :: S) = .ok (.str x') (P' :: S) ∧ PyData.strOk x' = true ∧ x'.length ≤ x.length + 1 ∧ Pol (k + 3) P' := by
  generalize hxz : U.fn_l_changed _ _ = z
  unfold U.fn_l_changed at hxz
  rw [DD.gcF_eq, DD.dFn_eq] at hxz
  generalize hy : U.b_l_changed _ _ = y at hxz
  unfold U.b_l_changed at hy
  have ln : ∀ X, lenF [.str x] X = .ok (.int (x.length : Nat)) X := fun X => by
    show (if _ then _ else _) = _
    rw [if_pos (by rw [sizeLine_eq]; omega)]
  simp -implicitDefEqProofs [] at hy
  generalize hd__ : U.fn_l_draw _ _ = d__ at hy
  have hs__ := SP.at2 hd__ ((draw_ok hP) (by first | omega | with_reducible assumption | (simp; done) | (simp; omega) | rfl) (by first | omega | with_reducible assumption | (simp; done) | (simp; omega) | rfl) (by first | omega | with_reducible assumption | (simp; done) | (simp; omega) | rfl))
  obtain ⟨r1, P1, e1, r10, r11, hP1⟩ := hs__
  subst e1
  have ml : (Str.ofString "0123456789+-# \n").cps.toList = [48, 49, 50, 51, 52, 53, 54, 55, 56, 57, 43, 45, 35, 32, 10] := by decide +kernel
  have l1 : (Str.ofString "0123456789+-# \n").length = 15 := by decide +kernel
  obtain ⟨c, hc⟩ : ∃ c, [48, 49, 50, 51, 52, 53, 54, 55, 56, 57, 43, 45, 35, 32, 10][r1.toNat]? = some c := ⟨_, List.getElem?_eq_getElem (by simp; omega)⟩
  have ix : ∀ X, ixS (.str "0123456789+-# \n") (.int r1) X = .ok (.str ⟨#[c]⟩) X := fun X => by
    simp only [ixS]
    rw [if_pos (by rw [sizeLine_eq, l1]; decide), ml, atI_get r10 hc]
  have hc' : c < 0x110000 := by
    have := List.mem_of_getElem? hc
    simp only [List.mem_cons, List.not_mem_nil, or_false] at this
    omega
  obtain ⟨C, hC⟩ : ∃ C : Str, C = ⟨#[c]⟩ := ⟨_, rfl⟩
  have okC : PyData.strOk C = true := ok_iff.mpr fun d hd => by
    have : d = c := by rw [hC] at hd; simpa [tl] using hd
    omega
  have lC : C.length = 1 := by rw [hC]; rfl
  rw [← hC] at ix
  clear ml hc hC
  obtain ⟨n, hn⟩ : ∃ n : Int, n = (x.length : Nat) := ⟨_, rfl⟩
  rw [← hn] at ln
  have hn0 : 0 ≤ n := by omega
  have hn1 : n ≤ 5000 := by omega
  simp -implicitDefEqProofs [ix, ln] at hy
  generalize hd__ : U.fn_l_draw _ _ = d__ at hy
  have hs__ := SP.at2 hd__ ((draw_ok hP1) (by first | omega | with_reducible assumption | (simp; done) | (simp; omega) | rfl) (by first | omega | with_reducible assumption | (simp; done) | (simp; omega) | rfl) (by first | omega | with_reducible assumption | (simp; done) | (simp; omega) | rfl))
  obtain ⟨r2, P2, e2, r20, r21, hP2⟩ := hs__
  subst e2
  simp -implicitDefEqProofs [] at hy
  generalize hd__ : U.fn_l_draw _ _ = d__ at hy
  have hs__ := SP.at2 hd__ ((draw_ok hP2) (by first | omega | with_reducible assumption | (simp; done) | (simp; omega) | rfl) (by first | omega | with_reducible assumption | (simp; done) | (simp; omega) | rfl) (by first | omega | with_reducible assumption | (simp; done) | (simp; omega) | rfl))
  obtain ⟨r3, P3, e3, r30, r31, hP3⟩ := hs__
  subst e3
  have sl0 : ∀ X, dSlS (dVar 1) dNoP (dPart (dVar 3)) [some (.ref 0), some (.str x), some (.str C), some (.int r2), some (.int r3)] X = .ok (.str (Txt.slice x none (some r2))) X := fun X => by
    show (if _ then _ else _) = _
    rw [if_pos (by rw [sizeLine_eq]; omega)]
  have sl1 : ∀ X, dSlS (dVar 1) (dPart (dVar 3)) dNoP [some (.ref 0), some (.str x), some (.str C), some (.int r2), some (.int r3)] X = .ok (.str (Txt.slice x (some r2) none)) X := fun X => by
    show (if _ then _ else _) = _
    rw [if_pos (by rw [sizeLine_eq]; omega)]
  have sl2 : ∀ X, dSlS (dVar 1) (dPart (dOp addD (dVar 3) (dC (.int 1)))) dNoP [some (.ref 0), some (.str x), some (.str C), some (.int r2), some (.int r3)] X = .ok (.str (Txt.slice x (some (r2 + 1)) none)) X := fun X => by
    show (if _ then _ else _) = _
    rw [if_pos (by rw [sizeLine_eq]; omega)]
  obtain ⟨d0, hd0⟩ : ∃ d, d = dSlS (dVar 1) dNoP (dPart (dVar 3)) := ⟨_, rfl⟩
  obtain ⟨d1, hd1⟩ : ∃ d, d = dSlS (dVar 1) (dPart (dVar 3)) dNoP := ⟨_, rfl⟩
  obtain ⟨d2, hd2⟩ : ∃ d, d = dSlS (dVar 1) (dPart (dOp addD (dVar 3) (dC (.int 1)))) dNoP := ⟨_, rfl⟩
  rw [← hd0] at sl0 hy
  rw [← hd1] at sl1 hy
  rw [← hd2] at sl2 hy
  have k0 : PyData.strOk (Txt.slice x none (some r2)) = true := ok_slice hx _ _
  have k1 : PyData.strOk (Txt.slice x (some r2) none) = true := ok_slice hx _ _
  have k2 : PyData.strOk (Txt.slice x (some (r2 + 1)) none) = true := ok_slice hx _ _
  have m0 := len_pre x r20 (by omega)
  have m1 := len_suf x r20
  have m2 := len_suf x (show 0 ≤ r2 + 1 by omega)
  generalize Txt.slice x none (some r2) = A0 at sl0 k0 m0
  generalize Txt.slice x (some r2) none = A1 at sl1 k1 m1
  generalize Txt.slice x (some (r2 + 1)) none = A2 at sl2 k2 m2
  have la := len_add A0 C
  have la1 := len_add (A0 ++ C) A1
  have la2 := len_add (A0 ++ C) A2
  have la3 := len_add A0 A2
  have c0 : ∀ X, addD (.str A0) (.str C) X = .ok (.str (A0 ++ C)) X := fun X => e_catSW (by omega)
  have c1 : ∀ X, addD (.str (A0 ++ C)) (.str A1) X = .ok (.str (A0 ++ C ++ A1)) X := fun X => e_catSW (by omega)
  have c2 : ∀ X, addD (.str (A0 ++ C)) (.str A2) X = .ok (.str (A0 ++ C ++ A2)) X := fun X => e_catSW (by omega)
  have c3 : ∀ X, addD (.str A0) (.str A2) X = .ok (.str (A0 ++ A2)) X := fun X => e_catSW (by omega)
  have h3 : r3 = 0 ∨ r3 = 1 ∨ r3 = 2 ∨ r3 = 3 := by omega
  have fin : ∀ q : Str, gcR (P :: S) (.ok (.str q) (P3 :: S)) = .ok (.str q) (P3 :: S) := fun q => by
    have := gc_pool (S := S) (g := []) (P := P) (w := .str q) hP3 rfl
    simpa using this
  rcases h3 with rfl | rfl | rfl | rfl
  · simp -implicitDefEqProofs [sl0, sl1, sl2, c0, c1, c2, c3] at hy
    subst hy
    exact ⟨_, P3, hxz.symm.trans (fin _), ok_add (ok_add k0 okC) k1, by omega, hP3.mono (by omega)⟩
  · simp -implicitDefEqProofs [sl0, sl1, sl2, c0, c1, c2, c3] at hy
    subst hy
    exact ⟨_, P3, hxz.symm.trans (fin _), ok_add k0 k2, by omega, hP3.mono (by omega)⟩
  · simp -implicitDefEqProofs [sl0, sl1, sl2, c0, c1, c2, c3] at hy
    subst hy
    exact ⟨_, P3, hxz.symm.trans (fin _), ok_add (ok_add k0 okC) k2, by omega, hP3.mono (by omega)⟩
  · simp -implicitDefEqProofs [sl0, sl1, sl2, c0, c1, c2, c3] at hy
    subst hy
    exact ⟨_, P3, hxz.symm.trans (fin _), hx, by omega, hP3.mono (by omega)⟩
end
end SP
/-! Texts: a run written. -/
namespace SP
open PySem L2 DD U TL
section
variable {S : Sto}
def sgS (b : Bool) : Str := ⟨#[sg b]⟩
def wrS (p : Nat × Bool) : Str := numS p.1 ++ sgS p.2
theorem tl_wr (p : Nat × Bool) : tl (wrS p) = numL p.1 ++ [sg p.2] := by
  unfold wrS
  rw [tl_add, tl_numS]; rfl
theorem len_wr {p : Nat × Bool} (h : p.1 < 48) : (wrS p).length ≤ 3 := by
  rw [len_tl, tl_wr, List.length_append, List.length_singleton]
  have := numL_len (n := p.1) (k := 2) (by decide) (by omega)
  omega
theorem ok_wr (p : Nat × Bool) : PyData.strOk (wrS p) = true := ok_iff.mpr fun c hc => by
  rw [tl_wr] at hc
  rcases List.mem_append.mp hc with h | h
  · have := numL_digits p.1 c h
    omega
  · have : c = sg p.2 := by simpa using h
    rw [this]; cases p.2 <;> decide
theorem numS_lt {n : Nat} (h : n < 48) : (numS n).length ≤ 2 := by
  rw [len_tl, tl_numS]
  exact numL_len (by decide) (by omega)
theorem log_lt {n : Nat} (hn : n < 48) : ((n : Nat) : Int).natAbs.log2 < 1920 := by
  have : ((n : Nat) : Int).natAbs = n := by omega
  rw [this]
  by_cases h0 : n = 0
  · subst h0; decide
  · exact (Nat.log2_lt h0 (k := 1920)).mpr (Nat.lt_of_lt_of_le (show n < 2 ^ 6 by omega) (Nat.pow_le_pow_right (by decide) (by decide)))
theorem str_num {n : Nat} (hn : n < 48) : strF [.int (n : Nat)] S = .ok (.str (numS n)) S := by
  unfold strF
  simp only []
  rw [if_pos (log_lt hn)]
  rfl
theorem word_ok {p : Nat × Bool} (hp : p.1 < 48) (w : Option W) : dJoin [dFmt (dVar 1), dFmt (dIf (dTru (dVar 2)) (dC (.str "+")) (dC (.str "-")))] [w, some (.int (p.1 : Nat)), some (.int (bT p.2))] S = .ok (.str (wrS p)) S := by
  have f1 : dFmt (dVar 1) [w, some (.int (p.1 : Nat)), some (.int (bT p.2))] S = .ok (.str (numS p.1)) S := by
    show (if _ then _ else _) = _
    rw [if_pos (log_lt hp)]; rfl
  have f2 : dFmt (dIf (dTru (dVar 2)) (dC (.str "+")) (dC (.str "-"))) [w, some (.int (p.1 : Nat)), some (.int (bT p.2))] S = .ok (.str (sgS p.2)) S := by
    have e1 : ("+" : Str) = sgS true := by decide +kernel
    have e2 : ("-" : Str) = sgS false := by decide +kernel
    have z : ∀ b, (sgS b).length ≤ sizeLine := fun b => by rw [sizeLine_eq]; exact (by decide : (1 : Nat) ≤ 16777216)
    have i0 : dIf (dTru (dVar 2)) (dC (.str "+")) (dC (.str "-")) [w, some (.int (p.1 : Nat)), some (.int (bT p.2))] S = .ok (.str (sgS p.2)) S := by
      cases p.2
      · rw [← e2]; simp [dIf, bT, truW]
      · rw [← e1]; simp [dIf, bT, truW]
    unfold dFmt
    rw [i0, DD.R.bind_ok]
    simp only []
    rw [if_pos (z _)]
  have a1 : Str.empty ++ numS p.1 = numS p.1 := ext_tl (by rw [tl_add]; rfl)
  have h2 := numS_lt hp
  have h3 := len_add (numS p.1) (sgS p.2)
  have h4 : (sgS p.2).length = 1 := rfl
  unfold dJoin
  simp only [dJs]
  rw [f1, DD.R.bind_ok]
  simp only []
  rw [a1, if_pos (by rw [sizeLine_eq]; omega), f2, DD.R.bind_ok]
  simp only []
  rw [if_pos (by rw [sizeLine_eq]; omega)]; rfl
theorem sum_wr : ∀ {l : List (Nat × Bool)}, (∀ p ∈ l, p.1 < 48) → ((l.map wrS).map (·.length)).sum ≤ 3 * l.length
  | [], _ => by simp
  | p :: l, h => by
    have := sum_wr (l := l) (fun q hq => h q (List.mem_cons_of_mem _ hq))
    have h1 := len_wr (h p (List.mem_cons_self ..))
    simp only [List.map_cons, List.sum_cons, List.length_cons]
    omega
def txS (l : List (Nat × Bool)) : Str := Txt.join spS (l.map wrS)
theorem write_ok {w : W} {l : List (Nat × Bool)} {e : Nat × Bool → W} (he : ∀ p, e p = .tup [.int (p.1 : Nat), .int (bT p.2)] ∨ e p = .lst [.int (p.1 : Nat), .int (bT p.2)]) (hw : w = .tup (l.map e) ∨ w = .lst (l.map e)) (hl : ∀ p ∈ l, p.1 < 48) (hn : l.length ≤ 1000) : U.fn_write_run [w] S = .ok (.str (txS l)) S := by
  generalize hxz : U.fn_write_run _ _ = z
  unfold U.fn_write_run at hxz
  rw [DD.gcF_eq, DD.dFn_eq] at hxz
  generalize hy : U.b_write_run _ _ = y at hxz
  unfold U.b_write_run at hy
  have lc : dLcA (dVar 0) (.sq [1, 2]) dYes (dJoin [dFmt (dVar 1), dFmt (dIf (dTru (dVar 2)) (dC (.str "+")) (dC (.str "-")))]) [2, 1] [some w, none, none] S = .ok (.lst ((l.map wrS).map W.str)) S := by
    have hA : dLcA (dVar 0) (.sq [1, 2]) dYes (dJoin [dFmt (dVar 1), dFmt (dIf (dTru (dVar 2)) (dC (.str "+")) (dC (.str "-")))]) [2, 1] [some w, none, none] S = dLc (dSeqI (dVar 0)) (.sq [1, 2]) dYes (dJoin [dFmt (dVar 1), dFmt (dIf (dTru (dVar 2)) (dC (.str "+")) (dC (.str "-")))]) [2, 1] [some w, none, none] S := by
      rcases hw with rfl | rfl <;> rfl
    rw [hA]
    unfold dLc
    have sq : dSeqI (dVar 0) [some w, none, none] S = .ok (l.map e) S := by
      rcases hw with rfl | rfl <;> rfl
    rw [sq, DD.R.bind_ok]
    have wp : wipeW [some w, none, none] [2, 1] = [some w, none, none] := rfl
    have := lc_enc (g := .sq [1, 2]) (tt := dYes) (te := dJoin [dFmt (dVar 1), dFmt (dIf (dTru (dVar 2)) (dC (.str "+")) (dC (.str "-")))]) (t0 := [some w, none, none]) (S := S) e (fun _ => true) (fun p => W.str (wrS p)) l [] (by rw [List.length_nil]; omega) (fun p hp => ⟨[some w, some (.int (p.1 : Nat)), some (.int (bT p.2))], by
      rcases he p with h | h <;> rw [h] <;> rfl, rfl, fun _ => word_ok (hl p hp) _⟩)
    rw [List.filter_eq_self.mpr (fun _ _ => rfl), List.nil_append] at this
    rw [wp, this, List.map_map]; rfl
  have jn : dJoinT (dC (.str " ")) (dLcA (dVar 0) (.sq [1, 2]) dYes (dJoin [dFmt (dVar 1), dFmt (dIf (dTru (dVar 2)) (dC (.str "+")) (dC (.str "-")))]) [2, 1]) [some w, none, none] S = .ok (.str (txS l)) S := by
    unfold dJoinT
    have c : dC (.str " ") [some w, none, none] S = .ok (.str " ") S := rfl
    rw [c, DD.R.bind_ok]
    simp only []
    rw [lc, DD.R.bind_ok]
    have ss := sum_wr hl
    simp only [seqL, strsOf_map]
    have h1 : (" " : Str).length = 1 := by decide +kernel
    rw [if_pos (by rw [List.length_map, h1]; omega)]
    rfl
  obtain ⟨dj, hdj⟩ : ∃ d, d = dJoinT (dC (.str " ")) (dLcA (dVar 0) (.sq [1, 2]) dYes (dJoin [dFmt (dVar 1), dFmt (dIf (dTru (dVar 2)) (dC (.str "+")) (dC (.str "-")))]) [2, 1]) := ⟨_, rfl⟩
  rw [← hdj] at jn hy
  simp -implicitDefEqProofs [jn] at hy
  subst hy
  exact hxz.symm.trans (gc_same rfl)
end
end SP
/-! Texts: written runs read back; the fixed texts. -/
namespace SP
open PySem L2 DD U TL
section
variable {S : Sto}
theorem rdP_wr : ∀ {l : List (Nat × Bool)}, (∀ p ∈ l, p.1 < 48) → rdP (l.map wrS) = some l
  | [], _ => rfl
  | p :: l, h => by
    have hp := h p (List.mem_cons_self ..)
    rw [List.map_cons, rdP_some (wd_some (b := p.2) hp (tl_wr p)), rdP_wr (fun q hq => h q (List.mem_cons_of_mem _ hq))]
    rfl
theorem tl_tx (l : List (Nat × Bool)) : tl (txS l) = joinL [32] ((l.map wrS).map tl) := by
  unfold txS
  rw [join_eq, tl_join, tl_sp]
theorem join_in : ∀ (ps : List (List Nat)) (c : Nat), c ∈ joinL [32] ps → c = 32 ∨ ∃ p ∈ ps, c ∈ p
  | [], c, h => by cases h
  | [p], c, h => .inr ⟨p, List.mem_singleton.mpr rfl, h⟩
  | p :: q :: r, c, h => by
    rcases List.mem_append.mp h with h | h
    · exact .inr ⟨p, List.mem_cons_self .., h⟩
    · rcases List.mem_append.mp h with h | h
      · exact .inl (List.mem_singleton.mp h)
      · rcases join_in (q :: r) c h with h | ⟨x, hx, h⟩
        · exact .inl h
        · exact .inr ⟨x, List.mem_cons_of_mem _ hx, h⟩
theorem join_len : ∀ (ps : List (List Nat)), (∀ p ∈ ps, p.length ≤ 3) → (joinL [32] ps).length ≤ 4 * ps.length
  | [], _ => by simp [joinL]
  | [p], h => by
    have := h p (List.mem_singleton.mpr rfl)
    show p.length ≤ _
    simp only [List.length_cons, List.length_nil]; omega
  | p :: q :: r, h => by
    have h1 := h p (List.mem_cons_self ..)
    have h2 := join_len (q :: r) (fun x hx => h x (List.mem_cons_of_mem _ hx))
    show (p ++ ([32] ++ joinL [32] (q :: r))).length ≤ _
    simp only [List.length_append, List.length_cons, List.length_nil] at h2 ⊢
    omega
theorem len_tx {l : List (Nat × Bool)} (h : ∀ p ∈ l, p.1 < 48) : (txS l).length ≤ 4 * l.length := by
  rw [len_tl, tl_tx]
  have := join_len ((l.map wrS).map tl) (fun x hx => by
    obtain ⟨y, hy, rfl⟩ := List.mem_map.mp hx
    obtain ⟨p, hp, rfl⟩ := List.mem_map.mp hy
    rw [← len_tl]
    exact len_wr (h p hp))
  simpa using this
theorem ok_tx (l : List (Nat × Bool)) : PyData.strOk (txS l) = true := ok_iff.mpr fun c hc => by
  rw [tl_tx] at hc
  rcases join_in _ _ hc with rfl | ⟨x, hx, h⟩
  · decide
  · obtain ⟨y, hy, rfl⟩ := List.mem_map.mp hx
    obtain ⟨p, hp, rfl⟩ := List.mem_map.mp hy
    exact ok_iff.mp (ok_wr p) c h
theorem res_tx {l : List (Nat × Bool)} (h : ∀ p ∈ l, p.1 < 48) : resP (txS l) = some l := by
  unfold resP
  cases l with
  | nil => 
    rw [if_pos (by decide +kernel)]
  | cons p l =>
    have hsp : Txt.split (txS (p :: l)) spS = (p :: l).map wrS := split_join tl_sp (by decide +kernel) (by simp) (fun y hy => by
      obtain ⟨q, hq, rfl⟩ := List.mem_map.mp hy
      rw [tl_wr]
      intro hm
      rcases List.mem_append.mp hm with hm | hm
      · exact numL_free (.inl (by decide)) hm
      · have : 32 = sg q.2 := by simpa using hm
        cases hb : q.2 <;> rw [hb] at this <;> simp [sg] at this)
    rw [if_neg, hsp, rdP_wr h]
    intro e
    have e2 : tl (txS (p :: l)) = [] := by rw [e]; decide +kernel
    rw [tl_tx] at e2
    cases l with
    | nil =>
      have : tl (wrS p) = [] := e2
      rw [tl_wr] at this; simp at this
    | cons q l =>
      have : tl (wrS p) ++ ([32] ++ joinL [32] (((q :: l).map wrS).map tl)) = [] := e2
      simp at this
/-- what is no word -/
def nwB (l : List Nat) : Bool := (List.range 48).all fun n => l != numL n ++ [43] && l != numL n ++ [45]
theorem wd_nw {y : Str} (h : nwB (tl y) = true) : wd y = none := by
  unfold wd
  rw [dif_neg]
  rintro ⟨p, hp, e⟩
  unfold nwB at h
  rw [List.all_eq_true] at h
  have := h p.1 (List.mem_range.mpr hp)
  rw [e] at this
  cases hb : p.2 <;> rw [hb] at this <;> simp [sg] at this
theorem rdP_bad : ∀ {ys : List Str} {y : Str}, y ∈ ys → wd y = none → rdP ys = none
  | [], y, h, _ => nomatch h
  | z :: ys, y, h, e => by
    rcases List.mem_cons.mp h with rfl | h
    · exact rdP_none e
    · cases e2 : wd z with
      | none => exact rdP_none e2
      | some p => rw [rdP_some e2, rdP_bad h e]; rfl
theorem res_bad {x : Str} (h0 : tl x ≠ []) (h : (spl [32] 0 [] (tl x)).any nwB = true) : resP x = none := by
  unfold resP
  rw [if_neg (fun e => h0 (by rw [e]; decide +kernel))]
  rw [List.any_eq_true] at h
  obtain ⟨l, hl, hb⟩ := h
  rw [← split_tl] at hl
  obtain ⟨y, hy, rfl⟩ := List.mem_map.mp hl
  exact rdP_bad hy (wd_nw hb)
def fixS : List Str := [" ", "48+", "047+", "7", "+", "7+ ", " 7+", "7+  8-", "7?"]
theorem fix_bad : ∀ x ∈ fixS, resP x = none ∧ PyData.strOk x = true ∧ x.length ≤ 10 := by
  intro x hx
  have h : fixS.all (fun x => decide (tl x ≠ []) && (spl [32] 0 [] (tl x)).any nwB && PyData.strOk x && decide (x.length ≤ 10)) = true := by decide +kernel
  rw [List.all_eq_true] at h
  have := h x hx
  simp only [Bool.and_eq_true, decide_eq_true_eq] at this
  obtain ⟨⟨⟨h1, h2⟩, h3⟩, h4⟩ := this
  exact ⟨res_bad h1 h2, h3, h4⟩
def onesS : Str := ⟨(List.replicate 5000 ("1" : Str).cps).foldl (· ++ ·) #[]⟩
theorem fold_l (c : Array Nat) : ∀ (n : Nat) (acc : Array Nat), ((List.replicate n c).foldl (· ++ ·) acc).toList = acc.toList ++ (List.replicate n c.toList).flatten
  | 0, acc => by simp
  | n + 1, acc => by
    rw [List.replicate_succ, List.foldl_cons, fold_l c n, List.replicate_succ, List.flatten_cons, Array.toList_append, List.append_assoc]
theorem tl_ones : tl onesS = List.replicate 5000 49 := by
  show (((List.replicate 5000 ("1" : Str).cps).foldl (· ++ ·) #[]).toList) = _
  rw [fold_l]
  have : ("1" : Str).cps.toList = [49] := by decide +kernel
  rw [this, List.nil_append]
  generalize 5000 = n
  induction n with
  | zero => rfl
  | succ n ih => rw [List.replicate_succ, List.flatten_cons, ih, List.replicate_succ]; rfl
def onesP : Str := onesS ++ "+"
theorem tl_onesP : tl onesP = List.replicate 5000 49 ++ [43] := by
  unfold onesP
  rw [tl_add, tl_ones]
  have : tl ("+" : Str) = [43] := by decide +kernel
  rw [this]
theorem len_onesP : onesP.length = 5001 := by rw [len_tl, tl_onesP]; simp
theorem ok_onesP : PyData.strOk onesP = true := ok_iff.mpr fun c hc => by
  rw [tl_onesP] at hc
  rcases List.mem_append.mp hc with h | h
  · rw [List.eq_of_mem_replicate h]; decide
  · rw [List.mem_singleton.mp h]; decide
theorem ones_bad : resP onesP = none := by
  refine res_bad (by rw [tl_onesP]; simp) ?_
  have : spl [32] 0 [] (tl onesP) = [tl onesP] := by
    have := spl_last1 (s := 32) (S := []) (p := tl onesP) (acc := []) (by
      rw [tl_onesP]
      intro hm
      rcases List.mem_append.mp hm with h | h
      · have := List.eq_of_mem_replicate h
        omega
      · have := List.mem_singleton.mp h
        omega)
    simpa using this
  rw [this, List.any_cons, List.any_nil, Bool.or_false]
  unfold nwB
  rw [List.all_eq_true]
  intro n hn
  have hn := List.mem_range.mp hn
  have h2 : (numL n).length ≤ 2 := numL_len (by decide) (by omega)
  have hl : (tl onesP).length = 5001 := by rw [← len_tl, len_onesP]
  rw [Bool.and_eq_true, bne_iff_ne, bne_iff_ne]
  constructor <;> intro e <;> rw [e] at hl <;> simp at hl <;> omega
theorem dat_pr (n : Nat) (p : Nat × Bool) : dat (n + 1) (prW74 p) = true := by
  unfold prW74
  simp [dat]
theorem dat_td (x : Str) : dat dDep (tdT x) = true := by
  have e : dDep = 14 + 1 + 1 := rfl
  unfold tdT
  rw [e]
  split
  · rw [dat, List.all_eq_true]
    intro w hw
    obtain ⟨p, _, rfl⟩ := List.mem_map.mp hw
    exact dat_pr _ p
  · decide +kernel
theorem ne_td (x : Str) : neD (tdT x) (tdT x) S = .ok (.bl false) S := by
  rw [e_ne (dat_td x) (dat_td x), eqW_refl (dat_td x)]; rfl
end
end SP
namespace Zk74
open PySem PySem.Spec PyProof.Rows L2 DD U
structure Tx (K : PySem.W.Frag) (mg : Str → Option Value) : Prop where
  b_abs : mg "abs" = none
  b_all : mg "all" = none
  b_int : mg "int" = none
  b_len : mg "len" = none
  b_list : mg "list" = none
  b_range : mg "range" = none
  b_str : mg "str" = none
  b_tuple : mg "tuple" = none
  k_DIGITS : ∃ t, mg "DIGITS" = some (.str "0123456789" t)
  k_MOST_DIGITS : ∃ t, mg "MOST_DIGITS" = some (.int 4 t)
  k_QUESTIONS : ∃ t, mg "QUESTIONS" = some (.int 48 t)
  g_l_draw : mg "_law_draw" = some (.ref (He.fAd K ("_law_draw", none)))
  g_l_due : mg "_law_due" = some (.ref (He.fAd K ("_law_due", none)))
  g_l_pool : mg "_law_pool" = some (.ref (He.fAd K ("_law_pool", none)))
  g_write_run : mg "write_run" = some (.ref (He.fAd K ("write_run", none)))
  g_plain_number : mg "plain_number" = some (.ref (He.fAd K ("plain_number", none)))
  g_l_changed : mg "_law_changed" = some (.ref (He.fAd K ("_law_changed", none)))
  g_read_run : mg "read_run" = some (.ref (He.fAd K ("read_run", none)))
  g_l_told : mg "_law_told" = some (.ref (He.fAd K ("_law_told", none)))
  g_law : mg "law" = some (.ref (He.fAd K ("law", none)))
  g_BadLine : mg "BadLine" = some (.ref (cm K 26))
  f_l_draw : ∃ fd, FunD K "_law_draw" "_law_draw" (defArgs s_l_draw) (defBody s_l_draw) (defScope s_l_draw) [] [] (He.fAd K ("_law_draw", none)) fd
  f_l_due : ∃ fd, FunD K "_law_due" "_law_due" (defArgs s_l_due) (defBody s_l_due) (defScope s_l_due) [] [] (He.fAd K ("_law_due", none)) fd
  f_l_pool : ∃ fd, FunD K "_law_pool" "_law_pool" (defArgs s_l_pool) (defBody s_l_pool) (defScope s_l_pool) [] [] (He.fAd K ("_law_pool", none)) fd
  f_write_run : ∃ fd, FunD K "write_run" "write_run" (defArgs s_write_run) (defBody s_write_run) (defScope s_write_run) [] [] (He.fAd K ("write_run", none)) fd
  f_plain_number : ∃ fd, FunD K "plain_number" "plain_number" (defArgs s_plain_number) (defBody s_plain_number) (defScope s_plain_number) [] [] (He.fAd K ("plain_number", none)) fd
  f_l_changed : ∃ fd, FunD K "_law_changed" "_law_changed" (defArgs s_l_changed) (defBody s_l_changed) (defScope s_l_changed) [] [] (He.fAd K ("_law_changed", none)) fd
  f_read_run : ∃ fd, FunD K "read_run" "read_run" (defArgs s_read_run) (defBody s_read_run) (defScope s_read_run) [] [] (He.fAd K ("read_run", none)) fd
  f_l_told : ∃ fd, FunD K "_law_told" "_law_told" (defArgs s_l_told) (defBody s_l_told) (defScope s_l_told) [] [] (He.fAd K ("_law_told", none)) fd
  f_law : ∃ fd, FunD K "law" "law" (defArgs s_law) (defBody s_law) (defScope s_law) [] [] (He.fAd K ("law", none)) fd
  f_BadLine_init : ∃ fd, FunD K "__init__" "BadLine.__init__" (defArgs s_BadLine_init) (defBody s_BadLine_init) (defScope s_BadLine_init) [] [] (He.fAd K ("BadLine", some "__init__")) fd
  xb_BadLine : oexB K (cm K 26) = true
  xj_BadLine : PySem.W.findIn K (.ref (cm K 26)) "__init__" = some (some (.ref (He.fAd K ("BadLine", some "__init__"))))
  xt_BadLine : PySem.W.typeIn K (.ref (He.fAd K ("BadLine", some "__init__"))) = some (.type "function")
  xn_BadLine : PySem.W.findIn K (.ref (cm K 26)) "line" = some none
  xf_BadLine : xfB K (cm K 26) = true
  ek_BadLine_BadLine : PySem.W.exmOne K (.ref (cm K 26)) (.ref (cm K 26)) = some true
theorem tx_of {K : PySem.W.Frag} {h : Heap} {mg : Str → Option Value} (X : K.In h) (G : h.Ns mainGlobals mg) (c : He.SaysD fa fn K) (ex : exK K = true) : Tx K mg where
  b_abs := He.free_ok X G (c.fact 0 (f := .free "abs") rfl)
  b_all := He.free_ok X G (c.fact 1 (f := .free "all") rfl)
  b_int := He.free_ok X G (c.fact 2 (f := .free "int") rfl)
  b_len := He.free_ok X G (c.fact 3 (f := .free "len") rfl)
  b_list := He.free_ok X G (c.fact 4 (f := .free "list") rfl)
  b_range := He.free_ok X G (c.fact 5 (f := .free "range") rfl)
  b_str := He.free_ok X G (c.fact 6 (f := .free "str") rfl)
  b_tuple := He.free_ok X G (c.fact 7 (f := .free "tuple") rfl)
  k_DIGITS := He.str_ok X G (c.fact 8 (f := .str "DIGITS" "0123456789") rfl)
  k_MOST_DIGITS := He.int_ok X G (c.fact 9 (f := .int "MOST_DIGITS" 4) rfl)
  k_QUESTIONS := He.int_ok X G (c.fact 10 (f := .int "QUESTIONS" 48) rfl)
  g_l_draw := He.glo_ok X G (c.fact 11 (f := .glo "_law_draw") rfl)
  g_l_due := He.glo_ok X G (c.fact 12 (f := .glo "_law_due") rfl)
  g_l_pool := He.glo_ok X G (c.fact 13 (f := .glo "_law_pool") rfl)
  g_write_run := He.glo_ok X G (c.fact 14 (f := .glo "write_run") rfl)
  g_plain_number := He.glo_ok X G (c.fact 15 (f := .glo "plain_number") rfl)
  g_l_changed := He.glo_ok X G (c.fact 16 (f := .glo "_law_changed") rfl)
  g_read_run := He.glo_ok X G (c.fact 17 (f := .glo "read_run") rfl)
  g_l_told := He.glo_ok X G (c.fact 18 (f := .glo "_law_told") rfl)
  g_law := He.glo_ok X G (c.fact 19 (f := .glo "law") rfl)
  g_BadLine := He.glo_ok X G (c.fact 20 (f := .glo "BadLine") rfl)
  f_l_draw := c.def_ 0 (d := dd_l_draw) rfl
  f_l_due := c.def_ 1 (d := dd_l_due) rfl
  f_l_pool := c.def_ 2 (d := dd_l_pool) rfl
  f_write_run := c.def_ 3 (d := dd_write_run) rfl
  f_plain_number := c.def_ 4 (d := dd_plain_number) rfl
  f_l_changed := c.def_ 5 (d := dd_l_changed) rfl
  f_read_run := c.def_ 6 (d := dd_read_run) rfl
  f_l_told := c.def_ 7 (d := dd_l_told) rfl
  f_law := c.def_ 8 (d := dd_law) rfl
  f_BadLine_init := c.def_ 9 (d := dd_BadLine_init) rfl
  xb_BadLine := of_decide_eq_true (He.ba (He.ba (He.ba (He.ba (He.ba ex).1).1).1).1).1
  xj_BadLine := of_decide_eq_true (He.ba (He.ba (He.ba (He.ba (He.ba ex).1).1).1).1).2
  xt_BadLine := of_decide_eq_true (He.ba (He.ba (He.ba (He.ba ex).1).1).1).2
  xn_BadLine := of_decide_eq_true (He.ba (He.ba (He.ba ex).1).1).2
  xf_BadLine := of_decide_eq_true (He.ba (He.ba ex).1).2
  ek_BadLine_BadLine := of_decide_eq_true (He.ba ex).2
theorem sc_l_draw : FnScope ["_law_pool_here", "_law_limit", "_law_mixed", "_law_cell", "_law_digit"] ["_law_pool_here", "_law_limit"] (defScope s_l_draw) := ⟨rfl, rfl, rfl, by decide +kernel, rfl, by decide +kernel, by decide +kernel⟩
theorem sc_l_due : FnScope ["_law_text", "_law_words", "_law_run", "_law_word", "_law_number"] ["_law_text"] (defScope s_l_due) := ⟨rfl, rfl, rfl, by decide +kernel, rfl, by decide +kernel, by decide +kernel⟩
theorem sc_l_pool : FnScope ["_law_script"] ["_law_script"] (defScope s_l_pool) := ⟨rfl, rfl, rfl, by decide +kernel, rfl, by decide +kernel, by decide +kernel⟩
theorem sc_write_run : FnScope ["run", "question", "answer"] ["run"] (defScope s_write_run) := ⟨rfl, rfl, rfl, by decide +kernel, rfl, by decide +kernel, by decide +kernel⟩
theorem sc_plain_number : FnScope ["word", "sign"] ["word"] (defScope s_plain_number) := ⟨rfl, rfl, rfl, by decide +kernel, rfl, by decide +kernel, by decide +kernel⟩
theorem sc_l_changed : FnScope ["_law_pool_here", "_law_text", "_law_sign", "_law_at", "_law_way"] ["_law_pool_here", "_law_text"] (defScope s_l_changed) := ⟨rfl, rfl, rfl, by decide +kernel, rfl, by decide +kernel, by decide +kernel⟩
theorem sc_read_run : FnScope ["text", "run", "word", "question"] ["text"] (defScope s_read_run) := ⟨rfl, rfl, rfl, by decide +kernel, rfl, by decide +kernel, by decide +kernel⟩
theorem sc_l_told : FnScope ["_law_text", "e"] ["_law_text"] (defScope s_l_told) := ⟨rfl, rfl, rfl, by decide +kernel, rfl, by decide +kernel, by decide +kernel⟩
theorem sc_law : FnScope ["_law_script", "_law_pool_here", "_law_run", "_law_text", "_law_listed", "_law_k", "_law_other", "_law_pair", "_law_question", "_law_answer"] ["_law_script"] (defScope s_law) := ⟨rfl, rfl, rfl, by decide +kernel, rfl, by decide +kernel, by decide +kernel⟩
theorem sc_BadLine_init : FnScope ["self", "line"] ["self", "line"] (defScope s_BadLine_init) := ⟨rfl, rfl, rfl, by decide +kernel, rfl, by decide +kernel, by decide +kernel⟩
theorem xi_BadLine {K : PySem.W.Frag} {mg : Str → Option Value} (T : Tx K mg) : Exc1 K (cm K 26) (He.fAd K ("BadLine", some "__init__")) "line" := ⟨oexB_ok T.xb_BadLine, T.xj_BadLine, T.xt_BadLine, T.xn_BadLine⟩
theorem xo_BadLine {P : Program} {w : World} {K : PySem.W.Frag} {mg : Str → Option Value} {base : Heap} (T : Tx K mg) : InitOk P w K mg base (cm K 26) (He.fAd K ("BadLine", some "__init__")) "line" 1 :=
  init1_ok' T.f_BadLine_init sc_BadLine_init (xi_BadLine T) (fun _ _ _ _ _ _ => pss_one (ps_ost (pvx 0) (pvx 1))) (fun fd F => FunD.bindsN (ps := ["self", "line"]) F fun _ _ _ _ _ _ us hl => match us, hl with | [_, _], _ => rfl)
theorem xm_BadLine_ok {K : PySem.W.Frag} {mg : Str → Option Value} (T : Tx K mg) : ∀ c b, xm_BadLine c = some b → PySem.W.exmOne K (xv K c) (.ref (cm K 26)) = some b := by
  intro c b e
  unfold xm_BadLine at e
  split at e
  · cases e; exact T.ek_BadLine_BadLine
  · cases e
section
variable {P : Program} {w : World} {K : PySem.W.Frag} {mg : Str → Option Value} {base : Heap} {TB : List (Addr × Str)} {lm : Option Addr} {li : Option LI}
theorem ok_l_draw (T : Tx K mg) : DefOk P w K mg base ⟨K, cm K, w, TB, lm, li⟩ (xv K) (He.fAd K ("_law_draw", none)) 1 2 fn_l_draw := by
  obtain ⟨fd, F⟩ := T.f_l_draw
  exact DefOk.gc (def_ok (k := 0) (N := ["_law_pool_here", "_law_limit", "_law_mixed", "_law_cell", "_law_digit"]) F sc_l_draw (fun _ _ _ _ _ _ us hl => match us, hl with | [_, _], _ => rfl) fun cdv A outer s H E hr c =>
    (dss_cons (ds_asg (de_op (o_addD c.kk) (de_ix c (de_var 0) de_int) de_int) (dg_ix c (de_var 0) de_int))
    (dss_cons (ds_if (PW.pt (dw_and (dt_cmp (o_eq c.kk hr.units) (de_ix c (de_var 0) de_int) de_int) (dw_and1 (dt_cmp o_lt (de_ix c (de_var 0) de_int) (de_callB (c_len c.kk) PySem.boot_len T.b_len (da_cons (de_ix c (de_var 0) de_int) da_nil))))))
    (dss_cons (ds_set (i := 3) c (de_callB c_abs boot_abs T.b_abs (da_cons (de_ix c (de_ix c (de_var 0) de_int) (de_ix c (de_var 0) de_int)) da_nil)))
    (dss_cons (ds_asg (de_op (o_addD c.kk) (de_ix c (de_var 0) de_int) de_int) (dg_ix c (de_var 0) de_int))
    (dss_one (ds_if (dt_cmp o_ge (de_var 3) (de_op o_pow de_int de_int))
    (dss_one (ds_asg (de_var 3) (dg_ix c (de_var 0) de_int)))
    (dss_one (ds_asg (de_op o_mod (de_callTy c_int boot_int T.b_int (da_cons (de_op o_mulD (de_op (o_addD c.kk) (de_op (o_addD c.kk) (de_ix c (de_var 0) de_int) (de_var 3)) de_int) de_int) da_nil)) de_int) (dg_ix c (de_var 0) de_int)))))))
    dss_nil)
    (dss_cons (ds_if (dt_cmp o_gt (de_ix c (de_var 0) de_int) de_int)
    (dss_cons (ds_set (i := 4) c (de_op o_mod (de_callTy c_int boot_int T.b_int (da_cons (de_ix c (de_var 0) de_int) da_nil)) (de_var 1)))
    (dss_cons (ds_asg (de_op o_div (de_ix c (de_var 0) de_int) (de_var 1)) (dg_ix c (de_var 0) de_int))
    (dss_one (ds_ret (de_var 4)))))
    dss_nil)
    (dss_cons (ds_set (i := 2) c (de_op o_mod (de_callTy c_int boot_int T.b_int (da_cons (de_op o_pow (de_op (o_addD c.kk) (de_ix c (de_var 0) de_int) (de_op o_mulD (de_ix c (de_var 0) de_int) de_int)) de_int) da_nil)) de_int))
    (dss_one (ds_ret (de_op o_mod (de_callTy c_int boot_int T.b_int (da_cons (de_op o_div (de_var 2) de_int) da_nil)) (de_var 1)))))))))
theorem ok_l_due (T : Tx K mg) : DefOk P w K mg base ⟨K, cm K, w, TB, lm, li⟩ (xv K) (He.fAd K ("_law_due", none)) 1 1 fn_l_due_10 := by
  obtain ⟨fd, F⟩ := T.f_l_due
  exact DefOk.gc (def_ok (k := 0) (N := ["_law_text", "_law_words", "_law_run", "_law_word", "_law_number"]) F sc_l_due (fun _ _ _ _ _ _ us hl => match us, hl with | [_], _ => rfl) fun cdv A outer s H E hr c =>
    (dss_cons (ds_if (dt_cmp (o_eq c.kk hr.units) (de_var 0) de_str)
    (dss_one (ds_ret (de_tup da_nil)))
    dss_nil)
    (dss_cons (ds_setLcG (i := 1) (own := [("_law_number", 4)]) (g := (.nm 4)) (wi := toI ⟨K, cm K, w, TB, lm, li⟩ (xv K) _ _) c (di_range1 (da_cons de_int da_nil) T.b_range) (by kernel_rfl) (fun _ _ _ _ _ c1 => (pg_name (i := 4) c1.nd rfl (by first | exact Or.inl rfl | exact Or.inr rfl))) (fun _ _ _ _ _ c1 => dts_nil) (fun _ _ _ _ _ c1 => (de_callTy c_str boot_str T.b_str (da_cons (de_var 4) da_nil))) lc_v (sw_true rfl rfl rfl (by decide +kernel)))
    (dss_cons (ds_set (i := 2) c (de_newL da_nil))
    (dss_cons (ds_for c (di_seq c (de_split (de_var 0) de_str)) (dg_name (i := 3) c)
    (dss_cons (ds_if (PW.pt (dw_or (dt_cmp (o_notIn c.kk hr.units) (de_slS (de_var 3) do_none (do_some (de_neg de_int))) (de_var 1)) (dw_or1 (dt_cmp (o_notIn c.kk hr.units) (de_slS (de_var 3) (do_some (de_neg de_int)) do_none) (de_lst (da_cons de_str (da_cons de_str da_nil)))))))
    (dss_one (ds_ret (de_tup (da_cons de_str (da_cons de_int da_nil)))))
    dss_nil)
    (dss_one (ds_expr (de_mtL c PySem.F.slot_list_append PySem.F.type_list_append m_append (de_var 2) (da_cons (de_tup (da_cons (de_mtL c PySem.F.slot_list_index PySem.F.type_list_index (m_index c.kk) (de_var 1) (da_cons (de_slS (de_var 3) do_none (do_some (de_neg de_int))) da_nil)) (da_cons (de_callTy c_int boot_int T.b_int (da_cons (de_cmp (o_eq c.kk hr.units) (de_slS (de_var 3) (do_some (de_neg de_int)) do_none) de_str) da_nil)) da_nil))) da_nil))))))
    (dss_one (ds_ret (de_callTy (c_tuple c.kk) boot_tuple T.b_tuple (da_cons (de_var 2) da_nil)))))))))
theorem ok_l_pool (T : Tx K mg) : DefOk P w K mg base ⟨K, cm K, w, TB, lm, li⟩ (xv K) (He.fAd K ("_law_pool", none)) 1 1 fn_l_pool := by
  obtain ⟨fd, F⟩ := T.f_l_pool
  exact DefOk.mono (def_ok (k := 0) (N := ["_law_script"]) F sc_l_pool (fun _ _ _ _ _ _ us hl => match us, hl with | [_], _ => rfl) fun cdv A outer s H E hr c =>
    (dss_one (ds_ret (de_newL (da_cons (de_var 0) (da_cons de_int (da_cons de_int (da_cons de_int (da_cons de_int da_nil))))))))) (Nat.le_refl _)
theorem ok_write_run (T : Tx K mg) : DefOk P w K mg base ⟨K, cm K, w, TB, lm, li⟩ (xv K) (He.fAd K ("write_run", none)) 1 1 fn_write_run := by
  obtain ⟨fd, F⟩ := T.f_write_run
  exact DefOk.gc (def_ok (k := 0) (N := ["run", "question", "answer"]) F sc_write_run (fun _ _ _ _ _ _ us hl => match us, hl with | [_], _ => rfl) fun cdv A outer s H E hr c =>
    (dss_one (ds_ret (de_join c de_str (de_lcG (own := [("answer", 2), ("question", 1)]) (g := (.sq [1, 2])) (wi := tOr (toI ⟨K, cm K, w, TB, lm, li⟩ (xv K) _ _) (toIR ⟨K, cm K, w, TB, lm, li⟩ (xv K) _ _)) c (di_a c (de_var 0)) (by kernel_rfl) (fun _ _ _ _ _ c1 => (PG.either (pg_tup (n := 2) c1.calm (pgs_cons (pg_name (i := 1) c1.nd rfl (by first | exact Or.inl rfl | exact Or.inr rfl)) (pgs_cons (pg_name (i := 2) c1.nd rfl (by first | exact Or.inl rfl | exact Or.inr rfl)) pgs_nil))) (pg_unl (n := 2) c1.calm (pgs_cons (pg_name (i := 1) c1.nd rfl (by first | exact Or.inl rfl | exact Or.inr rfl)) (pgs_cons (pg_name (i := 2) c1.nd rfl (by first | exact Or.inl rfl | exact Or.inr rfl)) pgs_nil))))) (fun _ _ _ _ _ c1 => dts_nil) (fun _ _ _ _ _ c1 => (de_joined (.cons (de_fmt (de_var 1)) (.cons (de_fmt (de_if (dt_truth c1 (de_var 2)) de_str de_str)) .nil)))) lc_a)))))
theorem ok_plain_number (T : Tx K mg) : DefOk P w K mg base ⟨K, cm K, w, TB, lm, li⟩ (xv K) (He.fAd K ("plain_number", none)) 1 1 fn_plain_number := by
  obtain ⟨fd, F⟩ := T.f_plain_number
  exact DefOk.gc (def_ok (k := 0) (N := ["word", "sign"]) F sc_plain_number (fun _ _ _ _ _ _ us hl => match us, hl with | [_], _ => rfl) fun cdv A outer s H E hr c =>
    (dss_cons (ds_if (PW.pt (dw_or (dt_not (dt_chain o_le o_le de_int (de_callB (c_len c.kk) PySem.boot_len T.b_len (da_cons (de_var 0) da_nil)) (de_gint T.k_MOST_DIGITS))) (dw_or1 (dt_not (dt_truth c (de_callB (c_all c.kk c.calm) boot_all T.b_all (da_cons (de_lcG (own := [("sign", 1)]) (g := (.nm 1)) (wi := toI ⟨K, cm K, w, TB, lm, li⟩ (xv K) _ _) c (di_seqS (de_var 0)) (by kernel_rfl) (fun _ _ _ _ _ c1 => (pg_name (i := 1) c1.nd rfl (by first | exact Or.inl rfl | exact Or.inr rfl))) (fun _ _ _ _ _ c1 => dts_nil) (fun _ _ _ _ _ c1 => (de_cmp o_inS (de_var 1) (de_gstr T.k_DIGITS))) lc_v) da_nil)))))))
    (dss_one (ds_ret de_non))
    dss_nil)
    (dss_cons (ds_if (PW.pt (dw_and (dt_cmp (o_eq c.kk hr.units) (de_ixS (de_var 0) de_int) de_str) (dw_and1 (dt_cmp (o_ne c.kk hr.units) (de_var 0) de_str))))
    (dss_one (ds_ret de_non))
    dss_nil)
    (dss_one (ds_ret (de_callTy c_intS boot_int T.b_int (da_cons (de_var 0) da_nil)))))))
theorem ok_l_changed (T : Tx K mg) : DefOk P w K mg base ⟨K, cm K, w, TB, lm, li⟩ (xv K) (He.fAd K ("_law_changed", none)) 2 2 fn_l_changed := by
  obtain ⟨fd, F⟩ := T.f_l_changed
  exact DefOk.gc (def_ok (k := 1) (N := ["_law_pool_here", "_law_text", "_law_sign", "_law_at", "_law_way"]) F sc_l_changed (fun _ _ _ _ _ _ us hl => match us, hl with | [_, _], _ => rfl) fun cdv A outer s H E hr c =>
    (dss_cons (ds_set (i := 2) c (de_ixS de_str (de_call c (ok_l_draw T) T.g_l_draw (hr.mono (by decide)) (da_cons (de_var 0) (da_cons de_int da_nil)) (hlen := (dCons_len (dCons_len dNil_len))))))
    (dss_cons (ds_set (i := 3) c (de_call c (ok_l_draw T) T.g_l_draw (hr.mono (by decide)) (da_cons (de_var 0) (da_cons (de_op (o_addD c.kk) (de_callB (c_len c.kk) PySem.boot_len T.b_len (da_cons (de_var 1) da_nil)) de_int) da_nil)) (hlen := (dCons_len (dCons_len dNil_len)))))
    (dss_cons (ds_set (i := 4) c (de_call c (ok_l_draw T) T.g_l_draw (hr.mono (by decide)) (da_cons (de_var 0) (da_cons de_int da_nil)) (hlen := (dCons_len (dCons_len dNil_len)))))
    (dss_cons (ds_if (dt_cmp (o_eq c.kk hr.units) (de_var 4) de_int)
    (dss_one (ds_ret (de_op (o_addD c.kk) (de_op (o_addD c.kk) (de_slS (de_var 1) do_none (do_some (de_var 3))) (de_var 2)) (de_slS (de_var 1) (do_some (de_var 3)) do_none))))
    dss_nil)
    (dss_cons (ds_if (dt_cmp (o_eq c.kk hr.units) (de_var 4) de_int)
    (dss_one (ds_ret (de_op (o_addD c.kk) (de_slS (de_var 1) do_none (do_some (de_var 3))) (de_slS (de_var 1) (do_some (de_op (o_addD c.kk) (de_var 3) de_int)) do_none))))
    dss_nil)
    (dss_cons (ds_if (dt_cmp (o_eq c.kk hr.units) (de_var 4) de_int)
    (dss_one (ds_ret (de_op (o_addD c.kk) (de_op (o_addD c.kk) (de_slS (de_var 1) do_none (do_some (de_var 3))) (de_var 2)) (de_slS (de_var 1) (do_some (de_op (o_addD c.kk) (de_var 3) de_int)) do_none))))
    dss_nil)
    (dss_one (ds_ret (de_var 1))))))))))
theorem ok_read_run (T : Tx K mg) : DefOk P w K mg base ⟨K, cm K, w, TB, lm, li⟩ (xv K) (He.fAd K ("read_run", none)) 3 1 fn_read_run := by
  obtain ⟨fd, F⟩ := T.f_read_run
  exact DefOk.gc (def_ok (k := 2) (N := ["text", "run", "word", "question"]) F sc_read_run (fun _ _ _ _ _ _ us hl => match us, hl with | [_], _ => rfl) fun cdv A outer s H E hr c =>
    (dss_cons (ds_if (dt_cmp (o_eq c.kk hr.units) (de_var 0) de_str)
    (dss_one (ds_ret (de_tup da_nil)))
    dss_nil)
    (dss_cons (ds_set (i := 1) c (de_newL da_nil))
    (dss_cons (ds_for c (di_seq c (de_split (de_var 0) de_str)) (dg_name (i := 2) c)
    (dss_cons (ds_set (i := 3) c (de_call c (ok_plain_number T) T.g_plain_number (hr.mono (by decide)) (da_cons (de_slS (de_var 2) do_none (do_some (de_neg de_int))) da_nil) (hlen := (dCons_len dNil_len))))
    (dss_cons (ds_if (PW.pt (dw_or (dt_isNone (de_var 3)) (dw_or (dt_cmp o_ge (de_var 3) (de_gint T.k_QUESTIONS)) (dw_or1 (dt_cmp o_notInS (de_ixS (de_var 2) (de_neg de_int)) de_str)))))
    (dss_one (ds_raise1 c (xi_BadLine T) (xo_BadLine T) (hr.mono (by decide)) T.g_BadLine rfl de_int))
    dss_nil)
    (dss_one (ds_expr (de_mtL c PySem.F.slot_list_append PySem.F.type_list_append m_append (de_var 1) (da_cons (de_tup (da_cons (de_var 3) (da_cons (de_callTy c_int boot_int T.b_int (da_cons (de_cmp (o_eq c.kk hr.units) (de_ixS (de_var 2) (de_neg de_int)) de_str) da_nil)) da_nil))) da_nil)))))))
    (dss_one (ds_ret (de_callTy (c_tuple c.kk) boot_tuple T.b_tuple (da_cons (de_var 1) da_nil))))))))
theorem ok_l_told (T : Tx K mg) : DefOk P w K mg base ⟨K, cm K, w, TB, lm, li⟩ (xv K) (He.fAd K ("_law_told", none)) 4 1 fn_l_told_8 := by
  obtain ⟨fd, F⟩ := T.f_l_told
  exact DefOk.gc (def_ok (k := 3) (N := ["_law_text", "e"]) F sc_l_told (fun _ _ _ _ _ _ us hl => match us, hl with | [_], _ => rfl) fun cdv A outer s H E hr c =>
    (dss_one (ds_try1 (i := 1) c rfl rfl ⟨rfl, by decide, .inl T.g_BadLine⟩ (xm_BadLine_ok T) (fun _ _ _ c => (dss_one (ds_ret (de_call c (ok_read_run T) T.g_read_run (hr.mono (by decide)) (da_cons (de_var 0) da_nil) (hlen := (dCons_len dNil_len)))))) (fun a oe cls d pn hz hf => (pss_one (xs_ret (xe_tup (xa_cons (xe_of de_str) (xa_cons (xe_fld hz hf (fun _ => rfl) (List.forall_mem_cons.mpr ⟨⟨xfB_ok T.xf_BadLine, T.xn_BadLine⟩, fun c hc => (List.not_mem_nil hc).elim⟩) (pvx 1)) xa_nil)))))))))
theorem ok_law (T : Tx K mg) {fd : FuncData} (F : FunD K "law" "law" (defArgs s_law) (defBody s_law) (defScope s_law) [] [] (He.fAd K ("law", none)) fd) : FnOk P w K mg base (L2.CX P w) 5 (He.fAd K ("law", none)) fd ["_law_script"] (spF ⟨K, cm K, w, TB, lm, li⟩ (xv K) 1 fn_law_61) :=
  fn_ok (k := 4) (N := ["_law_script", "_law_pool_here", "_law_run", "_law_text", "_law_listed", "_law_k", "_law_other", "_law_pair", "_law_question", "_law_answer"]) F sc_law fun cdv A outer s H E hr c =>
    (dss_cons (ds_set (i := 1) c (de_call c (ok_l_pool T) T.g_l_pool (hr.mono (by decide)) (da_cons (de_var 0) da_nil) (hlen := (dCons_len dNil_len))))
    (dss_cons (ds_setLcG (i := 2) (own := [("_law_k", 5)]) (g := (.nm 5)) (wi := toI ⟨K, cm K, w, TB, lm, li⟩ (xv K) _ _) c (di_range1 (da_cons (de_call c (ok_l_draw T) T.g_l_draw (hr.mono (by decide)) (da_cons (de_var 1) (da_cons de_int da_nil)) (hlen := (dCons_len (dCons_len dNil_len)))) da_nil) T.b_range) (by kernel_rfl) (fun _ _ _ _ _ c1 => (pg_name (i := 5) c1.nd rfl (by first | exact Or.inl rfl | exact Or.inr rfl))) (fun _ _ _ _ _ c1 => dts_nil) (fun _ _ _ _ _ c1 => (de_tup (da_cons (de_call c1 (ok_l_draw T) T.g_l_draw (hr.mono (by decide)) (da_cons (de_var 1) (da_cons de_int da_nil)) (hlen := (dCons_len (dCons_len dNil_len)))) (da_cons (de_call c1 (ok_l_draw T) T.g_l_draw (hr.mono (by decide)) (da_cons (de_var 1) (da_cons de_int da_nil)) (hlen := (dCons_len (dCons_len dNil_len)))) da_nil)))) lc_v (sw_true rfl rfl rfl (by decide +kernel)))
    (dss_cons (ds_set (i := 3) c (de_join c de_str (de_lcG (own := [("_law_answer", 9), ("_law_question", 8)]) (g := (.tp [8, 9])) (wi := toI ⟨K, cm K, w, TB, lm, li⟩ (xv K) _ _) c (di_seq c (de_var 2)) (by kernel_rfl) (fun _ _ _ _ _ c2 => (pg_tup (n := 2) c2.calm (pgs_cons (pg_name (i := 8) c2.nd rfl (by first | exact Or.inl rfl | exact Or.inr rfl)) (pgs_cons (pg_name (i := 9) c2.nd rfl (by first | exact Or.inl rfl | exact Or.inr rfl)) pgs_nil)))) (fun _ _ _ _ _ c2 => dts_nil) (fun _ _ _ _ _ c2 => (de_op (o_addD c2.kk) (de_callTy c_str boot_str T.b_str (da_cons (de_var 8) da_nil)) (de_ixS de_str (de_var 9)))) lc_v)))
    (dss_cons (ds_setLcG (i := 4) (own := [("_law_pair", 7)]) (g := (.nm 7)) (wi := toI ⟨K, cm K, w, TB, lm, li⟩ (xv K) _ _) c (di_seq c (de_var 2)) (by kernel_rfl) (fun _ _ _ _ _ c3 => (pg_name (i := 7) c3.nd rfl (by first | exact Or.inl rfl | exact Or.inr rfl))) (fun _ _ _ _ _ c3 => dts_nil) (fun _ _ _ _ _ c3 => (de_callTy (c_list c3.kk) boot_list T.b_list (da_cons (de_var 7) da_nil))) lc_v (sw_true rfl rfl rfl (by decide +kernel)))
    (dss_cons (ds_if (PW.pt (dw_or (dt_cmp (o_ne c.kk hr.units) (de_call c (ok_write_run T) T.g_write_run (hr.mono (by decide)) (da_cons (de_callTy (c_tuple c.kk) boot_tuple T.b_tuple (da_cons (de_var 2) da_nil)) da_nil) (hlen := (dCons_len dNil_len))) (de_var 3)) (dw_or (dt_cmp (o_ne c.kk hr.units) (de_call c (ok_write_run T) T.g_write_run (hr.mono (by decide)) (da_cons (de_var 4) da_nil) (hlen := (dCons_len dNil_len))) (de_var 3)) (dw_or1 (dt_cmp (o_ne c.kk hr.units) (de_var 4) (de_lcG (own := [("_law_pair", 7)]) (g := (.nm 7)) (wi := toI ⟨K, cm K, w, TB, lm, li⟩ (xv K) _ _) c (di_seq c (de_var 2)) (by kernel_rfl) (fun _ _ _ _ _ c4 => (pg_name (i := 7) c4.nd rfl (by first | exact Or.inl rfl | exact Or.inr rfl))) (fun _ _ _ _ _ c4 => dts_nil) (fun _ _ _ _ _ c4 => (de_callTy (c_list c4.kk) boot_list T.b_list (da_cons (de_var 7) da_nil))) lc_v))))))
    (dss_one (ds_ret de_bl))
    dss_nil)
    (dss_cons (ds_if (dt_cmp (o_ne c.kk hr.units) (de_call c (ok_l_told T) T.g_l_told (hr.mono (by decide)) (da_cons (de_var 3) da_nil) (hlen := (dCons_len dNil_len))) (de_callTy (c_tuple c.kk) boot_tuple T.b_tuple (da_cons (de_var 2) da_nil)))
    (dss_one (ds_ret de_bl))
    dss_nil)
    (dss_cons (ds_for c (di_range1 (da_cons de_int da_nil) T.b_range) (dg_name (i := 5) c)
    (dss_cons (ds_set (i := 6) c (de_call c (ok_l_changed T) T.g_l_changed (hr.mono (by decide)) (da_cons (de_var 1) (da_cons (de_var 3) da_nil)) (hlen := (dCons_len (dCons_len dNil_len)))))
    (dss_cons (ds_if (dt_cmp (o_eq c.kk hr.units) (de_call c (ok_l_draw T) T.g_l_draw (hr.mono (by decide)) (da_cons (de_var 1) (da_cons de_int da_nil)) (hlen := (dCons_len (dCons_len dNil_len)))) de_int)
    (dss_one (ds_set (i := 6) c (de_call c (ok_l_changed T) T.g_l_changed (hr.mono (by decide)) (da_cons (de_var 1) (da_cons (de_var 6) da_nil)) (hlen := (dCons_len (dCons_len dNil_len))))))
    dss_nil)
    (dss_one (ds_if (dt_cmp (o_ne c.kk hr.units) (de_call c (ok_l_told T) T.g_l_told (hr.mono (by decide)) (da_cons (de_var 6) da_nil) (hlen := (dCons_len dNil_len))) (de_call c (ok_l_due T) T.g_l_due (hr.mono (by decide)) (da_cons (de_var 6) da_nil) (hlen := (dCons_len dNil_len))))
    (dss_one (ds_ret de_bl))
    dss_nil)))))
    (dss_cons (ds_for c (di_seq c (de_lst (da_cons de_str (da_cons de_str (da_cons de_str (da_cons de_str (da_cons de_str (da_cons de_str (da_cons de_str (da_cons de_str (da_cons de_str (da_cons (de_op (o_addD c.kk) (de_op o_repS de_str de_int) de_str) da_nil)))))))))))) (dg_name (i := 6) c)
    (dss_one (ds_if (dt_cmp (o_ne c.kk hr.units) (de_call c (ok_l_told T) T.g_l_told (hr.mono (by decide)) (da_cons (de_var 6) da_nil) (hlen := (dCons_len dNil_len))) (de_tup (da_cons de_str (da_cons de_int da_nil))))
    (dss_one (ds_ret de_bl))
    dss_nil)))
    (dss_one (ds_ret (de_andT c (de_cmp (o_eq c.kk hr.units) (de_call c (ok_write_run T) T.g_write_run (hr.mono (by decide)) (da_cons (de_tup da_nil) da_nil) (hlen := (dCons_len dNil_len))) de_str) (de_one (de_cmp (o_eq c.kk hr.units) (de_call c (ok_read_run T) T.g_read_run (hr.mono (by decide)) (da_cons de_str da_nil) (hlen := (dCons_len dNil_len))) (de_tup da_nil))))))))))))))
end
theorem law_ok {l : PySem.W.OpenLaw} {w : World} {K : PySem.W.Frag} {mg : Str → Option Value} {h : Heap} (T : Tx K mg) (hl : ∀ ns : List Int, ns.length ≤ 63 → (∀ z ∈ ns, Builtin.Int.intBits z ≤ 1048576) → ∃ S', fn_law_61 [.scr (ns.map W.int)] [] = .ok (.bl true) S') : LamX.LawAtS l w K (L2.CX l.prog w) 5 63 "_law_script" mg (He.fAd K ("law", none)) h := by
  obtain ⟨fd, F⟩ := T.f_law
  have b := FunD.bindsA (ps := ["_law_script"]) F fun _ _ _ _ _ _ us hl => match us, hl with | [_], _ => rfl
  exact law_at (cm := cm K) (xv := xv K) (fn := fn_law_61) ⟨fd, fun s u => b s [u] rfl, fun base h1 h2 => ok_law T F⟩ hl
end Zk74
namespace Zk74
open PySem PySem.Spec PyProof.Rows L2 DD U SP
section
variable {S : Sto}
/-- the drawn run -/
theorem run_ok {P : O} {k n : Nat} (hP : Pol k P) (hk : k ≤ 1000) (hn : n ≤ 10) (t0 : Lo) (ht : ∀ w, dVar 1 (t0.set 5 (some w)) = fun X => .ok (.ref 0) X) :
    ∃ (l : List (Nat × Bool)) (P' : O), lcL (.nm 5) dYes (dTup (dCons (dCall fn_l_draw (dCons (dVar 1) (dCons (dC (.int 48)) dNil))) (dCons (dCall fn_l_draw (dCons (dVar 1) (dCons (dC (.int 2)) dNil))) dNil))) t0 (DD.intsFrom 0 n) [] (P :: S) = .ok (.lst (l.map prW74)) (P' :: S) ∧ (∀ p ∈ l, p.1 < 48) ∧ l.length = n ∧ Pol (k + 2 * n) P' := by
  obtain ⟨acc, S', e, ⟨l, P', rfl, rfl, hl, hP'⟩, hlen⟩ := lcL_inv (g := .nm 5) (te := dTup (dCons (dCall fn_l_draw (dCons (dVar 1) (dCons (dC (.int 48)) dNil))) (dCons (dCall fn_l_draw (dCons (dVar 1) (dCons (dC (.int 2)) dNil))) dNil))) (t0 := t0) (DD.intsFrom 0 n)
    (fun i acc X => ∃ (l : List (Nat × Bool)) (P' : O), acc = l.map prW74 ∧ X = P' :: S ∧ (∀ p ∈ l, p.1 < 48) ∧ Pol (k + 2 * i) P') (by rw [intsFrom_length]; omega)
    (fun i w acc X hw ⟨l, P', ha, hX, hl, hP'⟩ => by
      subst ha hX
      have hi : i < n := by have := (List.getElem?_eq_some_iff.mp hw).1; rw [intsFrom_length] at this; exact this
      have hv := ht w
      generalize ht1 : t0.set 5 (some w) = t1 at hv
      generalize hy : dTup (dCons (dCall fn_l_draw (dCons (dVar 1) (dCons (dC (.int 48)) dNil))) (dCons (dCall fn_l_draw (dCons (dVar 1) (dCons (dC (.int 2)) dNil))) dNil)) t1 (P' :: S) = y
      have hy0 := hy
      simp -implicitDefEqProofs [hv] at hy
      generalize hd__ : U.fn_l_draw _ _ = d__ at hy
      have hs__ := SP.at2 hd__ ((draw_ok hP') (by first | omega | with_reducible assumption | (simp; done) | (simp; omega) | rfl) (by first | omega | with_reducible assumption | (simp; done) | (simp; omega) | rfl) (by first | omega | with_reducible assumption | (simp; done) | (simp; omega) | rfl))
      obtain ⟨a, P1, e1, a0, a1, hP1⟩ := hs__
      subst e1
      simp -implicitDefEqProofs [hv] at hy
      generalize hd__ : U.fn_l_draw _ _ = d__ at hy
      have hs__ := SP.at2 hd__ ((draw_ok hP1) (by first | omega | with_reducible assumption | (simp; done) | (simp; omega) | rfl) (by first | omega | with_reducible assumption | (simp; done) | (simp; omega) | rfl) (by first | omega | with_reducible assumption | (simp; done) | (simp; omega) | rfl))
      obtain ⟨b, P2, e2, b0, b1, hP2⟩ := hs__
      subst e2
      simp -implicitDefEqProofs [sizeLine_eq] at hy
      have ea : a = ((a.toNat : Nat) : Int) := by omega
      have eb : b = bT (decide (b = 1)) := by
        by_cases h : b = 1
        · rw [h]; rfl
        · rw [decide_eq_false h]
          show b = 0
          omega
      refine ⟨t1, prW74 (a.toNat, decide (b = 1)), P2 :: S, by rw [← ht1]; rfl, ?_, l ++ [(a.toNat, decide (b = 1))], P2, by simp, rfl, fun p hp => ?_, hP2.mono (by omega)⟩
      · rw [← hy] at hy0
        rw [hy0]
        unfold prW74
        simp only []
        rw [← ea, ← eb]
      · rcases List.mem_append.mp hp with h | h
        · exact hl p h
        · simp at h; subst h; simp; omega)
    (S := P :: S) ⟨[], P, rfl, rfl, by simp, by simpa using hP⟩
  exact ⟨l, P', e, hl, by rw [intsFrom_length, List.length_map] at hlen; exact hlen, by rw [intsFrom_length] at hP'; exact hP'⟩
/-- a turn with a changed text -/
theorem turn_l0 {P : O} {k : Nat} {x : Str} {s w2 w4 w6 w7 w8 w9 : Option W} {w : W} (hP : Pol k P) (hk : k ≤ 10000) (hx : PyData.strOk x = true) (hl : x.length ≤ 1000) :
    ∃ (P' : O) (y : Option W), turn (gN 5) b_law_61_l0 w [s, some (.ref 0), w2, some (.str x), w4, w5, w6, w7, w8, w9] (P :: S) = .nx [s, some (.ref 0), w2, some (.str x), w4, some w, y, w7, w8, w9] (P' :: S) ∧ Pol (k + 7) P' := by
  generalize hu : turn _ _ _ _ _ = v
  rw [turnX_] at hu
  simp only [List.set_cons_succ, List.set_cons_zero] at hu
  unfold b_law_61_l0 at hu
  simp -implicitDefEqProofs [] at hu
  generalize hd__ : U.fn_l_changed _ _ = d__ at hu
  have hs__ := SP.at2 hd__ ((changed_ok hP (by omega) hx (by omega)))
  obtain ⟨x1, P1, e1, o1, l1, hP1⟩ := hs__
  subst e1
  simp -implicitDefEqProofs [] at hu
  generalize hd__ : U.fn_l_draw _ _ = d__ at hu
  have hs__ := SP.at2 hd__ ((draw_ok hP1) (by first | omega | with_reducible assumption | (simp; done) | (simp; omega) | rfl) (by first | omega | with_reducible assumption | (simp; done) | (simp; omega) | rfl) (by first | omega | with_reducible assumption | (simp; done) | (simp; omega) | rfl))
  obtain ⟨a, P2, e2, a0, a1, hP2⟩ := hs__
  subst e2
  simp -implicitDefEqProofs [] at hu
  by_cases ha : a = 1
  · simp -implicitDefEqProofs [ha] at hu
    generalize hd__ : U.fn_l_changed _ _ = d__ at hu
    have hs__ := SP.at2 hd__ ((changed_ok hP2 (by omega) o1 (by omega)))
    obtain ⟨x2, P3, e3, o2, l2, hP3⟩ := hs__
    subst e3
    have t8 := told8_ok (S := P3 :: S) o2 (by omega)
    have d10 := due10_ok (S := P3 :: S) o2 (by omega)
    have ne := ne_td (S := P3 :: S) x2
    generalize tdT x2 = T at t8 d10 ne
    simp -implicitDefEqProofs [t8, d10, ne] at hu
    exact ⟨P3, _, hu.symm, hP3.mono (by omega)⟩
  · have t8 := told8_ok (S := P2 :: S) o1 (by omega)
    have d10 := due10_ok (S := P2 :: S) o1 (by omega)
    have ne := ne_td (S := P2 :: S) x1
    generalize tdT x1 = T at t8 d10 ne
    simp -implicitDefEqProofs [ha, t8, d10, ne] at hu
    exact ⟨P2, _, hu.symm, hP2.mono (by omega)⟩
/-- a turn with a fixed text -/
theorem turn_l1 {x : Str} {s w1 w2 w3 w4 w5 w6 w7 w8 w9 : Option W} (hx : PyData.strOk x = true) (hl : x.length ≤ 6000) (hr : resP x = none) :
    turn (gN 6) b_law_61_l1 (.str x) [s, w1, w2, w3, w4, w5, w6, w7, w8, w9] S = .nx [s, w1, w2, w3, w4, w5, some (.str x), w7, w8, w9] S := by
  have t8 := told8_ok (S := S) hx hl
  have ne := ne_td (S := S) x
  have e : tdT x = .tup [.str "bad", .int 1] := by unfold tdT; rw [hr]
  rw [e] at t8 ne
  generalize hu : turn _ _ _ _ _ = v
  rw [turnX_] at hu
  simp only [List.set_cons_succ, List.set_cons_zero] at hu
  unfold b_law_61_l1 at hu
  simp -implicitDefEqProofs [t8, sizeLine_eq, ne] at hu
  exact hu.symm
theorem loop_l1 : ∀ (xs : List Str), (∀ x ∈ xs, PyData.strOk x = true ∧ x.length ≤ 6000 ∧ resP x = none) → ∀ (s w1 w2 w3 w4 w5 w6 w7 w8 w9 : Option W), ∃ y, forL (gN 6) b_law_61_l1 (xs.map W.str) [s, w1, w2, w3, w4, w5, w6, w7, w8, w9] S = .nx [s, w1, w2, w3, w4, w5, y, w7, w8, w9] S
  | [], _, s, w1, w2, w3, w4, w5, w6, w7, w8, w9 => ⟨w6, rfl⟩
  | x :: xs, h, s, w1, w2, w3, w4, w5, w6, w7, w8, w9 => by
    obtain ⟨h1, h2, h3⟩ := h x (List.mem_cons_self ..)
    rw [List.map_cons, forL_cons, turn_l1 h1 h2 h3]
    exact loop_l1 xs (fun y hy => h y (List.mem_cons_of_mem _ hy)) _ _ _ _ _ _ _ _ _ _
/-- the law's own text -/
theorem txt_law {l : List (Nat × Bool)} (hl : ∀ p ∈ l, p.1 < 48) (hn : l.length ≤ 1000) (s w1 w3 w4 w5 w6 w7 : Option W) :
    dJoinT (dC (.str " ")) (dLc (dSeqI (dVar 2)) (.tp [8, 9]) dYes (dOp addD (dBi strF (dCons (dVar 8) dNil)) (dOp ixS (dC (.str "-+")) (dVar 9))) [9, 8]) [s, w1, some (.lst (l.map prW74)), w3, w4, w5, w6, w7, none, none] S = .ok (.str (txS l)) S := by
  have lc : dLc (dSeqI (dVar 2)) (.tp [8, 9]) dYes (dOp addD (dBi strF (dCons (dVar 8) dNil)) (dOp ixS (dC (.str "-+")) (dVar 9))) [9, 8] [s, w1, some (.lst (l.map prW74)), w3, w4, w5, w6, w7, none, none] S = .ok (.lst ((l.map wrS).map W.str)) S := by
    unfold dLc
    have sq : dSeqI (dVar 2) [s, w1, some (.lst (l.map prW74)), w3, w4, w5, w6, w7, none, none] S = .ok (l.map prW74) S := rfl
    rw [sq, DD.R.bind_ok]
    have wp : wipeW [s, w1, some (.lst (l.map prW74)), w3, w4, w5, w6, w7, none, none] [9, 8] = [s, w1, some (.lst (l.map prW74)), w3, w4, w5, w6, w7, none, none] := rfl
    have := lc_enc (g := .tp [8, 9]) (tt := dYes) (te := dOp addD (dBi strF (dCons (dVar 8) dNil)) (dOp ixS (dC (.str "-+")) (dVar 9))) (t0 := [s, w1, some (.lst (l.map prW74)), w3, w4, w5, w6, w7, none, none]) (S := S) prW74 (fun _ => true) (fun p => W.str (wrS p)) l [] (by rw [List.length_nil]; omega) (fun p hp => ⟨[s, w1, some (.lst (l.map prW74)), w3, w4, w5, w6, w7, some (.int (p.1 : Nat)), some (.int (bT p.2))], rfl, rfl, fun _ => by
      have h1 := str_num (S := S) (hl p hp)
      have hm : ("-+" : Str).cps.toList = [45, 43] := by decide +kernel
      have hz : ("-+" : Str).length = 2 := by decide +kernel
      have ix : ixS (.str "-+") (.int (bT p.2)) S = .ok (.str (sgS p.2)) S := by
        simp only [ixS]
        rw [if_pos (by rw [sizeLine_eq, hz]; decide), hm]
        cases p.2 <;> rfl
      have ad : addD (.str (numS p.1)) (.str (sgS p.2)) S = .ok (.str (wrS p)) S := e_catSW (by
        have := numS_lt (hl p hp)
        have h4 : (sgS p.2).length = 1 := rfl
        omega)
      generalize hy : dOp addD _ _ _ S = y
      generalize wrS p = Q at ad ⊢
      generalize bT p.2 = B at ix hy
      generalize ((p.1 : Nat) : Int) = N at h1 hy
      simp -implicitDefEqProofs [h1, ix, ad] at hy
      exact hy.symm⟩)
    rw [List.filter_eq_self.mpr (fun _ _ => rfl), List.nil_append] at this
    rw [wp, this, List.map_map]; rfl
  unfold dJoinT
  have c : dC (.str " ") [s, w1, some (.lst (l.map prW74)), w3, w4, w5, w6, w7, none, none] S = .ok (.str " ") S := rfl
  rw [c, DD.R.bind_ok]
  simp only []
  rw [lc, DD.R.bind_ok]
  have ss := sum_wr hl
  simp only [seqL, strsOf_map]
  have h1 : (" " : Str).length = 1 := by decide +kernel
  rw [if_pos (by rw [List.length_map, h1]; omega)]
  rfl
def prL (p : Nat × Bool) : W := .lst [.int (p.1 : Nat), .int (bT p.2)]
theorem listed_ok {l : List (Nat × Bool)} (hn : l.length ≤ 1000) (s w1 w3 w4 w5 w6 w8 w9 : Option W) :
    dLc (dSeqI (dVar 2)) (.nm 7) dYes (dBi listF (dCons (dVar 7) dNil)) [7] [s, w1, some (.lst (l.map prW74)), w3, w4, w5, w6, none, w8, w9] S = .ok (.lst (l.map prL)) S := by
  unfold dLc
  have sq : dSeqI (dVar 2) [s, w1, some (.lst (l.map prW74)), w3, w4, w5, w6, none, w8, w9] S = .ok (l.map prW74) S := rfl
  rw [sq, DD.R.bind_ok]
  have wp : wipeW [s, w1, some (.lst (l.map prW74)), w3, w4, w5, w6, none, w8, w9] [7] = [s, w1, some (.lst (l.map prW74)), w3, w4, w5, w6, none, w8, w9] := rfl
  have := lc_enc (g := .nm 7) (tt := dYes) (te := dBi listF (dCons (dVar 7) dNil)) (t0 := [s, w1, some (.lst (l.map prW74)), w3, w4, w5, w6, none, w8, w9]) (S := S) prW74 (fun _ => true) prL l [] (by rw [List.length_nil]; omega) (fun p hp => ⟨[s, w1, some (.lst (l.map prW74)), w3, w4, w5, w6, some (prW74 p), w8, w9], rfl, rfl, fun _ => rfl⟩)
  rw [List.filter_eq_self.mpr (fun _ _ => rfl), List.nil_append] at this
  rw [wp, this]
theorem dat_L (l : List (Nat × Bool)) : dat dDep (.lst (l.map prL)) = true := by
  have e : dDep = 14 + 1 + 1 := rfl
  rw [e, dat, List.all_eq_true]
  intro w hw
  obtain ⟨p, _, rfl⟩ := List.mem_map.mp hw
  simp [prL, dat]
end
theorem law_true : ∀ ns : List Int, ns.length ≤ 63 → (∀ z ∈ ns, PySem.Builtin.Int.intBits z ≤ 1048576) → ∃ S', U.fn_law_61 [.scr (ns.map W.int)] [] = .ok (.bl true) S' := by
  intro ns hns _
  generalize hx : U.fn_law_61 _ _ = x
  unfold U.fn_law_61 at hx
  rw [dFn_eq] at hx
  generalize hy : U.b_law_61 _ _ = y at hx
  unfold U.b_law_61 at hy
  have po := pool_ok (ns := ns) (S := [])
  obtain ⟨P0, hP0⟩ : ∃ P, P = O.lst [.scr (ns.map W.int), .int 0, .int 0, .int 0, .int 7] := ⟨_, rfl⟩
  have hP := pol0 ns
  rw [← hP0] at po hP
  have e0 : ([] : Sto).length = 0 := rfl
  rw [e0, List.nil_append] at po
  simp -implicitDefEqProofs [po] at hy
  generalize hd__ : U.fn_l_draw _ _ = d__ at hy
  have hs__ := SP.at2 hd__ ((draw_ok hP) (by first | omega | with_reducible assumption | (simp; done) | (simp; omega) | rfl) (by first | omega | with_reducible assumption | (simp; done) | (simp; omega) | rfl) (by first | omega | with_reducible assumption | (simp; done) | (simp; omega) | rfl))
  obtain ⟨r1, P1, e1, r10, r11, hP1⟩ := hs__
  subst e1
  simp -implicitDefEqProofs [rgI (show -1000000 ≤ r1 by omega) (by omega)] at hy
  obtain ⟨l, P2, e2, hl, hln, hP2⟩ := run_ok (S := []) hP1 (n := r1.toNat) (by omega) (by omega) [some (W.scr (List.map W.int ns)), some (W.ref 0), none, none, none, none, none, none, none, none] (fun w => rfl)
  have hn : l.length ≤ 8 := by omega
  have hP2 := hP2.mono (k' := 100) (by omega)
  obtain ⟨dj, hdj⟩ : ∃ d, d = dJoinT (dC (.str " ")) (dLc (dSeqI (dVar 2)) (.tp [8, 9]) dYes (dOp addD (dBi strF (dCons (dVar 8) dNil)) (dOp ixS (dC (.str "-+")) (dVar 9))) [9, 8]) := ⟨_, rfl⟩
  obtain ⟨dl, hdl⟩ : ∃ d, d = dLc (dSeqI (dVar 2)) (.nm 7) dYes (dBi listF (dCons (dVar 7) dNil)) [7] := ⟨_, rfl⟩
  obtain ⟨f0, hf0⟩ : ∃ d, d = dFor (dRange1 (dCons (dC (.int 4)) dNil)) (gN 5) b_law_61_l0 := ⟨_, rfl⟩
  obtain ⟨f1, hf1⟩ : ∃ d, d = dFor (dSeqI (dLst (dCons (dC (.str " ")) (dCons (dC (.str "48+")) (dCons (dC (.str "047+")) (dCons (dC (.str "7")) (dCons (dC (.str "+")) (dCons (dC (.str "7+ ")) (dCons (dC (.str " 7+")) (dCons (dC (.str "7+  8-")) (dCons (dC (.str "7?")) (dCons (dOp addD (dOp repS (dC (.str "1")) (dC (.int 5000))) (dC (.str "+"))) dNil)))))))))))) (gN 6) b_law_61_l1 := ⟨_, rfl⟩
  rw [← hdj, ← hdl, ← hf0, ← hf1] at hy
  have oktx := ok_tx l
  have lntx := len_tx hl
  have tx := txt_law (S := [P2]) hl (by omega) (some (W.scr (List.map W.int ns))) (some (.ref 0)) none none none none none
  have li1 := listed_ok (S := [P2]) (l := l) (by omega) (some (W.scr (List.map W.int ns))) (some (.ref 0)) (some (.str (txS l))) none none none none none
  have li2 := listed_ok (S := [P2]) (l := l) (by omega) (some (W.scr (List.map W.int ns))) (some (.ref 0)) (some (.str (txS l))) (some (.lst (l.map prL))) none none none none
  rw [← hdj] at tx
  rw [← hdl] at li1 li2
  have wr1 : U.fn_write_run [.tup (l.map prW74)] [P2] = .ok (.str (txS l)) [P2] := write_ok (fun p => .inl rfl) (.inl rfl) hl (by omega)
  have wr2 : U.fn_write_run [.lst (l.map prL)] [P2] = .ok (.str (txS l)) [P2] := write_ok (e := prL) (fun p => .inr rfl) (.inr rfl) hl (by omega)
  have net := ne_str' (S := [P2]) oktx oktx
  rw [decide_eq_true rfl] at net
  have nel : neD (.lst (l.map prL)) (.lst (l.map prL)) [P2] = .ok (.bl false) [P2] := by
    rw [e_ne (dat_L l) (dat_L l), eqW_refl (dat_L l)]; rfl
  have t8 := told8_ok (S := [P2]) oktx (by omega)
  have ned := ne_td (S := [P2]) (txS l)
  have etd : tdT (txS l) = .tup (l.map prW74) := by unfold tdT; rw [res_tx hl]
  rw [etd] at t8 ned
  -- the loops
  obtain ⟨t3, X3, e3, P3, x5, x6, rfl, rfl, hP3⟩ := forL_inv (g := gN 5) (b := b_law_61_l0) (DD.intsFrom 0 4)
    (fun i t X => ∃ (P3 : O) (x5 x6 : Option W), t = [some (W.scr (List.map W.int ns)), some (.ref 0), some (.lst (l.map prW74)), some (.str (txS l)), some (.lst (l.map prL)), x5, x6, none, none, none] ∧ X = [P3] ∧ Pol (100 + 7 * i) P3)
    (fun i w t X hw ⟨P3, x5, x6, ht, hX, hP3⟩ => by
      subst ht hX
      obtain ⟨hi, rfl⟩ := intsFrom_mem hw
      obtain ⟨P4, y, e, hP4⟩ := turn_l0 (S := []) (s := some (W.scr (List.map W.int ns))) (w2 := some (.lst (l.map prW74))) (w4 := some (.lst (l.map prL))) (w5 := x5) (w6 := x6) (w7 := none) (w8 := none) (w9 := none) (w := .int (0 + i)) hP3 (by omega) oktx (by omega)
      exact ⟨_, _, .inl e, P4, _, _, rfl, rfl, hP4.mono (by omega)⟩)
    (t := [some (W.scr (List.map W.int ns)), some (.ref 0), some (.lst (l.map prW74)), some (.str (txS l)), some (.lst (l.map prL)), none, none, none, none, none]) (S := [P2]) ⟨P2, none, none, rfl, rfl, by simpa using hP2⟩
  have ef0 : f0 [some (W.scr (List.map W.int ns)), some (.ref 0), some (.lst (l.map prW74)), some (.str (txS l)), some (.lst (l.map prL)), none, none, none, none, none] [P2] = forL (gN 5) b_law_61_l0 (DD.intsFrom 0 4) [some (W.scr (List.map W.int ns)), some (.ref 0), some (.lst (l.map prW74)), some (.str (txS l)), some (.lst (l.map prL)), none, none, none, none, none] [P2] := by
    rw [hf0]; rfl
  rw [e3] at ef0
  obtain ⟨y6, e4⟩ := loop_l1 (S := [P3]) (fixS ++ [onesP]) (fun x hx => by
    rcases List.mem_append.mp hx with h | h
    · obtain ⟨h1, h2, h3⟩ := fix_bad x h
      exact ⟨h2, by omega, h1⟩
    · rw [List.mem_singleton.mp h]
      exact ⟨ok_onesP, by rw [len_onesP]; decide, ones_bad⟩) (some (W.scr (List.map W.int ns))) (some (.ref 0)) (some (.lst (l.map prW74))) (some (.str (txS l))) (some (.lst (l.map prL))) x5 x6 none none none
  have ef1 : f1 [some (W.scr (List.map W.int ns)), some (.ref 0), some (.lst (l.map prW74)), some (.str (txS l)), some (.lst (l.map prL)), x5, x6, none, none, none] [P3] = forL (gN 6) b_law_61_l1 ((fixS ++ [onesP]).map W.str) [some (W.scr (List.map W.int ns)), some (.ref 0), some (.lst (l.map prW74)), some (.str (txS l)), some (.lst (l.map prL)), x5, x6, none, none, none] [P3] := by
    have rp : repS (.str "1") (.int 5000) [P3] = .ok (.str onesS) [P3] := by
      have h1 : ("1" : Str).length = 1 := by decide +kernel
      simp only [repS]
      rw [if_pos (by rw [h1]; decide)]; rfl
    have ad : addD (.str onesS) (.str "+") [P3] = .ok (.str onesP) [P3] := e_catSW (by
      have h1 : ("+" : Str).length = 1 := by decide +kernel
      have h2 : onesS.length = 5000 := by rw [TL.len_tl, tl_ones, List.length_replicate]
      omega)
    have hfm : (fixS ++ [onesP]).map W.str = [.str " ", .str "48+", .str "047+", .str "7", .str "+", .str "7+ ", .str " 7+", .str "7+  8-", .str "7?", .str onesP] := rfl
    rw [hfm, hf1, e_for]
    generalize forL (gN 6) b_law_61_l1 = FL
    generalize onesP = OP at ad ⊢
    generalize onesS = OS at rp ad
    generalize hz : DD.R.toF _ _ _ = z
    simp -implicitDefEqProofs [rp, ad, sizeLine_eq] at hz
    exact hz.symm
  rw [e4] at ef1
  have wr3 : U.fn_write_run [.tup []] [P3] = .ok (.str (txS [])) [P3] := write_ok (l := []) (e := prL) (fun p => .inr rfl) (.inl rfl) (by simp) (by simp)
  have tx0 : txS [] = Str.ofString "" := by decide +kernel
  rw [tx0] at wr3
  have oke : PyData.strOk (Str.ofString "") = true := by decide +kernel
  have eqe := eq_str' (S := [P3]) oke oke
  rw [decide_eq_true rfl] at eqe
  have rd : U.fn_read_run [.str (Str.ofString "")] [P3] = .ok (.tup []) [P3] := by
    rw [read_ok oke (by decide +kernel)]
    unfold resP
    rw [if_pos rfl]; rfl
  have eqt : eqD (.tup []) (.tup []) [P3] = .ok (.bl true) [P3] := by
    rw [e_eq rfl rfl]; rfl
  have sqL : seqL [P2] (.lst (l.map prW74)) = some (l.map prW74) := rfl
  clear hdj hdl hf0 hf1 etd hl hln oktx lntx e3 e4
  generalize W.lst (l.map prL) = LL at *
  generalize W.str (txS l) = TX at *
  generalize l.map prW74 = LM at *
  simp -implicitDefEqProofs [e2, tx, li1, li2, wr1, net, wr2, nel, t8, ned, ef0, ef1, wr3, eqe, rd, eqt, sizeLine_eq] at hy
  subst hy
  exact ⟨_, hx.symm⟩
end Zk74
open PySem PySem.W PySem.Calls PyProof.Rows
set_option maxHeartbeats 0 in
theorem PySem.Challenge.cw_steppedtests_k74_run_texts_holds : PySem.Challenge.rw_steppedtests_k74_run_texts.Holds := by
  w_on; o_law
  refine HandSHeadRun.head_any (r := OpenLaw.row PySem.Challenge.rw_steppedtests_k74_run_texts) (q := view (OpenLaw.row PySem.Challenge.rw_steppedtests_k74_run_texts).prog [16]) (H := Zk74.hk) (ob := Zk74.ob) (M := 20000) (loose := Zk74.loose) (d := HandSHeadRun.topDef (OpenLaw.row PySem.Challenge.rw_steppedtests_k74_run_texts).prog 16) (kwd := []) Zk74.ob_eq
    (by kernel_rfl) (fun s => by kernel_rfl) Zk74.run (by kernel_rfl) (by kernel_rfl) (by kernel_rfl) (by rfl) (by first | assumption | decide +kernel) (by decide +kernel) ⟨rfl, rfl, rfl, rfl, rfl, by decide +kernel⟩ ?hw ?hc
  case hw => w_witness2
  case hc =>
    refine LamX.walk_ofTsE (l := PySem.Challenge.rw_steppedtests_k74_run_texts) (n := 63) (k := 5) (x := "_law_script") (CX := fun w => L2.CX (PySem.Challenge.rw_steppedtests_k74_run_texts).prog w) rfl (by decide) (by kernel_rfl) ⟨rfl, by decide, by decide⟩ ?F (fun w H s e s' => DD.cx_end _ w H s e s')
    intro w mg fa h Y G hmg0
    obtain ⟨K, KX, ct, cx, tt⟩ := Y
    have hmg : mg ("law" : PySem.Str) = some (.ref fa) := by
      have e : (HandSHeadRun.topDef (OpenLaw.row PySem.Challenge.rw_steppedtests_k74_run_texts).prog 16).name = ("law" : PySem.Str) := by kernel_rfl
      rw [← e]
      exact hmg0
    have T := Zk74.tx_of KX G ct.d cx
    have e := hmg.symm.trans T.g_law
    cases e
    exact ⟨K, KX, Zk74.law_ok T Zk74.law_true⟩
