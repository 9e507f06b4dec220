import PyProof.Rows.All
import Wide.All
import OpenK.AllK
import Wide.FinOn
import HandS.ForMost
import HandS.ForExc
import HandS.ForSpec
import HandS.CallSlots
import HandS.Defaults
import HandS.Wide
import HandS.IsInst
import PyProof.Rows.InDataRows
import HandS.TupAny
import HandS.Flow
import HandS.HeadHook4
import HandS.HeadWalk
import HandS.Head2
import HandS.Star
import HandS.WordsExc
import KE.KOpsOwn
import HandS.Sort
import PyProof.ListRange
import HandS.ExcInit
import HandS.ExcField
import HandS.ExcIs
import HandS.TryOnly
import HandS.TryMany
import KE.KExcIs
import HandS.Style
import HandS.MakeKwOnly
import PyProof.CollectIter
import PyProof.WalksMore
import HandS.ExcValue
import KE.GoesMore
import KE.GoesEnum
import HandS.More
import HandS.RaiseMore
import PyProof.ExcBaseAll.ValueError
import KE.BitLaws
import HandS.NoneIn
import PySem.Challenge.RW_steppedtests_k45_whole_order_of_ratios
set_option Elab.async false
set_option linter.all false
set_option maxRecDepth 100000
set_option maxHeartbeats 2000000
/-! A layer of pure values and a small store over the hand layer: every def is turned into a function of values. -/
namespace DD
open PySem PySem.Spec PyProof.Rows L2

/-- a value: what never changes is held as it is; what changes stands in the store -/
inductive W where
  | non | bl (b : Bool) | int (i : Int) | str (x : Str)
  | ref (i : Nat)
  | tup (l : List W) | lst (l : List W) | scr (l : List W)
  | dic (ks : List Key) (l : List W)
  | obj (c : Nat) (ns : List Str) (l : List W)
  | cls (c : Nat) | ty (n : String)
/-- an object of the store -/
inductive O where
  | dead
  | lst (l : List W)
  | dic (ks : List Key) (l : List W)
  | ins (c : Nat) (ns : List Str) (l : List W)
abbrev Sto := List O

/-- where the store's things lie; and things in the making, that nothing may lean on -/
structure Rh where
  f : Nat → Addr
  z : Addr → Prop
instance : CoeFun Rh (fun _ => Nat → Addr) := ⟨Rh.f⟩
/-- the live addresses -/
def Lv (S : Sto) (r : Rh) (a : Addr) : Prop := (∃ i o, S[i]? = some o ∧ o ≠ .dead ∧ r i = a) ∨ r.z a

/-- where one stands: the written part and the classes -/
structure Gx where
  K : PySem.W.Frag
  cm : Nat → Addr

section
variable (G : Gx) (H : Hp) (S : Sto) (r : Rh)
/-- a thing at a that no store reaches -/
def Own (a : Addr) (u : HO) : Prop := H a = some u ∧ ¬ Lv S r a
def TupAt (a : Addr) (vs : List V) : Prop := Own H S r a (.tup vs) ∨ ∃ (o : Obj) (its : Array Value) (n : Nat), G.K.lookup a = some o ∧ o.cls = .type "tuple" ∧ o.data = .seq its n ∧ its.size ≤ sizeLine ∧ Vals vs its.toList
def ScrAt (a : Addr) (vs : List V) : Prop := (∃ o, Own H S r a (.frz o (.lst vs))) ∨ Own H S r a (.lst vs) ∨ ∃ (o : Obj) (its : Array Value) (n : Nat), G.K.lookup a = some o ∧ o.cls = .type "list" ∧ o.dict = none ∧ o.data = .seq its n ∧ its.size ≤ sizeLine ∧ Vals vs its.toList
mutual
inductive RW : W → V → Prop
  | non : RW .non .non
  | bl (b : Bool) : RW (.bl b) (.bl b)
  | int (i : Int) : RW (.int i) (.int i)
  | str (x : Str) : RW (.str x) (.str x)
  | ref {i : Nat} : i < S.length → RW (.ref i) (.ref (r i))
  | tup {a : Addr} {ws : List W} {vs : List V} : TupAt G H S r a vs → RWs ws vs → RW (.tup ws) (.ref a)
  | lst {a : Addr} {ws : List W} {vs : List V} : Own H S r a (.lst vs) → RWs ws vs → RW (.lst ws) (.ref a)
  | scr {a : Addr} {ws : List W} {vs : List V} : ScrAt G H S r a vs → RWs ws vs → RW (.scr ws) (.ref a)
  | dic {a : Addr} {ks : List Key} {ws : List W} {vs : List V} : Own H S r a (.dK (ks.zip vs)) → ks.length = ws.length → RWs ws vs → RW (.dic ks ws) (.ref a)
  | obj {a dx : Addr} {c : Nat} {ns : List Str} {ws : List W} {vs : List V} : Own H S r a (.ins (G.cm c) dx (ns.zip vs)) → ns.length = ws.length → RWs ws vs → RW (.obj c ns ws) (.ref a)
  | cls (c : Nat) : RW (.cls c) (.ref (G.cm c))
  | ty (n : String) : RW (.ty n) (.ty n)
inductive RWs : List W → List V → Prop
  | nil : RWs [] []
  | cons {w : W} {ws : List W} {v : V} {vs : List V} : RW w v → RWs ws vs → RWs (w :: ws) (v :: vs)
end
/-- an object of the store and what stands for it -/
inductive RO : O → HO → Prop
  | lst {ws : List W} {vs : List V} : RWs G H S r ws vs → RO (.lst ws) (.lst vs)
  | dic {ks : List Key} {ws : List W} {vs : List V} : ks.length = ws.length → RWs G H S r ws vs → RO (.dic ks ws) (.dK (ks.zip vs))
  | ins {c : Nat} {dx : Addr} {ns : List Str} {ws : List W} {vs : List V} : ns.length = ws.length → RWs G H S r ws vs → RO (.ins c ns ws) (.ins (G.cm c) dx (ns.zip vs))
/-- the store stands -/
structure Rl : Prop where
  at_ : ∀ i o, S[i]? = some o → o ≠ .dead → ∃ ho, H (r i) = some ho ∧ RO G H S r o ho
  inj : ∀ i j o u, S[i]? = some o → o ≠ .dead → S[j]? = some u → u ≠ .dead → r i = r j → i = j
  zs : ∀ a, r.z a → ∃ o, H a = some o
  dz : ∀ i o, S[i]? = some o → o ≠ .dead → ¬ r.z (r i)
end

/-- from one state to a later one -/
structure Ev (H : Hp) (S : Sto) (r : Rh) (H' : Hp) (S' : Sto) (r' : Rh) : Prop where
  len : S.length ≤ S'.length
  rho : ∀ i, i < S.length → r' i = r i
  keep : ∀ a o, H a = some o → ¬ Lv S r a → H' a = some o
  live : ∀ a, Lv S' r' a → Lv S r a ∨ H a = none
  zz : r'.z = r.z
  kz : ∀ a o, H a = some o → r.z a → H' a = some o
theorem Ev.refl {H : Hp} {S : Sto} {r : Rh} : Ev H S r H S r := ⟨Nat.le_refl _, fun _ _ => rfl, fun _ _ e _ => e, fun _ l => .inl l, rfl, fun _ _ e _ => e⟩
theorem Ev.trans {H H1 H2 : Hp} {S S1 S2 : Sto} {r r1 r2 : Rh} (a : Ev H S r H1 S1 r1) (b : Ev H1 S1 r1 H2 S2 r2) : Ev H S r H2 S2 r2 where
  len := Nat.le_trans a.len b.len
  rho := fun i hi => (b.rho i (Nat.lt_of_lt_of_le hi a.len)).trans (a.rho i hi)
  keep := fun c o e n => b.keep c o (a.keep c o e n) fun l => (a.live c l).elim n fun z => by rw [e] at z; cases z
  live := fun c l => by
    rcases b.live c l with l | z
    · exact a.live c l
    · by_cases l1 : Lv S r c
      · exact .inl l1
      · cases e : H c with
        | none => exact .inr rfl
        | some o =>
          have := a.keep c o e l1
          rw [z] at this; cases this
  zz := b.zz.trans a.zz
  kz := fun c o e z => b.kz c o (a.kz c o e z) (by rw [a.zz]; exact z)

section
variable {G : Gx} {H H' : Hp} {S S' : Sto} {r r' : Rh}
theorem Own.ev {a : Addr} {u : HO} (o : Own H S r a u) (e : Ev H S r H' S' r') : Own H' S' r' a u :=
  ⟨e.keep a u o.1 o.2, fun l => (e.live a l).elim o.2 fun z => by rw [o.1] at z; cases z⟩
theorem TupAt.ev {a : Addr} {vs : List V} (t : TupAt G H S r a vs) (e : Ev H S r H' S' r') : TupAt G H' S' r' a vs := by
  rcases t with t | t
  · exact .inl (t.ev e)
  · exact .inr t
theorem ScrAt.ev {a : Addr} {vs : List V} (t : ScrAt G H S r a vs) (e : Ev H S r H' S' r') : ScrAt G H' S' r' a vs := by
  rcases t with ⟨o, t⟩ | t | t
  · exact .inl ⟨o, t.ev e⟩
  · exact .inr (.inl (t.ev e))
  · exact .inr (.inr t)
theorem TupAt.sq {a : Addr} {vs : List V} (t : TupAt G H S r a vs) : SqT G.K H a vs := by
  rcases t with t | t
  · exact .inl (.inl t.1)
  · exact .inr t
theorem ScrAt.sq {a : Addr} {vs : List V} (t : ScrAt G H S r a vs) : SqL G.K H a vs := by
  rcases t with ⟨o, t⟩ | t | t
  · exact .inl (.inr ⟨o, t.1⟩)
  · exact .inl (.inl t.1)
  · exact .inr t
/-- what a later state must keep for values to stay -/
structure Mp (H : Hp) (S : Sto) (r : Rh) (H' : Hp) (S' : Sto) (r' : Rh) : Prop where
  own : ∀ a u, Own H S r a u → Own H' S' r' a u
  rho : ∀ i, i < S.length → r' i = r i
  len : S.length ≤ S'.length
theorem Ev.mp (e : Ev H S r H' S' r') : Mp H S r H' S' r' := ⟨fun a u o => o.ev e, e.rho, e.len⟩
theorem Mp.trans {H2 : Hp} {S2 : Sto} {r2 : Rh} (a : Mp H S r H' S' r') (b : Mp H' S' r' H2 S2 r2) : Mp H S r H2 S2 r2 :=
  ⟨fun c u o => b.own c u (a.own c u o), fun i hi => (b.rho i (Nat.lt_of_lt_of_le hi a.len)).trans (a.rho i hi), Nat.le_trans a.len b.len⟩
theorem TupAt.mp {a : Addr} {vs : List V} (t : TupAt G H S r a vs) (e : Mp H S r H' S' r') : TupAt G H' S' r' a vs := by
  rcases t with t | t
  · exact .inl (e.own _ _ t)
  · exact .inr t
theorem ScrAt.mp {a : Addr} {vs : List V} (t : ScrAt G H S r a vs) (e : Mp H S r H' S' r') : ScrAt G H' S' r' a vs := by
  rcases t with ⟨o, t⟩ | t | t
  · exact .inl ⟨o, e.own _ _ t⟩
  · exact .inr (.inl (e.own _ _ t))
  · exact .inr (.inr t)
mutual
theorem RW.mp {w : W} {v : V} (e : Mp H S r H' S' r') : RW G H S r w v → RW G H' S' r' w v
  | .non => .non
  | .bl b => .bl b
  | .int i => .int i
  | .str x => .str x
  | .ref (i := i) h => by
    rw [← e.rho i h]
    exact .ref (Nat.lt_of_lt_of_le h e.len)
  | .tup h q => .tup (h.mp e) (RWs.mp e q)
  | .lst h q => .lst (e.own _ _ h) (RWs.mp e q)
  | .scr h q => .scr (h.mp e) (RWs.mp e q)
  | .dic h l q => .dic (e.own _ _ h) l (RWs.mp e q)
  | .obj h l q => .obj (e.own _ _ h) l (RWs.mp e q)
  | .cls c => .cls c
  | .ty n => .ty n
theorem RWs.mp {w : List W} {v : List V} (e : Mp H S r H' S' r') : RWs G H S r w v → RWs G H' S' r' w v
  | .nil => .nil
  | .cons a b => .cons (RW.mp e a) (RWs.mp e b)
end
theorem RW.ev {w : W} {v : V} (q : RW G H S r w v) (e : Ev H S r H' S' r') : RW G H' S' r' w v := q.mp e.mp
theorem RWs.ev {w : List W} {v : List V} (q : RWs G H S r w v) (e : Ev H S r H' S' r') : RWs G H' S' r' w v := q.mp e.mp
theorem RWs.length : ∀ {ws : List W} {vs : List V}, RWs G H S r ws vs → ws.length = vs.length
  | _, _, .nil => rfl
  | _, _, .cons _ t => congrArg Nat.succ t.length
theorem RWs.get : ∀ {ws : List W} {vs : List V} {i : Nat} {w : W}, RWs G H S r ws vs → ws[i]? = some w → ∃ v, vs[i]? = some v ∧ RW G H S r w v
  | _, _, _, _, .nil, e => by simp at e
  | _, _, 0, _, .cons a _, e => by simp at e; subst e; exact ⟨_, rfl, a⟩
  | _, _, i + 1, w, .cons _ t, e => by
    obtain ⟨v, h1, h2⟩ := RWs.get (i := i) (w := w) t (by simpa using e)
    exact ⟨v, by simpa using h1, h2⟩
theorem RWs.append : ∀ {ws us : List W} {vs xs : List V}, RWs G H S r ws vs → RWs G H S r us xs → RWs G H S r (ws ++ us) (vs ++ xs)
  | _, _, _, _, .nil, q => q
  | _, _, _, _, .cons a t, q => .cons a (t.append q)
theorem RWs.take : ∀ {ws : List W} {vs : List V} (n : Nat), RWs G H S r ws vs → RWs G H S r (ws.take n) (vs.take n)
  | _, _, 0, _ => .nil
  | _, _, _ + 1, .nil => .nil
  | _, _, n + 1, .cons a t => .cons a (t.take n)
theorem RWs.drop : ∀ {ws : List W} {vs : List V} (n : Nat), RWs G H S r ws vs → RWs G H S r (ws.drop n) (vs.drop n)
  | _, _, 0, q => q
  | _, _, _ + 1, .nil => .nil
  | _, _, n + 1, .cons _ t => t.drop n
theorem RWs.set {w : W} {v : V} (q : RW G H S r w v) : ∀ {ws : List W} {vs : List V} (i : Nat), RWs G H S r ws vs → RWs G H S r (ws.set i w) (vs.set i v)
  | _, _, _, .nil => .nil
  | _, _, 0, .cons _ t => .cons q t
  | _, _, i + 1, .cons a t => .cons a (t.set q i)
theorem RWs.snoc {ws : List W} {vs : List V} {w : W} {v : V} (q : RWs G H S r ws vs) (a : RW G H S r w v) : RWs G H S r (ws ++ [w]) (vs ++ [v]) := q.append (.cons a .nil)
theorem RWs.reverse : ∀ {ws : List W} {vs : List V}, RWs G H S r ws vs → RWs G H S r ws.reverse vs.reverse
  | _, _, .nil => .nil
  | _, _, .cons a t => by rw [List.reverse_cons, List.reverse_cons]; exact t.reverse.snoc a

/-- a fresh thing that no store holds -/
theorem Ev.fresh {p : Addr} {o : HO} (x : H p = none) (rl : Rl G H S r) : Ev H S r (upd H p o) S r where
  len := Nat.le_refl _
  rho := fun _ _ => rfl
  keep := fun a u e _ => by rw [upd_ne (ne_of_none e x)]; exact e
  live := fun _ l => .inl l
  zz := rfl
  kz := fun a u e _ => by rw [upd_ne (ne_of_none e x)]; exact e
theorem Rl.notLv {p : Addr} (rl : Rl G H S r) (x : H p = none) : ¬ Lv S r p := by
  rintro (⟨i, o, e, d, z⟩ | z)
  · obtain ⟨ho, h1, _⟩ := rl.at_ i o e d
    rw [z, x] at h1; cases h1
  · obtain ⟨o, h⟩ := rl.zs p z
    rw [x] at h; cases h
theorem RO.mp {o : O} {ho : HO} (q : RO G H S r o ho) (e : Mp H S r H' S' r') : RO G H' S' r' o ho := by
  cases q with
  | lst q => exact .lst (q.mp e)
  | dic l q => exact .dic l (q.mp e)
  | ins l q => exact .ins l (q.mp e)
theorem RO.ev {o : O} {ho : HO} (q : RO G H S r o ho) (e : Ev H S r H' S' r') : RO G H' S' r' o ho := q.mp e.mp
theorem Rl.fresh {p : Addr} {o : HO} (x : H p = none) (rl : Rl G H S r) : Rl G (upd H p o) S r where
  at_ := fun i u e d => by
    obtain ⟨ho, h1, h2⟩ := rl.at_ i u e d
    exact ⟨ho, by rw [upd_ne (ne_of_none h1 x)]; exact h1, h2.ev (Ev.fresh x rl)⟩
  inj := rl.inj
  zs := fun a z => by
    obtain ⟨u, h⟩ := rl.zs a z
    exact ⟨u, by rw [upd_ne (ne_of_none h x)]; exact h⟩
  dz := rl.dz
theorem Own.new {p : Addr} {o : HO} (x : H p = none) (rl : Rl G H S r) : Own (upd H p o) S r p o := ⟨upd_same, rl.notLv x⟩

/-- a new thing of the store -/
def put (r : Rh) (n : Nat) (p : Addr) : Rh := ⟨fun i => if i = n then p else r i, r.z⟩
theorem put_same {n : Nat} {p : Addr} : put r n p n = p := if_pos rfl
theorem put_ne {n i : Nat} {p : Addr} (h : i ≠ n) : put r n p i = r i := if_neg h
theorem lv_snoc {p a : Addr} {o : O} (l : Lv (S ++ [o]) (put r S.length p) a) : Lv S r a ∨ a = p := by
  rcases l with ⟨i, u, e, d, z⟩ | z
  case inr => exact .inl (.inr z)
  by_cases hi : i < S.length
  · rw [List.getElem?_append_left hi] at e
    rw [put_ne (Nat.ne_of_lt hi)] at z
    exact .inl (.inl ⟨i, u, e, d, z⟩)
  · have := (List.getElem?_eq_some_iff.mp e).1
    simp only [List.length_append, List.length_cons, List.length_nil] at this
    have hi : i = S.length := by omega
    subst hi
    rw [put_same] at z
    exact .inr z.symm
theorem Ev.snoc {p : Addr} {o : O} {ho : HO} (x : H p = none) : Ev H S r (upd H p ho) (S ++ [o]) (put r S.length p) where
  len := by rw [List.length_append]; exact Nat.le_add_right _ _
  rho := fun i hi => put_ne (Nat.ne_of_lt hi)
  keep := fun a u e _ => by rw [upd_ne (ne_of_none e x)]; exact e
  live := fun a l => by
    rcases lv_snoc l with l | rfl
    · exact .inl l
    · exact .inr x
  zz := rfl
  kz := fun a u e _ => by rw [upd_ne (ne_of_none e x)]; exact e
theorem Rl.snoc {p : Addr} {o : O} {ho : HO} (x : H p = none) (rl : Rl G H S r) (n : RO G H S r o ho) : Rl G (upd H p ho) (S ++ [o]) (put r S.length p) where
  at_ := fun i u e d => by
    by_cases hi : i < S.length
    · rw [List.getElem?_append_left hi] at e
      obtain ⟨hu, h1, h2⟩ := rl.at_ i u e d
      exact ⟨hu, by rw [put_ne (Nat.ne_of_lt hi), upd_ne (ne_of_none h1 x)]; exact h1, h2.ev (Ev.snoc x)⟩
    · have := (List.getElem?_eq_some_iff.mp e).1
      simp only [List.length_append, List.length_cons, List.length_nil] at this
      have hi : i = S.length := by omega
      subst hi
      have e : u = o := by simpa using e.symm
      subst e
      exact ⟨ho, by rw [put_same]; exact upd_same, n.ev (Ev.snoc x)⟩
  inj := fun i j o1 o2 e1 d1 e2 d2 z => by
    have key : ∀ (k : Nat) (u : O), (S ++ [o])[k]? = some u → u ≠ .dead → (k < S.length ∧ S[k]? = some u) ∨ k = S.length := fun k u e d => by
      by_cases hk : k < S.length
      · rw [List.getElem?_append_left hk] at e; exact .inl ⟨hk, e⟩
      · have := (List.getElem?_eq_some_iff.mp e).1
        simp only [List.length_append, List.length_cons, List.length_nil] at this
        exact .inr (by omega)
    rcases key i o1 e1 d1 with ⟨hi, a1⟩ | hi
    · rcases key j o2 e2 d2 with ⟨hj, a2⟩ | hj
      · rw [put_ne (Nat.ne_of_lt hi), put_ne (Nat.ne_of_lt hj)] at z
        exact rl.inj i j o1 o2 a1 d1 a2 d2 z
      · subst hj
        rw [put_ne (Nat.ne_of_lt hi), put_same] at z
        obtain ⟨hu, h1, _⟩ := rl.at_ i o1 a1 d1
        rw [z, x] at h1; cases h1
    · rcases key j o2 e2 d2 with ⟨hj, a2⟩ | hj
      · subst hi
        rw [put_ne (Nat.ne_of_lt hj), put_same] at z
        obtain ⟨hu, h1, _⟩ := rl.at_ j o2 a2 d2
        rw [← z, x] at h1; cases h1
      · omega
  zs := fun a z => by
    obtain ⟨u, h⟩ := rl.zs a z
    exact ⟨u, by rw [upd_ne (ne_of_none h x)]; exact h⟩
  dz := fun i u e d => by
    by_cases hi : i < S.length
    · rw [List.getElem?_append_left hi] at e
      rw [put_ne (Nat.ne_of_lt hi)]
      exact rl.dz i u e d
    · have := (List.getElem?_eq_some_iff.mp e).1
      simp only [List.length_append, List.length_cons, List.length_nil] at this
      have hi : i = S.length := by omega
      subst hi
      rw [put_same]
      intro z
      obtain ⟨u, h⟩ := rl.zs p z
      rw [x] at h; cases h
/-- a thing of the store changes -/
theorem lv_set {i : Nat} {o u : O} {a : Addr} (e : S[i]? = some u) (d : u ≠ .dead) (l : Lv (S.set i o) r a) : Lv S r a := by
  rcases l with ⟨j, x, e1, d1, z⟩ | z
  case inr => exact .inr z
  by_cases hj : i = j
  · subst hj
    exact .inl ⟨i, u, e, d, z⟩
  · rw [List.getElem?_set_ne hj] at e1
    exact .inl ⟨j, x, e1, d1, z⟩
theorem Ev.set {i : Nat} {o u : O} {ho : HO} (rl : Rl G H S r) (e : S[i]? = some u) (d : u ≠ .dead) : Ev H S r (upd H (r i) ho) (S.set i o) r where
  len := by rw [List.length_set]; exact Nat.le_refl _
  rho := fun _ _ => rfl
  keep := fun a x h n => by rw [upd_ne fun z => n (.inl ⟨i, u, e, d, z.symm⟩)]; exact h
  live := fun a l => .inl (lv_set e d l)
  zz := rfl
  kz := fun a x h z => by rw [upd_ne fun q => rl.dz i u e d (by rw [← q]; exact z)]; exact h
theorem Rl.set {i : Nat} {o u : O} {ho : HO} (rl : Rl G H S r) (e : S[i]? = some u) (d : u ≠ .dead) (n : RO G H S r o ho) : Rl G (upd H (r i) ho) (S.set i o) r where
  at_ := fun j x e1 d1 => by
    by_cases hj : i = j
    · subst hj
      have hl : i < S.length := (List.getElem?_eq_some_iff.mp e).1
      rw [List.getElem?_set_self hl] at e1
      cases e1
      exact ⟨ho, upd_same, n.ev (Ev.set rl e d)⟩
    · rw [List.getElem?_set_ne hj] at e1
      obtain ⟨hx, h1, h2⟩ := rl.at_ j x e1 d1
      exact ⟨hx, by rw [upd_ne fun z => hj (rl.inj i j u x e d e1 d1 z.symm)]; exact h1, h2.ev (Ev.set rl e d)⟩
  inj := fun j k o1 o2 e1 d1 e2 d2 z => by
    have key : ∀ (k : Nat) (y : O), (S.set i o)[k]? = some y → y ≠ .dead → ∃ y', S[k]? = some y' ∧ y' ≠ .dead := fun k y q dq => by
      by_cases hk : i = k
      · subst hk; exact ⟨u, e, d⟩
      · rw [List.getElem?_set_ne hk] at q; exact ⟨y, q, dq⟩
    obtain ⟨y1, a1, b1⟩ := key j o1 e1 d1
    obtain ⟨y2, a2, b2⟩ := key k o2 e2 d2
    exact rl.inj j k y1 y2 a1 b1 a2 b2 z
  zs := fun a z => by
    obtain ⟨u, h⟩ := rl.zs a z
    by_cases q : a = r i
    · subst q; exact ⟨_, upd_same⟩
    · exact ⟨u, by rw [upd_ne q]; exact h⟩
  dz := fun k y q dq => by
    by_cases hk : i = k
    · subst hk; exact rl.dz i u e d
    · rw [List.getElem?_set_ne hk] at q; exact rl.dz k y q dq
end
/-! ### cutting the store, and freezing -/
mutual
def lowW (n : Nat) : W → Bool
  | .ref i => decide (i < n)
  | .tup l => lowL n l
  | .lst l => lowL n l
  | .scr l => lowL n l
  | .dic _ l => lowL n l
  | .obj _ _ l => lowL n l
  | _ => true
def lowL (n : Nat) : List W → Bool
  | [] => true
  | w :: l => lowW n w && lowL n l
end
def lowO (n : Nat) : O → Bool
  | .dead => true
  | .lst l => lowL n l
  | .dic _ l => lowL n l
  | .ins _ _ l => lowL n l
section
variable {G : Gx} {H H' : Hp} {S S' : Sto} {r r' : Rh}
mutual
theorem RW.low {w : W} {v : V} : RW G H S r w v → lowW S.length w = true
  | .non => by simp [lowW]
  | .bl b => by simp [lowW]
  | .int i => by simp [lowW]
  | .str x => by simp [lowW]
  | .ref h => by simp [lowW, h]
  | .tup _ q => by simp only [lowW]; exact RWs.low q
  | .lst _ q => by simp only [lowW]; exact RWs.low q
  | .scr _ q => by simp only [lowW]; exact RWs.low q
  | .dic _ _ q => by simp only [lowW]; exact RWs.low q
  | .obj _ _ q => by simp only [lowW]; exact RWs.low q
  | .cls c => by simp [lowW]
  | .ty n => by simp [lowW]
theorem RWs.low {w : List W} {v : List V} : RWs G H S r w v → lowL S.length w = true
  | .nil => by simp [lowL]
  | .cons a b => by simp only [lowL, Bool.and_eq_true]; exact ⟨RW.low a, RWs.low b⟩
end
theorem Lv.cut {n : Nat} {a : Addr} (l : Lv (S.take n) r a) : Lv S r a := by
  rcases l with ⟨i, o, e, d, z⟩ | z
  case inr => exact .inr z
  rw [List.getElem?_take] at e
  split at e
  · exact .inl ⟨i, o, e, d, z⟩
  · cases e
theorem Own.cut {n : Nat} {a : Addr} {u : HO} (o : Own H S r a u) : Own H (S.take n) r a u := ⟨o.1, fun l => o.2 l.cut⟩
theorem TupAt.cut {n : Nat} {a : Addr} {vs : List V} (o : TupAt G H S r a vs) : TupAt G H (S.take n) r a vs := o.elim (fun o => .inl o.cut) .inr
theorem ScrAt.cut {n : Nat} {a : Addr} {vs : List V} (o : ScrAt G H S r a vs) : ScrAt G H (S.take n) r a vs := o.elim (fun ⟨z, o⟩ => .inl ⟨z, o.cut⟩) fun o => o.elim (fun o => .inr (.inl o.cut)) fun o => .inr (.inr o)
mutual
theorem RW.cut {n : Nat} {w : W} {v : V} (hn : n ≤ S.length) : RW G H S r w v → lowW n w = true → RW G H (S.take n) r w v
  | .non, _ => .non
  | .bl b, _ => .bl b
  | .int i, _ => .int i
  | .str x, _ => .str x
  | .ref h, l => .ref (by rw [List.length_take]; simp only [lowW, decide_eq_true_eq] at l; omega)
  | .tup h q, l => .tup h.cut (RWs.cut hn q (by simpa only [lowW] using l))
  | .lst h q, l => .lst h.cut (RWs.cut hn q (by simpa only [lowW] using l))
  | .scr h q, l => .scr h.cut (RWs.cut hn q (by simpa only [lowW] using l))
  | .dic h e q, l => .dic h.cut e (RWs.cut hn q (by simpa only [lowW] using l))
  | .obj h e q, l => .obj h.cut e (RWs.cut hn q (by simpa only [lowW] using l))
  | .cls c, _ => .cls c
  | .ty n, _ => .ty n
theorem RWs.cut {n : Nat} {w : List W} {v : List V} (hn : n ≤ S.length) : RWs G H S r w v → lowL n w = true → RWs G H (S.take n) r w v
  | .nil, _ => .nil
  | .cons a b, l => by
    simp only [lowL, Bool.and_eq_true] at l
    exact .cons (RW.cut hn a l.1) (RWs.cut hn b l.2)
end
theorem RO.cut {n : Nat} {o : O} {ho : HO} (hn : n ≤ S.length) (q : RO G H S r o ho) (l : lowO n o = true) : RO G H (S.take n) r o ho := by
  cases q with
  | lst q => exact .lst (q.cut hn l)
  | dic e q => exact .dic e (q.cut hn l)
  | ins e q => exact .ins e (q.cut hn l)
theorem Rl.cut {n : Nat} (rl : Rl G H S r) (hn : n ≤ S.length) (l : ∀ i o, i < n → S[i]? = some o → lowO n o = true) : Rl G H (S.take n) r where
  at_ := fun i o e d => by
    rw [List.getElem?_take] at e
    split at e
    · rename_i hi
      obtain ⟨ho, h1, h2⟩ := rl.at_ i o e d
      exact ⟨ho, h1, h2.cut hn (l i o hi e)⟩
    · cases e
  inj := fun i j o u e1 d1 e2 d2 z => by
    rw [List.getElem?_take] at e1 e2
    split at e1
    · split at e2
      · exact rl.inj i j o u e1 d1 e2 d2 z
      · cases e2
    · cases e1
  zs := rl.zs
  dz := fun i o e d => by
    rw [List.getElem?_take] at e
    split at e
    · exact rl.dz i o e d
    · cases e
theorem Ev.cut {n : Nat} (e : Ev H S r H' S' r') (h1 : S.length ≤ n) (h2 : n ≤ S'.length) : Ev H S r H' (S'.take n) r' where
  len := by rw [List.length_take]; omega
  rho := e.rho
  keep := e.keep
  live := fun a l => e.live a l.cut
  zz := e.zz
  kz := e.kz
theorem RO.low {o : O} {ho : HO} (q : RO G H S r o ho) : lowO S.length o = true := by
  cases q with
  | lst q => exact q.low
  | dic e q => exact q.low
  | ins e q => exact q.low
theorem Rl.low {i : Nat} {o : O} (rl : Rl G H S r) (e : S[i]? = some o) : lowO S.length o = true := by
  by_cases d : o = .dead
  · subst d; rfl
  · obtain ⟨ho, _, h2⟩ := rl.at_ i o e d
    exact h2.low
/-- a thing of the store is from now on held as a value -/
theorem lv_dead {i : Nat} {a : Addr} (l : Lv (S.set i .dead) r a) : Lv S r a ∧ ((∃ j o, j ≠ i ∧ S[j]? = some o ∧ o ≠ .dead ∧ r j = a) ∨ r.z a) := by
  rcases l with ⟨j, x, e1, d1, z⟩ | z
  case inr => exact ⟨.inr z, .inr z⟩
  by_cases hj : i = j
  · subst hj
    have hl : i < (S.set i O.dead).length := (List.getElem?_eq_some_iff.mp e1).1
    rw [List.length_set] at hl
    rw [List.getElem?_set_self hl] at e1
    cases e1
    exact absurd rfl d1
  · rw [List.getElem?_set_ne hj] at e1
    exact ⟨.inl ⟨j, x, e1, d1, z⟩, .inl ⟨j, x, fun q => hj q.symm, e1, d1, z⟩⟩
theorem Ev.kill {i : Nat} : Ev H S r H (S.set i .dead) r where
  len := by rw [List.length_set]; exact Nat.le_refl _
  rho := fun _ _ => rfl
  keep := fun a x h n => h
  live := fun a l => .inl (lv_dead l).1
  zz := rfl
  kz := fun a x h _ => h
theorem Rl.kill {i : Nat} (rl : Rl G H S r) : Rl G H (S.set i .dead) r where
  at_ := fun j x e1 d1 => by
    by_cases hj : i = j
    · subst hj
      have hl : i < (S.set i O.dead).length := (List.getElem?_eq_some_iff.mp e1).1
      rw [List.length_set] at hl
      rw [List.getElem?_set_self hl] at e1
      cases e1
      exact absurd rfl d1
    · rw [List.getElem?_set_ne hj] at e1
      obtain ⟨hx, h1, h2⟩ := rl.at_ j x e1 d1
      exact ⟨hx, h1, h2.ev Ev.kill⟩
  inj := fun j k o1 o2 e1 d1 e2 d2 z => by
    have key : ∀ (k : Nat) (y : O), (S.set i .dead)[k]? = some y → y ≠ .dead → S[k]? = some y := fun k y q dq => by
      by_cases hk : i = k
      · subst hk
        have hl : i < (S.set i O.dead).length := (List.getElem?_eq_some_iff.mp q).1
        rw [List.length_set] at hl
        rw [List.getElem?_set_self hl] at q
        cases q
        exact absurd rfl dq
      · rw [List.getElem?_set_ne hk] at q; exact q
    exact rl.inj j k o1 o2 (key j o1 e1 d1) d1 (key k o2 e2 d2) d2 z
  zs := rl.zs
  dz := fun k y q dq => by
    by_cases hk : i = k
    · subst hk
      have hl : i < (S.set i O.dead).length := (List.getElem?_eq_some_iff.mp q).1
      rw [List.length_set] at hl
      rw [List.getElem?_set_self hl] at q
      cases q
      exact absurd rfl dq
    · rw [List.getElem?_set_ne hk] at q; exact rl.dz k y q dq
theorem Rl.own {i : Nat} {o : O} {ho : HO} (rl : Rl G H S r) (e : S[i]? = some o) (d : o ≠ .dead) (h : H (r i) = some ho) : Own H (S.set i .dead) r (r i) ho :=
  ⟨h, fun l => by
    obtain ⟨_, ⟨j, x, hj, e1, d1, z⟩ | z⟩ := lv_dead l
    · exact hj (rl.inj j i x o e1 d1 e d z)
    · exact rl.dz i o e d z⟩
/-! ### things in the making -/
def Rh.add (r : Rh) (D : Addr) : Rh := ⟨r.f, fun a => r.z a ∨ a = D⟩
theorem Rl.add {D : Addr} {o : HO} (rl : Rl G H S r) (x : H D = none) : Rl G (upd H D o) S (r.add D) := by
  have m : Mp H S r (upd H D o) S (r.add D) := ⟨fun a u ow => ⟨by rw [upd_ne (ne_of_none ow.1 x)]; exact ow.1, by
    rintro (⟨i, o, e, d, z⟩ | z | z)
    · exact ow.2 (.inl ⟨i, o, e, d, z⟩)
    · exact ow.2 (.inr z)
    · exact ne_of_none ow.1 x z⟩, fun _ _ => rfl, Nat.le_refl _⟩
  refine ⟨fun i u e d => ?_, rl.inj, fun a z => ?_, fun i u e d => ?_⟩
  · obtain ⟨ho, h1, h2⟩ := rl.at_ i u e d
    exact ⟨ho, by rw [show (r.add D) i = r i from rfl, upd_ne (ne_of_none h1 x)]; exact h1, h2.mp m⟩
  · by_cases q : a = D
    · subst q; exact ⟨_, upd_same⟩
    · rcases z with z | z
      · obtain ⟨u, h⟩ := rl.zs a z
        exact ⟨u, by rw [upd_ne q]; exact h⟩
      · exact absurd z q
  · rintro (z | z)
    · exact rl.dz i u e d z
    · obtain ⟨ho, h1, h2⟩ := rl.at_ i u e d
      rw [show r.f i = D from z, x] at h1; cases h1
/-- a thing in the making is changed -/
theorem Mp.poke {D : Addr} {o : HO} (z : r.z D) : Mp H S r (upd H D o) S r :=
  ⟨fun a u ow => ⟨by rw [upd_ne fun q => ow.2 (.inr (by rw [q]; exact z))]; exact ow.1, ow.2⟩, fun _ _ => rfl, Nat.le_refl _⟩
theorem Rl.poke {D : Addr} {o : HO} (rl : Rl G H S r) (z : r.z D) : Rl G (upd H D o) S r := by
  refine ⟨fun i u e d => ?_, rl.inj, fun a q => ?_, rl.dz⟩
  · obtain ⟨ho, h1, h2⟩ := rl.at_ i u e d
    exact ⟨ho, by rw [upd_ne fun q => rl.dz i u e d (by rw [q]; exact z)]; exact h1, h2.mp (.poke z)⟩
  · by_cases e : a = D
    · subst e; exact ⟨_, upd_same⟩
    · obtain ⟨u, h⟩ := rl.zs a q
      exact ⟨u, by rw [upd_ne e]; exact h⟩
theorem Ev.poke {D : Addr} {o : HO} (e : Ev H S r H' S' r') (x : H D = none) : Ev H S r (upd H' D o) S' r' where
  len := e.len
  rho := e.rho
  keep := fun a u h n => by rw [upd_ne (ne_of_none h x)]; exact e.keep a u h n
  live := e.live
  zz := e.zz
  kz := fun a u h z => by rw [upd_ne (ne_of_none h x)]; exact e.kz a u h z
/-- fewer things in the making -/
theorem Mp.less {f : Nat → Addr} {z z' : Addr → Prop} (h : ∀ a, z' a → z a) : Mp H S ⟨f, z⟩ H S ⟨f, z'⟩ :=
  ⟨fun a u ow => ⟨ow.1, fun l => ow.2 (l.elim .inl fun q => .inr (h a q))⟩, fun _ _ => rfl, Nat.le_refl _⟩
theorem Rl.less {f : Nat → Addr} {z z' : Addr → Prop} (rl : Rl G H S ⟨f, z⟩) (h : ∀ a, z' a → z a) : Rl G H S ⟨f, z'⟩ :=
  ⟨fun i u e d => let ⟨ho, h1, h2⟩ := rl.at_ i u e d; ⟨ho, h1, h2.mp (.less h)⟩, rl.inj, fun a q => rl.zs a (h a q), fun i u e d q => rl.dz i u e d (h _ q)⟩
theorem Ev.less {f f' : Nat → Addr} {z z' : Addr → Prop} (e : Ev H S ⟨f, z⟩ H' S' ⟨f', z⟩) (rl : Rl G H' S' ⟨f', z⟩) (h : ∀ a, z' a → z a) : Ev H S ⟨f, z'⟩ H' S' ⟨f', z'⟩ where
  len := e.len
  rho := e.rho
  keep := fun a u x n => by
    by_cases q : z a
    · exact e.kz a u x q
    · exact e.keep a u x fun l => n (l.elim .inl fun w => absurd w q)
  live := fun a l => by
    rcases l with l | l
    · rcases e.live a (.inl l) with (w | w) | w
      · exact .inl (.inl w)
      · obtain ⟨i, o, e1, d1, z1⟩ := l
        have w : z a := w
        exact absurd (show z (f' i) by rw [show f' i = a from z1]; exact w) (rl.dz i o e1 d1)
      · exact .inr w
    · exact .inl (.inr l)
  zz := rfl
  kz := fun a u x q => e.kz a u x (h a q)
end
end DD
namespace DD
open PySem PySem.Spec PyProof.Rows L2
abbrev Lo := List (Option W)
/-- what an expression comes to -/
inductive R (α : Type) where
  | ok (a : α) (S : Sto)
  | er (c : Nat) (ns : List Str) (ws : List W) (S : Sto)
  | no
def R.bind {α β : Type} (x : R α) (f : α → Sto → R β) : R β :=
  match x with
  | .ok a S => f a S
  | .er c ns ws S => .er c ns ws S
  | .no => .no
@[simp] theorem R.bind_ok {α β : Type} (a : α) (S : Sto) (f : α → Sto → R β) : (R.ok a S).bind f = f a S := rfl
@[simp] theorem R.bind_er {α β : Type} (c : Nat) (ns : List Str) (ws : List W) (S : Sto) (f : α → Sto → R β) : (R.er c ns ws S : R α).bind f = .er c ns ws S := rfl
@[simp] theorem R.bind_no {α β : Type} (f : α → Sto → R β) : (R.no : R α).bind f = .no := rfl
/-- what a statement comes to -/
inductive F where
  | nx (t : Lo) (S : Sto) | rt (w : W) (S : Sto) | bk (t : Lo) (S : Sto) | ct (t : Lo) (S : Sto)
  | er (c : Nat) (ns : List Str) (ws : List W) (t : Lo) (S : Sto)
  | no
abbrev DX := Lo → Sto → R W
abbrev DT := Lo → Sto → R Bool
abbrev DA := Lo → Sto → R (List W)
abbrev DS := Lo → Sto → F
abbrev DG := W → Lo → Sto → R Lo

section
variable (G : Gx) (xv : Nat → Value)
/-- the slots -/
inductive RLo (H : Hp) (S : Sto) (r : Rh) : Lo → L2.St → Prop
  | nil : RLo H S r [] []
  | non {o : Option V} {t : Lo} {s : L2.St} : RLo H S r t s → RLo H S r (none :: t) (o :: s)
  | som {w : W} {v : V} {t : Lo} {s : L2.St} : RW G H S r w v → RLo H S r t s → RLo H S r (some w :: t) (some v :: s)
/-- an exception's own dict -/
def Xd (H : Hp) (S : Sto) (r : Rh) (d : Option Addr) (ns : List Str) (ws : List W) : Prop :=
  (ns = [] ∧ ws = [] ∧ d = none) ∨ ∃ a vs, d = some a ∧ Own H S r a (.xd (ns.zip vs)) ∧ ns.length = ws.length ∧ RWs G H S r ws vs
end

section
variable (G : Gx) (xv : Nat → Value) (Wx : WX)
/-- how an expression's end is wanted -/
def OutE {α β : Type} (rel : Hp → Sto → Rh → α → β → Prop) (s : L2.St) (H : Hp) (S : Sto) (r : Rh) (x : R α) (Q : β → Hp → Prop) : Prop :=
  match x with
  | .ok w S' => ∀ r' H' v, Ev H S r H' S' r' → Rl G H' S' r' → rel H' S' r' w v → Q v H'
  | .er c ns ws S' => ∀ r' H' d, Ev H S r H' S' r' → Rl G H' S' r' → Xd G H' S' r' d ns ws → Wx (xv c) d s H'
  | .no => False
def toX {α β : Type} (rel : Hp → Sto → Rh → α → β → Prop) (d : Lo → Sto → R α) : L2.St → Hp → (β → Hp → Prop) → Prop := fun s H Q =>
  ∃ r t S, RLo G H S r t s ∧ Rl G H S r ∧ OutE G xv Wx rel s H S r (d t S) Q
abbrev toE (d : DX) : TE := toX G xv Wx (fun H S r w v => RW G H S r w v) d
abbrev toT (d : DT) : TT := toX G xv Wx (fun _ _ _ (w : Bool) v => w = v) d
abbrev toA (d : DA) : TA := toX G xv Wx (fun H S r w v => RWs G H S r w v) d
/-- how a statement's end is wanted -/
def OutS (H : Hp) (S : Sto) (r : Rh) (x : F) (D : Ends) : Prop :=
  match x with
  | .nx t S' => ∀ r' H' s, Ev H S r H' S' r' → Rl G H' S' r' → RLo G H' S' r' t s → D.nx s H'
  | .bk t S' => ∀ r' H' s, Ev H S r H' S' r' → Rl G H' S' r' → RLo G H' S' r' t s → D.bk s H'
  | .ct t S' => ∀ r' H' s, Ev H S r H' S' r' → Rl G H' S' r' → RLo G H' S' r' t s → D.ct s H'
  | .rt w S' => ∀ r' H' v, Ev H S r H' S' r' → Rl G H' S' r' → RW G H' S' r' w v → D.rt v H'
  | .er c ns ws t S' => ∀ r' H' s d, Ev H S r H' S' r' → Rl G H' S' r' → RLo G H' S' r' t s → Xd G H' S' r' d ns ws → Wx (xv c) d s H'
  | .no => False
def toS (d : DS) : TS := fun D s H => ∃ r t S, RLo G H S r t s ∧ Rl G H S r ∧ OutS G xv Wx H S r (d t S) D
def toG (d : DG) : TG := fun v s H Q => ∃ r t S w, RLo G H S r t s ∧ Rl G H S r ∧ RW G H S r w v ∧ OutE G xv (fun _ _ _ _ => False) (fun H' S' r' t' s' => RLo G H' S' r' t' s') s H S r (d w t S) Q
end

/-- what stands around a piece of a def -/
structure Cok (G : Gx) (X : Cx) (Wx : WX) : Prop where
  kk : X.K = G.K
  tk : Takes X Wx
  po : PassesOwn (model X.prog X.w) X.A X.env X.xe
  calm : X.calm = true
  nd : X.N.Nodup

section
variable {G : Gx} {xv : Nat → Value} {Wx : WX} {X : Cx} {H H' : Hp} {S S' : Sto} {r r' : Rh}
theorem RLo.mp : ∀ {t : Lo} {s : L2.St}, RLo G H S r t s → Mp H S r H' S' r' → RLo G H' S' r' t s
  | _, _, .nil, _ => .nil
  | _, _, .non q, e => .non (q.mp e)
  | _, _, .som a q, e => .som (a.mp e) (q.mp e)
theorem RLo.ev {t : Lo} {s : L2.St} (q : RLo G H S r t s) (e : Ev H S r H' S' r') : RLo G H' S' r' t s := q.mp e.mp
theorem RLo.get : ∀ {t : Lo} {s : L2.St} {i : Nat} {w : W}, RLo G H S r t s → t[i]? = some (some w) → ∃ v, s[i]? = some (some v) ∧ RW G H S r w v
  | _, _, _, _, .nil, e => by simp at e
  | _, _, 0, _, .non _, e => by simp at e
  | _, _, 0, _, .som a _, e => by simp at e; subst e; exact ⟨_, rfl, a⟩
  | _, _, i + 1, w, .non q, e => by
    obtain ⟨v, h1, h2⟩ := RLo.get (i := i) (w := w) q (by simpa using e)
    exact ⟨v, by simpa using h1, h2⟩
  | _, _, i + 1, w, .som _ q, e => by
    obtain ⟨v, h1, h2⟩ := RLo.get (i := i) (w := w) q (by simpa using e)
    exact ⟨v, by simpa using h1, h2⟩
theorem RLo.set {w : W} {v : V} (a : RW G H S r w v) : ∀ {t : Lo} {s : L2.St} (i : Nat), RLo G H S r t s → RLo G H S r (t.set i (some w)) (s.set i (some v))
  | _, _, _, .nil => .nil
  | _, _, 0, .non q => .som a q
  | _, _, 0, .som _ q => .som a q
  | _, _, i + 1, .non q => .non (q.set a i)
  | _, _, i + 1, .som b q => .som b (q.set a i)
theorem RLo.unset {o : Option V} : ∀ {t : Lo} {s : L2.St} (i : Nat), RLo G H S r t s → RLo G H S r (t.set i none) (s.set i o)
  | _, _, _, .nil => .nil
  | _, _, 0, .non q => .non q
  | _, _, 0, .som _ q => .non q
  | _, _, i + 1, .non q => .non (q.unset i)
  | _, _, i + 1, .som b q => .som b (q.unset i)
/-- forgetting a slot alone -/
theorem RLo.forget : ∀ {t : Lo} {s : L2.St} (i : Nat), RLo G H S r t s → RLo G H S r (t.set i none) s
  | _, _, _, .nil => .nil
  | _, _, 0, .non q => .non q
  | _, _, 0, .som _ q => .non q
  | _, _, i + 1, .non q => .non (q.forget i)
  | _, _, i + 1, .som b q => .som b (q.forget i)
theorem RLo.vals : ∀ {ws : List W} {vs : List V} (n : Nat), RWs G H S r ws vs → RLo G H S r (ws.map some ++ List.replicate n none) (vs.map some ++ List.replicate n none)
  | _, _, 0, .nil => .nil
  | _, _, n + 1, .nil => .non (RLo.vals n .nil)
  | _, _, n, .cons a q => .som a (RLo.vals n q)
theorem Xd.ev {d : Option Addr} {ns : List Str} {ws : List W} (x : Xd G H S r d ns ws) (e : Ev H S r H' S' r') : Xd G H' S' r' d ns ws := by
  rcases x with x | ⟨a, vs, h1, h2, h3, h4⟩
  · exact .inl x
  · exact .inr ⟨a, vs, h1, h2.ev e, h3, h4.ev e⟩
/-- the end of a part is the end of the whole -/
theorem OutE.from {α β : Type} {rel : Hp → Sto → Rh → α → β → Prop} {s : L2.St} {x : R α} {Q : β → Hp → Prop} (e : Ev H S r H' S' r') (o : OutE G xv Wx rel s H S r x Q) : OutE G xv Wx rel s H' S' r' x Q := by
  cases x with
  | ok a S1 => exact fun r1 H1 v e1 l q => o r1 H1 v (e.trans e1) l q
  | er c ns ws S1 => exact fun r1 H1 d e1 l q => o r1 H1 d (e.trans e1) l q
  | no => exact o
theorem OutS.from {x : F} {D : Ends} (e : Ev H S r H' S' r') (o : OutS G xv Wx H S r x D) : OutS G xv Wx H' S' r' x D := by
  cases x with
  | nx t S1 => exact fun r1 H1 v e1 l q => o r1 H1 v (e.trans e1) l q
  | bk t S1 => exact fun r1 H1 v e1 l q => o r1 H1 v (e.trans e1) l q
  | ct t S1 => exact fun r1 H1 v e1 l q => o r1 H1 v (e.trans e1) l q
  | rt t S1 => exact fun r1 H1 v e1 l q => o r1 H1 v (e.trans e1) l q
  | er c ns ws t S1 => exact fun r1 H1 s d e1 l q x => o r1 H1 s d (e.trans e1) l q x
  | no => exact o
/-- a part, then the rest -/
theorem toX.bind {α β γ δ : Type} {rel : Hp → Sto → Rh → α → β → Prop} {rel' : Hp → Sto → Rh → γ → δ → Prop} {d : Lo → Sto → R α} {f : α → Sto → R γ} {t : Lo} {s : L2.St} {Q : β → Hp → Prop} {Q' : δ → Hp → Prop}
    (l : RLo G H S r t s) (rl : Rl G H S r) (o : OutE G xv Wx rel' s H S r ((d t S).bind f) Q')
    (h : ∀ a S' r' H' b, d t S = .ok a S' → Ev H S r H' S' r' → Rl G H' S' r' → RLo G H' S' r' t s → rel H' S' r' a b → OutE G xv Wx rel' s H' S' r' (f a S') Q' → Q b H') : toX G xv Wx rel d s H Q := by
  refine ⟨r, t, S, l, rl, ?_⟩
  cases e : d t S with
  | ok a S1 =>
    rw [e, R.bind_ok] at o
    exact fun r1 H1 v e1 l1 q => h a S1 r1 H1 v e e1 l1 (l.ev e1) q (o.from e1)
  | er c ns ws S1 =>
    rw [e] at o
    exact o
  | no =>
    rw [e] at o
    exact o
theorem PEi {e : Expr} {t t' : TE} (h : PE X e t) (i : ∀ s H Q, t' s H Q → t s H Q) : PE X e t' := ⟨fun pins s σ H Q I q => h.run pins s σ H Q I (i _ _ _ q)⟩
theorem PTi {e : Expr} {t t' : TT} (h : PT X e t) (i : ∀ s H Q, t' s H Q → t s H Q) : PT X e t' := ⟨fun pins s σ H Q I q => h.run pins s σ H Q I (i _ _ _ q)⟩
theorem PWi {e : Expr} {t t' : TT} (h : PW X e t) (i : ∀ s H Q, t' s H Q → t s H Q) : PW X e t' := ⟨fun w pins s σ H Q I q => h.run w pins s σ H Q I (i _ _ _ q)⟩
theorem PAi {e : List Expr} {t t' : TA} (h : PA X e t) (i : ∀ s H Q, t' s H Q → t s H Q) : PA X e t' := ⟨fun w pins s σ H Q I q => h.run w pins s σ H Q I (i _ _ _ q)⟩
theorem PSi {e : Stmt} {t t' : TS} (h : PS X e t) (i : ∀ D s H, t' D s H → t D s H) : PS X e t' := ⟨fun pins s σ H Q I q => h.run pins s σ H Q I (i _ _ _ q)⟩
theorem PSsi {e : List Stmt} {t t' : TS} (h : PSs X e t) (i : ∀ D s H, t' D s H → t D s H) : PSs X e t' := ⟨fun pins s σ H Q I q => h.run pins s σ H Q I (i _ _ _ q)⟩

/-! ### expressions -/
def dVar (i : Nat) : DX := fun t S => match t[i]? with
  | some (some w) => .ok w S
  | _ => .no
def dC (w : W) : DX := fun _ S => .ok w S
theorem de_var {x : Str} {pos : Pos} (i : Nat) (hN : X.N[i]? = some x := by rfl) (hv : Vis X.env.scope x := by first | exact Or.inl rfl | exact Or.inr (Or.inl rfl) | exact Or.inr (Or.inr rfl)) (hd : (x == ("__debug__" : Str)) = false := by decide) (hcd : (x == ("__classdict__" : Str)) = false := by decide) :
    PE X (.Name x pos) (toE G xv Wx (dVar i)) := PEi (pe_var (i := i) hN hv hd hcd) fun s H Q ⟨r, t, S, l, rl, o⟩ => by
  unfold dVar at o
  cases e : t[i]? with
  | none => rw [e] at o; exact o.elim
  | some w =>
    cases w with
    | none => rw [e] at o; exact o.elim
    | some w =>
      rw [e] at o
      obtain ⟨v, h1, h2⟩ := l.get e
      exact ⟨v, h1, o r H v .refl rl h2⟩
theorem toC {w : W} {v : V} (h : ∀ H S r, RW G H S r w v) : ∀ s H Q, toE G xv Wx (dC w) s H Q → tC v s H Q := fun s H Q ⟨r, t, S, l, rl, o⟩ => o r H v .refl rl (h H S r)
theorem de_int {i j pos} : PE X (.Constant (.int i) j pos) (toE G xv Wx (dC (.int i))) := PEi pe_int (toC fun _ _ _ => .int i)
theorem de_bl {i j pos} : PE X (.Constant (.bool i) j pos) (toE G xv Wx (dC (.bl i))) := PEi pe_bl (toC fun _ _ _ => .bl i)
theorem de_str {i j pos} : PE X (.Constant (.str i) j pos) (toE G xv Wx (dC (.str i))) := PEi pe_str (toC fun _ _ _ => .str i)
theorem de_non {j pos} : PE X (.Constant .none j pos) (toE G xv Wx (dC .non)) := PEi pe_non (toC fun _ _ _ => .non)
theorem de_gint {x : Str} {i : Int} {pos : Pos} (hm : ∃ t, X.mg x = some (.int i t)) (hg : Gl X x := by rfl) (hd : (x == ("__debug__" : Str)) = false := by decide) : PE X (.Name x pos) (toE G xv Wx (dC (.int i))) := by
  obtain ⟨t, e⟩ := hm
  exact PEi (pe_glob (v := .int i) hg e ⟨t, rfl⟩ hd) (toC fun _ _ _ => .int i)
theorem de_gstr {x : Str} {i : Str} {pos : Pos} (hm : ∃ t, X.mg x = some (.str i t)) (hg : Gl X x := by rfl) (hd : (x == ("__debug__" : Str)) = false := by decide) : PE X (.Name x pos) (toE G xv Wx (dC (.str i))) := by
  obtain ⟨t, e⟩ := hm
  exact PEi (pe_glob (v := .str i) hg e ⟨t, rfl⟩ hd) (toC fun _ _ _ => .str i)
theorem de_gcls {x : Str} {c : Nat} {pos : Pos} (hm : X.mg x = some (.ref (G.cm c))) (hg : Gl X x := by rfl) (hd : (x == ("__debug__" : Str)) = false := by decide) : PE X (.Name x pos) (toE G xv Wx (dC (.cls c))) :=
  PEi (pe_glob (v := .ref (G.cm c)) hg hm rfl hd) (toC fun _ _ _ => .cls c)

/-- two places -/
abbrev D2 := W → W → Sto → R W
def toR2 (G : Gx) (xv : Nat → Value) (f : D2) : R2 := fun x y H Q => ∃ r S a b, Rl G H S r ∧ RW G H S r a x ∧ RW G H S r b y ∧ OutE G xv (fun _ _ _ _ => False) (fun H S r w v => RW G H S r w v) [] H S r (f a b S) Q
def dOp (f : D2) (da db : DX) : DX := fun t S => (da t S).bind fun a S1 => (db t S1).bind fun b S2 => match f a b S2 with
  | .ok w S3 => .ok w S3
  | _ => .no
theorem toOp {f : D2} {da db : DX} (s : L2.St) (H : Hp) (Q : VK) : toE G xv Wx (dOp f da db) s H Q → tOp (toR2 G xv f) (toE G xv Wx da) (toE G xv Wx db) s H Q := by
  rintro ⟨r, t, S, l, rl, o⟩
  refine toX.bind l rl o fun a S1 r1 H1 x _ e1 rl1 l1 qa o1 => ?_
  refine toX.bind l1 rl1 o1 fun b S2 r2 H2 y _ e2 rl2 l2 qb o2 => ?_
  refine ⟨r2, S2, a, b, rl2, qa.ev e2, qb, ?_⟩
  cases e : f a b S2 with
  | ok w S3 => rw [e] at o2; exact o2
  | er c ns ws S3 => rw [e] at o2; exact o2.elim
  | no => rw [e] at o2; exact o2.elim
theorem de_op {a b : Expr} {op : Operator} {f : D2} {da db : DX} {pos : Pos} (ho : OpR X (binaryOp op) (toR2 G xv f)) (ha : PE X a (toE G xv Wx da)) (hb : PE X b (toE G xv Wx db)) : PE X (.BinOp a op b pos) (toE G xv Wx (dOp f da db)) :=
  PEi (pe_op ho ha hb) toOp
theorem de_cmp {a b : Expr} {op : CmpOp} {f : D2} {da db : DX} {pos : Pos} (ho : OpR X (compareOp op) (toR2 G xv f)) (ha : PE X a (toE G xv Wx da)) (hb : PE X b (toE G xv Wx db)) (hm : behindInMarks op b = false := by first | exact nomark _ | rfl) : PE X (.Compare a [op] [b] pos) (toE G xv Wx (dOp f da db)) :=
  PEi (pe_cmpR ho ha hb hm) toOp
def dTest (d : DX) : DT := fun t S => match d t S with
  | .ok (.bl b) S1 => .ok b S1
  | .er c ns ws S1 => .er c ns ws S1
  | _ => .no
theorem toTest {d : DX} {te : TE} (h : ∀ s H Q, toE G xv Wx d s H Q → te s H Q) (s : L2.St) (H : Hp) (Q : Bool → Hp → Prop) : toT G xv Wx (dTest d) s H Q → tTest te s H Q := by
  rintro ⟨r, t, S, l, rl, o⟩
  refine h s H _ ⟨r, t, S, l, rl, ?_⟩
  unfold dTest at o
  cases e : d t S with
  | ok w S1 =>
    rw [e] at o
    cases w with
    | bl b =>
      intro r1 H1 v e1 rl1 q
      cases q
      exact ⟨b, rfl, o r1 H1 b e1 rl1 rfl⟩
    | _ => exact o.elim
  | er c ns ws S1 => rw [e] at o; exact o
  | no => rw [e] at o; exact o.elim
theorem dt_cmp {a b : Expr} {op : CmpOp} {f : D2} {da db : DX} {pos : Pos} (ho : OpR X (compareOp op) (toR2 G xv f)) (ha : PE X a (toE G xv Wx da)) (hb : PE X b (toE G xv Wx db)) (hm : behindInMarks op b = false := by first | exact nomark _ | rfl) : PT X (.Compare a [op] [b] pos) (toT G xv Wx (dTest (dOp f da db))) :=
  PTi (pt_cmpR ho ha hb hm) (toTest toOp)
/-- a chain of two comparisons -/
def dChain (f g : D2) (da db dc : DX) : DX := fun t S => (da t S).bind fun a S1 => (db t S1).bind fun b S2 => match f a b S2 with
  | .ok (.bl true) S3 => (dc t S3).bind fun c S4 => match g b c S4 with
    | .ok w S5 => .ok w S5
    | _ => .no
  | .ok (.bl false) S3 => .ok (.bl false) S3
  | _ => .no
theorem toChain {f g : D2} {da db dc : DX} (s : L2.St) (H : Hp) (Q : VK) : toE G xv Wx (dChain f g da db dc) s H Q → tChain (toR2 G xv f) (toR2 G xv g) (toE G xv Wx da) (toE G xv Wx db) (toE G xv Wx dc) s H Q := by
  rintro ⟨r, t, S, l, rl, o⟩
  refine toX.bind l rl o fun a S1 r1 H1 x _ e1 rl1 l1 qa o1 => ?_
  refine toX.bind l1 rl1 o1 fun b S2 r2 H2 y _ e2 rl2 l2 qb o2 => ?_
  refine ⟨r2, S2, a, b, rl2, qa.ev e2, qb, ?_⟩
  cases e : f a b S2 with
  | ok w S3 =>
    rw [e] at o2
    intro r3 H3 v e3 rl3 q
    cases w with
    | bl k =>
      cases q
      refine ⟨k, rfl, ?_⟩
      cases k with
      | true =>
        rw [if_pos rfl]
        refine toX.bind (l2.ev e3) rl3 (OutE.from e3 o2) fun c S4 r4 H4 z _ e4 rl4 l4 qc o4 => ?_
        refine ⟨r4, S4, b, c, rl4, (qb.ev e3).ev e4, qc, ?_⟩
        cases e' : g b c S4 with
        | ok w S5 => rw [e'] at o4; exact o4
        | er c ns ws S5 => rw [e'] at o4; exact o4.elim
        | no => rw [e'] at o4; exact o4.elim
      | false =>
        rw [if_neg Bool.false_ne_true]
        exact o2 r3 H3 _ e3 rl3 (.bl false)
    | _ => exact o2.elim
  | er c ns ws S3 => rw [e] at o2; exact o2.elim
  | no => rw [e] at o2; exact o2.elim
theorem de_chain {a b c : Expr} {op op' : CmpOp} {f g : D2} {da db dc : DX} {pos : Pos} (ho : OpR X (compareOp op) (toR2 G xv f)) (ho' : OpR X (compareOp op') (toR2 G xv g)) (ha : PE X a (toE G xv Wx da)) (hb : PE X b (toE G xv Wx db)) (hc : PE X c (toE G xv Wx dc))
    (hm : lastMarks [op, op'] [b, c] = false := by with_unfolding_all rfl) : PE X (.Compare a [op, op'] [b, c] pos) (toE G xv Wx (dChain f g da db dc)) := PEi (pe_chain ho ho' ha hb hc hm) toChain
theorem dt_chain {a b c : Expr} {op op' : CmpOp} {f g : D2} {da db dc : DX} {pos : Pos} (ho : OpR X (compareOp op) (toR2 G xv f)) (ho' : OpR X (compareOp op') (toR2 G xv g)) (ha : PE X a (toE G xv Wx da)) (hb : PE X b (toE G xv Wx db)) (hc : PE X c (toE G xv Wx dc))
    (hm : lastMarks [op, op'] [b, c] = false := by with_unfolding_all rfl) : PT X (.Compare a [op, op'] [b, c] pos) (toT G xv Wx (dTest (dChain f g da db dc))) := PTi (pt_chain ho ho' ha hb hc hm) (toTest toChain)
/-- tests joined -/
def dtAnd (a b : DT) : DT := fun t S => (a t S).bind fun k S1 => if k = true then b t S1 else .ok false S1
def dtOr (a b : DT) : DT := fun t S => (a t S).bind fun k S1 => if k = true then .ok true S1 else b t S1
def dtNot (a : DT) : DT := fun t S => (a t S).bind fun k S1 => .ok (!k) S1
theorem dt_not {a : Expr} {d : DT} {pos : Pos} (ha : PT X a (toT G xv Wx d)) : PT X (.UnaryOp .Not a pos) (toT G xv Wx (dtNot d)) := PTi (pt_not ha) fun s H Q ⟨r, t, S, l, rl, o⟩ =>
  toX.bind l rl o fun k S1 r1 H1 b _ e1 rl1 l1 q o1 => by subst q; exact o1 r1 H1 (!k) .refl rl1 rfl
theorem dw_and1 {a : Expr} {d : DT} {pos : Pos} (ha : PT X a (toT G xv Wx d)) : PW X (.BoolOp .And [a] pos) (toT G xv Wx d) := pw_and1 ha
theorem dw_or1 {a : Expr} {d : DT} {pos : Pos} (ha : PT X a (toT G xv Wx d)) : PW X (.BoolOp .Or [a] pos) (toT G xv Wx d) := pw_or1 ha
theorem dw_and {a b : Expr} {rest : List Expr} {d e : DT} {pos : Pos} (ha : PT X a (toT G xv Wx d)) (hb : PW X (.BoolOp .And (b :: rest) pos) (toT G xv Wx e)) : PW X (.BoolOp .And (a :: b :: rest) pos) (toT G xv Wx (dtAnd d e)) := PWi (pw_and ha hb) fun s H Q ⟨r, t, S, l, rl, o⟩ =>
  toX.bind l rl o fun k S1 r1 H1 b _ e1 rl1 l1 q o1 => by
    subst q
    cases k with
    | true => exact ⟨r1, t, S1, l1, rl1, o1⟩
    | false => exact o1 r1 H1 false .refl rl1 rfl
theorem dw_or {a b : Expr} {rest : List Expr} {d e : DT} {pos : Pos} (ha : PT X a (toT G xv Wx d)) (hb : PW X (.BoolOp .Or (b :: rest) pos) (toT G xv Wx e)) : PW X (.BoolOp .Or (a :: b :: rest) pos) (toT G xv Wx (dtOr d e)) := PWi (pw_or ha hb) fun s H Q ⟨r, t, S, l, rl, o⟩ =>
  toX.bind l rl o fun k S1 r1 H1 b _ e1 rl1 l1 q o1 => by
    subst q
    cases k with
    | true => exact o1 r1 H1 true .refl rl1 rfl
    | false => exact ⟨r1, t, S1, l1, rl1, o1⟩
def dIf (c : DT) (a b : DX) : DX := fun t S => (c t S).bind fun k S1 => if k = true then a t S1 else b t S1
theorem de_if {c a b : Expr} {dc : DT} {da db : DX} {pos : Pos} (hc : PT X c (toT G xv Wx dc)) (ha : PE X a (toE G xv Wx da)) (hb : PE X b (toE G xv Wx db)) : PE X (.IfExp c a b pos) (toE G xv Wx (dIf dc da db)) := PEi (pe_ifExp hc ha hb) fun s H Q ⟨r, t, S, l, rl, o⟩ =>
  toX.bind l rl o fun k S1 r1 H1 b _ e1 rl1 l1 q o1 => by
    subst q
    cases k with
    | true => exact ⟨r1, t, S1, l1, rl1, o1⟩
    | false => exact ⟨r1, t, S1, l1, rl1, o1⟩
/-- and, or of bools as values -/
def dAndV (a b : DX) : DX := fun t S => (a t S).bind fun w S1 => match w with
  | .bl true => b t S1
  | .bl false => .ok (.bl false) S1
  | _ => .no
def dOrV (a b : DX) : DX := fun t S => (a t S).bind fun w S1 => match w with
  | .bl true => .ok (.bl true) S1
  | .bl false => b t S1
  | _ => .no
def dNotV (a : DX) : DX := fun t S => (a t S).bind fun w S1 => match w with
  | .bl b => .ok (.bl (!b)) S1
  | _ => .no
theorem de_one {op} {a : Expr} {d : DX} {pos : Pos} (ha : PE X a (toE G xv Wx d)) : PE X (.BoolOp op [a] pos) (toE G xv Wx d) := pe_one ha
theorem de_and {a b : Expr} {rest : List Expr} {d e : DX} {pos : Pos} (ha : PE X a (toE G xv Wx d)) (hb : PE X (.BoolOp .And (b :: rest) pos) (toE G xv Wx e)) : PE X (.BoolOp .And (a :: b :: rest) pos) (toE G xv Wx (dAndV d e)) := PEi (pe_and ha hb) fun s H Q ⟨r, t, S, l, rl, o⟩ =>
  toX.bind l rl o fun w S1 r1 H1 b _ e1 rl1 l1 q o1 => by
    cases w with
    | bl k =>
      cases q
      refine ⟨k, rfl, ?_⟩
      cases k with
      | true => exact ⟨r1, t, S1, l1, rl1, o1⟩
      | false => exact o1 r1 H1 _ .refl rl1 (.bl false)
    | _ => exact o1.elim
theorem de_or {a b : Expr} {rest : List Expr} {d e : DX} {pos : Pos} (ha : PE X a (toE G xv Wx d)) (hb : PE X (.BoolOp .Or (b :: rest) pos) (toE G xv Wx e)) : PE X (.BoolOp .Or (a :: b :: rest) pos) (toE G xv Wx (dOrV d e)) := PEi (pe_or ha hb) fun s H Q ⟨r, t, S, l, rl, o⟩ =>
  toX.bind l rl o fun w S1 r1 H1 b _ e1 rl1 l1 q o1 => by
    cases w with
    | bl k =>
      cases q
      refine ⟨k, rfl, ?_⟩
      cases k with
      | true => exact o1 r1 H1 _ .refl rl1 (.bl true)
      | false => exact ⟨r1, t, S1, l1, rl1, o1⟩
    | _ => exact o1.elim
theorem de_not {a : Expr} {d : DX} {pos : Pos} (ha : PE X a (toE G xv Wx d)) : PE X (.UnaryOp .Not a pos) (toE G xv Wx (dNotV d)) := PEi (pe_not ha) fun s H Q ⟨r, t, S, l, rl, o⟩ =>
  toX.bind l rl o fun w S1 r1 H1 b _ e1 rl1 l1 q o1 => by
    cases w with
    | bl k =>
      cases q
      exact ⟨k, rfl, o1 r1 H1 _ .refl rl1 (.bl (!k))⟩
    | _ => exact o1.elim
/-! ### argument lists -/
def dNil : DA := fun _ S => .ok [] S
def dCons (a : DX) (b : DA) : DA := fun t S => (a t S).bind fun w S1 => (b t S1).bind fun ws S2 => .ok (w :: ws) S2
theorem da_nil : PA X [] (toA G xv Wx dNil) := PAi pa_nil fun s H Q ⟨r, t, S, l, rl, o⟩ => o r H [] .refl rl .nil
theorem da_cons {e : Expr} {es : List Expr} {d : DX} {ds : DA} (h1 : PE X e (toE G xv Wx d)) (h2 : PA X es (toA G xv Wx ds)) (he : starEach (e :: es) X.env = (false, eval e X.env) :: starEach es X.env := by rfl) : PA X (e :: es) (toA G xv Wx (dCons d ds)) :=
  PAi (pa_cons h1 h2 he) fun s H Q ⟨r, t, S, l, rl, o⟩ => toX.bind l rl o fun w S1 r1 H1 v _ e1 rl1 l1 q o1 => toX.bind l1 rl1 o1 fun ws S2 r2 H2 vs _ e2 rl2 l2 qs o2 => o2 r2 H2 _ .refl rl2 (.cons (q.ev e2) qs)
/-- a tuple is a value; a list that is never changed, too -/
def dTup (d : DA) : DX := fun t S => (d t S).bind fun ws S1 => if ws.length ≤ sizeLine then .ok (.tup ws) S1 else .no
def dLst (d : DA) : DX := fun t S => (d t S).bind fun ws S1 => if ws.length ≤ sizeLine then .ok (.lst ws) S1 else .no
/-- a list that will be changed -/
def dNewL (d : DA) : DX := fun t S => (d t S).bind fun ws S1 => if ws.length ≤ sizeLine then .ok (.ref S1.length) (S1 ++ [.lst ws]) else .no
theorem de_tup {es : List Expr} {x1} {d : DA} {pos : Pos} (h : PA X es (toA G xv Wx d)) : PE X (.Tuple es x1 pos) (toE G xv Wx (dTup d)) := PEi (pe_tup h) fun s H Q ⟨r, t, S, l, rl, o⟩ =>
  toX.bind l rl o fun ws S1 r1 H1 vs _ e1 rl1 l1 q o1 => by
    by_cases hl : ws.length ≤ sizeLine
    · rw [if_pos hl] at o1
      exact ⟨by rw [← q.length]; exact hl, fun p hp => o1 r1 _ _ (Ev.fresh hp rl1) (rl1.fresh hp) (.tup (.inl (Own.new hp rl1)) (q.ev (Ev.fresh hp rl1)))⟩
    · rw [if_neg hl] at o1; exact o1.elim
theorem de_lst {es : List Expr} {d : DA} {pos : Pos} (h : PA X es (toA G xv Wx d)) : PE X (.List es pos) (toE G xv Wx (dLst d)) := PEi (pe_lst h) fun s H Q ⟨r, t, S, l, rl, o⟩ =>
  toX.bind l rl o fun ws S1 r1 H1 vs _ e1 rl1 l1 q o1 => by
    by_cases hl : ws.length ≤ sizeLine
    · rw [if_pos hl] at o1
      exact ⟨by rw [← q.length]; exact hl, fun p hp => o1 r1 _ _ (Ev.fresh hp rl1) (rl1.fresh hp) (.lst (Own.new hp rl1) (q.ev (Ev.fresh hp rl1)))⟩
    · rw [if_neg hl] at o1; exact o1.elim
theorem de_newL {es : List Expr} {d : DA} {pos : Pos} (h : PA X es (toA G xv Wx d)) : PE X (.List es pos) (toE G xv Wx (dNewL d)) := PEi (pe_lst h) fun s H Q ⟨r, t, S, l, rl, o⟩ =>
  toX.bind l rl o fun ws S1 r1 H1 vs _ e1 rl1 l1 q o1 => by
    by_cases hl : ws.length ≤ sizeLine
    · rw [if_pos hl] at o1
      refine ⟨by rw [← q.length]; exact hl, fun p hp => ?_⟩
      refine o1 _ _ _ (Ev.snoc hp) (rl1.snoc hp (.lst q)) ?_
      have := RW.ref (G := G) (H := upd H1 p (.lst vs)) (S := S1 ++ [.lst ws]) (r := put r1 S1.length p) (i := S1.length) (by simp)
      rw [put_same] at this
      exact this
    · rw [if_neg hl] at o1; exact o1.elim
/-- an expression's thing of the store is held as a value from here on -/
def dFrz (d : DX) : DX := fun t S => (d t S).bind fun w S1 => match w with
  | .ref i => match S1[i]? with
    | some (.lst ws) => .ok (.lst ws) (S1.set i .dead)
    | some (.dic ks ws) => .ok (.dic ks ws) (S1.set i .dead)
    | some (.ins c ns ws) => .ok (.obj c ns ws) (S1.set i .dead)
    | _ => .no
  | w => .ok w S1
theorem de_frz {e : Expr} {d : DX} (h : PE X e (toE G xv Wx d)) : PE X e (toE G xv Wx (dFrz d)) := PEi h fun s H Q ⟨r, t, S, l, rl, o⟩ =>
  toX.bind l rl o fun w S1 r1 H1 v _ e1 rl1 l1 q o1 => by
    cases w with
    | ref i =>
      cases q with
      | ref hi =>
        simp only [] at o1
        cases e : S1[i]? with
        | none => rw [e] at o1; exact o1.elim
        | some u =>
          rw [e] at o1
          cases u with
          | dead => exact o1.elim
          | lst ws =>
            obtain ⟨ho, h1, h2⟩ := rl1.at_ i _ e (fun z => by cases z)
            cases h2 with
            | lst q => exact o1 r1 H1 _ Ev.kill rl1.kill (.lst (rl1.own e (fun z => by cases z) h1) (q.ev Ev.kill))
          | dic ks ws =>
            obtain ⟨ho, h1, h2⟩ := rl1.at_ i _ e (fun z => by cases z)
            cases h2 with
            | dic z q => exact o1 r1 H1 _ Ev.kill rl1.kill (.dic (rl1.own e (fun z => by cases z) h1) z (q.ev Ev.kill))
          | ins c ns ws =>
            obtain ⟨ho, h1, h2⟩ := rl1.at_ i _ e (fun z => by cases z)
            cases h2 with
            | ins z q => exact o1 r1 H1 _ Ev.kill rl1.kill (.obj (rl1.own e (fun z => by cases z) h1) z (q.ev Ev.kill))
    | _ => exact o1 r1 H1 v .refl rl1 q
end
end DD
namespace DD
open PySem PySem.Spec PyProof.Rows L2
section
variable {G : Gx} {xv : Nat → Value} {Wx : WX} {X : Cx} {H H' : Hp} {S S' : Sto} {r r' : Rh}
/-! ### statements -/
def R.toF {α : Type} (x : R α) (t : Lo) (k : α → Sto → F) : F :=
  match x with
  | .ok a S => k a S
  | .er c ns ws S => .er c ns ws t S
  | .no => .no
@[simp] theorem R.toF_ok {α : Type} (a : α) (S : Sto) (t : Lo) (k : α → Sto → F) : (R.ok a S).toF t k = k a S := rfl
@[simp] theorem R.toF_er {α : Type} (c : Nat) (ns : List Str) (ws : List W) (S : Sto) (t : Lo) (k : α → Sto → F) : (R.er c ns ws S : R α).toF t k = .er c ns ws t S := rfl
@[simp] theorem R.toF_no {α : Type} (t : Lo) (k : α → Sto → F) : (R.no : R α).toF t k = .no := rfl
theorem toX.bindS {α β : Type} {rel : Hp → Sto → Rh → α → β → Prop} {d : Lo → Sto → R α} {k : α → Sto → F} {t : Lo} {s : L2.St} {Q : β → Hp → Prop} {D : Ends}
    (l : RLo G H S r t s) (rl : Rl G H S r) (o : OutS G xv Wx H S r ((d t S).toF t k) D)
    (h : ∀ a S' r' H' b, d t S = .ok a S' → Ev H S r H' S' r' → Rl G H' S' r' → RLo G H' S' r' t s → rel H' S' r' a b → OutS G xv Wx H' S' r' (k a S') D → Q b H') : toX G xv Wx rel d s H Q := by
  refine ⟨r, t, S, l, rl, ?_⟩
  cases e : d t S with
  | ok a S1 =>
    rw [e, R.toF_ok] at o
    exact fun r1 H1 v e1 l1 q => h a S1 r1 H1 v e e1 l1 (l.ev e1) q (o.from e1)
  | er c ns ws S1 =>
    rw [e] at o
    exact fun r1 H1 d e1 rl1 x => o r1 H1 s d e1 rl1 (l.ev e1) x
  | no =>
    rw [e] at o
    exact o
def F.andThen (x : F) (k : Lo → Sto → F) : F :=
  match x with
  | .nx t S => k t S
  | x => x
def dNext : DS := fun t S => .nx t S
def dSeq (a b : DS) : DS := fun t S => (a t S).andThen b
def dBreak : DS := fun t S => .bk t S
def dCont : DS := fun t S => .ct t S
def dDrop (d : DX) : DS := fun t S => (d t S).toF t fun _ S1 => .nx t S1
def dRet (d : DX) : DS := fun t S => (d t S).toF t fun w S1 => .rt w S1
def dRetN : DS := fun t S => .rt .non S
def dIfS (c : DT) (a b : DS) : DS := fun t S => (c t S).toF t fun k S1 => if k = true then a t S1 else b t S1
def dNever : DS := fun _ _ => .no
theorem dss_nil : PSs X [] (toS G xv Wx dNext) := PSsi pss_nil fun D s H ⟨r, t, S, l, rl, o⟩ => o r H s .refl rl l
theorem dss_cons {st : Stmt} {rest : List Stmt} {a b : DS} (h1 : PS X st (toS G xv Wx a)) (h2 : PSs X rest (toS G xv Wx b)) : PSs X (st :: rest) (toS G xv Wx (dSeq a b)) := PSsi (pss_cons h1 h2) fun D s H ⟨r, t, S, l, rl, o⟩ => by
  refine ⟨r, t, S, l, rl, ?_⟩
  unfold dSeq at o
  cases e : a t S with
  | nx t1 S1 =>
    rw [e] at o
    exact fun r1 H1 s1 e1 rl1 l1 => ⟨r1, t1, S1, l1, rl1, OutS.from e1 o⟩
  | rt w S1 => rw [e] at o; exact o
  | bk t1 S1 => rw [e] at o; exact o
  | ct t1 S1 => rw [e] at o; exact o
  | er c ns ws t1 S1 => rw [e] at o; exact o
  | no => rw [e] at o; exact o
theorem dss_one {st : Stmt} {a : DS} (h1 : PS X st (toS G xv Wx a)) : PSs X [st] (toS G xv Wx a) := pss_one h1
theorem ds_pass {pos : Pos} : PS X (.Pass pos) (toS G xv Wx dNext) := PSi ps_pass fun D s H ⟨r, t, S, l, rl, o⟩ => o r H s .refl rl l
theorem ds_break {pos : Pos} : PS X (.Break pos) (toS G xv Wx dBreak) := PSi ps_break fun D s H ⟨r, t, S, l, rl, o⟩ => o r H s .refl rl l
theorem ds_cont {pos : Pos} : PS X (.Continue pos) (toS G xv Wx dCont) := PSi ps_continue fun D s H ⟨r, t, S, l, rl, o⟩ => o r H s .refl rl l
theorem ds_never {st : Stmt} : PS X st (toS G xv Wx dNever) := PSi ps_never fun D s H ⟨r, t, S, l, rl, o⟩ => o
theorem dss_never {st : List Stmt} : PSs X st (toS G xv Wx dNever) := PSsi pss_never fun D s H ⟨r, t, S, l, rl, o⟩ => o
theorem ds_expr {e : Expr} {d : DX} {pos : Pos} (he : PE X e (toE G xv Wx d)) (hs : swapsWith e none pos.line X.env = pure false := by rfl) : PS X (.Expr e pos) (toS G xv Wx (dDrop d)) := PSi (ps_expr he hs) fun D s H ⟨r, t, S, l, rl, o⟩ =>
  toX.bindS l rl o fun w S1 r1 H1 v _ e1 rl1 l1 q o1 => o1 r1 H1 s .refl rl1 l1
theorem ds_ret {e : Expr} {d : DX} {pos : Pos} (he : PE X e (toE G xv Wx d)) : PS X (.Return (some e) pos) (toS G xv Wx (dRet d)) := PSi (ps_ret he) fun D s H ⟨r, t, S, l, rl, o⟩ =>
  toX.bindS l rl o fun w S1 r1 H1 v _ e1 rl1 l1 q o1 => o1 r1 H1 v .refl rl1 q
theorem ds_retN {pos : Pos} : PS X (.Return none pos) (toS G xv Wx dRetN) := PSi ps_retN fun D s H ⟨r, t, S, l, rl, o⟩ => o r H .non .refl rl .non
theorem ds_if {c : Expr} {a b : List Stmt} {dc : DT} {da db : DS} {pos : Pos} (hc : PT X c (toT G xv Wx dc)) (ha : PSs X a (toS G xv Wx da)) (hb : PSs X b (toS G xv Wx db)) : PS X (.If c a b pos) (toS G xv Wx (dIfS dc da db)) := PSi (ps_if hc ha hb) fun D s H ⟨r, t, S, l, rl, o⟩ =>
  toX.bindS l rl o fun k S1 r1 H1 v _ e1 rl1 l1 q o1 => by
    subst q
    cases k with
    | true => exact ⟨r1, t, S1, l1, rl1, o1⟩
    | false => exact ⟨r1, t, S1, l1, rl1, o1⟩
/-! ### targets -/
theorem PGi {e : Expr} {t t' : TG} (h : PG X e t) (i : ∀ v s H Q, t' v s H Q → t v s H Q) : PG X e t' := ⟨fun pins s σ H v u Q I rv q => h.run pins s σ H v u Q I rv (i _ _ _ _ q)⟩
theorem PGsi {e : List Expr} {t t' : TGs} (h : PGs X e t) (i : ∀ v s H Q, t' v s H Q → t v s H Q) : PGs X e t' := ⟨fun pins s σ H v u Q I rv q => h.run pins s σ H v u Q I rv (i _ _ _ _ q)⟩
abbrev DGs := List W → Lo → Sto → R Lo
def toGs (G : Gx) (xv : Nat → Value) (d : DGs) : TGs := fun vs s H Q => ∃ r t S ws, RLo G H S r t s ∧ Rl G H S r ∧ RWs G H S r ws vs ∧ OutE G xv (fun _ _ _ _ => False) (fun H' S' r' t' s' => RLo G H' S' r' t' s') s H S r (d ws t S) Q
def gN (i : Nat) : DG := fun w t S => .ok (t.set i (some w)) S
def gsNil : DGs := fun ws t S => match ws with
  | [] => .ok t S
  | _ => .no
def gsCons (g : DG) (gs : DGs) : DGs := fun ws t S => match ws with
  | w :: ws => (g w t S).bind fun t1 S1 => gs ws t1 S1
  | [] => .no
def gTp (n : Nat) (gs : DGs) : DG := fun w t S => match w with
  | .tup ws => if ws.length = n then gs ws t S else .no
  | _ => .no
theorem dg_name {i : Nat} {x : Str} {pos : Pos} (c : Cok G X Wx) (hi : X.N[i]? = some x := by rfl) (hx : Loc X.env.scope x := by first | exact Or.inl rfl | exact Or.inr rfl) (hf : X.fn x = true ∨ X.env.scope.names.lookup x = some .local := by first | exact .inl rfl | exact .inr rfl) : PG X (.Name x pos) (toG G xv (gN i)) :=
  PGi (pg_name c.nd hi hx hf) fun v s H Q ⟨r, t, S, w, l, rl, q, o⟩ => o r H _ .refl rl (l.set q i)
theorem dgs_nil : PGs X [] (toGs G xv gsNil) := PGsi pgs_nil fun vs s H Q ⟨r, t, S, ws, l, rl, q, o⟩ => by
  cases q with
  | nil => exact ⟨rfl, o r H _ .refl rl l⟩
  | cons _ _ => exact o.elim
theorem dgs_cons {e : Expr} {es : List Expr} {g : DG} {gs : DGs} (h1 : PG X e (toG G xv g)) (h2 : PGs X es (toGs G xv gs)) (hs : (assignEach (e :: es) X.env).map (·.2) = assign e X.env :: (assignEach es X.env).map (·.2) := by rfl) : PGs X (e :: es) (toGs G xv (gsCons g gs)) :=
  PGsi (pgs_cons h1 h2 hs) fun vs s H Q ⟨r, t, S, ws, l, rl, q, o⟩ => by
    cases q with
    | nil => exact o.elim
    | @cons w ws' v vs' a b =>
      refine ⟨_, _, rfl, r, t, S, _, l, rl, a, ?_⟩
      simp only [gsCons] at o
      cases e : g w t S with
      | ok t1 S1 =>
        rw [e, R.bind_ok] at o
        exact fun r1 H1 s1 e1 rl1 l1 => ⟨r1, t1, S1, _, l1, rl1, b.ev e1, by
          cases e2 : gs ws' t1 S1 with
          | ok t2 S2 =>
            rw [e2] at o
            exact fun r2 H2 s2 e2 rl2 l2 => o r2 H2 s2 (e1.trans e2) rl2 l2
          | er c ns us S2 =>
            rw [e2] at o
            exact fun r2 H2 d e2 rl2 x => o r2 H2 d (e1.trans e2) rl2 x
          | no => rw [e2] at o; exact o⟩
      | er c ns us S1 =>
        rw [e] at o
        exact o
      | no => rw [e] at o; exact o
theorem dg_tup {es : List Expr} {k : Nat} {gs : DGs} {n : Nat} {pos : Pos} (c : Cok G X Wx) (h : PGs X es (toGs G xv gs)) (hn : (assignEach es X.env).length = n := by rfl) (hst : (assignEach es X.env).findIdx? (·.1) = none := by rfl) : PG X (.Tuple es k pos) (toG G xv (gTp n gs)) :=
  PGi (pg_tup c.calm h hn hst) fun v s H Q ⟨r, t, S, w, l, rl, q, o⟩ => by
    cases w with
    | tup ws =>
      cases q with
      | @tup a _ vs ta q =>
        simp only [gTp] at o
        by_cases hl : ws.length = n
        · rw [if_pos hl] at o
          exact ⟨a, vs, rfl, by rw [c.kk]; exact ta.sq, by rw [← q.length]; exact hl, r, t, S, ws, l, rl, q, o⟩
        · rw [if_neg hl] at o; exact o.elim
    | _ => exact o.elim
/-- target = value -/
def dAsg (d : DX) (g : DG) : DS := fun t S => (d t S).toF t fun w S1 => match g w t S1 with
  | .ok t' S2 => .nx t' S2
  | _ => .no
theorem outG {g : DG} {w : W} {t : Lo} {s : L2.St} {D : Ends} (o : OutS G xv Wx H S r (match g w t S with
  | .ok t' S2 => F.nx t' S2
  | _ => .no) D) : OutE G xv (fun _ _ _ _ => False) (fun H' S' r' t' s' => RLo G H' S' r' t' s') s H S r (g w t S) D.nx := by
  cases e : g w t S with
  | ok t' S2 => rw [e] at o; exact o
  | er c ns ws S2 => rw [e] at o; exact o.elim
  | no => rw [e] at o; exact o.elim
theorem ds_asg {tg e : Expr} {d : DX} {g : DG} {pos : Pos} (he : PE X e (toE G xv Wx d)) (hg : PG X tg (toG G xv g)) (hs : swapsWithSole [tg] e pos.line X.env = pure false := by rfl) (hw : swappedStores [tg] e X.env = pure none := by rfl)
    (h1 : (assignEach [tg] X.env).map (·.2) = [assign tg X.env] := by rfl) : PS X (.Assign [tg] e pos) (toS G xv Wx (dAsg d g)) := PSi (ps_asg he hg hs hw h1) fun D s H ⟨r, t, S, l, rl, o⟩ =>
  toX.bindS l rl o fun w S1 r1 H1 v _ e1 rl1 l1 q o1 => ⟨r1, t, S1, w, l1, rl1, q, outG o1⟩
theorem ds_set {i : Nat} {x : Str} {e : Expr} {d : DX} {pos pos' : Pos} (c : Cok G X Wx) (he : PE X e (toE G xv Wx d)) (hi : X.N[i]? = some x := by rfl) (hx : Loc X.env.scope x := by first | exact Or.inl rfl | exact Or.inr rfl) (hs : swapsWith e (some (.Name x pos')) pos.line X.env = pure false := by rfl) (hf : X.fn x = true ∨ X.env.scope.names.lookup x = some .local := by first | exact .inl rfl | exact .inr rfl) :
    PS X (.Assign [.Name x pos'] e pos) (toS G xv Wx (dAsg d (gN i))) := PSi (ps_set c.nd hi hx he hs hf) fun D s H ⟨r, t, S, l, rl, o⟩ =>
  toX.bindS l rl o fun w S1 r1 H1 v _ e1 rl1 l1 q o1 => o1 r1 H1 _ .refl rl1 (l1.set q i)
/-- a, b = x, y -/
def dPar (i j : Nat) (d : DA) : DS := fun t S => (d t S).toF t fun ws S1 => match ws with
  | [a, b] => .nx ((t.set i (some a)).set j (some b)) S1
  | _ => .no
theorem ds_par {i j : Nat} {x y : Str} {a b : Expr} {d : DA} {px py pt pos : Pos} {kt k2 pt2} (c : Cok G X Wx) (ha : PA X [a, b] (toA G xv Wx d)) (hi : X.N[i]? = some x := by rfl) (hj : X.N[j]? = some y := by rfl) (hij : i ≠ j := by decide)
    (hx : X.env.scope.names.lookup x = some .local := by rfl) (hy : X.env.scope.names.lookup y = some .local := by rfl)
    (hw : swappedStores [.Tuple [.Name x px, .Name y py] kt pt] (.Tuple [a, b] k2 pt2) X.env = pure (some [x, y]) := by rfl)
    (hs : swapsWithSole [.Tuple [.Name x px, .Name y py] kt pt] (.Tuple [a, b] k2 pt2) pos.line X.env = pure false := by rfl) : PS X (.Assign [.Tuple [.Name x px, .Name y py] kt pt] (.Tuple [a, b] k2 pt2) pos) (toS G xv Wx (dPar i j d)) := PSi (ps_par c.calm c.nd hi hj hij hx hy ha hw hs) fun D s H ⟨r, t, S, l, rl, o⟩ =>
  toX.bindS l rl o fun ws S1 r1 H1 vs _ e1 rl1 l1 q o1 => by
    cases q with
    | nil => exact o1.elim
    | cons a q =>
      cases q with
      | nil => exact o1.elim
      | cons b q =>
        cases q with
        | nil => exact ⟨_, _, rfl, o1 r1 H1 _ .refl rl1 ((l1.set a i).set b j)⟩
        | cons _ _ => exact o1.elim
/-! ### while -/
def wh (c : DT) (b : DS) : Nat → Lo → Sto → F
  | 0, _, _ => .no
  | n + 1, t, S => (c t S).toF t fun k S1 => if k = true then match b t S1 with
      | .nx t2 S2 => wh c b n t2 S2
      | .ct t2 S2 => wh c b n t2 S2
      | .bk t2 S2 => .nx t2 S2
      | x => x
    else .nx t S1
open Classical in
noncomputable def dWhile (c : DT) (b : DS) : DS := fun t S => if h : ∃ n, wh c b n t S ≠ .no then wh c b h.choose t S else .no
theorem ds_while {c : Expr} {body : List Stmt} {dc : DT} {db : DS} {pos : Pos} (k : Cok G X Wx) (hc : PT X c (toT G xv Wx dc)) (hb : PSs X body (toS G xv Wx db)) : PS X (.While c body [] pos) (toS G xv Wx (dWhile dc db)) := PSi (ps_while k.po hc hb) fun D s H ⟨r, t, S, l, rl, o⟩ => by
  unfold dWhile at o
  split at o
  case isFalse => exact o.elim
  case isTrue h =>
  generalize h.choose = n at o
  clear h
  refine ⟨fun m s1 H1 => ∃ r1 t1 S1, Rl G H1 S1 r1 ∧ RLo G H1 S1 r1 t1 s1 ∧ OutS G xv Wx H1 S1 r1 (wh dc db m t1 S1) D, ⟨n, r, t, S, rl, l, o⟩, ?_⟩
  rintro m s1 H1 ⟨r1, t1, S1, rl1, l1, o1⟩
  cases m with
  | zero => exact o1.elim
  | succ m =>
    refine toX.bindS l1 rl1 o1 fun b S2 r2 H2 v _ e2 rl2 l2 q o2 => ?_
    subst q
    cases b with
    | false => exact o2 r2 H2 s1 .refl rl2 l2
    | true =>
      rw [if_pos rfl]
      refine ⟨fun s3 H3 => ∃ r3 t3 S3, Rl G H3 S3 r3 ∧ RLo G H3 S3 r3 t3 s3 ∧ OutS G xv Wx H3 S3 r3 (wh dc db m t3 S3) D, fun s3 H3 h3 => ⟨m, Nat.lt_succ_self m, h3⟩, r2, t1, S2, l2, rl2, ?_⟩
      rw [if_pos rfl] at o2
      cases e : db t1 S2 with
      | nx t3 S3 => rw [e] at o2; exact fun r3 H3 s3 e3 rl3 l3 => ⟨r3, t3, S3, rl3, l3, OutS.from e3 o2⟩
      | ct t3 S3 => rw [e] at o2; exact fun r3 H3 s3 e3 rl3 l3 => ⟨r3, t3, S3, rl3, l3, OutS.from e3 o2⟩
      | bk t3 S3 => rw [e] at o2; exact o2
      | rt w S3 => rw [e] at o2; exact o2
      | er c ns ws t3 S3 => rw [e] at o2; exact o2
      | no => rw [e] at o2; exact o2
theorem wh_mono {c : DT} {b : DS} : ∀ {n m : Nat} {t : Lo} {S : Sto} {x : F}, wh c b n t S = x → x ≠ .no → n ≤ m → wh c b m t S = x
  | 0, _, _, _, _, e, h, _ => absurd e.symm h
  | n + 1, 0, _, _, _, _, _, h => absurd h (Nat.not_succ_le_zero n)
  | n + 1, m + 1, t, S, x, e, h, hm => by
    unfold wh at e ⊢
    cases e1 : c t S with
    | no => rw [e1] at e; exact e
    | er c ns ws S1 => rw [e1] at e; exact e
    | ok k S1 =>
      rw [e1] at e
      simp only [R.toF_ok] at e ⊢
      cases k with
      | false => exact e
      | true =>
        rw [if_pos rfl] at e ⊢
        cases e2 : b t S1 with
        | nx t2 S2 => rw [e2] at e; exact wh_mono (n := n) (m := m) e h (Nat.le_of_succ_le_succ hm)
        | ct t2 S2 => rw [e2] at e; exact wh_mono (n := n) (m := m) e h (Nat.le_of_succ_le_succ hm)
        | bk t2 S2 => rw [e2] at e; exact e
        | rt w S2 => rw [e2] at e; exact e
        | er c ns ws t2 S2 => rw [e2] at e; exact e
        | no => rw [e2] at e; exact e
/-- a while's end, by any number of turns -/
theorem dWhile_eq {c : DT} {b : DS} {n : Nat} {t : Lo} {S : Sto} {x : F} (e : wh c b n t S = x) (h : x ≠ .no) : dWhile c b t S = x := by
  unfold dWhile
  have ex : ∃ n, wh c b n t S ≠ .no := ⟨n, by rw [e]; exact h⟩
  rw [dif_pos ex]
  have hc := ex.choose_spec
  generalize ex.choose = m at hc
  rcases Nat.le_total n m with hm | hm
  · exact wh_mono e h hm
  · have := wh_mono (n := m) (m := n) (x := wh c b m t S) rfl hc hm
    rw [← this]; exact e
/-! ### for -/
/-- the walked thing yields the values ws, one after another, whatever happens meanwhile -/
structure ItOk (G : Gx) (H : Hp) (S : Sto) (r : Rh) (J : It) (ws : List W) : Prop where
  go : ∀ H1 S1 r1, Mp H S r H1 S1 r1 → Rl G H1 S1 r1 → ∀ i w, ws[i]? = some w → J.go i H1
  yld : ∀ H1 S1 r1, Mp H S r H1 S1 r1 → Rl G H1 S1 r1 → ∀ i w, ws[i]? = some w → ∀ x H2, J.yld i H1 x H2 → Ev H1 S1 r1 H2 S1 r1 ∧ Rl G H2 S1 r1 ∧ RW G H2 S1 r1 w x
  stop : ∀ H1 S1 r1, Mp H S r H1 S1 r1 → Rl G H1 S1 r1 → ∀ i, ws.length ≤ i → J.stop i H1
abbrev toI (G : Gx) (xv : Nat → Value) (Wx : WX) (d : DA) : TI := toX G xv Wx (fun H S r w J => ItOk G H S r J w) d
theorem PIi {tg e : Expr} {t t' : TI} (h : PI X tg e t) (i : ∀ s H Q, t' s H Q → t s H Q) : PI X tg e t' := ⟨fun pins s σ H Q I q => h.run pins s σ H Q I (i _ _ _ q)⟩
def forL (g : DG) (b : DS) : List W → Lo → Sto → F
  | [], t, S => .nx t S
  | w :: ws, t, S => match g w t S with
    | .ok t1 S1 => match b t1 S1 with
      | .nx t2 S2 => forL g b ws t2 S2
      | .ct t2 S2 => forL g b ws t2 S2
      | .bk t2 S2 => .nx t2 S2
      | x => x
    | _ => .no
def dFor (d : DA) (g : DG) (b : DS) : DS := fun t S => (d t S).toF t fun ws S1 => forL g b ws t S1
theorem ds_for {tg iter : Expr} {body : List Stmt} {d : DA} {g : DG} {db : DS} {pos : Pos} (k : Cok G X Wx) (hi : PI X tg iter (toI G xv Wx d)) (hg : PG X tg (toG G xv g)) (hb : PSs X body (toS G xv Wx db))
    (hs : ∀ x, foldedSetIterable iter X.env x = pure x := by intro _; rfl) : PS X (.For tg iter body [] pos) (toS G xv Wx (dFor d g db)) := PSi (ps_for k.po k.calm hi hg hb hs) fun D s H ⟨r, t, S, l, rl, o⟩ => by
  refine toX.bindS l rl o fun ws S1 r1 H1 J _ e1 rl1 l1 q o1 => ?_
  refine ⟨fun i m s2 H2 => ∃ r2 t2 S2, m + i = ws.length ∧ Ev H1 S1 r1 H2 S2 r2 ∧ Rl G H2 S2 r2 ∧ RLo G H2 S2 r2 t2 s2 ∧ OutS G xv Wx H2 S2 r2 (forL g db (ws.drop i) t2 S2) D, ⟨ws.length, r1, t, S1, rfl, .refl, rl1, l1, o1⟩, ?_⟩
  rintro i m s2 H2 ⟨r2, t2, S2, hm, e2, rl2, l2, o2⟩
  by_cases hi : i < ws.length
  · have hw : ws[i]? = some ws[i] := List.getElem?_eq_getElem hi
    rw [List.drop_eq_getElem_cons hi] at o2
    unfold forL at o2
    refine .inr ⟨q.go H2 S2 r2 e2.mp rl2 i _ hw, fun s3 H3 => ∃ r3 t3 S3, Ev H1 S1 r1 H3 S3 r3 ∧ Rl G H3 S3 r3 ∧ RLo G H3 S3 r3 t3 s3 ∧ OutS G xv Wx H3 S3 r3 (forL g db (ws.drop (i + 1)) t3 S3) D, fun s3 H3 ⟨r3, t3, S3, e3, rl3, l3, o3⟩ => ⟨m - 1, by omega, r3, t3, S3, by omega, e3, rl3, l3, o3⟩, fun x H3 hy => ?_⟩
    obtain ⟨e3, rl3, qx⟩ := q.yld H2 S2 r2 e2.mp rl2 i _ hw x H3 hy
    refine ⟨r2, t2, S2, ws[i], l2.ev e3, rl3, qx, ?_⟩
    have o3 := OutS.from e3 o2
    cases eg : g ws[i] t2 S2 with
    | er c ns us S4 => rw [eg] at o3; exact o3.elim
    | no => rw [eg] at o3; exact o3.elim
    | ok t4 S4 =>
      simp only [eg] at o3
      refine fun r4 H4 s4 e4 rl4 l4 => ⟨r4, t4, S4, l4, rl4, ?_⟩
      have o4 := OutS.from e4 o3
      cases eb : db t4 S4 with
      | nx t5 S5 => rw [eb] at o4; exact fun r5 H5 s5 e5 rl5 l5 => ⟨r5, t5, S5, ((e2.trans e3).trans e4).trans e5, rl5, l5, OutS.from e5 o4⟩
      | ct t5 S5 => rw [eb] at o4; exact fun r5 H5 s5 e5 rl5 l5 => ⟨r5, t5, S5, ((e2.trans e3).trans e4).trans e5, rl5, l5, OutS.from e5 o4⟩
      | bk t5 S5 => rw [eb] at o4; exact o4
      | rt w S5 => rw [eb] at o4; exact o4
      | er c ns us t5 S5 => rw [eb] at o4; exact o4
      | no => rw [eb] at o4; exact o4
  · have hl : ws.length ≤ i := Nat.le_of_not_lt hi
    rw [List.drop_eq_nil_of_le hl] at o2
    exact .inl ⟨q.stop H2 S2 r2 e2.mp rl2 i hl, o2 r2 H2 s2 .refl rl2 l2⟩
/-- a list, a tuple, the script as they stand -/
def dItems (d : DX) : DA := fun t S => (d t S).bind fun w S1 => match w with
  | .lst ws => .ok ws S1
  | .scr ws => .ok ws S1
  | _ => .no
def dItemsT (d : DX) : DA := fun t S => (d t S).bind fun w S1 => match w with
  | .tup ws => .ok ws S1
  | _ => .no
theorem itl {a : Addr} {ws : List W} {vs : List V} (hs : ∀ H1 S1 r1, Mp H S r H1 S1 r1 → SqL G.K H1 a vs) (q : RWs G H S r ws vs) : ItOk G H S r (Itl G.K a) ws where
  go := fun H1 S1 r1 e rl i w hw => by
    obtain ⟨v, h1, _⟩ := q.get hw
    exact ⟨vs, v, hs H1 S1 r1 e, h1⟩
  yld := fun H1 S1 r1 e rl i w hw x H2 hy => by
    obtain ⟨v, h1, h2⟩ := q.get hw
    obtain ⟨rfl, f⟩ := hy
    have := f vs (hs _ S1 r1 e)
    rw [h1] at this
    cases this
    exact ⟨.refl, rl, h2.mp e⟩
  stop := fun H1 S1 r1 e rl i hi => ⟨vs, hs H1 S1 r1 e, by rw [← q.length]; exact hi⟩
theorem itt {a : Addr} {ws : List W} {vs : List V} (ta : TupAt G H S r a vs) (q : RWs G H S r ws vs) : ItOk G H S r (Itt G.K a) ws where
  go := fun H1 S1 r1 e rl i w hw => by
    obtain ⟨v, h1, _⟩ := q.get hw
    exact ⟨vs, v, (ta.mp e).sq, h1⟩
  yld := fun H1 S1 r1 e rl i w hw x H2 hy => by
    obtain ⟨v, h1, h2⟩ := q.get hw
    obtain ⟨rfl, f⟩ := hy
    have := f vs (ta.mp e).sq
    rw [h1] at this
    cases this
    exact ⟨.refl, rl, h2.mp e⟩
  stop := fun H1 S1 r1 e rl i hi => ⟨vs, (ta.mp e).sq, by rw [← q.length]; exact hi⟩
theorem di_list {tg e : Expr} {d : DX} (k : Cok G X Wx) (he : PE X e (toE G xv Wx d)) : PI X tg e (toI G xv Wx (dItems d)) := PIi (pi_list he) fun s H Q ⟨r, t, S, l, rl, o⟩ =>
  toX.bind l rl o fun w S1 r1 H1 v _ e1 rl1 l1 q o1 => by
    rw [k.kk]
    cases w with
    | lst ws =>
      cases q with
      | lst ow q =>
        exact ⟨_, rfl, ⟨_, .inl (.inl ow.1)⟩, o1 r1 H1 _ .refl rl1 (itl (fun H2 S2 r2 e2 => .inl (.inl (e2.own _ _ ow).1)) q)⟩
    | scr ws =>
      cases q with
      | scr ow q =>
        exact ⟨_, rfl, ⟨_, ow.sq⟩, o1 r1 H1 _ .refl rl1 (itl (fun H2 S2 r2 e2 => (ow.mp e2).sq) q)⟩
    | _ => exact o1.elim
theorem di_tup {tg e : Expr} {d : DX} (k : Cok G X Wx) (he : PE X e (toE G xv Wx d)) : PI X tg e (toI G xv Wx (dItemsT d)) := PIi (pi_tup he) fun s H Q ⟨r, t, S, l, rl, o⟩ =>
  toX.bind l rl o fun w S1 r1 H1 v _ e1 rl1 l1 q o1 => by
    rw [k.kk]
    cases w with
    | tup ws =>
      cases q with
      | tup ta q => exact ⟨_, rfl, ⟨_, ta.sq⟩, o1 r1 H1 _ .refl rl1 (itt ta q)⟩
    | _ => exact o1.elim
end
end DD
namespace DD
open PySem PySem.Spec PyProof.Rows L2
section
variable {G : Gx} {xv : Nat → Value} {Wx : WX} {X : Cx} {H H' : Hp} {S S' : Sto} {r r' : Rh}
/-- no exception is let out -/
abbrev W0 : WX := fun _ _ _ _ => False
theorem Cok.blk (k : Cok G X Wx) (s : Shared) (H : Hp) (scope : Scope) (cenv : Env) (fp : List Addr) : Cok G (X.blk s H scope cenv fp) W0 :=
  ⟨k.kk, fun _ _ ⟨_, _, _, _, _, _, _, _, _, _, _, _, _, _, _, _, w⟩ => w.elim, PassesOwn.never, k.calm, k.nd⟩
/-! ### comprehensions -/
def wipeW (t : Lo) : List Nat → Lo
  | [] => t
  | v :: vs => (wipeW t vs).set v none
theorem RLo.wipe {t : Lo} {s : L2.St} (q : RLo G H S r t s) : ∀ vs : List Nat, RLo G H S r (wipeW t vs) (wipe s vs)
  | [] => q
  | v :: vs => (q.wipe vs).unset v
theorem wipe_set {i : Nat} {v : Option V} : ∀ {vs : List Nat} {s : L2.St}, i ∈ vs → wipe (s.set i v) vs = wipe s vs
  | [], s, h => by simp at h
  | k :: vs, s, h => by
    unfold wipe
    by_cases hk : i = k
    · subst hk
      by_cases hi : i ∈ vs
      · rw [wipe_set hi]
      · have : ∀ (us : List Nat) (s : L2.St), i ∉ us → wipe (s.set i v) us = (wipe s us).set i v := by
          intro us
          induction us with
          | nil => intro s _; rfl
          | cons u us ih =>
            intro s hu
            simp only [List.mem_cons, not_or] at hu
            unfold wipe
            rw [ih s hu.2, List.set_comm _ _ hu.1]
        rw [this vs s hi, List.set_set]
    · rw [wipe_set ((List.mem_cons.mp h).resolve_left hk)]
theorem wipe_comm {v : Nat} : ∀ {vs : List Nat} {s : L2.St}, wipe (s.set v none) vs = (wipe s vs).set v none
  | [], s => rfl
  | k :: vs, s => by
    unfold wipe
    rw [wipe_comm]
    by_cases h : v = k
    · subst h; rfl
    · rw [List.set_comm _ _ h]
theorem wipe_wipe : ∀ {vs : List Nat} {s : L2.St}, wipe (wipe s vs) vs = wipe s vs
  | [], s => rfl
  | k :: vs, s => by
    show (wipe ((wipe s vs).set k none) vs).set k none = (wipe s vs).set k none
    rw [wipe_comm, wipe_wipe, List.set_set]
/-- the places of a target that is a name or a flat tuple of names -/
inductive Tg where
  | nm (i : Nat) | tp (is : List Nat)
def gNs : List Nat → TGs
  | [] => gNil
  | i :: is => gCons (gName i) (gNs is)
def Tg.toTG (K : PySem.W.Frag) : Tg → TG
  | .nm i => gName i
  | .tp is => gTup K is.length (gNs is)
def Tg.places : Tg → List Nat
  | .nm i => [i]
  | .tp is => is
def setAll : Lo → List Nat → List W → Lo
  | t, i :: is, w :: ws => setAll (t.set i (some w)) is ws
  | t, _, _ => t
def Tg.put : Tg → W → Lo → Option Lo
  | .nm i, w, t => some (t.set i (some w))
  | .tp is, .tup ws, t => if ws.length = is.length then some (setAll t is ws) else none
  | .tp _, _, _ => none
theorem gNs_ok {vs : List Nat} {Q : L2.St → Hp → Prop} : ∀ {is : List Nat} {ws : List W} {xs : List V} {t : Lo} {s : L2.St}, (∀ i ∈ is, i ∈ vs) → RWs G H S r ws xs → RLo G H S r t s → ws.length = is.length → (∀ s', RLo G H S r (setAll t is ws) s' → wipe s' vs = wipe s vs → Q s' H) → gNs is xs s H Q
  | [], [], _, t, s, _, .nil, l, _, h => ⟨rfl, h s l rfl⟩
  | i :: is, w :: ws, _, t, s, hi, .cons a q, l, hl, h => by
    refine ⟨_, _, rfl, ?_⟩
    refine gNs_ok (fun j hj => hi j (List.mem_cons_of_mem _ hj)) q (l.set a i) (by simpa using hl) fun s' l' hw => h s' l' ?_
    rw [hw, wipe_set (hi i (List.mem_cons_self ..))]
  | [], _ :: _, _, _, _, _, _, _, hl, _ => by simp at hl
  | _ :: _, [], _, _, _, _, _, _, hl, _ => by simp at hl
theorem Tg.ok {vs : List Nat} {Q : L2.St → Hp → Prop} {g : Tg} {w : W} {x : V} {t t' : Lo} {s : L2.St} (hi : ∀ i ∈ g.places, i ∈ vs) (q : RW G H S r w x) (l : RLo G H S r t s) (e : g.put w t = some t')
    (h : ∀ s', RLo G H S r t' s' → wipe s' vs = wipe s vs → Q s' H) : g.toTG G.K x s H Q := by
  cases g with
  | nm i =>
    cases e
    exact h _ (l.set q i) (wipe_set (hi i (List.mem_cons_self ..)))
  | tp is =>
    cases w with
    | tup ws =>
      cases q with
      | @tup a _ xs ta q =>
        simp only [Tg.put] at e
        split at e
        · rename_i hl
          cases e
          exact ⟨a, xs, rfl, ta.sq, by rw [← q.length]; exact hl, gNs_ok hi q l hl h⟩
        · cases e
    | _ => cases e
def lcL (g : Tg) (tt : DT) (te : DX) (t0 : Lo) : List W → List W → Sto → R W
  | [], acc, S => .ok (.lst acc) S
  | w :: ws, acc, S => match g.put w t0 with
    | some t1 => match tt t1 S with
      | .ok true S2 => match te t1 S2 with
        | .ok x S3 => if acc.length < sizeLine then lcL g tt te t0 ws (acc ++ [x]) S3 else .no
        | _ => .no
      | .ok false S2 => lcL g tt te t0 ws acc S2
      | _ => .no
    | none => .no
def dLc (d : DA) (g : Tg) (tt : DT) (te : DX) (vs : List Nat) : DX := fun t S => (d t S).bind fun ws S1 => lcL g tt te (wipeW t vs) ws [] S1
theorem toLc {d : DA} {g : Tg} {tt : DT} {te : DX} {vs : List Nat} (hv : ∀ i ∈ g.places, i ∈ vs) (s : L2.St) (H : Hp) (Q : VK) : toE G xv Wx (dLc d g tt te vs) s H Q → tLc (toI G xv Wx d) (g.toTG G.K) (toT G xv W0 tt) (toE G xv W0 te) vs s H Q := by
  rintro ⟨r, t, S, l, rl, o⟩
  refine toX.bind l rl o fun ws S1 r1 H1 J _ e1 rl1 l1 q o1 => ?_
  intro D hD
  obtain ⟨f1, z1⟩ := r1
  have hz1 : ¬ z1 D := fun z => by
    obtain ⟨u, h⟩ := rl1.zs D z
    rw [hD] at h; cases h
  have sub : ∀ a, z1 a → (z1 a ∨ a = D) := fun a h => .inl h
  -- from the base into a state with D
  have inn : ∀ {H2 : Hp} {S2 : Sto} {f2 : Nat → Addr}, Ev H1 S1 ⟨f1, z1⟩ H2 S2 ⟨f2, z1⟩ → Mp H1 S1 ⟨f1, z1⟩ H2 S2 ⟨f2, fun a => z1 a ∨ a = D⟩ := fun {H2 S2 f2} e2 =>
    ⟨fun a u ow => ⟨(ow.ev e2).1, fun lv => by
      rcases lv with lv | lv | lv
      · exact (ow.ev e2).2 (.inl lv)
      · exact (ow.ev e2).2 (.inr lv)
      · exact ne_of_none ow.1 hD lv⟩, e2.rho, e2.len⟩
  refine ⟨fun i m H2 => ∃ (f2 : Nat → Addr) (S2 : Sto) (acc : List W) (av : List V), m + i = ws.length ∧ Ev H1 S1 ⟨f1, z1⟩ H2 S2 ⟨f2, z1⟩ ∧ Rl G H2 S2 ⟨f2, fun a => z1 a ∨ a = D⟩ ∧ H2 D = some (.lst av) ∧ RWs G H2 S2 ⟨f2, fun a => z1 a ∨ a = D⟩ acc av ∧
      OutE G xv Wx (fun H S r w v => RW G H S r w v) s H1 S1 ⟨f1, z1⟩ (lcL g tt te (wipeW t vs) (ws.drop i) acc S2) Q,
    ⟨ws.length, f1, S1, [], [], rfl, Ev.fresh hD rl1, rl1.add hD, upd_same, .nil, o1⟩, ?_⟩
  rintro i m H2 ⟨f2, S2, acc, av, hm, e2, rl2, d2, qa, o2⟩
  by_cases hi : i < ws.length
  · have hw : ws[i]? = some ws[i] := List.getElem?_eq_getElem hi
    rw [List.drop_eq_getElem_cons hi] at o2
    unfold lcL at o2
    refine .inr ⟨q.go H2 S2 _ (inn e2) rl2 i _ hw, fun H3 => ∃ (f3 : Nat → Addr) (S3 : Sto) (acc : List W) (av : List V), Ev H1 S1 ⟨f1, z1⟩ H3 S3 ⟨f3, z1⟩ ∧ Rl G H3 S3 ⟨f3, fun a => z1 a ∨ a = D⟩ ∧ H3 D = some (.lst av) ∧ RWs G H3 S3 ⟨f3, fun a => z1 a ∨ a = D⟩ acc av ∧
      OutE G xv Wx (fun H S r w v => RW G H S r w v) s H1 S1 ⟨f1, z1⟩ (lcL g tt te (wipeW t vs) (ws.drop (i + 1)) acc S3) Q, fun H3 ⟨f3, S3, acc, av, a1, a2, a3, a4, a5⟩ => ⟨m - 1, by omega, f3, S3, acc, av, by omega, a1, a2, a3, a4, a5⟩, fun x H3 hy => ?_⟩
    obtain ⟨e3, rl3, qx⟩ := q.yld H2 S2 _ (inn e2) rl2 i _ hw x H3 hy
    have b3 : Ev H1 S1 ⟨f1, z1⟩ H3 S2 ⟨f2, z1⟩ := e2.trans (e3.less rl3 sub)
    have d3 : H3 D = some (.lst av) := e3.kz D _ d2 (.inr rfl)
    have l3 : RLo G H3 S2 ⟨f2, fun a => z1 a ∨ a = D⟩ (wipeW t vs) (wipe s vs) := (l1.mp (inn b3)).wipe vs
    cases eg : g.put ws[i] (wipeW t vs) with
    | none => rw [eg] at o2; exact o2.elim
    | some t4 =>
      simp only [eg] at o2
      refine Tg.ok hv qx l3 eg fun s4 l4 w4 => ⟨by rw [w4, wipe_wipe], _, t4, S2, l4, rl3, ?_⟩
      cases et : tt t4 S2 with
      | er c ns us S5 => simp only [et] at o2; exact o2.elim
      | no => simp only [et] at o2; exact o2.elim
      | ok k S5 =>
        rintro ⟨f5, z5⟩ H5 k' e5 rl5 rfl
        have hz5 : z5 = fun a => z1 a ∨ a = D := e5.zz
        subst hz5
        have b5 : Ev H1 S1 ⟨f1, z1⟩ H5 S5 ⟨f5, z1⟩ := b3.trans (e5.less rl5 sub)
        have d5 : H5 D = some (.lst av) := e5.kz D _ d3 (.inr rfl)
        have qa5 := (qa.ev e3).ev e5
        cases k with
        | false =>
          simp only [et] at o2
          rw [if_neg Bool.false_ne_true]
          exact ⟨f5, S5, acc, av, b5, rl5, d5, qa5, o2⟩
        | true =>
          simp only [et] at o2
          rw [if_pos rfl]
          refine ⟨_, t4, S5, l4.ev e5, rl5, ?_⟩
          cases ee : te t4 S5 with
          | er c ns us S6 => simp only [ee] at o2; exact o2.elim
          | no => simp only [ee] at o2; exact o2.elim
          | ok y S6 =>
            simp only [ee] at o2
            rintro ⟨f6, z6⟩ H6 v e6 rl6 qy
            have hz6 : z6 = fun a => z1 a ∨ a = D := e6.zz
            subst hz6
            have b6 : Ev H1 S1 ⟨f1, z1⟩ H6 S6 ⟨f6, z1⟩ := b5.trans (e6.less rl6 sub)
            have d6 : H6 D = some (.lst av) := e6.kz D _ d5 (.inr rfl)
            have qa6 := qa5.ev e6
            have hl : av.length = acc.length := qa6.length.symm
            by_cases hs : acc.length < sizeLine
            · rw [if_pos hs] at o2
              have mp : Mp H6 S6 ⟨f6, fun a => z1 a ∨ a = D⟩ (upd H6 D (.lst (av ++ [v]))) S6 ⟨f6, fun a => z1 a ∨ a = D⟩ := Mp.poke (.inr rfl)
              exact ⟨av, d6, by rw [hl]; exact hs, f6, S6, acc ++ [y], av ++ [v], b6.poke hD, rl6.poke (.inr rfl), upd_same, (qa6.mp mp).snoc (qy.mp mp), o2⟩
            · rw [if_neg hs] at o2; exact o2.elim
  · have hl : ws.length ≤ i := Nat.le_of_not_lt hi
    rw [List.drop_eq_nil_of_le hl] at o2
    refine .inl ⟨q.stop H2 S2 _ (inn e2) rl2 i hl, o2 ⟨f2, z1⟩ H2 _ e2 (rl2.less sub) (.lst ⟨d2, ?_⟩ (qa.mp (.less sub)))⟩
    rintro (⟨j, u, e, d, z⟩ | z)
    · exact rl2.dz j u e d (.inr z)
    · exact hz1 z
theorem de_lc {elt tg iter : Expr} {ifs : List Expr} {scope : Scope} {own : List (Str × Nat)} {pos : Pos} {d : DA} {g : Tg} {tt : DT} {te : DX} (k : Cok G X Wx) (hi : PI X tg iter (toI G xv Wx d)) (ok : blkC X.N X.env.scope scope own = true)
    (hg : ∀ (s : Shared) (H : Hp) (C : Addr) (cl : List (Str × Addr)) (fp : List Addr), Cok G (X.blk s H scope (compEnvC scope cl C X.env) fp) W0 → PG (X.blk s H scope (compEnvC scope cl C X.env) fp) tg (g.toTG G.K))
    (ht : ∀ (s : Shared) (H : Hp) (C : Addr) (cl : List (Str × Addr)) (fp : List Addr), Cok G (X.blk s H scope (compEnvC scope cl C X.env) fp) W0 → PTs (X.blk s H scope (compEnvC scope cl C X.env) fp) ifs (toT G xv W0 tt))
    (he : ∀ (s : Shared) (H : Hp) (C : Addr) (cl : List (Str × Addr)) (fp : List Addr), Cok G (X.blk s H scope (compEnvC scope cl C X.env) fp) W0 → PE (X.blk s H scope (compEnvC scope cl C X.env) fp) elt (toE G xv W0 te))
    (hv : (g.places.all fun i => (own.map (·.2)).contains i) = true := by rfl) (hs : ∀ x, foldedSetIterable iter X.env x = pure x := by intro _; rfl) :
    PE X (.ListComp elt [⟨tg, iter, ifs, 0⟩] scope pos) (toE G xv Wx (dLc d g tt te (own.map (·.2)))) :=
  PEi (pe_lc k.calm k.nd hi (blkOk_by ok) (fun s H C cl fp => hg s H C cl fp (k.blk s H _ _ fp)) (fun s H C cl fp => ht s H C cl fp (k.blk s H _ _ fp)) (fun s H C cl fp => he s H C cl fp (k.blk s H _ _ fp)) hs) (toLc fun i h => by
    have := List.all_eq_true.mp hv i h
    simpa using this)
theorem ds_setLc {i : Nat} {y : Str} {py : Pos} {elt tg iter : Expr} {ifs : List Expr} {scope : Scope} {own : List (Str × Nat)} {pos spos : Pos} {d : DA} {g : Tg} {tt : DT} {te : DX} (k : Cok G X Wx) (hi : PI X tg iter (toI G xv Wx d)) (ok : blkC X.N X.env.scope scope own = true)
    (hg : ∀ (s : Shared) (H : Hp) (C : Addr) (cl : List (Str × Addr)) (fp : List Addr), Cok G (X.blk s H scope (compEnvC scope cl C X.env) fp) W0 → PG (X.blk s H scope (compEnvC scope cl C X.env) fp) tg (g.toTG G.K))
    (ht : ∀ (s : Shared) (H : Hp) (C : Addr) (cl : List (Str × Addr)) (fp : List Addr), Cok G (X.blk s H scope (compEnvC scope cl C X.env) fp) W0 → PTs (X.blk s H scope (compEnvC scope cl C X.env) fp) ifs (toT G xv W0 tt))
    (he : ∀ (s : Shared) (H : Hp) (C : Addr) (cl : List (Str × Addr)) (fp : List Addr), Cok G (X.blk s H scope (compEnvC scope cl C X.env) fp) W0 → PE (X.blk s H scope (compEnvC scope cl C X.env) fp) elt (toE G xv W0 te))
    (hsw : swapsWith (.ListComp elt [⟨tg, iter, ifs, 0⟩] scope pos) (some (.Name y py)) spos.line X.env = pure true) (hy : X.N[i]? = some y := by rfl) (hyl : X.env.scope.names.lookup y = some .local := by rfl)
    (hv : (g.places.all fun i => (own.map (·.2)).contains i) = true := by rfl) (hs : ∀ x, foldedSetIterable iter X.env x = pure x := by intro _; rfl) :
    PS X (.Assign [.Name y py] (.ListComp elt [⟨tg, iter, ifs, 0⟩] scope pos) spos) (toS G xv Wx (dAsg (dLc d g tt te (own.map (·.2))) (gN i))) :=
  PSi (ps_setLc k.calm k.nd hy hyl hsw hi (blkOk_by ok) (fun s H C cl fp => hg s H C cl fp (k.blk s H _ _ fp)) (fun s H C cl fp => ht s H C cl fp (k.blk s H _ _ fp)) (fun s H C cl fp => he s H C cl fp (k.blk s H _ _ fp)) hs) fun D s H ⟨r, t, S, l, rl, o⟩ => by
    refine toLc (G := G) (xv := xv) (Wx := Wx) (fun i h => by
      have := List.all_eq_true.mp hv i h
      simpa using this) s H _ ⟨r, t, S, l, rl, ?_⟩
    unfold dAsg at o
    cases e : dLc d g tt te (own.map (·.2)) t S with
    | ok w S1 =>
      rw [e] at o
      exact fun r1 H1 v e1 rl1 q => o r1 H1 _ e1 rl1 ((l.ev e1).set q i)
    | er c ns ws S1 =>
      rw [e] at o
      exact fun r1 H1 dd e1 rl1 x => o r1 H1 s dd e1 rl1 (l.ev e1) x
    | no => rw [e] at o; exact o.elim
def dYes : DT := fun _ S => .ok true S
theorem dts_nil : PTs X [] (toT G xv Wx dYes) := ⟨fun pins s σ H Q I h => pts_nil.run pins s σ H Q I (by
  obtain ⟨r, t, S, l, rl, o⟩ := h
  exact o r H true .refl rl rfl)⟩
theorem dts_one {c : Expr} {d : DT} (h : PT X c (toT G xv Wx d)) : PTs X [c] (toT G xv Wx d) := pts_one h
/-! ### what is walked -/
def intsFrom (lo : Int) : Nat → List W
  | 0 => []
  | n + 1 => .int lo :: intsFrom (lo + 1) n
theorem intsFrom_length : ∀ (n : Nat) (lo : Int), (intsFrom lo n).length = n
  | 0, _ => rfl
  | n + 1, lo => congrArg Nat.succ (intsFrom_length n (lo + 1))
theorem intsFrom_get : ∀ (n : Nat) (lo : Int) (i : Nat) (w : W), (intsFrom lo n)[i]? = some w → i < n ∧ w = .int (lo + i)
  | 0, _, _, _, e => by simp [intsFrom] at e
  | n + 1, lo, 0, w, e => by
    simp [intsFrom] at e; subst e
    exact ⟨Nat.succ_pos n, by simp⟩
  | n + 1, lo, i + 1, w, e => by
    simp only [intsFrom, List.getElem?_cons_succ] at e
    obtain ⟨h1, h2⟩ := intsFrom_get n (lo + 1) i w e
    refine ⟨Nat.succ_lt_succ h1, ?_⟩
    rw [h2]
    congr 1
    omega
theorem itr {lo : Int} {n : Nat} : ItOk G H S r (Itr lo n) (intsFrom lo n) where
  go := fun H1 S1 r1 e rl i w hw => (intsFrom_get n lo i w hw).1
  yld := fun H1 S1 r1 e rl i w hw x H2 hy => by
    obtain ⟨rfl, rfl⟩ := hy
    obtain ⟨_, rfl⟩ := intsFrom_get n lo i w hw
    exact ⟨.refl, rl, .int _⟩
  stop := fun H1 S1 r1 e rl i hi => by rw [intsFrom_length] at hi; exact hi
def dRange1 (d : DA) : DA := fun t S => (d t S).bind fun ws S1 => match ws with
  | [.int j] => if -(2 ^ 62) ≤ j ∧ j < 2 ^ 62 then .ok (intsFrom 0 j.toNat) S1 else .no
  | _ => .no
def dRange2 (d : DA) : DA := fun t S => (d t S).bind fun ws S1 => match ws with
  | [.int i, .int j] => if -(2 ^ 62) ≤ i ∧ i < 2 ^ 62 ∧ -(2 ^ 62) ≤ j ∧ j < 2 ^ 62 then .ok (intsFrom i (j - i).toNat) S1 else .no
  | _ => .no
theorem di_range1 {tg a : Expr} {d : DA} {p pos : Pos} (ha : PA X [a] (toA G xv Wx d)) (hm : X.mg "range" = none) (hg : Gl X "range" := by rfl) (hs : starEach [a] X.env = [(false, eval a X.env)] := by rfl) : PI X tg (.Call (.Name "range" p) [a] [] pos) (toI G xv Wx (dRange1 d)) :=
  PIi (pi_range1 hg hm ha hs) fun s H Q ⟨r, t, S, l, rl, o⟩ => toX.bind l rl o fun ws S1 r1 H1 vs _ e1 rl1 l1 q o1 => by
    cases q with
    | nil => exact o1.elim
    | cons a q =>
      cases q with
      | nil =>
        cases a with
        | int j =>
          simp only [] at o1
          split at o1
          · rename_i h
            exact ⟨j, rfl, h.1, h.2, o1 r1 H1 _ .refl rl1 itr⟩
          · exact o1.elim
        | _ => exact o1.elim
      | cons _ _ => cases a <;> exact o1.elim
theorem di_range2 {tg a b : Expr} {d : DA} {p pos : Pos} (ha : PA X [a, b] (toA G xv Wx d)) (hm : X.mg "range" = none) (hg : Gl X "range" := by rfl) (hs : starEach [a, b] X.env = [(false, eval a X.env), (false, eval b X.env)] := by rfl) (hs2 : starEach [b] X.env = [(false, eval b X.env)] := by rfl) : PI X tg (.Call (.Name "range" p) [a, b] [] pos) (toI G xv Wx (dRange2 d)) :=
  PIi (pi_range2 hg hm ha hs hs2) fun s H Q ⟨r, t, S, l, rl, o⟩ => toX.bind l rl o fun ws S1 r1 H1 vs _ e1 rl1 l1 q o1 => by
    cases q with
    | nil => exact o1.elim
    | cons a q =>
      cases q with
      | nil => cases a <;> exact o1.elim
      | cons b q =>
        cases q with
        | nil =>
          cases a with
          | int i =>
            cases b with
            | int j =>
              simp only [] at o1
              split at o1
              · rename_i h
                exact ⟨i, j, rfl, h, o1 r1 H1 _ .refl rl1 itr⟩
              · exact o1.elim
            | _ => exact o1.elim
          | _ => exact o1.elim
        | cons _ _ => cases a <;> first | exact o1.elim | (cases b <;> exact o1.elim)
end
end DD
namespace DD
open PySem PySem.Spec PyProof.Rows L2
abbrev Fn := List W → Sto → R W
section
variable {G : Gx} {xv : Nat → Value} {Wx : WX} {X : Cx} {H H' : Hp} {S S' : Sto} {r r' : Rh}
/-! ### cutting what a call has left behind -/
/-- what stood ahead has no hold on what is newer -/
def GcS (S S' : Sto) : Prop := S.length ≤ S'.length ∧ ∀ i, i < S.length → S'[i]? = S[i]? ∨ ∃ o, S'[i]? = some o ∧ lowO S.length o = true
open Classical in
noncomputable def gcR (S : Sto) (x : R W) : R W :=
  match x with
  | .ok w S' => if GcS S S' ∧ lowW S.length w = true then .ok w (S'.take S.length) else .no
  | .er c ns ws S' => if GcS S S' ∧ lowL S.length ws = true then .er c ns ws (S'.take S.length) else .no
  | .no => .no
theorem GcS.low (g : GcS S S') (rl : Rl G H S r) : ∀ i o, i < S.length → S'[i]? = some o → lowO S.length o = true := fun i o hi e => by
  rcases g.2 i hi with z | ⟨u, e1, l⟩
  · rw [e] at z
    exact rl.low z.symm
  · rw [e] at e1; cases e1; exact l
theorem Xd.cut {n : Nat} {d : Option Addr} {ns : List Str} {ws : List W} (x : Xd G H S r d ns ws) (hn : n ≤ S.length) (l : lowL n ws = true) : Xd G H (S.take n) r d ns ws := by
  rcases x with x | ⟨a, vs, h1, h2, h3, h4⟩
  · exact .inl x
  · exact .inr ⟨a, vs, h1, h2.cut, h3, h4.cut hn l⟩
theorem outGc {s : L2.St} {x : R W} {Q : VK} (rl : Rl G H S r) (o : OutE G xv Wx (fun H S r w v => RW G H S r w v) s H S r (gcR S x) Q) : OutE G xv Wx (fun H S r w v => RW G H S r w v) s H S r x Q := by
  cases x with
  | no => exact o
  | ok w S1 =>
    unfold gcR at o
    simp only [] at o
    split at o
    · rename_i g
      exact fun r1 H1 v e1 rl1 q => o r1 H1 v (e1.cut (Nat.le_refl _) g.1.1) (rl1.cut g.1.1 (g.1.low rl)) (q.cut g.1.1 g.2)
    · exact o.elim
  | er c ns ws S1 =>
    unfold gcR at o
    simp only [] at o
    split at o
    · rename_i g
      exact fun r1 H1 d e1 rl1 q => o r1 H1 d (e1.cut (Nat.le_refl _) g.1.1) (rl1.cut g.1.1 (g.1.low rl)) (q.cut g.1.1 g.2)
    · exact o.elim
noncomputable def dGc (d : DX) : DX := fun t S => gcR S (d t S)
theorem de_gc {e : Expr} {d : DX} (h : PE X e (toE G xv Wx d)) : PE X e (toE G xv Wx (dGc d)) := PEi h fun s H Q ⟨r, t, S, l, rl, o⟩ => ⟨r, t, S, l, rl, outGc rl o⟩
/-! ### defs -/
def dFn (n : Nat) (b : DS) : Fn := fun ws S => match b (ws.map some ++ List.replicate (n - ws.length) none) S with
  | .nx _ S1 => .ok .non S1
  | .rt w S1 => .ok w S1
  | .er c ns us _ S1 => .er c ns us S1
  | _ => .no
noncomputable def gcF (f : Fn) : Fn := fun ws S => gcR S (f ws S)
def spF (G : Gx) (xv : Nat → Value) (n : Nat) (fn : Fn) : Sp := fun vs H Q E => vs.length = n ∧ ∃ r S ws, RWs G H S r ws vs ∧ Rl G H S r ∧ OutE G xv (fun c d _ H => E c d H) (fun H S r w v => RW G H S r w v) [] H S r (fn ws S) Q
/-- a def as its callers see it -/
structure DefOk (P : Program) (w : World) (K : PySem.W.Frag) (mg : Str → Option Value) (base : Heap) (G : Gx) (xv : Nat → Value) (f : Addr) (k : Nat) (n : Nat) (fn : Fn) : Prop where
  ex : ∃ (fd : FuncData) (ps : List Str), ps.length = n ∧ FnOk P w K mg base (L2.CX P w) k f fd ps (spF G xv n fn) ∧ Binds K fd ps []
  kp : PySem.W.keepIn K (.ref f) = true
theorem DefOk.mono {P : Program} {w : World} {K : PySem.W.Frag} {mg : Str → Option Value} {base : Heap} {f : Addr} {j k n : Nat} {fn : Fn} (h : DefOk P w K mg base G xv f j n fn) (le : j ≤ k) : DefOk P w K mg base G xv f k n fn :=
  ⟨let ⟨fd, ps, a, b, c⟩ := h.ex; ⟨fd, ps, a, b.mono le, c⟩, h.kp⟩
theorem DefOk.gc {P : Program} {w : World} {K : PySem.W.Frag} {mg : Str → Option Value} {base : Heap} {f : Addr} {k n : Nat} {fn : Fn} (h : DefOk P w K mg base G xv f k n fn) : DefOk P w K mg base G xv f k n (gcF fn) :=
  ⟨let ⟨fd, ps, a, b, c⟩ := h.ex; ⟨fd, ps, a, b.imp fun vs H Q E ⟨l, r, S, ws, q, rl, o⟩ => ⟨l, r, S, ws, q, rl, outGc rl o⟩, c⟩, h.kp⟩
theorem outFn {b : DS} {n : Nat} {ws : List W} {Q : VK} {E : XK} (o : OutE G xv (fun c d _ H => E c d H) (fun H S r w v => RW G H S r w v) [] H S r (dFn n b ws S) Q) :
    OutS G xv (fun c d _ H => E c d H) H S r (b (ws.map some ++ List.replicate (n - ws.length) none) S) { nx := fun _ H' => Q .non H', rt := Q } := by
  unfold dFn at o
  generalize b (ws.map some ++ List.replicate (n - ws.length) none) S = x at o
  cases x with
  | nx t S1 => exact fun r1 H1 s e rl l => o r1 H1 _ e rl .non
  | rt w S1 => exact o
  | bk t S1 => exact o.elim
  | ct t S1 => exact o.elim
  | er c ns us t S1 => exact fun r1 H1 s d e rl l x => o r1 H1 d e rl x
  | no => exact o.elim
theorem fn_ok {P : Program} {w : World} {K : PySem.W.Frag} {mg : Str → Option Value} {base : Heap} {cm : Nat → Addr} {x qual : Str} {params : Arguments} {body : List Stmt} {scope : Scope} {dvs : List V} {kws : List (Str × V)} {f : Addr} {fd : FuncData} {N ps : List Str} {k : Nat} {d : DS}
    (F : FunD K x qual params body scope dvs kws f fd) (Sc : FnScope N ps scope)
    (hd : ∀ (cdv : Value) (A : Around) (outer : List Env) (s : Shared) (H : Hp) (E : XK), Room k (A.deeper (envOfC qual scope s.heap.objs.size f cdv)) → Cok ⟨K, cm⟩ (cxOf (L2.CX P w) P w K mg base N qual scope f cdv A outer s H E) (fun c d _ H => E c d H) →
      PSs (cxOf (L2.CX P w) P w K mg base N qual scope f cdv A outer s H E) body (toS ⟨K, cm⟩ xv (fun c d _ H => E c d H) d)) : FnOk P w K mg base (L2.CX P w) (k + 1) f fd ps (spF ⟨K, cm⟩ xv ps.length (dFn N.length d)) := by
  refine F.ok Sc (fun vs H Q E h => h.1) fun cdv A outer s H vs Q E hr ⟨l, r, S, ws, q, rl, o⟩ => ⟨_, hd cdv A outer s H E hr ⟨rfl, takes_of rfl rfl rfl rfl, passes_of rfl, rfl, Sc.nd⟩, r, _, S, ?_, rl, outFn o⟩
  have : ws.length = vs.length := q.length
  unfold L2.start
  rw [← this]
  exact RLo.vals _ q
theorem def_ok {P : Program} {w : World} {K : PySem.W.Frag} {mg : Str → Option Value} {base : Heap} {cm : Nat → Addr} {x qual : Str} {params : Arguments} {body : List Stmt} {scope : Scope} {kws : List (Str × V)} {f : Addr} {fd : FuncData} {N ps : List Str} {k : Nat} {d : DS}
    (F : FunD K x qual params body scope [] kws f fd) (Sc : FnScope N ps scope)
    (hb : ∀ (kV doc pm : Value) (an : Option Addr) (cdv ct : Value) (us : List Value), us.length = ps.length → bindArgs (PySem.W.fnOf x qual params body scope .none kV doc pm an cdv ct) ⟨us, []⟩ = pure (ps.zip us))
    (hd : ∀ (cdv : Value) (A : Around) (outer : List Env) (s : Shared) (H : Hp) (E : XK), Room k (A.deeper (envOfC qual scope s.heap.objs.size f cdv)) → Cok ⟨K, cm⟩ (cxOf (L2.CX P w) P w K mg base N qual scope f cdv A outer s H E) (fun c d _ H => E c d H) →
      PSs (cxOf (L2.CX P w) P w K mg base N qual scope f cdv A outer s H E) body (toS ⟨K, cm⟩ xv (fun c d _ H => E c d H) d)) : DefOk P w K mg base ⟨K, cm⟩ xv f (k + 1) ps.length (dFn N.length d) :=
  ⟨⟨fd, ps, rfl, fn_ok F Sc hd, F.bindsN hb⟩, F.kp⟩
/-! ### calls -/
def dCall (fn : Fn) (d : DA) : DX := fun t S => (d t S).bind fun ws S1 => fn ws S1
theorem spOut {s : L2.St} {fn : Fn} {n : Nat} {ws : List W} {vs : List V} {Q : VK} (hl : vs.length = n) (q : RWs G H S r ws vs) (rl : Rl G H S r) (o : OutE G xv Wx (fun H S r w v => RW G H S r w v) s H S r (fn ws S) Q) : spF G xv n fn vs H Q (WE Wx s) := by
  refine ⟨hl, r, S, ws, q, rl, ?_⟩
  cases e : fn ws S with
  | ok w S1 => rw [e] at o; exact o
  | er c ns us S1 => rw [e] at o; exact o
  | no => rw [e] at o; exact o.elim
theorem fn_len {P : Program} {w : World} {K : PySem.W.Frag} {mg : Str → Option Value} {base : Heap} {f : Addr} {k n : Nat} {fn : Fn} (h : DefOk P w K mg base G xv f k n fn) : True := trivial
theorem de_call {x : Str} {p pos : Pos} {e : Expr} {es : List Expr} {d : DA} {f : Addr} {k n : Nat} {fn : Fn} (c : Cok G X Wx) (h : DefOk X.prog X.w X.K X.mg X.base G xv f k n fn) (hm : X.mg x = some (.ref f)) (hr : Room k X.A) (ha : PA X (e :: es) (toA G xv Wx d)) (hn : (e :: es).length = n := by rfl) (hg : Gl X x := by rfl)
    (hdb : (x == ("__debug__" : Str)) = false := by decide) (he : starEach (e :: es) X.env = (false, eval e X.env) :: starEach es X.env := by rfl) (hpl : (backTo pos (starEach es X.env)).any (·.1) = false := by rfl)
    (hlen : ∀ t S ws S', d t S = .ok ws S' → ws.length = (e :: es).length) : PE X (.Call (.Name x p) (e :: es) [] pos) (toE G xv Wx (dCall fn d)) := by
  obtain ⟨⟨fd, ps, hl, F, b⟩, kp⟩ := h
  refine PEi (pe_callSD (dvs := []) F hr hg hm kp b .nil (fun σ => passAt c.tk σ) ha hdb he hpl) fun s H Q ⟨r, t, S, l, rl, o⟩ => ?_
  refine toX.bind l rl o fun ws S1 r1 H1 vs e1 ev rl1 l1 q o1 => ?_
  rw [List.append_nil]
  exact spOut (by rw [← q.length, hlen t S ws S1 e1, hn]) q rl1 o1
theorem de_call0 {x : Str} {p pos : Pos} {f : Addr} {k : Nat} {fn : Fn} (c : Cok G X Wx) (h : DefOk X.prog X.w X.K X.mg X.base G xv f k 0 fn) (hm : X.mg x = some (.ref f)) (hr : Room k X.A) (hg : Gl X x := by rfl)
    (hdb : (x == ("__debug__" : Str)) = false := by decide) : PE X (.Call (.Name x p) [] [] pos) (toE G xv Wx (dCall fn dNil)) := by
  obtain ⟨⟨fd, ps, hl, F, b⟩, kp⟩ := h
  refine ⟨fun pins s σ H Q I h => ?_⟩
  obtain ⟨r, t, S, l, rl, o⟩ := h
  refine wpAny_Call_Name_kw (ld_glob I hg hm ?_ hdb)
  refine PySem.W.callWith_K0 I.kIn kp ?_
  exact run_fnSD (E := WE Wx) (dvs := []) (us := []) (vs := []) F hr b .nil (passAt c.tk σ) I .nil (spOut rfl .nil rl o)
theorem dNil_len : ∀ t S ws S', dNil t S = .ok ws S' → ws.length = 0 := fun t S ws S' e => by cases e; rfl
theorem dCons_len {a : DX} {b : DA} {n : Nat} (h : ∀ t S ws S', b t S = .ok ws S' → ws.length = n) : ∀ t S ws S', dCons a b t S = .ok ws S' → ws.length = n + 1 := fun t S ws S' e => by
  unfold dCons at e
  cases e1 : a t S with
  | ok w S1 =>
    rw [e1] at e
    simp only [R.bind_ok] at e
    cases e2 : b t S1 with
    | ok us S2 =>
      rw [e2] at e
      simp only [R.bind_ok, R.ok.injEq] at e
      rw [← e.1]
      exact congrArg Nat.succ (h t S1 us S2 e2)
    | er c ns us S2 => rw [e2] at e; cases e
    | no => rw [e2] at e; cases e
  | er c ns us S1 => rw [e1] at e; cases e
  | no => rw [e1] at e; cases e
/-! ### instances -/
/-- an instance of the class c without an attribute m -/
def instOf (c : Nat) (m : Str) (w : W) (S : Sto) : Bool :=
  match w with
  | .obj c' ns _ => decide (c' = c) && !ns.contains m
  | .ref i => match S[i]? with
    | some (.ins c' ns _) => decide (c' = c) && !ns.contains m
    | _ => false
  | _ => false
theorem lookup_zip_none {m : Str} : ∀ {ns : List Str} {vs : List V}, ns.contains m = false → (ns.zip vs).lookup m = none
  | [], _, _ => by simp
  | _ :: _, [], _ => by simp
  | n :: ns, v :: vs, h => by
    simp only [List.contains_cons, Bool.or_eq_false_iff] at h
    simp only [List.zip_cons_cons, List.lookup_cons, h.1]
    exact lookup_zip_none h.2
theorem instOf_ok {c : Nat} {m : Str} {w : W} {v : V} (rl : Rl G H S r) (q : RW G H S r w v) (h : instOf c m w S = true) : ∃ a dx fs, v = .ref a ∧ H a = some (.ins (G.cm c) dx fs) ∧ fs.lookup m = none := by
  cases w with
  | obj c' ns ws =>
    simp only [instOf, Bool.and_eq_true, decide_eq_true_eq, Bool.not_eq_true'] at h
    obtain ⟨rfl, h⟩ := h
    cases q with
    | obj ow hl q => exact ⟨_, _, _, rfl, ow.1, lookup_zip_none h⟩
  | ref i =>
    simp only [instOf] at h
    cases e : S[i]? with
    | none => rw [e] at h; cases h
    | some u =>
      rw [e] at h
      cases u with
      | ins c' ns ws =>
        simp only [Bool.and_eq_true, decide_eq_true_eq, Bool.not_eq_true'] at h
        obtain ⟨rfl, h⟩ := h
        obtain ⟨ho, h1, h2⟩ := rl.at_ i _ e (fun z => by cases z)
        cases q with
        | ref hi =>
          cases h2 with
          | ins hl q => exact ⟨_, _, _, rfl, h1, lookup_zip_none h⟩
      | _ => cases h
  | _ => cases h
def dMeth (c : Nat) (m : Str) (fn : Fn) (o : DX) (d : DA) : DX := fun t S => (o t S).bind fun w S1 => if instOf c m w S1 = true then (d t S1).bind fun ws S2 => fn (w :: ws) S2 else .no
theorem de_meth {c : Nat} {m : Str} {o e : Expr} {es : List Expr} {apos pos : Pos} {dobj : DX} {d : DA} {f : Addr} {k n : Nat} {fn : Fn} {pl : Sem Bool} (ck : Cok G X Wx) (h : DefOk X.prog X.w X.K X.mg X.base G xv f k n fn) (cl : Cls X.K (G.cm c)) (hm : Meth X.K (G.cm c) m f) (hr : Room k X.A) (ho : PE X o (toE G xv Wx dobj)) (ha : PA X (e :: es) (toA G xv Wx d))
    (hlen : ∀ t S ws S', d t S = .ok ws S' → ws.length = (e :: es).length) (hn : (e :: es).length + 1 = n := by rfl)
    (hst : starEach (e :: es) X.env = (false, eval e X.env) :: starEach es X.env := by rfl) (hpl : (backTo pos (starEach es X.env)).any (·.1) = false := by rfl)
    (ht : eval (.Call (.Attribute o m apos) (e :: es) [] pos) X.env = (do
      let ov ← eval o X.env
      standAt apos.atName
      let (f, first) ← holding [ov] (getMethod ov m pl)
      callWith pos f first (backTo pos (starEach (e :: es) X.env)) (backToKw pos (keywordEach [] X.env))) := by rfl) :
    PE X (.Call (.Attribute o m apos) (e :: es) [] pos) (toE G xv Wx (dMeth c m fn dobj d)) := by
  obtain ⟨⟨fd, ps, hl, F, b⟩, kp⟩ := h
  refine ⟨fun pins s σ H Q I h => ?_⟩
  obtain ⟨r, t, S, l, rl, o⟩ := h
  have h1 : toE G xv Wx dobj σ H (fun x H1 => ∃ a dx fs, x = .ref a ∧ H1 a = some (.ins (G.cm c) dx fs) ∧ fs.lookup m = none ∧ toA G xv Wx d σ H1 fun vs H2 => spF G xv n fn (x :: vs) H2 Q (WE Wx σ)) := by
    refine toX.bind l rl o fun w S1 r1 H1 v _ e1 rl1 l1 q o1 => ?_
    split at o1
    · rename_i hi
      obtain ⟨a, dx, fs, rfl, h1, h2⟩ := instOf_ok rl1 q hi
      refine ⟨a, dx, fs, rfl, h1, h2, ?_⟩
      refine toX.bind l1 rl1 o1 fun ws S2 r2 H2 vs ew e2 rl2 l2 qs o2 => ?_
      exact spOut (by rw [List.length_cons, ← qs.length, hlen t S1 ws S2 ew, hn]) (.cons (q.ev e2) qs) rl2 o2
    · exact o1.elim
  refine PySem.W.methodCall_KW (pl := pl) (thn (ho.run pins s σ H _ I h1) fun u s1 ⟨x, H1, I1, rx, a, dx, fs, ex, ea, l, q⟩ => ?_) ht
  subst ex
  obtain rfl : u = Value.ref a := rx
  refine getmeth_ok I1 ea cl hm l ?_
  refine PySem.W.callWith_K (first := [.ref a]) (h₀ := X.base) I.ok.mod.kin hm.kp (thn (ha.run pos pins s1 σ H1 _ I1 q) fun us s2 ⟨vs, H2, I2, r, q2⟩ => ⟨I2.kIn, ?_⟩) hst hpl
  exact run_fnSD (E := WE Wx) (dvs := []) (us := .ref a :: us) (vs := .ref a :: vs) F hr b .nil (passAt ck.tk σ) I2 (.cons rfl r) (by rw [List.append_nil]; exact q2)
theorem de_meth0 {c : Nat} {m : Str} {o : Expr} {apos pos : Pos} {dobj : DX} {f : Addr} {k : Nat} {fn : Fn} {pl : Sem Bool} (ck : Cok G X Wx) (h : DefOk X.prog X.w X.K X.mg X.base G xv f k 1 fn) (cl : Cls X.K (G.cm c)) (hm : Meth X.K (G.cm c) m f) (hr : Room k X.A) (ho : PE X o (toE G xv Wx dobj))
    (ht : eval (.Call (.Attribute o m apos) [] [] pos) X.env = (do
      let ov ← eval o X.env
      standAt apos.atName
      let (f, first) ← holding [ov] (getMethod ov m pl)
      callWith pos f first (backTo pos (starEach [] X.env)) (backToKw pos (keywordEach [] X.env))) := by rfl) :
    PE X (.Call (.Attribute o m apos) [] [] pos) (toE G xv Wx (dMeth c m fn dobj dNil)) := by
  obtain ⟨⟨fd, ps, hl, F, b⟩, kp⟩ := h
  refine ⟨fun pins s σ H Q I h => ?_⟩
  obtain ⟨r, t, S, l, rl, o⟩ := h
  have h1 : toE G xv Wx dobj σ H (fun x H1 => ∃ a dx fs, x = .ref a ∧ H1 a = some (.ins (G.cm c) dx fs) ∧ fs.lookup m = none ∧ spF G xv 1 fn [x] H1 Q (WE Wx σ)) := by
    refine toX.bind l rl o fun w S1 r1 H1 v _ e1 rl1 l1 q o1 => ?_
    split at o1
    · rename_i hi
      obtain ⟨a, dx, fs, rfl, h1, h2⟩ := instOf_ok rl1 q hi
      exact ⟨a, dx, fs, rfl, h1, h2, spOut rfl (.cons q .nil) rl1 o1⟩
    · exact o1.elim
  refine PySem.W.methodCall_KW (pl := pl) (thn (ho.run pins s σ H _ I h1) fun u s1 ⟨x, H1, I1, rx, a, dx, fs, ex, ea, l, q⟩ => ?_) ht
  subst ex
  obtain rfl : u = Value.ref a := rx
  refine getmeth_ok I1 ea cl hm l ?_
  exact PySem.W.callWith_K0 (first := [.ref a]) I1.kIn hm.kp (run_fnSD (E := WE Wx) (dvs := []) (us := [.ref a]) (vs := [.ref a]) F hr b .nil (passAt ck.tk σ) I1 (.cons rfl .nil) q)
/-- C(..) -/
def dMake (c : Nat) (fn : Fn) (d : DA) : DX := fun t S => (d t S).bind fun ws S1 => match fn (.ref S1.length :: ws) (S1 ++ [.ins c [] []]) with
  | .ok .non S2 => .ok (.ref S1.length) S2
  | .er k ns us S2 => .er k ns us S2
  | _ => .no
theorem run_makeS {CX : CXT} {k : Nat} {f C : Addr} {fd : FuncData} {ps : List Str} {sp : Sp} {E : XK} {pins : List (Addr × Obj)} {σ : L2.St} {s : Shared} {Q : VK} {us : List Value} {vs : List V} (M : Mk X.K C f) (F : FnOk X.prog X.w X.K X.mg X.base CX k f fd ps sp) (hr : Room (k + 1) X.A) (hb : Binds X.K fd ps [])
    (hx : PassesAt CX X σ E) (I : Inv X pins σ H s) (r : Vals vs us)
    (h : ∀ x dx, H x = none → H dx = none → dx ≠ x → sp (.ref x :: vs) (upd (upd H dx (.own x)) x (.ins C dx [])) (fun v H2 => v = .non ∧ Q (.ref x) H2) E) :
    wpAny (model X.prog X.w) X.A (call (.ref C) us) (EP X pins σ Q) X.xe s := by
  have hq := h (s.heap.objs.size + 1) s.heap.objs.size (I.hok.fresh (Nat.le_succ _)) (I.hok.fresh (Nat.le_refl _)) (Nat.ne_of_lt (Nat.lt_succ_self _))
  have I2 := Inv.made (C := C) I
  have r2 : Vals (V.ref (s.heap.objs.size + 1) :: vs) (Value.ref (s.heap.objs.size + 1) :: us) := .cons rfl r
  have hl : (Value.ref (s.heap.objs.size + 1) :: us).length = ps.length := by
    have e := r2.length
    rw [F.len _ _ _ _ hq] at e
    exact e.symm
  have bb := hb _ (Value.ref (s.heap.objs.size + 1) :: us) I2.kIn (by rw [List.append_nil]; exact hl)
  rw [List.append_nil] at bb
  refine wpAny_call (make_map (f := f) I.kIn M.makes M.init (beq_iff_eq.mp M.fn) (codeAny_mono (F.run _ X.stack _ _ ⟨Value.ref (s.heap.objs.size + 1) :: us, []⟩ (Value.ref (s.heap.objs.size + 1) :: us) _ _ E (hr.make C us [])
    (I2.env0.make C us []) bb r2 hq) fun r s' hq' => ?_))
  cases r with
  | error e => exact hx pins _ _ e s' I2 hq'
  | ok fl =>
    cases fl with
    | ret u =>
      obtain ⟨v, H', I3, rv, ev, q3⟩ := I2.after hq'
      subst ev
      exact ⟨rv, ⟨V.ref (s.heap.objs.size + 1), H', I3, rfl, q3⟩⟩
    | next => exact False.elim hq'
    | brk => exact False.elim hq'
    | cont => exact False.elim hq'
theorem outMake {s : L2.St} {c : Nat} {fn : Fn} {n : Nat} {ws : List W} {vs : List V} {Q : VK} (hl : vs.length + 1 = n) (q : RWs G H S r ws vs) (rl : Rl G H S r)
    (o : OutE G xv Wx (fun H S r w v => RW G H S r w v) s H S r (match fn (.ref S.length :: ws) (S ++ [.ins c [] []]) with
      | .ok .non S2 => .ok (.ref S.length) S2
      | .er k ns us S2 => .er k ns us S2
      | _ => .no) Q) (x dx : Addr) (nx : H x = none) (nd : H dx = none) (ne : dx ≠ x) :
    spF G xv n fn (.ref x :: vs) (upd (upd H dx (.own x)) x (.ins (G.cm c) dx [])) (fun v H2 => v = .non ∧ Q (.ref x) H2) (WE Wx s) := by
  have nx' : upd H dx (.own x) x = none := by rw [upd_ne ne.symm]; exact nx
  have e1 : Ev H S r (upd H dx (.own x)) S r := Ev.fresh nd rl
  have rl1 := rl.fresh (o := .own x) nd
  have e2 : Ev (upd H dx (.own x)) S r (upd (upd H dx (.own x)) x (.ins (G.cm c) dx [])) (S ++ [.ins c [] []]) (put r S.length x) := Ev.snoc nx'
  have rl2 := rl1.snoc (o := .ins c [] []) (ho := .ins (G.cm c) dx []) nx' (.ins (ns := []) (ws := []) (vs := []) rfl .nil)
  have e := e1.trans e2
  have qx : RW G (upd (upd H dx (.own x)) x (.ins (G.cm c) dx [])) (S ++ [.ins c [] []]) (put r S.length x) (.ref S.length) (.ref x) := by
    have := RW.ref (G := G) (H := upd (upd H dx (.own x)) x (.ins (G.cm c) dx [])) (S := S ++ [.ins c [] []]) (r := put r S.length x) (i := S.length) (by simp)
    rw [put_same] at this
    exact this
  refine ⟨by rw [List.length_cons]; exact hl, _, _, _, .cons qx (q.ev e), rl2, ?_⟩
  cases ef : fn (.ref S.length :: ws) (S ++ [.ins c [] []]) with
  | no => rw [ef] at o; exact o.elim
  | er k ns us S2 => rw [ef] at o; exact fun r3 H3 d e3 rl3 x3 => o r3 H3 d (e.trans e3) rl3 x3
  | ok w S2 =>
    rw [ef] at o
    cases w with
    | non =>
      intro r3 H3 v e3 rl3 q3
      cases q3
      refine ⟨rfl, o r3 H3 _ (e.trans e3) rl3 ?_⟩
      exact qx.ev e3
    | _ => exact o.elim
theorem de_make {c : Nat} {x : Str} {p pos : Pos} {e : Expr} {es : List Expr} {d : DA} {f : Addr} {k n : Nat} {fn : Fn} (ck : Cok G X Wx) (h : DefOk X.prog X.w X.K X.mg X.base G xv f k n fn) (M : Mk X.K (G.cm c) f) (hm : X.mg x = some (.ref (G.cm c))) (hr : Room (k + 1) X.A) (ha : PA X (e :: es) (toA G xv Wx d))
    (hlen : ∀ t S ws S', d t S = .ok ws S' → ws.length = (e :: es).length) (hn : (e :: es).length + 1 = n := by rfl) (hg : Gl X x := by rfl) (hdb : (x == ("__debug__" : Str)) = false := by decide) (he : starEach (e :: es) X.env = (false, eval e X.env) :: starEach es X.env := by rfl) (hpl : (backTo pos (starEach es X.env)).any (·.1) = false := by rfl) :
    PE X (.Call (.Name x p) (e :: es) [] pos) (toE G xv Wx (dMake c fn d)) := by
  obtain ⟨⟨fd, ps, hl, F, b⟩, kp⟩ := h
  refine ⟨fun pins s σ H Q I h => ?_⟩
  obtain ⟨r, t, S, l, rl, o⟩ := h
  have h1 : toA G xv Wx d σ H fun vs H1 => ∀ x dx, H1 x = none → H1 dx = none → dx ≠ x → spF G xv n fn (.ref x :: vs) (upd (upd H1 dx (.own x)) x (.ins (G.cm c) dx [])) (fun v H2 => v = .non ∧ Q (.ref x) H2) (WE Wx σ) := by
    refine toX.bind l rl o fun ws S1 r1 H1 vs ew e1 rl1 l1 q o1 => ?_
    intro x dx nx nd ne
    exact outMake (by rw [← q.length, hlen t S ws S1 ew]; exact hn) q rl1 o1 x dx nx nd ne
  refine wpAny_Call_Name_kw (ld_glob I hg hm ?_ hdb)
  refine PySem.W.callWith_K (h₀ := X.base) I.ok.mod.kin M.kp (thn (ha.run pos pins s σ H _ I h1) fun us s1 ⟨vs, H1, I1, r, q⟩ => ⟨I1.kIn, ?_⟩) he hpl
  exact run_makeS M F hr b (passAt ck.tk σ) I1 r q
/-! ### fields -/
def fget (ns : List Str) (ws : List W) (f : Str) : Option W := (ns.zip ws).lookup f
def fput (ns : List Str) (ws : List W) (f : Str) (w : W) : List Str × List W := match ns, ws with
  | n :: ns, u :: us => if n = f then (n :: ns, w :: us) else let p := fput ns us f w; (n :: p.1, u :: p.2)
  | _, _ => ([f], [w])
theorem fget_ok {f : Str} {w : W} : ∀ {ns : List Str} {ws : List W} {vs : List V}, RWs G H S r ws vs → fget ns ws f = some w → ∃ v, (ns.zip vs).lookup f = some v ∧ RW G H S r w v
  | [], _, _, _, e => by simp [fget] at e
  | _ :: _, _, _, .nil, e => by simp [fget] at e
  | n :: ns, _, _, .cons a q, e => by
    simp only [fget, List.zip_cons_cons, List.lookup_cons] at e ⊢
    by_cases h : (f == n) = true
    · simp only [h] at e ⊢
      cases e
      exact ⟨_, rfl, a⟩
    · have h : (f == n) = false := by simpa using h
      simp only [h] at e ⊢
      exact fget_ok q e
theorem fput_ok {f : Str} {w : W} {v : V} (a : RW G H S r w v) : ∀ {ns : List Str} {ws : List W} {vs : List V}, ns.length = ws.length → RWs G H S r ws vs → ∃ vs', putF f v (ns.zip vs) = (fput ns ws f w).1.zip vs' ∧ (fput ns ws f w).1.length = (fput ns ws f w).2.length ∧ RWs G H S r (fput ns ws f w).2 vs'
  | [], [], _, _, .nil => ⟨[v], by simp [fput, putF], by simp [fput], .cons a .nil⟩
  | n :: ns, u :: us, _, hl, .cons (v := x) (vs := xs) b q => by
    by_cases h : n = f
    · refine ⟨v :: xs, ?_, ?_, ?_⟩
      · simp [fput, h, putF]
      · simp [fput, h] at hl ⊢; exact hl
      · simp only [fput, h, if_pos]; exact .cons a q
    · obtain ⟨vs', h1, h2, h3⟩ := fput_ok (f := f) a (ns := ns) (ws := us) (vs := xs) (by simpa using hl) q
      refine ⟨x :: vs', ?_, ?_, ?_⟩
      · simp [fput, h, putF, h1]
      · simp [fput, h, h2]
      · simp only [fput, h, if_neg, not_false_eq_true]; exact .cons b h3
  | [], _ :: _, _, hl, _ => by simp at hl
  | _ :: _, [], _, hl, _ => by simp at hl
def fieldOf (cs : List Nat) (f : Str) (w : W) (S : Sto) : Option W :=
  match w with
  | .obj c ns ws => if cs.contains c = true then fget ns ws f else none
  | .ref i => match S[i]? with
    | some (.ins c ns ws) => if cs.contains c = true then fget ns ws f else none
    | _ => none
  | _ => none
/-- o.f, of instances of the classes cs -/
def dFld (cs : List Nat) (f : Str) (d : DX) : DX := fun t S => (d t S).bind fun w S1 => match fieldOf cs f w S1 with
  | some x => .ok x S1
  | none => .no
theorem de_fld {cs : List Nat} {f : Str} {e : Expr} {d : DX} {pos : Pos} (h : PE X e (toE G xv Wx d)) (hc : ∀ c ∈ cs, Cls X.K (G.cm c) ∧ NoAttr X.K (G.cm c) f) (hb : attributeBase e f X.env (eval e X.env) = eval e X.env := by rfl) : PE X (.Attribute e f pos) (toE G xv Wx (dFld cs f d)) := PEi (pe_fld h hb) fun s H Q ⟨r, t, S, l, rl, o⟩ =>
  toX.bind l rl o fun w S1 r1 H1 v _ e1 rl1 l1 q o1 => by
    cases w with
    | obj c ns ws =>
      simp only [fieldOf] at o1
      by_cases hm : cs.contains c = true
      · rw [if_pos hm] at o1
        cases ef : fget ns ws f with
        | none => rw [ef] at o1; exact o1.elim
        | some x =>
          rw [ef] at o1
          cases q with
          | obj ow hl q =>
            obtain ⟨v, h1, h2⟩ := fget_ok q ef
            have hc := hc c (by simpa using hm)
            exact ⟨_, _, _, _, v, rfl, ow.1, hc.1, hc.2, h1, o1 r1 H1 v .refl rl1 h2⟩
      · rw [if_neg hm] at o1; exact o1.elim
    | ref i =>
      simp only [fieldOf] at o1
      cases es : S1[i]? with
      | none => rw [es] at o1; exact o1.elim
      | some u =>
        rw [es] at o1
        cases u with
        | ins c ns ws =>
          simp only [] at o1
          by_cases hm : cs.contains c = true
          · rw [if_pos hm] at o1
            cases ef : fget ns ws f with
            | none => rw [ef] at o1; exact o1.elim
            | some x =>
              rw [ef] at o1
              obtain ⟨ho, h1, h2⟩ := rl1.at_ i _ es (fun z => by cases z)
              cases q with
              | ref hi =>
                cases h2 with
                | ins hl q =>
                  obtain ⟨v, h3, h4⟩ := fget_ok q ef
                  have hc := hc c (by simpa using hm)
                  exact ⟨_, _, _, _, v, rfl, h1, hc.1, hc.2, h3, o1 r1 H1 v .refl rl1 h4⟩
          · rw [if_neg hm] at o1; exact o1.elim
        | _ => exact o1.elim
    | _ => exact o1.elim
def dSetF (cs : List Nat) (f : Str) (o e : DX) : DS := fun t S => (e t S).toF t fun v S1 => (o t S1).toF t fun w S2 => match w with
  | .ref i => match S2[i]? with
    | some (.ins c ns ws) => if cs.contains c = true ∧ ns.length < 1000 then .nx t (S2.set i (.ins c (fput ns ws f v).1 (fput ns ws f v).2)) else .no
    | _ => .no
  | _ => .no
theorem ds_fld {cs : List Nat} {f : Str} {o e : Expr} {dob de : DX} {pos pos' : Pos} (ho : PE X o (toE G xv Wx dob)) (he : PE X e (toE G xv Wx de)) (hc : ∀ c ∈ cs, Cls X.K (G.cm c) ∧ NoAttr X.K (G.cm c) f) (hs : swapsWith e (some (.Attribute o f pos')) pos.line X.env = pure false := by rfl) :
    PS X (.Assign [.Attribute o f pos'] e pos) (toS G xv Wx (dSetF cs f dob de)) := PSi (ps_fld ho he hs) fun D s H ⟨r, t, S, l, rl, o⟩ =>
  toX.bindS l rl o fun v S1 r1 H1 x _ e1 rl1 l1 q o1 => toX.bindS l1 rl1 o1 fun w S2 r2 H2 y _ e2 rl2 l2 qw o2 => by
    cases w with
    | ref i =>
      simp only [] at o2
      cases es : S2[i]? with
      | none => rw [es] at o2; exact o2.elim
      | some u =>
        rw [es] at o2
        cases u with
        | ins c ns ws =>
          simp only [] at o2
          split at o2
          · rename_i hm
            obtain ⟨ho, h1, h2⟩ := rl2.at_ i _ es (fun z => by cases z)
            cases qw with
            | ref hi =>
              cases h2 with
              | @ins _ dx _ _ vs hl q' =>
                have hc := hc c (by simpa using hm.1)
                obtain ⟨vs', p1, p2, p3⟩ := fput_ok (f := f) (q.ev e2) hl q'
                refine ⟨_, _, dx, _, rfl, h1, hc.1, hc.2, by rw [List.length_zip]; omega, ?_⟩
                rw [p1]
                exact o2 r2 _ _ (Ev.set rl2 es (fun z => by cases z)) (rl2.set es (fun z => by cases z) (.ins p2 p3)) (l2.ev (Ev.set rl2 es (fun z => by cases z)))
          · exact o2.elim
        | _ => exact o2.elim
    | _ => exact o2.elim
end
end DD
namespace DD
open PySem PySem.Spec PyProof.Rows L2
section
variable {G : Gx} {xv : Nat → Value} {Wx : WX} {X : Cx} {H H' : Hp} {S S' : Sto} {r r' : Rh}
/-! ### ints -/
def intD (C : Int → Int → Bool) (g : Int → Int → W) : D2 := fun a b S => match a, b with
  | .int i, .int j => if C i j = true then .ok (g i j) S else .no
  | _, _ => .no
def orD (f g : D2) : D2 := fun a b S => match f a b S with
  | .no => g a b S
  | x => x
theorem op_or {sem : Value → Value → Sem Value} {f g : D2} (hf : OpR X sem (toR2 G xv f)) (hg : OpR X sem (toR2 G xv g)) : OpR X sem (toR2 G xv (orD f g)) := by
  intro pins s σ H x y v u Q I rx ry ⟨r, S, a, b, rl, qa, qb, o⟩
  unfold orD at o
  cases e : f a b S with
  | ok w S1 => rw [e] at o; exact hf pins s σ H x y v u Q I rx ry ⟨r, S, a, b, rl, qa, qb, by rw [e]; exact o⟩
  | er c ns ws S1 => rw [e] at o; exact hf pins s σ H x y v u Q I rx ry ⟨r, S, a, b, rl, qa, qb, by rw [e]; exact o⟩
  | no => rw [e] at o; exact hg pins s σ H x y v u Q I rx ry ⟨r, S, a, b, rl, qa, qb, o⟩
theorem op_intD {sem : Value → Value → Sem Value} {C : Int → Int → Bool} {g : Int → Int → W} {gv : Int → Int → V} (hg : ∀ H S r i j, RW G H S r (g i j) (gv i j)) (h : OpR X sem (rI (fun i j => C i j = true) gv)) : OpR X sem (toR2 G xv (intD C g)) := by
  intro pins s σ H x y v u Q I rx ry ⟨r, S, a, b, rl, qa, qb, o⟩
  cases a with
  | int i =>
    cases b with
    | int j =>
      cases qa
      cases qb
      simp only [intD] at o
      split at o
      · rename_i hc
        exact h pins s σ H _ _ v u Q I rx ry ⟨i, j, rfl, rfl, hc, o r H _ .refl rl (hg H S r i j)⟩
      · exact o.elim
    | _ => exact o.elim
  | _ => exact o.elim
theorem opC {sem : Value → Value → Sem Value} {C C' : Int → Int → Prop} {g : Int → Int → V} (h : OpR X sem (rI C g)) (hi : ∀ i j, C' i j → C i j) : OpR X sem (rI C' g) := by
  intro pins s σ H x y v u Q I rx ry ⟨i, j, e1, e2, c, q⟩
  exact h pins s σ H x y v u Q I rx ry ⟨i, j, e1, e2, hi i j c, q⟩
theorem opC0 {sem : Value → Value → Sem Value} {C' : Int → Int → Prop} {g : Int → Int → V} (h : OpR X sem (rI0 g)) : OpR X sem (rI C' g) := by
  intro pins s σ H x y v u Q I rx ry ⟨i, j, e1, e2, c, q⟩
  exact h pins s σ H x y v u Q I rx ry ⟨i, j, e1, e2, q⟩
theorem opV {sem : Value → Value → Sem Value} {C : Int → Int → Prop} {g g' : Int → Int → V} (h : OpR X sem (rI C g)) (e : ∀ i j, C i j → g' i j = g i j) : OpR X sem (rI C g') := by
  intro pins s σ H x y v u Q I rx ry ⟨i, j, e1, e2, c, q⟩
  exact h pins s σ H x y v u Q I rx ry ⟨i, j, e1, e2, c, by rw [← e i j c]; exact q⟩
theorem opU {sem : Value → Value → Sem Value} {C C' : Int → Int → Prop} {g : Int → Int → V} (h : OpR X sem (rI C g)) (h' : OpR X sem (rI C' g)) : OpR X sem (rI (fun i j => C i j ∨ C' i j) g) := by
  intro pins s σ H x y v u Q I rx ry ⟨i, j, e1, e2, c, q⟩
  rcases c with c | c
  · exact h pins s σ H x y v u Q I rx ry ⟨i, j, e1, e2, c, q⟩
  · exact h' pins s σ H x y v u Q I rx ry ⟨i, j, e1, e2, c, q⟩
def yes2 : Int → Int → Bool := fun _ _ => true
def iAdd : D2 := intD yes2 fun i j => .int (i + j)
def iSub : D2 := intD yes2 fun i j => .int (i - j)
def mulOk (i j : Int) : Bool := decide (-(2 ^ 64) < i ∧ i < 2 ^ 64) || decide (-(2 ^ 64) < j ∧ j < 2 ^ 64) || decide (i.natAbs.log2 + j.natAbs.log2 < 1000000)
def iMul : D2 := intD mulOk fun i j => .int (i * j)
def divOk (_ j : Int) : Bool := decide (j ≠ 0) && decide (j.natAbs.log2 < 9000)
def fdiv (i j : Int) : Int := if 0 < j then i / j else i.fdiv j
def fmod (i j : Int) : Int := if 0 < j then i % j else i.fmod j
def iDiv : D2 := intD divOk fun i j => .int (fdiv i j)
def iMod : D2 := intD (fun _ j => decide (j ≠ 0)) fun i j => .int (fmod i j)
def powOk (i j : Int) : Bool := decide (0 ≤ j) && decide (j ≤ 1000000) && decide (i.natAbs < 2 ^ 64)
def iPow : D2 := intD powOk fun i j => .int (i ^ j.toNat)
def iShl : D2 := intD powOk fun i j => .int (i * 2 ^ j.toNat)
def iShr : D2 := intD (fun _ j => decide (0 ≤ j)) fun i j => .int (i / 2 ^ j.toNat)
def iAnd : D2 := intD yes2 fun i j => .int (Builtin.bitAnd i j)
def iOr : D2 := intD yes2 fun i j => .int (Builtin.bitOr i j)
def iXor : D2 := intD yes2 fun i j => .int (Builtin.bitXor i j)
def iLt : D2 := intD yes2 fun i j => .bl (decide (i < j))
def iLe : D2 := intD yes2 fun i j => .bl (decide (i ≤ j))
def iGt : D2 := intD yes2 fun i j => .bl (decide (j < i))
def iGe : D2 := intD yes2 fun i j => .bl (decide (j ≤ i))
theorem o_add : OpR X (binaryOp .Add) (toR2 G xv iAdd) := op_intD (fun _ _ _ _ _ => .int _) (opC0 op_add)
theorem o_sub : OpR X (binaryOp .Sub) (toR2 G xv iSub) := op_intD (fun _ _ _ _ _ => .int _) (opC0 op_sub)
theorem o_mul : OpR X (binaryOp .Mult) (toR2 G xv iMul) := op_intD (fun _ _ _ _ _ => .int _) (opC (opU op_mul op_mulW) fun i j h => by
  simp only [mulOk, Bool.or_eq_true, decide_eq_true_eq] at h
  exact h)
theorem o_div : OpR X (binaryOp .FloorDiv) (toR2 G xv iDiv) := op_intD (fun _ _ _ _ _ => .int _) (gv := fun i j => .int (fdiv i j)) (opV (g := fun i j => .int (i.fdiv j)) (opI fun i j _ _ _ _ _ hc q => by
    simp only [divOk, Bool.and_eq_true, decide_eq_true_eq] at hc
    exact floordiv_int hc.1 q (.inl (PyProof.noPylong_of_log2 hc.2))) fun i j c => by
  unfold fdiv
  split
  · rw [Int.fdiv_eq_ediv_of_nonneg i (by omega)]
  · rfl)
theorem o_mod : OpR X (binaryOp .Mod) (toR2 G xv iMod) := op_intD (fun _ _ _ _ _ => .int _) (gv := fun i j => .int (fmod i j)) (opV (opC op_modN fun i j h => of_decide_eq_true h) fun i j c => by
  unfold fmod
  split
  · rw [Int.fmod_eq_emod_of_nonneg i (by omega)]
  · rfl)
theorem powC {i j : Int} (h : powOk i j = true) : CPow i j := by
  simp only [powOk, Bool.and_eq_true, decide_eq_true_eq] at h
  exact ⟨h.1.1, h.1.2, h.2⟩
theorem o_pow : OpR X (binaryOp .Pow) (toR2 G xv iPow) := op_intD (fun _ _ _ _ _ => .int _) (opC op_pow fun i j h => powC h)
theorem o_shl : OpR X (binaryOp .LShift) (toR2 G xv iShl) := op_intD (fun _ _ _ _ _ => .int _) (opC op_shl fun i j h => powC h)
theorem o_shr : OpR X (binaryOp .RShift) (toR2 G xv iShr) := op_intD (fun _ _ _ _ _ => .int _) (opC op_shr fun i j h => of_decide_eq_true h)
theorem o_and : OpR X (binaryOp .BitAnd) (toR2 G xv iAnd) := op_intD (fun _ _ _ _ _ => .int _) (opC0 op_and)
theorem o_or : OpR X (binaryOp .BitOr) (toR2 G xv iOr) := op_intD (fun _ _ _ _ _ => .int _) (opC0 L2.op_or)
theorem o_xor : OpR X (binaryOp .BitXor) (toR2 G xv iXor) := op_intD (fun _ _ _ _ _ => .int _) (opC0 op_xor)
theorem o_lt : OpR X (compareOp .Lt) (toR2 G xv iLt) := op_intD (fun _ _ _ _ _ => .bl _) (opC0 op_lt)
theorem o_le : OpR X (compareOp .LtE) (toR2 G xv iLe) := op_intD (fun _ _ _ _ _ => .bl _) (opC0 op_le)
theorem o_gt : OpR X (compareOp .Gt) (toR2 G xv iGt) := op_intD (fun _ _ _ _ _ => .bl _) (opC0 op_gt)
theorem o_ge : OpR X (compareOp .GtE) (toR2 G xv iGe) := op_intD (fun _ _ _ _ _ => .bl _) (opC0 op_ge)
/-! ### reading lists and tuples, of the store or not -/
def seqL (S : Sto) : W → Option (List W)
  | .lst ws => some ws
  | .scr ws => some ws
  | .ref i => match S[i]? with
    | some (.lst ws) => some ws
    | _ => none
  | _ => none
def seqT : W → Option (List W)
  | .tup ws => some ws
  | _ => none
theorem seqL_ok {w : W} {v : V} {ws : List W} (rl : Rl G H S r) (q : RW G H S r w v) (e : seqL S w = some ws) : ∃ a vs, v = .ref a ∧ SqL G.K H a vs ∧ RWs G H S r ws vs := by
  cases w with
  | lst us =>
    cases e
    cases q with
    | lst ow q => exact ⟨_, _, rfl, .inl (.inl ow.1), q⟩
  | scr us =>
    cases e
    cases q with
    | scr ow q => exact ⟨_, _, rfl, ow.sq, q⟩
  | ref i =>
    simp only [seqL] at e
    cases e1 : S[i]? with
    | none => rw [e1] at e; cases e
    | some o =>
      rw [e1] at e
      cases o with
      | lst us =>
        cases e
        obtain ⟨ho, h1, h2⟩ := rl.at_ i _ e1 (fun z => by cases z)
        cases q with
        | ref hi =>
          cases h2 with
          | lst q => exact ⟨_, _, rfl, .inl (.inl h1), q⟩
      | _ => cases e
  | _ => cases e
theorem seqT_ok {w : W} {v : V} {ws : List W} (q : RW G H S r w v) (e : seqT w = some ws) : ∃ a vs, v = .ref a ∧ SqT G.K H a vs ∧ RWs G H S r ws vs := by
  cases w with
  | tup us =>
    cases e
    cases q with
    | tup ta q => exact ⟨_, _, rfl, ta.sq, q⟩
  | _ => cases e
theorem RWs.atI {ws : List W} {vs : List V} {i : Int} {w : W} (q : RWs G H S r ws vs) (e : L2.atI ws i = some w) : ∃ v, L2.atI vs i = some v ∧ RW G H S r w v := by
  unfold L2.atI at e ⊢
  rw [← q.length]
  cases e1 : ixN ws.length i with
  | none => rw [e1] at e; cases e
  | some j =>
    rw [e1] at e
    exact q.get e
/-! ### items -/
def ixD : D2 := fun a b S => match b with
  | .int i => match seqL S a with
    | some ws => match L2.atI ws i with
      | some w => .ok w S
      | none => .no
    | none => match seqT a with
      | some ws => match L2.atI ws i with
        | some w => .ok w S
        | none => .no
      | none => .no
  | _ => .no
theorem ixR_ixD (hk : X.K = G.K) : IxR X (toR2 G xv ixD) := by
  intro value slice pins s σ H x y v u Q I rx ry ⟨r, S, a, b, rl, qa, qb, o⟩ hs
  cases b with
  | int i =>
    cases qb
    simp only [ixD] at o
    cases e : seqL S a with
    | some ws =>
      rw [e] at o
      simp only [] at o
      obtain ⟨p, vs, rfl, hq, q⟩ := seqL_ok rl qa e
      cases e1 : L2.atI ws i with
      | none => rw [e1] at o; exact o.elim
      | some w =>
        rw [e1] at o
        obtain ⟨z, h1, h2⟩ := q.atI e1
        exact ix_list value slice pins s σ H _ _ v u Q I rx ry ⟨p, vs, i, z, rfl, rfl, by rw [hk]; exact hq, h1, o r H z .refl rl h2⟩ hs
    | none =>
      rw [e] at o
      simp only [] at o
      cases e2 : seqT a with
      | none => rw [e2] at o; exact o.elim
      | some ws =>
        rw [e2] at o
        simp only [] at o
        obtain ⟨p, vs, rfl, hq, q⟩ := seqT_ok qa e2
        cases e1 : L2.atI ws i with
        | none => rw [e1] at o; exact o.elim
        | some w =>
          rw [e1] at o
          obtain ⟨z, h1, h2⟩ := q.atI e1
          exact ix_tup value slice pins s σ H _ _ v u Q I rx ry ⟨p, vs, i, z, rfl, rfl, by rw [hk]; exact hq, h1, o r H z .refl rl h2⟩ hs
  | _ => exact o.elim
theorem de_ix {a b : Expr} {da db : DX} {pos : Pos} (c : Cok G X Wx) (ha : PE X a (toE G xv Wx da)) (hb : PE X b (toE G xv Wx db)) (hs : PlainIx b := by intro _ _; rfl) : PE X (.Subscript a b pos) (toE G xv Wx (dOp ixD da db)) :=
  PEi (pe_ix (ixR_ixD c.kk) ha hb hs) toOp
/-- xs[i] = e, of a list of the store -/
def gIx (da db : DX) : DG := fun w t S => match da t S with
  | .ok (.ref p) S1 => match db t S1 with
    | .ok (.int i) S2 => match S2[p]? with
      | some (.lst ws) => match ixN ws.length i with
        | some j => .ok t (S2.set p (.lst (ws.set j w)))
        | none => .no
      | _ => .no
    | _ => .no
  | _ => .no
theorem dg_ix {a b : Expr} {da db : DX} {pos : Pos} (ck : Cok G X Wx) (ha : PE X a (toE G xv Wx da)) (hb : PE X b (toE G xv Wx db)) (hs : ∀ v, assign (.Subscript a b pos) X.env v = (do
      let ov ← holding [v] (eval a X.env)
      let iv ← holding [v, ov] (eval b X.env)
      standAt pos
      holding [v, ov, iv] (setItem ov iv v)
      release [v, ov, iv] []) := by intro _; rfl) : PG X (.Subscript a b pos) (toG G xv (gIx da db)) :=
  PGi (pg_sub ha hb set_list hs) fun v s H Q ⟨r, t, S, w, l, rl, q, o⟩ => by
    refine ⟨r, t, S, l, rl, ?_⟩
    unfold gIx at o
    cases e : da t S with
    | no => rw [e] at o; exact o.elim
    | er c ns ws S1 => rw [e] at o; exact o.elim
    | ok p S1 =>
      rw [e] at o
      intro r1 H1 pv e1 rl1 qp
      cases p with
      | ref p =>
        cases qp with
        | ref hp =>
          refine ⟨r1, t, S1, l.ev e1, rl1, ?_⟩
          simp only [] at o
          cases eb : db t S1 with
          | no => rw [eb] at o; exact o.elim
          | er c ns ws S2 => rw [eb] at o; exact o.elim
          | ok i S2 =>
            rw [eb] at o
            intro r2 H2 iv e2 rl2 qi
            cases i with
            | int i =>
              cases qi
              simp only [] at o
              cases e3 : S2[p]? with
              | none => rw [e3] at o; exact o.elim
              | some u =>
                rw [e3] at o
                cases u with
                | lst ws =>
                  simp only [] at o
                  cases e4 : ixN ws.length i with
                  | none => rw [e4] at o; exact o.elim
                  | some j =>
                    rw [e4] at o
                    obtain ⟨ho, h1, h2⟩ := rl2.at_ p _ e3 (fun z => by cases z)
                    cases h2 with
                    | @lst _ vs qs =>
                      refine ⟨r1 p, vs, i, j, rfl, rfl, by rw [← e2.rho p hp]; exact h1, by rw [← qs.length]; exact e4, ?_⟩
                      have ev := (e1.trans e2).trans (Ev.set (o := .lst (ws.set j w)) (ho := .lst (vs.set j v)) rl2 e3 (fun z => by cases z))
                      rw [← e2.rho p hp]
                      exact o r2 _ s ev (rl2.set e3 (fun z => by cases z) (.lst (qs.set ((q.ev e1).ev e2) j))) (l.ev ev)
                | _ => exact o.elim
            | _ => exact o.elim
      | _ => exact o.elim
/-! ### data, compared -/
mutual
def eqW : W → W → Bool
  | .non, .non => true
  | .bl a, .bl b => a == b
  | .bl a, .int j => (if a then 1 else 0) == j
  | .int i, .bl b => i == (if b then 1 else 0)
  | .int i, .int j => i == j
  | .str x, .str y => x == y
  | .lst xs, .lst ys => eqWs xs ys
  | .lst xs, .scr ys => eqWs xs ys
  | .scr xs, .lst ys => eqWs xs ys
  | .scr xs, .scr ys => eqWs xs ys
  | .tup xs, .tup ys => eqWs xs ys
  | _, _ => false
def eqWs : List W → List W → Bool
  | [], [] => true
  | x :: xs, y :: ys => eqW x y && eqWs xs ys
  | _, _ => false
end
mutual
def toD : W → PyData
  | .bl b => .bool b
  | .int i => .int i
  | .str x => .str x
  | .tup l => .tuple (toDs l)
  | .lst l => .list (toDs l)
  | .scr l => .list (toDs l)
  | _ => .none
def toDs : List W → List PyData
  | [] => []
  | w :: l => toD w :: toDs l
end
/-- plain data of a depth of n at most -/
def dat : Nat → W → Bool
  | _, .non => true
  | _, .bl _ => true
  | _, .int _ => true
  | _, .str x => PyData.strOk x
  | n + 1, .tup l => l.all (dat n)
  | n + 1, .lst l => l.all (dat n)
  | n + 1, .scr l => l.all (dat n)
  | _, _ => false
theorem toDs_map : ∀ l : List W, toDs l = l.map toD
  | [] => rfl
  | w :: l => by simp only [toDs, List.map_cons, toDs_map l]
theorem dat_lay : ∀ {n : Nat} {w : W}, dat n w = true → (toD w).canLay0 = true ∧ (toD w).depth ≤ n
  | _, .non, _ => by simp [toD, PyData.canLay0, PyData.depth]
  | _, .bl _, _ => by simp [toD, PyData.canLay0, PyData.depth]
  | _, .int _, _ => by simp [toD, PyData.canLay0, PyData.depth]
  | n, .str x, h => by
    have h : PyData.strOk x = true := by cases n <;> exact h
    simp [toD, PyData.canLay0, PyData.depth, h]
  | 0, .tup l, h => by simp [dat] at h
  | 0, .lst l, h => by simp [dat] at h
  | 0, .scr l, h => by simp [dat] at h
  | n + 1, .tup l, h => by
    have ⟨a, b⟩ := go n l h
    simp only [toD, PyData.canLay0, PyData.depth]
    exact ⟨a, by omega⟩
  | n + 1, .lst l, h => by
    have ⟨a, b⟩ := go n l h
    simp only [toD, PyData.canLay0, PyData.depth]
    exact ⟨a, by omega⟩
  | n + 1, .scr l, h => by
    have ⟨a, b⟩ := go n l h
    simp only [toD, PyData.canLay0, PyData.depth]
    exact ⟨a, by omega⟩
  | n, .ref _, h => by cases n <;> simp [dat] at h
  | n, .dic _ _, h => by cases n <;> simp [dat] at h
  | n, .obj _ _ _, h => by cases n <;> simp [dat] at h
  | n, .cls _, h => by cases n <;> simp [dat] at h
  | n, .ty _, h => by cases n <;> simp [dat] at h
where
  go (n : Nat) : ∀ (l : List W), l.all (dat n) = true → PyData.canLayAll0 (toDs l) = true ∧ PyData.depthAll (toDs l) ≤ n
    | [], _ => by simp [toDs, PyData.canLayAll0, PyData.depthAll]
    | w :: l, h => by
      simp only [List.all_cons, Bool.and_eq_true] at h
      have ⟨a, b⟩ := dat_lay h.1
      have ⟨c, d⟩ := go n l h.2
      simp only [toDs, PyData.canLayAll0, PyData.depthAll, a, c, Bool.and_self, true_and]
      exact Nat.max_le.mpr ⟨b, d⟩
theorem dat_shaped {n : Nat} {w : W} (h : dat n w = true) (hn : n ≤ 64) : SeqAt.shaped (toD w) = true := by
  have ⟨a, b⟩ := dat_lay h
  unfold SeqAt.shaped
  rw [a, Bool.true_and]
  exact decide_eq_true (by omega)
theorem dat_dp : ∀ {n : Nat} {w : W} {v : V}, dat n w = true → RW G H S r w v → Dp G.K H v (toD w)
  | _, .non, _, _, .non => by simp only [toD]; exact .non
  | _, .bl _, _, _, .bl b => by simp only [toD]; exact .bl b
  | _, .int _, _, _, .int b => by simp only [toD]; exact .int b
  | _, .str _, _, _, .str b => by simp only [toD]; exact .str b
  | n + 1, .tup l, _, h, .tup ta q => by simp only [toD]; exact .tup ta.sq (go n l _ h q)
  | n + 1, .lst l, _, h, .lst ow q => by simp only [toD]; exact .lst (.inl (.inl ow.1)) (go n l _ h q)
  | n + 1, .scr l, _, h, .scr ow q => by simp only [toD]; exact .lst ow.sq (go n l _ h q)
  | 0, .tup l, _, h, _ => by simp [dat] at h
  | 0, .lst l, _, h, _ => by simp [dat] at h
  | 0, .scr l, _, h, _ => by simp [dat] at h
  | n, .ref _, _, h, _ => by cases n <;> simp [dat] at h
  | n, .dic _ _, _, h, _ => by cases n <;> simp [dat] at h
  | n, .obj _ _ _, _, h, _ => by cases n <;> simp [dat] at h
  | n, .cls _, _, h, _ => by cases n <;> simp [dat] at h
  | n, .ty _, _, h, _ => by cases n <;> simp [dat] at h
where
  go (n : Nat) : ∀ (l : List W) (vs : List V), l.all (dat n) = true → RWs G H S r l vs → DpAll G.K H vs (toDs l)
    | [], _, _, .nil => by simp only [toDs]; exact .nil
    | w :: l, _, h, .cons a q => by
      simp only [List.all_cons, Bool.and_eq_true] at h
      simp only [toDs]
      exact .cons (dat_dp h.1 a) (go n l _ h.2 q)
theorem eqvs_eqWs {n m : Nat} (ih : ∀ {a b : W}, dat n a = true → dat m b = true → PyData.eqv (toD a) (toD b) = eqW a b) : ∀ (l k : List W), l.all (dat n) = true → k.all (dat m) = true → PyData.eqvAll (toDs l) (toDs k) = eqWs l k
  | [], [], _, _ => by simp [toDs, PyData.eqvAll, eqWs]
  | [], _ :: _, _, _ => by simp [toDs, PyData.eqvAll, eqWs]
  | _ :: _, [], _, _ => by simp [toDs, PyData.eqvAll, eqWs]
  | a :: l, b :: k, h, g => by
    simp only [List.all_cons, Bool.and_eq_true] at h g
    simp only [toDs, PyData.eqvAll, eqWs, ih h.1 g.1, eqvs_eqWs ih l k h.2 g.2]
theorem eqv_eqW : ∀ {n m : Nat} {a b : W}, dat n a = true → dat m b = true → PyData.eqv (toD a) (toD b) = eqW a b := by
  intro n
  induction n with
  | zero =>
    intro m a b h g
    cases a <;> cases b <;> first | (simp [dat] at h; done) | (cases m <;> simp [dat] at g; done) | simp [toD, PyData.eqv, eqW]
  | succ n ih =>
    intro m a b h g
    cases m with
    | zero => cases a <;> cases b <;> first | (simp [dat] at h; done) | (simp [dat] at g; done) | simp [toD, PyData.eqv, eqW]
    | succ m =>
      cases a <;> cases b <;> first
        | (simp [dat] at h; done)
        | (simp [dat] at g; done)
        | (simp only [toD, PyData.eqv, eqW]; exact eqvs_eqWs (fun h g => ih h g) _ _ h g)
        | simp [toD, PyData.eqv, eqW]
/-- a list of the store as it stands -/
def lookS (S : Sto) : W → W
  | .ref i => match S[i]? with
    | some (.lst ws) => .lst ws
    | _ => .ref i
  | w => w
theorem look_dp {n : Nat} {w : W} {v : V} (rl : Rl G H S r) (h : dat n (lookS S w) = true) (q : RW G H S r w v) : Dp G.K H v (toD (lookS S w)) := by
  cases w with
  | ref i =>
    simp only [lookS] at h ⊢
    cases e1 : S[i]? with
    | none => simp only [e1] at h; cases n <;> simp [dat] at h
    | some o =>
      simp only [e1] at h ⊢
      cases o with
      | lst us =>
        obtain ⟨ho, h1, h2⟩ := rl.at_ i _ e1 (fun z => by cases z)
        cases q with
        | ref hi =>
          cases h2 with
          | lst q =>
            cases n with
            | zero => simp [dat] at h
            | succ n =>
              simp only [toD]
              exact .lst (.inl (.inl h1)) (dat_dp.go n us _ h q)
      | _ => cases n <;> simp [dat] at h
  | _ => exact dat_dp h q
/-- the depth of data that we compare -/
def dDep : Nat := 16
def eqD : D2 := fun a b S => if (dat dDep (lookS S a) && dat dDep (lookS S b)) = true then .ok (.bl (eqW (lookS S a) (lookS S b))) S else .no
def neD : D2 := fun a b S => if (dat dDep (lookS S a) && dat dDep (lookS S b)) = true then .ok (.bl (!eqW (lookS S a) (lookS S b))) S else .no
theorem o_eq (hk : X.K = G.K) (hu : X.A.units + 64 < cLine) : OpR X (compareOp .Eq) (toR2 G xv eqD) := by
  intro pins s σ H x y v u Q I rx ry ⟨r, S, a, b, rl, qa, qb, o⟩
  unfold eqD at o
  split at o
  · rename_i h
    rw [Bool.and_eq_true] at h
    refine op_eqD hu pins s σ H x y v u Q I rx ry ⟨_, _, by rw [hk]; exact look_dp rl h.1 qa, by rw [hk]; exact look_dp rl h.2 qb, dat_shaped h.1 (by decide), dat_shaped h.2 (by decide), ?_⟩
    rw [eqv_eqW h.1 h.2]
    exact o r H _ .refl rl (.bl _)
  · exact o.elim
theorem o_ne (hk : X.K = G.K) (hu : X.A.units + 64 < cLine) : OpR X (compareOp .NotEq) (toR2 G xv neD) := by
  intro pins s σ H x y v u Q I rx ry ⟨r, S, a, b, rl, qa, qb, o⟩
  unfold neD at o
  split at o
  · rename_i h
    rw [Bool.and_eq_true] at h
    refine op_neD hu pins s σ H x y v u Q I rx ry ⟨_, _, by rw [hk]; exact look_dp rl h.1 qa, by rw [hk]; exact look_dp rl h.2 qb, dat_shaped h.1 (by decide), dat_shaped h.2 (by decide), ?_⟩
    rw [eqv_eqW h.1 h.2]
    exact o r H _ .refl rl (.bl _)
  · exact o.elim
/-! ### in, not in -/
def inW (w : W) (ws : List W) : Bool := ws.any fun y => eqW y w
def inD : D2 := fun a b S => match lookS S b with
  | .lst ws => if (dat dDep a && ws.all (dat dDep)) = true then .ok (.bl (inW a ws)) S else .no
  | .tup ws => if (dat dDep a && ws.all (dat dDep)) = true then .ok (.bl (inW a ws)) S else .no
  | _ => .no
def notInD : D2 := fun a b S => match lookS S b with
  | .lst ws => if (dat dDep a && ws.all (dat dDep)) = true then .ok (.bl (!inW a ws)) S else .no
  | .tup ws => if (dat dDep a && ws.all (dat dDep)) = true then .ok (.bl (!inW a ws)) S else .no
  | _ => .no
theorem any_inW {a : W} {ws : List W} (h : dat dDep a = true) : ws.all (dat dDep) = true → ((toDs ws).any fun y => PyData.eqv y (toD a)) = inW a ws := by
  unfold inW
  induction ws with
  | nil => intro _; simp [toDs]
  | cons w ws ih =>
    intro g
    simp only [List.all_cons, Bool.and_eq_true] at g
    simp only [toDs, List.any_cons, eqv_eqW g.1 h, ih g.2]
theorem in_room {A : Around} {a : W} {ws : List W} (h : dat dDep a = true) (hu : A.units + 64 < cLine) : A.units + 1 + min (PyData.depthAll (toDs ws)) (toD a).depth < cLine := by
  have h1 := (dat_lay h).2
  have h2 : min (PyData.depthAll (toDs ws)) (toD a).depth ≤ (toD a).depth := Nat.min_le_right _ _
  have h3 : dDep = 16 := rfl
  omega
theorem o_in (hk : X.K = G.K) (hu : X.A.units + 64 < cLine) : OpR X (compareOp .In) (toR2 G xv inD) := by
  intro pins s σ H x y v u Q I rx ry ⟨r, S, a, b, rl, qa, qb, o⟩
  unfold inD at o
  cases e : lookS S b with
  | lst ws =>
    rw [e] at o
    simp only [] at o
    split at o
    · rename_i h
      rw [Bool.and_eq_true] at h
      have hd : dat (dDep + 1) (lookS S b) = true := by rw [e]; exact h.2
      have d1 := look_dp rl hd qb
      rw [e] at d1
      simp only [toD] at d1
      obtain ⟨as, r1⟩ := Dp.reads I _ x v (by rw [hk]; exact dat_dp h.1 qa) rx
      obtain ⟨bs, r2⟩ := Dp.reads I _ y u (by rw [hk]; exact d1) ry
      refine SeqAt.in_list_reads r2 r1 (dat_lay.go dDep ws h.2).1 (dat_lay h.1).1 (in_room h.1 hu) ⟨.bl _, H, I, rfl, ?_⟩
      rw [any_inW h.1 h.2]
      exact o r H _ .refl rl (.bl _)
    · exact o.elim
  | tup ws =>
    rw [e] at o
    simp only [] at o
    split at o
    · rename_i h
      rw [Bool.and_eq_true] at h
      have hd : dat (dDep + 1) (lookS S b) = true := by rw [e]; exact h.2
      have d1 := look_dp rl hd qb
      rw [e] at d1
      simp only [toD] at d1
      obtain ⟨as, r1⟩ := Dp.reads I _ x v (by rw [hk]; exact dat_dp h.1 qa) rx
      obtain ⟨bs, r2⟩ := Dp.reads I _ y u (by rw [hk]; exact d1) ry
      refine SeqAt.in_tuple_reads r2 r1 (dat_lay.go dDep ws h.2).1 (dat_lay h.1).1 (in_room h.1 hu) ⟨.bl _, H, I, rfl, ?_⟩
      rw [any_inW h.1 h.2]
      exact o r H _ .refl rl (.bl _)
    · exact o.elim
  | _ => rw [e] at o; exact o.elim
theorem o_notIn (hk : X.K = G.K) (hu : X.A.units + 64 < cLine) : OpR X (compareOp .NotIn) (toR2 G xv notInD) := by
  intro pins s σ H x y v u Q I rx ry ⟨r, S, a, b, rl, qa, qb, o⟩
  unfold notInD at o
  cases e : lookS S b with
  | lst ws =>
    rw [e] at o
    simp only [] at o
    split at o
    · rename_i h
      rw [Bool.and_eq_true] at h
      have hd : dat (dDep + 1) (lookS S b) = true := by rw [e]; exact h.2
      have d1 := look_dp rl hd qb
      rw [e] at d1
      simp only [toD] at d1
      obtain ⟨as, r1⟩ := Dp.reads I _ x v (by rw [hk]; exact dat_dp h.1 qa) rx
      obtain ⟨bs, r2⟩ := Dp.reads I _ y u (by rw [hk]; exact d1) ry
      refine SeqAt.notIn_list_reads r2 r1 (dat_lay.go dDep ws h.2).1 (dat_lay h.1).1 (in_room h.1 hu) ⟨.bl _, H, I, rfl, ?_⟩
      rw [any_inW h.1 h.2]
      exact o r H _ .refl rl (.bl _)
    · exact o.elim
  | tup ws =>
    rw [e] at o
    simp only [] at o
    split at o
    · rename_i h
      rw [Bool.and_eq_true] at h
      have hd : dat (dDep + 1) (lookS S b) = true := by rw [e]; exact h.2
      have d1 := look_dp rl hd qb
      rw [e] at d1
      simp only [toD] at d1
      obtain ⟨as, r1⟩ := Dp.reads I _ x v (by rw [hk]; exact dat_dp h.1 qa) rx
      obtain ⟨bs, r2⟩ := Dp.reads I _ y u (by rw [hk]; exact d1) ry
      refine SeqAt.notIn_tuple_reads r2 r1 (dat_lay.go dDep ws h.2).1 (dat_lay h.1).1 (in_room h.1 hu) ⟨.bl _, H, I, rfl, ?_⟩
      rw [any_inW h.1 h.2]
      exact o r H _ .refl rl (.bl _)
    · exact o.elim
  | _ => rw [e] at o; exact o.elim
end
end DD
namespace DD
open PySem PySem.Spec PyProof.Rows L2
section
variable {G : Gx} {xv : Nat → Value} {Wx : WX} {X : Cx} {H H' : Hp} {S S' : Sto} {r r' : Rh}
/-! ### truth -/
def truW (S : Sto) : W → Option Bool
  | .non => some false
  | .bl b => some b
  | .int i => some (i != 0)
  | .str x => if x.length ≤ sizeLine then some ((x.length : Int) != 0) else none
  | .tup l => some (!l.isEmpty)
  | .lst l => some (!l.isEmpty)
  | .scr l => some (!l.isEmpty)
  | .dic ks l => some (!l.isEmpty)
  | .ref i => match S[i]? with
    | some (.lst l) => some (!l.isEmpty)
    | some (.dic ks l) => some (!l.isEmpty)
    | _ => none
  | _ => none
theorem RWs.isEmpty {ws : List W} {vs : List V} (q : RWs G H S r ws vs) : vs.isEmpty = ws.isEmpty := by cases q <;> rfl
theorem zip_isEmpty {ks : List Key} {ws : List W} {vs : List V} (hl : ks.length = ws.length) (q : RWs G H S r ws vs) : (ks.zip vs).isEmpty = ws.isEmpty := by
  cases q with
  | nil => simp
  | cons a b =>
    cases ks with
    | nil => simp at hl
    | cons k ks => rfl
theorem truW_ok {w : W} {v : V} {k : Bool} (rl : Rl G H S r) (q : RW G H S r w v) (e : truW S w = some k) : TruV G.K v H k := by
  cases q with
  | non => cases e; rfl
  | bl b => cases e; rfl
  | int i => cases e; rfl
  | str x =>
    simp only [truW] at e
    split at e
    · rename_i h; cases e; exact ⟨h, rfl⟩
    · cases e
  | tup ta q => cases e; exact .inr (.inl ⟨_, ta.sq, by rw [q.isEmpty]⟩)
  | lst ow q => cases e; exact .inl ⟨_, .inl (.inl ow.1), by rw [q.isEmpty]⟩
  | scr ow q => cases e; exact .inl ⟨_, ow.sq, by rw [q.isEmpty]⟩
  | dic ow hl q => cases e; exact .inr (.inr ⟨_, ow.1, by rw [zip_isEmpty hl q]⟩)
  | @ref i hi =>
    simp only [truW] at e
    cases e1 : S[i]? with
    | none => rw [e1] at e; cases e
    | some o =>
      rw [e1] at e
      cases o with
      | lst us =>
        cases e
        obtain ⟨ho, h1, h2⟩ := rl.at_ i _ e1 (fun z => by cases z)
        cases h2 with
        | lst q => exact .inl ⟨_, .inl (.inl h1), by rw [q.isEmpty]⟩
      | dic ks us =>
        cases e
        obtain ⟨ho, h1, h2⟩ := rl.at_ i _ e1 (fun z => by cases z)
        cases h2 with
        | dic hl q => exact .inr (.inr ⟨_, h1, by rw [zip_isEmpty hl q]⟩)
      | _ => cases e
  | obj _ _ _ => cases e
  | cls _ => cases e
  | ty _ => cases e
def dTru (d : DX) : DT := fun t S => (d t S).bind fun w S1 => match truW S1 w with
  | some k => .ok k S1
  | none => .no
theorem dt_truth {a : Expr} {d : DX} (c : Cok G X Wx) (ha : PE X a (toE G xv Wx d)) (he : ∀ whole, isTrue a X.env whole = (do let v ← whole; standAt a.pos; holding [v] (truthy v)) := by intro _; rfl) : PT X a (toT G xv Wx (dTru d)) := PTi (pt_truth ha he) fun s H Q ⟨r, t, S, l, rl, o⟩ =>
  toX.bind l rl o fun w S1 r1 H1 v _ e1 rl1 l1 q o1 => by
    cases e : truW S1 w with
    | none => rw [e] at o1; exact o1.elim
    | some k =>
      rw [e] at o1
      exact ⟨k, by rw [c.kk]; exact truW_ok rl1 q e, o1 r1 H1 k .refl rl1 rfl⟩
/-- not x, by truth -/
def dNotT (d : DX) : DX := fun t S => (d t S).bind fun w S1 => match truW S1 w with
  | some k => .ok (.bl (!k)) S1
  | none => .no
theorem de_notT {a : Expr} {d : DX} {pos : Pos} (c : Cok G X Wx) (ha : PE X a (toE G xv Wx d)) : PE X (.UnaryOp .Not a pos) (toE G xv Wx (dNotT d)) := PEi (pe_notT ha) fun s H Q ⟨r, t, S, l, rl, o⟩ =>
  toX.bind l rl o fun w S1 r1 H1 v _ e1 rl1 l1 q o1 => by
    cases e : truW S1 w with
    | none => rw [e] at o1; exact o1.elim
    | some k =>
      rw [e] at o1
      exact ⟨k, by rw [c.kk]; exact truW_ok rl1 q e, o1 r1 H1 _ .refl rl1 (.bl _)⟩
/-- x and y, x or y, by truth -/
def dAndT (a b : DX) : DX := fun t S => (a t S).bind fun w S1 => match truW S1 w with
  | some true => b t S1
  | some false => .ok w S1
  | none => .no
def dOrT (a b : DX) : DX := fun t S => (a t S).bind fun w S1 => match truW S1 w with
  | some true => .ok w S1
  | some false => b t S1
  | none => .no
theorem de_andT {a b : Expr} {rest : List Expr} {d e : DX} {pos : Pos} (c : Cok G X Wx) (ha : PE X a (toE G xv Wx d)) (hb : PE X (.BoolOp .And (b :: rest) pos) (toE G xv Wx e)) : PE X (.BoolOp .And (a :: b :: rest) pos) (toE G xv Wx (dAndT d e)) := PEi (pe_andT ha hb) fun s H Q ⟨r, t, S, l, rl, o⟩ =>
  toX.bind l rl o fun w S1 r1 H1 v _ e1 rl1 l1 q o1 => by
    cases e : truW S1 w with
    | none => rw [e] at o1; exact o1.elim
    | some k =>
      rw [e] at o1
      refine ⟨k, by rw [c.kk]; exact truW_ok rl1 q e, ?_⟩
      cases k with
      | true => exact ⟨r1, t, S1, l1, rl1, o1⟩
      | false => exact o1 r1 H1 _ .refl rl1 q
theorem de_orT {a b : Expr} {rest : List Expr} {d e : DX} {pos : Pos} (c : Cok G X Wx) (ha : PE X a (toE G xv Wx d)) (hb : PE X (.BoolOp .Or (b :: rest) pos) (toE G xv Wx e)) : PE X (.BoolOp .Or (a :: b :: rest) pos) (toE G xv Wx (dOrT d e)) := PEi (pe_orT ha hb) fun s H Q ⟨r, t, S, l, rl, o⟩ =>
  toX.bind l rl o fun w S1 r1 H1 v _ e1 rl1 l1 q o1 => by
    cases e : truW S1 w with
    | none => rw [e] at o1; exact o1.elim
    | some k =>
      rw [e] at o1
      refine ⟨k, by rw [c.kk]; exact truW_ok rl1 q e, ?_⟩
      cases k with
      | true => exact o1 r1 H1 _ .refl rl1 q
      | false => exact ⟨r1, t, S1, l1, rl1, o1⟩
/-! ### built-ins -/
def toC1 (G : Gx) (xv : Nat → Value) (f : Fn) : List V → Hp → VK → Prop := fun vs H Q => ∃ r S ws, Rl G H S r ∧ RWs G H S r ws vs ∧ OutE G xv W0 (fun H S r w v => RW G H S r w v) [] H S r (f ws S) Q
def dBi (f : Fn) (d : DA) : DX := fun t S => (d t S).bind fun ws S1 => match f ws S1 with
  | .ok w S2 => .ok w S2
  | _ => .no
theorem toBi {f : Fn} {d : DA} (s : L2.St) (H : Hp) (Q : VK) : toE G xv Wx (dBi f d) s H Q → tCB (toC1 G xv f) (toA G xv Wx d) s H Q := by
  rintro ⟨r, t, S, l, rl, o⟩
  refine toX.bind l rl o fun ws S1 r1 H1 vs _ e1 rl1 l1 q o1 => ⟨r1, S1, ws, rl1, q, ?_⟩
  cases e : f ws S1 with
  | ok w S2 => rw [e] at o1; exact o1
  | er c ns us S2 => rw [e] at o1; exact o1.elim
  | no => rw [e] at o1; exact o1.elim
theorem de_callB {x : Str} {id : String} {e : Expr} {es : List Expr} {f : Fn} {d : DA} {p pos : Pos} (hc : CallR X (.builtin id) (toC1 G xv f)) (hv : bootBuiltins x = some (.builtin id)) (hm : X.mg x = none) (ha : PA X (e :: es) (toA G xv Wx d)) (hg : Gl X x := by rfl) (hn : x ≠ "__name__" := by decide) (hdb : (x == ("__debug__" : Str)) = false := by decide)
    (he : starEach (e :: es) X.env = (false, eval e X.env) :: starEach es X.env := by rfl) (hpl : (backTo pos (starEach es X.env)).any (·.1) = false := by rfl) : PE X (.Call (.Name x p) (e :: es) [] pos) (toE G xv Wx (dBi f d)) :=
  PEi (pe_callB hc hg hm hv ha hn hdb he hpl) toBi
theorem de_callTy {x : Str} {T : String} {e : Expr} {es : List Expr} {f : Fn} {d : DA} {p pos : Pos} (hc : CallR X (.type T) (toC1 G xv f)) (hv : bootBuiltins x = some (.type T)) (hm : X.mg x = none) (ha : PA X (e :: es) (toA G xv Wx d)) (hg : Gl X x := by rfl) (hn : x ≠ "__name__" := by decide) (hdb : (x == ("__debug__" : Str)) = false := by decide)
    (he : starEach (e :: es) X.env = (false, eval e X.env) :: starEach es X.env := by rfl) (hpl : (backTo pos (starEach es X.env)).any (·.1) = false := by rfl) : PE X (.Call (.Name x p) (e :: es) [] pos) (toE G xv Wx (dBi f d)) :=
  PEi (pe_callTy hc hg hm hv ha hn hdb he hpl) toBi
/-- a built-in class as a value -/
theorem de_bty {x : Str} {T : String} {pos : Pos} (hv : bootBuiltins x = some (.type T)) (hm : X.mg x = none) (hg : Gl X x := by rfl) (hn : x ≠ "__name__" := by decide) (hd : (x == ("__debug__" : Str)) = false := by decide) : PE X (.Name x pos) (toE G xv Wx (dC (.ty T))) :=
  PEi (pe_bltn (v := .ty T) hg hm hv rfl hn hd) (toC fun _ _ _ => .ty T)
/-! len -/
def lenF : Fn := fun ws S => match ws with
  | [.str x] => if x.length ≤ sizeLine then .ok (.int x.length) S else .no
  | [w] => match seqL S w with
    | some l => .ok (.int l.length) S
    | none => match seqT w with
      | some l => .ok (.int l.length) S
      | none => .no
  | _ => .no
theorem c_len (hk : X.K = G.K) : CallR X (.builtin "len") (toC1 G xv lenF) := by
  intro pins s σ H xs us Q I rv ⟨r, S, ws, rl, q, o⟩
  cases q with
  | nil => exact o.elim
  | @cons w ws v vs a q =>
    cases q with
    | cons _ _ => cases w <;> exact o.elim
    | nil =>
      have seq : ∀ w', w = w' → (∀ x, w' ≠ .str x) → OutE G xv W0 (fun H S r w v => RW G H S r w v) [] H S r (match seqL S w with
          | some l => .ok (.int l.length) S
          | none => match seqT w with
            | some l => .ok (.int l.length) S
            | none => .no) Q → wpAny (model X.prog X.w) X.A (call (.builtin "len") us) (EP X pins σ Q) X.xe s := fun w' _ _ o => by
        cases e : seqL S w with
        | some l =>
          rw [e] at o
          obtain ⟨p, vs, rfl, hq, q⟩ := seqL_ok rl a e
          exact call_len_seq pins s σ H _ us Q I rv ⟨p, vs, rfl, .inl (by rw [hk]; exact hq), by rw [← q.length]; exact o r H _ .refl rl (.int _)⟩
        | none =>
          rw [e] at o
          simp only [] at o
          cases e2 : seqT w with
          | none => rw [e2] at o; exact o.elim
          | some l =>
            rw [e2] at o
            obtain ⟨p, vs, rfl, hq, q⟩ := seqT_ok a e2
            exact call_len_seq pins s σ H _ us Q I rv ⟨p, vs, rfl, .inr (by rw [hk]; exact hq), by rw [← q.length]; exact o r H _ .refl rl (.int _)⟩
      cases w with
      | str x =>
        cases a
        simp only [lenF] at o
        split at o
        · rename_i h
          exact call_len_str pins s σ H _ us Q I rv ⟨x, rfl, h, o r H _ .refl rl (.int _)⟩
        · exact o.elim
      | _ => exact seq _ rfl (fun x z => by cases z) o
/-! ints -/
def absF : Fn := fun ws S => match ws with
  | [.int i] => .ok (.int (if i < 0 then -i else i)) S
  | _ => .no
theorem c_abs : CallR X (.builtin "abs") (toC1 G xv absF) := by
  intro pins s σ H xs us Q I rv ⟨r, S, ws, rl, q, o⟩
  cases q with
  | nil => exact o.elim
  | @cons w ws v vs a q =>
    cases q with
    | cons _ _ => cases w <;> exact o.elim
    | nil =>
      cases w with
      | int i => cases a; exact call_abs pins s σ H _ us Q I rv ⟨i, rfl, o r H _ .refl rl (.int _)⟩
      | _ => exact o.elim
def intF : Fn := fun ws S => match ws with
  | [.int i] => .ok (.int i) S
  | [.bl k] => .ok (.int (if k then 1 else 0)) S
  | _ => .no
theorem c_int : CallR X (.type "int") (toC1 G xv intF) := by
  intro pins s σ H xs us Q I rv ⟨r, S, ws, rl, q, o⟩
  cases q with
  | nil => exact o.elim
  | @cons w ws v vs a q =>
    cases q with
    | cons _ _ => cases w <;> exact o.elim
    | nil =>
      cases w with
      | int i => cases a; exact call_int1 pins s σ H _ us Q I rv (.inl ⟨i, rfl, o r H _ .refl rl (.int _)⟩)
      | bl i => cases a; exact call_int1 pins s σ H _ us Q I rv (.inr ⟨i, rfl, o r H _ .refl rl (.int _)⟩)
      | _ => exact o.elim
def boolF : Fn := fun ws S => match ws with
  | [.int i] => .ok (.bl (i != 0)) S
  | [.bl k] => .ok (.bl k) S
  | _ => .no
theorem c_bool : CallR X (.type "bool") (toC1 G xv boolF) := by
  intro pins s σ H xs us Q I rv ⟨r, S, ws, rl, q, o⟩
  cases q with
  | nil => exact o.elim
  | @cons w ws v vs a q =>
    cases q with
    | cons _ _ => cases w <;> exact o.elim
    | nil =>
      cases w with
      | int i => cases a; exact call_bool1 pins s σ H _ us Q I rv (.inl ⟨i, rfl, o r H _ .refl rl (.bl _)⟩)
      | bl i => cases a; exact call_bool1 pins s σ H _ us Q I rv (.inr ⟨i, rfl, o r H _ .refl rl (.bl _)⟩)
      | _ => exact o.elim
def strF : Fn := fun ws S => match ws with
  | [.int i] => if i.natAbs.log2 < 1920 then .ok (.str (toString i)) S else .no
  | _ => .no
theorem c_str : CallR X (.type "str") (toC1 G xv strF) := by
  intro pins s σ H xs us Q I rv ⟨r, S, ws, rl, q, o⟩
  cases q with
  | nil => exact o.elim
  | @cons w ws v vs a q =>
    cases q with
    | cons _ _ => cases w <;> exact o.elim
    | nil =>
      cases w with
      | int i =>
        cases a
        simp only [strF] at o
        split at o
        · rename_i h; exact call_str_int pins s σ H _ us Q I rv ⟨i, rfl, h, o r H _ .refl rl (.str _)⟩
        · exact o.elim
      | _ => exact o.elim
def twoI (f : Int → Int → R W) : List W → R W
  | [.int i, .int j] => f i j
  | _ => .no
def max2F : Fn := fun ws S => twoI (fun i j => .ok (.int (if j > i then j else i)) S) ws
def min2F : Fn := fun ws S => twoI (fun i j => .ok (.int (if j < i then j else i)) S) ws
theorem two_ints {ws : List W} {vs : List V} {f : Int → Int → R W} {C : R W → Prop} (hno : ¬ C .no) (q : RWs G H S r ws vs) (o : C (twoI f ws)) : ∃ i j, ws = [.int i, .int j] ∧ vs = [.int i, .int j] ∧ C (f i j) := by
  cases q with
  | nil => exact absurd o hno
  | @cons w ws v vs a q =>
    cases q with
    | nil => cases w <;> exact absurd o hno
    | @cons w2 ws2 v2 vs2 b q =>
      cases q with
      | cons _ _ => cases w <;> first | exact absurd o hno | (cases w2 <;> exact absurd o hno)
      | nil =>
        cases w with
        | int i =>
          cases w2 with
          | int j => cases a; cases b; exact ⟨i, j, rfl, rfl, o⟩
          | _ => exact absurd o hno
        | _ => exact absurd o hno
theorem c_max2 (hc : X.calm = true) : CallR X (.builtin "max") (toC1 G xv max2F) := by
  intro pins s σ H xs us Q I rv ⟨r, S, ws, rl, q, o⟩
  obtain ⟨i, j, rfl, rfl, o⟩ := two_ints (C := fun x => OutE G xv W0 (fun H S r w v => RW G H S r w v) [] H S r x Q) (fun z => z) q o
  exact call_max2 hc pins s σ H _ us Q I rv ⟨i, j, rfl, o r H _ .refl rl (.int _)⟩
theorem c_min2 (hc : X.calm = true) : CallR X (.builtin "min") (toC1 G xv min2F) := by
  intro pins s σ H xs us Q I rv ⟨r, S, ws, rl, q, o⟩
  obtain ⟨i, j, rfl, rfl, o⟩ := two_ints (C := fun x => OutE G xv W0 (fun H S r w v => RW G H S r w v) [] H S r x Q) (fun z => z) q o
  exact call_min2 hc pins s σ H _ us Q I rv ⟨i, j, rfl, o r H _ .refl rl (.int _)⟩
/-! list(..), tuple(..) -/
def listF : Fn := fun ws S => match ws with
  | [w] => match seqL S w with
    | some l => .ok (.lst l) S
    | none => match seqT w with
      | some l => .ok (.lst l) S
      | none => .no
  | _ => .no
/-- list(..), to be changed -/
def newListF : Fn := fun ws S => match ws with
  | [w] => match seqL S w with
    | some l => .ok (.ref S.length) (S ++ [.lst l])
    | none => match seqT w with
      | some l => .ok (.ref S.length) (S ++ [.lst l])
      | none => .no
  | _ => .no
def tupleF : Fn := fun ws S => match ws with
  | [w] => match seqL S w with
    | some l => .ok (.tup l) S
    | none => match seqT w with
      | some l => .ok (.tup l) S
      | none => .no
  | _ => .no
theorem c_list (hk : X.K = G.K) : CallR X (.type "list") (toC1 G xv listF) := by
  intro pins s σ H xs us Q I rv ⟨r, S, ws, rl, q, o⟩
  cases q with
  | nil => exact o.elim
  | @cons w ws v vs a q =>
    cases q with
    | cons _ _ => exact o.elim
    | nil =>
      simp only [listF] at o
      cases e : seqL S w with
      | some l =>
        rw [e] at o
        obtain ⟨p, vs, rfl, hq, q⟩ := seqL_ok rl a e
        exact call_list_of pins s σ H _ us Q I rv ⟨p, vs, rfl, .inl (by rw [hk]; exact hq), fun l hl => o r _ _ (Ev.fresh hl rl) (rl.fresh hl) (.lst (Own.new hl rl) (q.ev (Ev.fresh hl rl)))⟩
      | none =>
        rw [e] at o
        simp only [] at o
        cases e2 : seqT w with
        | none => rw [e2] at o; exact o.elim
        | some l =>
          rw [e2] at o
          obtain ⟨p, vs, rfl, hq, q⟩ := seqT_ok a e2
          exact call_list_of pins s σ H _ us Q I rv ⟨p, vs, rfl, .inr (by rw [hk]; exact hq), fun l hl => o r _ _ (Ev.fresh hl rl) (rl.fresh hl) (.lst (Own.new hl rl) (q.ev (Ev.fresh hl rl)))⟩
theorem newRef {p : Addr} {o : O} {ho : HO} : RW G (upd H p ho) (S ++ [o]) (put r S.length p) (.ref S.length) (.ref p) := by
  have := RW.ref (G := G) (H := upd H p ho) (S := S ++ [o]) (r := put r S.length p) (i := S.length) (by simp)
  rw [put_same] at this
  exact this
theorem c_newList (hk : X.K = G.K) : CallR X (.type "list") (toC1 G xv newListF) := by
  intro pins s σ H xs us Q I rv ⟨r, S, ws, rl, q, o⟩
  cases q with
  | nil => exact o.elim
  | @cons w ws v vs a q =>
    cases q with
    | cons _ _ => exact o.elim
    | nil =>
      simp only [newListF] at o
      cases e : seqL S w with
      | some l =>
        rw [e] at o
        obtain ⟨p, vs, rfl, hq, q⟩ := seqL_ok rl a e
        exact call_list_of pins s σ H _ us Q I rv ⟨p, vs, rfl, .inl (by rw [hk]; exact hq), fun l hl => o _ _ _ (Ev.snoc hl) (rl.snoc hl (.lst q)) newRef⟩
      | none =>
        rw [e] at o
        simp only [] at o
        cases e2 : seqT w with
        | none => rw [e2] at o; exact o.elim
        | some l =>
          rw [e2] at o
          obtain ⟨p, vs, rfl, hq, q⟩ := seqT_ok a e2
          exact call_list_of pins s σ H _ us Q I rv ⟨p, vs, rfl, .inr (by rw [hk]; exact hq), fun l hl => o _ _ _ (Ev.snoc hl) (rl.snoc hl (.lst q)) newRef⟩
theorem c_tuple (hk : X.K = G.K) : CallR X (.type "tuple") (toC1 G xv tupleF) := by
  intro pins s σ H xs us Q I rv ⟨r, S, ws, rl, q, o⟩
  cases q with
  | nil => exact o.elim
  | @cons w ws v vs a q =>
    cases q with
    | cons _ _ => exact o.elim
    | nil =>
      simp only [tupleF] at o
      cases e : seqL S w with
      | some l =>
        rw [e] at o
        obtain ⟨p, vs, rfl, hq, q⟩ := seqL_ok rl a e
        exact call_tuple_of pins s σ H _ us Q I rv ⟨p, vs, rfl, .inl ⟨by rw [hk]; exact hq, fun l hl => o r _ _ (Ev.fresh hl rl) (rl.fresh hl) (.tup (.inl (Own.new hl rl)) (q.ev (Ev.fresh hl rl)))⟩⟩
      | none =>
        rw [e] at o
        simp only [] at o
        cases w with
        | tup l =>
          simp only [seqT] at o
          cases a with
          | tup ta q => exact call_tuple_of pins s σ H _ us Q I rv ⟨_, _, rfl, .inr ⟨by rw [hk]; exact ta.sq, o r H _ .refl rl (.tup ta q)⟩⟩
        | _ => exact o.elim
/-! all, any -/
def blsOf : List W → Option (List Bool)
  | [] => some []
  | .bl b :: l => (blsOf l).map (b :: ·)
  | _ => none
theorem blsOf_ok : ∀ {ws : List W} {vs : List V} {bs : List Bool}, RWs G H S r ws vs → blsOf ws = some bs → vs = bs.map V.bl
  | [], _, _, .nil, e => by cases e; rfl
  | w :: ws, _, bs, .cons a q, e => by
    cases w with
    | bl b =>
      cases a
      simp only [blsOf] at e
      cases e1 : blsOf ws with
      | none => rw [e1] at e; cases e
      | some l =>
        rw [e1] at e
        cases e
        rw [blsOf_ok q e1]
        rfl
    | _ => cases e
def allF : Fn := fun ws S => match ws with
  | [w] => match seqL S w with
    | some l => match blsOf l with
      | some bs => .ok (.bl (bs.all id)) S
      | none => .no
    | none => .no
  | _ => .no
def anyF : Fn := fun ws S => match ws with
  | [w] => match seqL S w with
    | some l => match blsOf l with
      | some bs => .ok (.bl (bs.any id)) S
      | none => .no
    | none => .no
  | _ => .no
theorem c_all (hk : X.K = G.K) (hc : X.calm = true) : CallR X (.builtin "all") (toC1 G xv allF) := by
  intro pins s σ H xs us Q I rv ⟨r, S, ws, rl, q, o⟩
  cases q with
  | nil => exact o.elim
  | @cons w ws v vs a q =>
    cases q with
    | cons _ _ => exact o.elim
    | nil =>
      simp only [allF] at o
      cases e : seqL S w with
      | none => rw [e] at o; exact o.elim
      | some l =>
        rw [e] at o
        simp only [] at o
        obtain ⟨p, vs, rfl, hq, q⟩ := seqL_ok rl a e
        cases eb : blsOf l with
        | none => rw [eb] at o; exact o.elim
        | some bs =>
          rw [eb] at o
          have hv := blsOf_ok q eb
          subst hv
          exact cr_all hc pins s σ H _ us Q I rv ⟨p, bs, rfl, by rw [hk]; exact hq, o r H _ .refl rl (.bl _)⟩
theorem c_any (hk : X.K = G.K) (hc : X.calm = true) : CallR X (.builtin "any") (toC1 G xv anyF) := by
  intro pins s σ H xs us Q I rv ⟨r, S, ws, rl, q, o⟩
  cases q with
  | nil => exact o.elim
  | @cons w ws v vs a q =>
    cases q with
    | cons _ _ => exact o.elim
    | nil =>
      simp only [anyF] at o
      cases e : seqL S w with
      | none => rw [e] at o; exact o.elim
      | some l =>
        rw [e] at o
        simp only [] at o
        obtain ⟨p, vs, rfl, hq, q⟩ := seqL_ok rl a e
        cases eb : blsOf l with
        | none => rw [eb] at o; exact o.elim
        | some bs =>
          rw [eb] at o
          have hv := blsOf_ok q eb
          subst hv
          exact cr_any hc pins s σ H _ us Q I rv ⟨p, bs, rfl, by rw [hk]; exact hq, o r H _ .refl rl (.bl _)⟩
/-! sum of ints -/
def intsOf : List W → Option (List Int)
  | [] => some []
  | .int b :: l => (intsOf l).map (b :: ·)
  | _ => none
theorem intsOf_ok : ∀ {ws : List W} {vs : List V} {bs : List Int}, RWs G H S r ws vs → intsOf ws = some bs → vs = bs.map V.int
  | [], _, _, .nil, e => by cases e; rfl
  | w :: ws, _, bs, .cons a q, e => by
    cases w with
    | int b =>
      cases a
      simp only [intsOf] at e
      cases e1 : intsOf ws with
      | none => rw [e1] at e; cases e
      | some l =>
        rw [e1] at e
        cases e
        rw [intsOf_ok q e1]
        rfl
    | _ => cases e
def sumF : Fn := fun ws S => match ws with
  | [w] => match seqL S w with
    | some l => match intsOf l with
      | some bs => .ok (.int bs.sum) S
      | none => .no
    | none => .no
  | _ => .no
theorem c_sum (hk : X.K = G.K) (hc : X.calm = true) : CallR X (.builtin "sum") (toC1 G xv sumF) := by
  intro pins s σ H xs us Q I rv ⟨r, S, ws, rl, q, o⟩
  cases q with
  | nil => exact o.elim
  | @cons w ws v vs a q =>
    cases q with
    | cons _ _ => exact o.elim
    | nil =>
      simp only [sumF] at o
      cases e : seqL S w with
      | none => rw [e] at o; exact o.elim
      | some l =>
        rw [e] at o
        simp only [] at o
        obtain ⟨p, vs, rfl, hq, q⟩ := seqL_ok rl a e
        cases eb : intsOf l with
        | none => rw [eb] at o; exact o.elim
        | some bs =>
          rw [eb] at o
          have hv := intsOf_ok q eb
          subst hv
          exact cr_sum hc pins s σ H _ us Q I rv ⟨p, bs, rfl, by rw [hk]; exact hq, o r H _ .refl rl (.int _)⟩
/-! isinstance -/
/-- a kind of value: a built-in one or a class of one's own -/
inductive Ki where
  | b (n : String) | c (k : Nat)
  deriving DecidableEq
def Ki.v (cm : Nat → Addr) : Ki → Value
  | .b n => .type n
  | .c k => .ref (cm k)
def kiW (S : Sto) : W → Option Ki
  | .non => some (.b "NoneType")
  | .bl _ => some (.b "bool")
  | .int _ => some (.b "int")
  | .str _ => some (.b "str")
  | .tup _ => some (.b "tuple")
  | .lst _ => some (.b "list")
  | .scr _ => some (.b "list")
  | .dic _ _ => some (.b "dict")
  | .obj c _ _ => some (.c c)
  | .ref i => match S[i]? with
    | some (.lst _) => some (.b "list")
    | some (.dic _ _) => some (.b "dict")
    | some (.ins c _ _) => some (.c c)
    | _ => none
  | _ => none
def kiC : W → Option Ki
  | .ty n => some (.b n)
  | .cls c => some (.c c)
  | _ => none
/-- what isinstance asks of an own class -/
structure InsK (K : PySem.W.Frag) (C : Addr) : Prop where
  cl : Cls K C
  ha : PySem.W.findIn K (.ref C) "__class__" = some (some (.builtin "object.__class__"))
  hn : PySem.W.specialIn K (.builtin "object.__class__") "__get__" = some (some (.builtin "getset_descriptor.__get__"))
  htk : PySem.W.takesIn K (.builtin "object.__class__") = some true
  hm : PySem.W.mroIn K C (.type "object") = some true
def isiF (T : Ki → Ki → Option Bool) : Fn := fun ws S => match ws with
  | [w, c] => match kiW S w, kiC c with
    | some a, some b => match T a b with
      | some k => .ok (.bl k) S
      | none => .no
    | _, _ => .no
  | _ => .no
theorem kiW_ok {w : W} {v : V} {k : Ki} (rl : Rl G H S r) (hI : ∀ c, k = .c c → InsK G.K (G.cm c)) (q : RW G H S r w v) (e : kiW S w = some k) : TyX G.K H v (k.v G.cm) := by
  cases q with
  | non => cases e; exact .base .non
  | bl b => cases e; exact .base (.bl b)
  | int b => cases e; exact .base (.int b)
  | str b => cases e; exact .base (.str b)
  | tup ta q =>
    cases e
    rcases ta with ow | ⟨o, its, n, h1, h2, _⟩
    · exact .base (.tup ow.1)
    · exact .kTuple h1 h2
  | lst ow q => cases e; exact .base (.lst ow.1)
  | scr ta q =>
    cases e
    rcases ta with ⟨o, ow⟩ | ow | ⟨o, its, n, h1, h2, _⟩
    · exact .base (.frz ow.1)
    · exact .base (.lst ow.1)
    · exact .kList h1 h2
  | dic ow hl q => cases e; exact .base (.dK ow.1)
  | obj ow hl q =>
    cases e
    have i := hI _ rfl
    exact .base (.ins ow.1 i.cl i.ha i.hn i.htk i.hm)
  | @ref i hi =>
    simp only [kiW] at e
    cases e1 : S[i]? with
    | none => rw [e1] at e; cases e
    | some o =>
      rw [e1] at e
      cases o with
      | lst us =>
        cases e
        obtain ⟨ho, h1, h2⟩ := rl.at_ i _ e1 (fun z => by cases z)
        cases h2 with
        | lst q => exact .base (.lst h1)
      | dic ks us =>
        cases e
        obtain ⟨ho, h1, h2⟩ := rl.at_ i _ e1 (fun z => by cases z)
        cases h2 with
        | dic hl q => exact .base (.dK h1)
      | ins c ns us =>
        cases e
        obtain ⟨ho, h1, h2⟩ := rl.at_ i _ e1 (fun z => by cases z)
        cases h2 with
        | ins hl q =>
          have i := hI _ rfl
          exact .base (.ins h1 i.cl i.ha i.hn i.htk i.hm)
      | dead => cases e
  | cls _ => cases e
  | ty _ => cases e
theorem c_isi {T : Ki → Ki → Option Bool} (hk : X.K = G.K) (hT : ∀ a b k, T a b = some k → PySem.W.kitOne G.K (a.v G.cm) (b.v G.cm) = some k ∧ ∀ c, a = .c c → InsK G.K (G.cm c)) : CallR X (.builtin "isinstance") (toC1 G xv (isiF T)) := by
  intro pins s σ H xs us Q I rv ⟨r, S, ws, rl, q, o⟩
  cases q with
  | nil => exact o.elim
  | @cons w ws v vs a q =>
    cases q with
    | nil => exact o.elim
    | @cons c ws v2 vs b q =>
      cases q with
      | cons _ _ => exact o.elim
      | nil =>
        simp only [isiF] at o
        cases e1 : kiW S w with
        | none => rw [e1] at o; exact o.elim
        | some x =>
          cases e2 : kiC c with
          | none => rw [e1, e2] at o; exact o.elim
          | some y =>
            rw [e1, e2] at o
            simp only [] at o
            cases e3 : T x y with
            | none => rw [e3] at o; exact o.elim
            | some k =>
              rw [e3] at o
              obtain ⟨h1, h2⟩ := hT x y k e3
              have hc : ClsV v2 (y.v G.cm) := by
                cases c with
                | ty n => cases b; cases e2; exact .ty n
                | cls c => cases b; cases e2; exact .own _
                | _ => cases e2
              exact call_isi pins s σ H _ us Q I rv ⟨v, v2, _, _, k, rfl, hc, by rw [hk]; exact kiW_ok rl h2 a e1, by rw [hk]; exact h1, o r H _ .refl rl (.bl _)⟩
/-! ### lists joined, repeated; texts joined -/
def catD : D2 := fun a b S => match a, b with
  | .lst xs, .lst ys => if xs.length + ys.length ≤ sizeLine then .ok (.lst (xs ++ ys)) S else .no
  | _, _ => .no
theorem o_cat : OpR X (binaryOp .Add) (toR2 G xv catD) := by
  intro pins s σ H x y v u Q I rx ry ⟨r, S, a, b, rl, qa, qb, o⟩
  cases a with
  | lst ws =>
    cases b with
    | lst us =>
      cases qa with
      | lst ow q =>
        cases qb with
        | lst ow' q' =>
          simp only [catD] at o
          split at o
          · rename_i h
            exact op_cat pins s σ H _ _ v u Q I rx ry ⟨_, _, _, _, rfl, rfl, ow.1, ow'.1, by rw [← q.length, ← q'.length]; exact h, fun p hp => o r _ _ (Ev.fresh hp rl) (rl.fresh hp) (.lst (Own.new hp rl) ((q.append q').ev (Ev.fresh hp rl)))⟩
          · exact o.elim
    | _ => exact o.elim
  | _ => exact o.elim
def catT : D2 := fun a b S => match a, b with
  | .tup xs, .tup ys => if xs.length + ys.length ≤ sizeLine then .ok (.tup (xs ++ ys)) S else .no
  | _, _ => .no
theorem o_catT (hk : X.K = G.K) : OpR X (binaryOp .Add) (toR2 G xv catT) := by
  intro pins s σ H x y v u Q I rx ry ⟨r, S, a, b, rl, qa, qb, o⟩
  cases a with
  | tup ws =>
    cases b with
    | tup us =>
      cases qa with
      | @tup _ _ xs ta q =>
        cases qb with
        | @tup _ _ ys tb q' =>
          simp only [catT] at o
          split at o
          · rename_i h
            refine op_catA pins s σ H _ _ v u Q I rx ry ⟨_, _, _, _, rfl, rfl, by rw [hk]; exact ta.sq, by rw [hk]; exact tb.sq, by rw [← q.length, ← q'.length]; exact h, fun z => ?_, fun _ z => ?_, fun _ z p hp => ?_⟩
            · subst z; cases q
              rw [List.nil_append] at o
              exact o r H _ .refl rl (.tup tb q')
            · subst z; cases q'
              rw [List.append_nil] at o
              exact o r H _ .refl rl (.tup ta q)
            · exact o r _ _ (Ev.fresh hp rl) (rl.fresh hp) (.tup (.inl (Own.new hp rl)) ((q.append q').ev (Ev.fresh hp rl)))
          · exact o.elim
    | _ => exact o.elim
  | _ => exact o.elim
def catS : D2 := fun a b S => match a, b with
  | .str x, .str y => if x.length + y.length ≤ sizeLine then .ok (.str (x ++ y)) S else .no
  | _, _ => .no
theorem o_catS : OpR X (binaryOp .Add) (toR2 G xv catS) := by
  intro pins s σ H x y v u Q I rx ry ⟨r, S, a, b, rl, qa, qb, o⟩
  cases a with
  | str i =>
    cases b with
    | str j =>
      cases qa
      cases qb
      simp only [catS] at o
      split at o
      · rename_i h
        exact op_add_str pins s σ H _ _ v u Q I rx ry ⟨_, _, rfl, rfl, h, o r H _ .refl rl (.str _)⟩
      · exact o.elim
    | _ => exact o.elim
  | _ => exact o.elim
/-- a list times a number; new: it will be changed -/
def repD (new : Bool) : D2 := fun a b S => match a, b with
  | .lst xs, .int k => if -(2 ^ 63) ≤ k ∧ k < 2 ^ 63 ∧ xs.length * k.toNat ≤ sizeLine then (if new = true then .ok (.ref S.length) (S ++ [.lst (List.replicate k.toNat xs).flatten]) else .ok (.lst (List.replicate k.toNat xs).flatten) S) else .no
  | _, _ => .no
theorem RWs.rep {ws : List W} {vs : List V} (q : RWs G H S r ws vs) : ∀ n : Nat, RWs G H S r (List.replicate n ws).flatten (List.replicate n vs).flatten
  | 0 => .nil
  | n + 1 => by
    rw [List.replicate_succ, List.replicate_succ, List.flatten_cons, List.flatten_cons]
    exact q.append (q.rep n)
theorem o_rep {new : Bool} : OpR X (binaryOp .Mult) (toR2 G xv (repD new)) := by
  intro pins s σ H x y v u Q I rx ry ⟨r, S, a, b, rl, qa, qb, o⟩
  cases a with
  | lst ws =>
    cases b with
    | int k =>
      cases qa with
      | lst ow q =>
        cases qb
        simp only [repD] at o
        split at o
        · rename_i h
          refine op_rep pins s σ H _ _ v u Q I rx ry ⟨_, k, _, rfl, rfl, ow.1, h.1, h.2.1, by rw [← q.length]; exact h.2.2, fun p hp => ?_⟩
          cases new with
          | false => exact o r _ _ (Ev.fresh hp rl) (rl.fresh hp) (.lst (Own.new hp rl) ((q.rep _).ev (Ev.fresh hp rl)))
          | true => exact o _ _ _ (Ev.snoc hp) (rl.snoc hp (.lst (q.rep _))) newRef
        · exact o.elim
    | _ => exact o.elim
  | _ => exact o.elim
/-! ### is, is not -/
def isNone (neg : Bool) (d : DX) : DX := fun t S => (d t S).bind fun w S1 => match w with
  | .non => .ok (.bl (!neg)) S1
  | _ => .ok (.bl neg) S1
theorem de_isNone {a : Expr} {d : DX} {pos pos' : Pos} {j} (ha : PE X a (toE G xv Wx d)) : PE X (.Compare a [.Is] [.Constant .none j pos'] pos) (toE G xv Wx (isNone false d)) := PEi (pe_cmp (pc_isN ha) rfl) fun s H Q ⟨r, t, S, l, rl, o⟩ =>
  toX.bind l rl o fun w S1 r1 H1 v _ e1 rl1 l1 q o1 => by
    cases q with
    | non => exact o1 r1 H1 _ .refl rl1 (.bl _)
    | _ => exact o1 r1 H1 _ .refl rl1 (.bl _)
theorem de_notNone {a : Expr} {d : DX} {pos pos' : Pos} {j} (ha : PE X a (toE G xv Wx d)) : PE X (.Compare a [.IsNot] [.Constant .none j pos'] pos) (toE G xv Wx (isNone true d)) := PEi (pe_cmp (pc_notN ha) rfl) fun s H Q ⟨r, t, S, l, rl, o⟩ =>
  toX.bind l rl o fun w S1 r1 H1 v _ e1 rl1 l1 q o1 => by
    cases q with
    | non => exact o1 r1 H1 _ .refl rl1 (.bl _)
    | _ => exact o1 r1 H1 _ .refl rl1 (.bl _)
theorem dt_of {a : Expr} {d : DX} (ha : PE X a (toE G xv Wx d)) (he : ∀ whole, isTrue a X.env whole = (do let v ← whole; standAt a.pos; holding [v] (truthy v)) := by intro _; rfl) : PT X a (toT G xv Wx (dTest d)) :=
  PTi (pt_val ha he) fun s H Q h => toTest (fun _ _ _ z => z) s H Q h
/-! ### signs -/
def dNeg (d : DX) : DX := fun t S => (d t S).bind fun w S1 => match w with
  | .int i => .ok (.int (-i)) S1
  | _ => .no
theorem de_neg {a : Expr} {d : DX} {pos : Pos} (ha : PE X a (toE G xv Wx d)) : PE X (.UnaryOp .USub a pos) (toE G xv Wx (dNeg d)) := PEi (pe_un un_neg ha) fun s H Q ⟨r, t, S, l, rl, o⟩ =>
  toX.bind l rl o fun w S1 r1 H1 v _ e1 rl1 l1 q o1 => by
    cases w with
    | int i => cases q; exact ⟨i, rfl, o1 r1 H1 _ .refl rl1 (.int _)⟩
    | _ => exact o1.elim
/-! ### methods of lists of the store -/
def toM (G : Gx) (xv : Nat → Value) (f : W → List W → Sto → R W) : V → List V → Hp → VK → Prop := fun x vs H Q => ∃ r S w ws, Rl G H S r ∧ RW G H S r w x ∧ RWs G H S r ws vs ∧ OutE G xv W0 (fun H S r w v => RW G H S r w v) [] H S r (f w ws S) Q
def appendM : W → List W → Sto → R W := fun w ws S => match w, ws with
  | .ref p, [y] => match S[p]? with
    | some (.lst xs) => if xs.length < sizeLine then .ok .non (S.set p (.lst (xs ++ [y]))) else .no
    | _ => .no
  | _, _ => .no
theorem m_append : MtR X "list.append" (toM G xv appendM) := by
  intro pins s σ H x xs v us Q I rx rv ⟨r, S, w, ws, rl, qw, q, o⟩
  cases w with
  | ref p =>
    cases q with
    | nil => exact o.elim
    | @cons y ws yv vs a q =>
      cases q with
      | cons _ _ => exact o.elim
      | nil =>
        simp only [appendM] at o
        cases e : S[p]? with
        | none => rw [e] at o; exact o.elim
        | some u =>
          rw [e] at o
          cases u with
          | lst zs =>
            simp only [] at o
            split at o
            · rename_i h
              obtain ⟨ho, h1, h2⟩ := rl.at_ p _ e (fun z => by cases z)
              cases qw with
              | ref hp =>
                cases h2 with
                | @lst _ zv qz =>
                  refine mt_append pins s σ H _ _ v us Q I rx rv ⟨r p, zv, yv, rfl, rfl, h1, by rw [← qz.length]; exact h, ?_⟩
                  exact o r _ _ (Ev.set rl e (fun z => by cases z)) (rl.set e (fun z => by cases z) (.lst (qz.snoc a))) .non
            · exact o.elim
          | _ => exact o.elim
  | _ => exact o.elim
def popM : W → List W → Sto → R W := fun w ws S => match w, ws with
  | .ref p, [] => match S[p]? with
    | some (.lst xs) => match xs[xs.length - 1]? with
      | some y => .ok y (S.set p (.lst xs.dropLast))
      | none => .no
    | _ => .no
  | _, _ => .no
theorem RWs.dropLast : ∀ {ws : List W} {vs : List V}, RWs G H S r ws vs → RWs G H S r ws.dropLast vs.dropLast
  | _, _, .nil => .nil
  | _, _, .cons a .nil => .nil
  | _, _, .cons a (.cons b q) => .cons a (RWs.dropLast (.cons b q))
theorem m_pop : MtR X "list.pop" (toM G xv popM) := by
  intro pins s σ H x xs v us Q I rx rv ⟨r, S, w, ws, rl, qw, q, o⟩
  cases w with
  | ref p =>
    cases q with
    | cons _ _ => exact o.elim
    | nil =>
      simp only [popM] at o
      cases e : S[p]? with
      | none => rw [e] at o; exact o.elim
      | some u =>
        rw [e] at o
        cases u with
        | lst zs =>
          simp only [] at o
          cases ey : zs[zs.length - 1]? with
          | none => rw [ey] at o; exact o.elim
          | some y =>
            rw [ey] at o
            obtain ⟨ho, h1, h2⟩ := rl.at_ p _ e (fun z => by cases z)
            cases qw with
            | ref hp =>
              cases h2 with
              | @lst _ zv qz =>
                obtain ⟨yv, g1, g2⟩ := qz.get ey
                refine mt_pop pins s σ H _ _ v us Q I rx rv ⟨r p, zv, yv, rfl, rfl, h1, by rw [← qz.length]; exact g1, ?_⟩
                have ev := Ev.set (o := .lst zs.dropLast) (ho := .lst zv.dropLast) rl e (fun z => by cases z)
                exact o r _ _ ev (rl.set e (fun z => by cases z) (.lst qz.dropLast)) (g2.ev ev)
        | _ => exact o.elim
  | _ => exact o.elim
def dMt (f : W → List W → Sto → R W) (o : DX) (d : DA) : DX := fun t S => (o t S).bind fun w S1 => match seqL S1 w with
  | some _ => (d t S1).bind fun ws S2 => match f w ws S2 with
    | .ok x S3 => .ok x S3
    | _ => .no
  | none => .no
theorem outMt {f : W → List W → Sto → R W} {w : W} {ws : List W} {s : L2.St} {Q : VK} (o : OutE G xv Wx (fun H S r w v => RW G H S r w v) s H S r (match f w ws S with
  | .ok x S3 => .ok x S3
  | _ => .no) Q) : OutE G xv W0 (fun H S r w v => RW G H S r w v) [] H S r (f w ws S) Q := by
  cases e : f w ws S with
  | ok x S3 => rw [e] at o; exact o
  | er c ns us S3 => rw [e] at o; exact o.elim
  | no => rw [e] at o; exact o.elim
theorem de_mtL {o e : Expr} {es : List Expr} {name : Str} {id : String} {f : W → List W → Sto → R W} {dob : DX} {d : DA} {apos cpos : Pos} (c : Cok G X Wx) (slot : Slot "list" name id) (hty : typeOf (.builtin id) = pure (.type "method_descriptor")) (hm : MtR X id (toM G xv f)) (ho : PE X o (toE G xv Wx dob)) (ha : PA X (e :: es) (toA G xv Wx d))
    (hbase : attributeBase o name X.env (eval o X.env) = eval o X.env := by rfl)
    (hfew : ((backTo cpos (starEach (e :: es) X.env)).all (fun x => !x.1) && (backToKw cpos (keywordEach [] X.env)).all (fun x => x.1.isSome)
      && decide ((e :: es).length + ([] : List Keyword).length + (if ([] : List Keyword).isEmpty then 0 else 1) < 30)) = true := by rfl)
    (hline : (apos.endLine == cpos.line) = true := by rfl) (hs : starEach (e :: es) X.env = (false, eval e X.env) :: starEach es X.env := by rfl) (hplain : (backTo cpos (starEach es X.env)).any (·.1) = false := by rfl) :
    PE X (.Call (.Attribute o name apos) (e :: es) [] cpos) (toE G xv Wx (dMt f dob d)) :=
  PEi (pe_bm PySem.F.plainAttrs_list slot hty hm ho ha hbase hfew hline hs hplain) fun s H Q ⟨r, t, S, l, rl, o⟩ =>
    toX.bind l rl o fun w S1 r1 H1 v _ e1 rl1 l1 q o1 => by
      cases e : seqL S1 w with
      | none => rw [e] at o1; exact o1.elim
      | some us =>
        rw [e] at o1
        obtain ⟨p, vs, rfl, hq, _⟩ := seqL_ok rl1 q e
        refine ⟨.inl ⟨rfl, vs, by rw [c.kk]; exact hq⟩, ?_⟩
        exact toX.bind l1 rl1 o1 fun ws S2 r2 H2 vs _ e2 rl2 l2 qs o2 => ⟨r2, S2, w, ws, rl2, q.ev e2, qs, outMt o2⟩
theorem de_mtL0 {o : Expr} {name : Str} {id : String} {f : W → List W → Sto → R W} {dob : DX} {apos cpos : Pos} (c : Cok G X Wx) (slot : Slot "list" name id) (hty : typeOf (.builtin id) = pure (.type "method_descriptor")) (hm : MtR X id (toM G xv f)) (ho : PE X o (toE G xv Wx dob))
    (hbase : attributeBase o name X.env (eval o X.env) = eval o X.env := by rfl) (hline : (apos.endLine == cpos.line) = true := by rfl) :
    PE X (.Call (.Attribute o name apos) [] [] cpos) (toE G xv Wx (dMt f dob dNil)) :=
  PEi (pe_bm0 PySem.F.plainAttrs_list slot hty hm ho hbase hline) fun s H Q ⟨r, t, S, l, rl, o⟩ =>
    toX.bind l rl o fun w S1 r1 H1 v _ e1 rl1 l1 q o1 => by
      cases e : seqL S1 w with
      | none => rw [e] at o1; exact o1.elim
      | some us =>
        rw [e] at o1
        obtain ⟨p, vs, rfl, hq, _⟩ := seqL_ok rl1 q e
        exact ⟨.inl ⟨rfl, vs, by rw [c.kk]; exact hq⟩, r1, S1, w, [], rl1, q, .nil, outMt o1⟩
/-! ### slices -/
def cutW (xs : List W) (lo hi : Option Int) : List W := (xs.drop (HT.sIx xs.length 0 lo)).take (HT.sIx xs.length xs.length hi - HT.sIx xs.length 0 lo)
theorem RWs.cutW {ws : List W} {vs : List V} (q : RWs G H S r ws vs) (lo hi : Option Int) : RWs G H S r (DD.cutW ws lo hi) (cutV vs lo hi) := by
  unfold DD.cutW cutV
  rw [← q.length]
  exact (q.drop _).take _
abbrev DO := Lo → Sto → R (Option Int)
abbrev toO (G : Gx) (xv : Nat → Value) (Wx : WX) (d : DO) : TO := toX G xv Wx (fun _ _ _ (w : Option Int) v => w = v) d
def dNoP : DO := fun _ S => .ok none S
def dPart (d : DX) : DO := fun t S => (d t S).bind fun w S1 => match w with
  | .int i => .ok (some i) S1
  | _ => .no
theorem POi {e : Option Expr} {t t' : TO} (h : PO X e t) (i : ∀ s H Q, t' s H Q → t s H Q) : PO X e t' := ⟨fun pins s σ H Q I q => h.run pins s σ H Q I (i _ _ _ q)⟩
theorem do_none : PO X none (toO G xv Wx dNoP) := POi po_none fun s H Q ⟨r, t, S, l, rl, o⟩ => o r H none .refl rl rfl
theorem do_some {e : Expr} {d : DX} (h : PE X e (toE G xv Wx d)) : PO X (some e) (toO G xv Wx (dPart d)) := POi (po_some h) fun s H Q ⟨r, t, S, l, rl, o⟩ =>
  toX.bind l rl o fun w S1 r1 H1 v _ e1 rl1 l1 q o1 => by
    cases w with
    | int i => cases q; exact ⟨i, rfl, o1 r1 H1 _ .refl rl1 rfl⟩
    | _ => exact o1.elim
/-- a slice of a list is a new list (held as a value), of a tuple a tuple -/
def slW (w : W) (lo hi : Option Int) (S : Sto) : R W := match seqL S w with
  | some ws => .ok (.lst (cutW ws lo hi)) S
  | none => match seqT w with
    | some ws => .ok (.tup (cutW ws lo hi)) S
    | none => .no
def dSl (d : DX) (lo hi : DO) : DX := fun t S => (d t S).bind fun w S1 => (lo t S1).bind fun a S2 => (hi t S2).bind fun b S3 => match slW w a b S3 with
  | .ok x S4 => .ok x S4
  | _ => .no
theorem de_sl {e : Expr} {lo hi : Option Expr} {d : DX} {dl dh : DO} {p2 pos : Pos} (c : Cok G X Wx) (he : PE X e (toE G xv Wx d)) (hl : PO X lo (toO G xv Wx dl)) (hh : PO X hi (toO G xv Wx dh)) : PE X (.Subscript e (.Slice lo hi none p2) pos) (toE G xv Wx (dSl d dl dh)) :=
  PEi (pe_slice (SlR.or sl_list sl_tupA) he hl hh) fun s H Q ⟨r, t, S, l, rl, o⟩ =>
    toX.bind l rl o fun w S1 r1 H1 v _ e1 rl1 l1 q o1 => toX.bind l1 rl1 o1 fun a S2 r2 H2 av _ e2 rl2 l2 qa o2 => toX.bind l2 rl2 o2 fun b S3 r3 H3 bv _ e3 rl3 l3 qb o3 => by
      subst qa
      subst qb
      have qw := (q.ev e2).ev e3
      unfold slW at o3
      cases e : seqL S3 w with
      | some ws =>
        simp only [e] at o3
        obtain ⟨p, vs, rfl, hq, qs⟩ := seqL_ok rl3 qw e
        exact .inl ⟨p, vs, rfl, by rw [c.kk]; exact hq, fun p hp => o3 r3 _ _ (Ev.fresh hp rl3) (rl3.fresh hp) (.lst (Own.new hp rl3) ((qs.cutW a b).ev (Ev.fresh hp rl3)))⟩
      | none =>
        simp only [e] at o3
        cases e2 : seqT w with
        | none => simp only [e2] at o3; exact o3.elim
        | some ws =>
          simp only [e2] at o3
          obtain ⟨p, vs, rfl, hq, qs⟩ := seqT_ok qw e2
          refine .inr ⟨p, vs, rfl, by rw [c.kk]; exact hq, fun hw => ?_, fun hw p hp => o3 r3 _ _ (Ev.fresh hp rl3) (rl3.fresh hp) (.tup (.inl (Own.new hp rl3)) ((qs.cutW a b).ev (Ev.fresh hp rl3)))⟩
          have e3 : cutW ws a b = ws := by
            unfold cutW
            rw [qs.length, hw.1, hw.2, ← qs.length]
            simp
          rw [e3] at o3
          cases w with
          | tup us =>
            cases e2
            exact o3 r3 H3 _ .refl rl3 qw
          | _ => cases e2
end
end DD
namespace DD
open PySem PySem.Spec PyProof.Rows L2
section
variable {G : Gx} {xv : Nat → Value} {Wx : WX} {X : Cx} {H H' : Hp} {S S' : Sto} {r r' : Rh}
/-! ### sums of several kinds -/
def addD : D2 := orD iAdd (orD catD (orD catS catT))
theorem o_addD (hk : X.K = G.K) : OpR X (binaryOp .Add) (toR2 G xv addD) := op_or o_add (op_or o_cat (op_or o_catS (o_catT hk)))
def mulD (new : Bool) : D2 := orD iMul (repD new)
theorem o_mulD {new : Bool} : OpR X (binaryOp .Mult) (toR2 G xv (mulD new)) := op_or o_mul o_rep
theorem dt_isNone {a : Expr} {d : DX} {pos pos' : Pos} {j} (ha : PE X a (toE G xv Wx d)) : PT X (.Compare a [.Is] [.Constant .none j pos'] pos) (toT G xv Wx (dTest (isNone false d))) := PTi (pt_cmp (pc_isN ha) rfl) fun s H Q ⟨r, t, S, l, rl, o⟩ => by
  refine ⟨r, t, S, l, rl, ?_⟩
  unfold dTest isNone at o
  cases e : d t S with
  | no => rw [e] at o; exact o
  | er c ns ws S1 => rw [e] at o; exact o
  | ok w S1 =>
    rw [e] at o
    intro r1 H1 v e1 rl1 q
    cases q with
    | non => exact ⟨true, rfl, o r1 H1 true e1 rl1 rfl⟩
    | _ => exact ⟨false, rfl, o r1 H1 false e1 rl1 rfl⟩
theorem dt_notNone {a : Expr} {d : DX} {pos pos' : Pos} {j} (ha : PE X a (toE G xv Wx d)) : PT X (.Compare a [.IsNot] [.Constant .none j pos'] pos) (toT G xv Wx (dTest (isNone true d))) := PTi (pt_cmp (pc_notN ha) rfl) fun s H Q ⟨r, t, S, l, rl, o⟩ => by
  refine ⟨r, t, S, l, rl, ?_⟩
  unfold dTest isNone at o
  cases e : d t S with
  | no => rw [e] at o; exact o
  | er c ns ws S1 => rw [e] at o; exact o
  | ok w S1 =>
    rw [e] at o
    intro r1 H1 v e1 rl1 q
    cases q with
    | non => exact ⟨false, rfl, o r1 H1 false e1 rl1 rfl⟩
    | _ => exact ⟨true, rfl, o r1 H1 true e1 rl1 rfl⟩
/-- a list, the script, a tuple, one kind or the other -/
def dSeqI (d : DX) : DA := fun t S => (d t S).bind fun w S1 => match w with
  | .lst ws => .ok ws S1
  | .scr ws => .ok ws S1
  | .tup ws => .ok ws S1
  | _ => .no
theorem PIor {tg e : Expr} {t t' : TI} (h : PI X tg e t) (h' : PI X tg e t') : PI X tg e (fun s H R => t s H R ∨ t' s H R) := ⟨fun pins s σ H Q I q => q.elim (h.run pins s σ H Q I) (h'.run pins s σ H Q I)⟩
theorem di_seq {tg e : Expr} {d : DX} (k : Cok G X Wx) (he : PE X e (toE G xv Wx d)) : PI X tg e (toI G xv Wx (dSeqI d)) := by
  have key : PI X tg e (fun s H R => toE G xv Wx d s H fun x H1 => (∃ a, x = .ref a ∧ (∃ xs, SqL X.K H1 a xs) ∧ R (Itl X.K a) H1) ∨ (∃ a, x = .ref a ∧ (∃ xs, SqT X.K H1 a xs) ∧ R (Itt X.K a) H1)) := by
    refine ⟨fun pins s σ H R I h => ?_⟩
    refine thn (he.run pins s σ H _ I h) fun v s1 ⟨x, H1, I1, r1, q1⟩ => ?_
    rcases q1 with q1 | q1
    · obtain ⟨a, e, ⟨xs, hq⟩, q⟩ := q1
      subst e
      cases r1
      obtain ⟨its, rv, p, hz⟩ := I1.list hq
      refine wpAny_pyIter_list p.isList ?_
      refine ⟨s1.heap.objs.size, [s1.heap.objs.size], _, _, H1, rfl, I1.kept (t' := s1.toks) fun b o e => Heap.get?_push_of_some _ e, turn_list a _, ⟨_, Heap.get?_push_size _ rfl, rfl, rfl⟩, fun b hb => ?_, q⟩
      have e : b = s1.heap.objs.size := by simpa using hb
      subst e
      exact I1.fpOk (Nat.le_refl _) (I1.hok.fresh (Nat.le_refl _))
    · obtain ⟨a, e, ⟨xs, hq⟩, q⟩ := q1
      subst e
      cases r1
      obtain ⟨its, rv, p, hz⟩ := I1.tuple hq
      refine wpAny_pyIter_tuple (show s1.heap.IsTuple a its.toArray from p) ?_
      refine ⟨s1.heap.objs.size, [s1.heap.objs.size], _, _, H1, rfl, I1.kept (t' := s1.toks) fun b o e => Heap.get?_push_of_some _ e, turn_tuple a _, ⟨_, Heap.get?_push_size _ rfl, rfl, rfl⟩, fun b hb => ?_, q⟩
      have e : b = s1.heap.objs.size := by simpa using hb
      subst e
      exact I1.fpOk (Nat.le_refl _) (I1.hok.fresh (Nat.le_refl _))
  refine PIi key fun s H Q ⟨r, t, S, l, rl, o⟩ => ?_
  refine toX.bind l rl o fun w S1 r1 H1 v _ e1 rl1 l1 q o1 => ?_
  rw [k.kk]
  cases w with
  | lst ws =>
    cases q with
    | lst ow q => exact .inl ⟨_, rfl, ⟨_, .inl (.inl ow.1)⟩, o1 r1 H1 _ .refl rl1 (itl (fun H2 S2 r2 e2 => .inl (.inl (e2.own _ _ ow).1)) q)⟩
  | scr ws =>
    cases q with
    | scr ow q => exact .inl ⟨_, rfl, ⟨_, ow.sq⟩, o1 r1 H1 _ .refl rl1 (itl (fun H2 S2 r2 e2 => (ow.mp e2).sq) q)⟩
  | tup ws =>
    cases q with
    | tup ta q => exact .inr ⟨_, rfl, ⟨_, ta.sq⟩, o1 r1 H1 _ .refl rl1 (itt ta q)⟩
  | _ => exact o1.elim
end
/-! ### isinstance of built-in kinds -/
def isiB : Ki → Ki → Option Bool
  | .b x, .b y => kitB x y
  | _, _ => none
theorem isiB_ok {K : PySem.W.Frag} {cm : Nat → Addr} : ∀ a b k, isiB a b = some k → PySem.W.kitOne K (a.v cm) (b.v cm) = some k ∧ ∀ c, a = .c c → InsK K (cm c)
  | .b x, .b y, k, e => ⟨kit_ty e, fun c z => by cases z⟩
  | .b _, .c _, _, e => by cases e
  | .c _, .b _, _, e => by cases e
  | .c _, .c _, _, e => by cases e
/-! ### the end -/
theorem ints_rw {G : Gx} {H : Hp} {S : Sto} {r : Rh} : ∀ ns : List Int, RWs G H S r (ns.map W.int) (ns.map V.int)
  | [] => .nil
  | n :: ns => .cons (.int n) (ints_rw ns)
theorem scr_rw {G : Gx} {H : Hp} {a : Addr} {ns : List Int} (h : SqL G.K H a (ns.map V.int)) : RW G H [] ⟨fun _ => 0, fun _ => False⟩ (.scr (ns.map W.int)) (.ref a) := by
  have nl : ¬ Lv [] ⟨fun _ => 0, fun _ => False⟩ a := by
    rintro (⟨i, o, e, _⟩ | z)
    · simp at e
    · exact z
  refine .scr ?_ (ints_rw ns)
  rcases h with (h | ⟨o, h⟩) | h
  · exact .inr (.inl ⟨h, nl⟩)
  · exact .inl ⟨o, h, nl⟩
  · exact .inr (.inr h)
theorem rl_nil {G : Gx} {H : Hp} : Rl G H [] ⟨fun _ => 0, fun _ => False⟩ := ⟨fun i o e => by simp at e, fun i j o u e => by simp at e, fun a z => z.elim, fun i o e => by simp at e⟩
/-- the law's own promise, by its mirror -/
theorem law_at {l : PySem.W.OpenLaw} {w : World} {K : PySem.W.Frag} {cm : Nat → Addr} {xv : Nat → Value} {k : Nat} {x : Str} {mg : Str → Option Value} {f : Addr} {h : Heap} {fn : Fn}
    (hb : ∃ fd : FuncData, (∀ (s : Shared) (u : Value), BindsTo s fd ⟨[u], []⟩ [(x, u)]) ∧ ∀ base : Heap, K.In base → base.Ns mainGlobals mg → FnOk l.prog w K mg base (L2.CX l.prog w) k f fd [x] (spF ⟨K, cm⟩ xv 1 fn))
    (hl : ∀ ns : List Int, ns.length ≤ 63 → (∀ z ∈ ns, Builtin.Int.intBits z ≤ 1048576) → ∃ S', fn [.scr (ns.map W.int)] [] = .ok (.bl true) S') : LamX.LawAtS l w K (L2.CX l.prog w) k 63 x mg f h := by
  obtain ⟨fd, b, F⟩ := hb
  refine ⟨fd, [], _, by simp, by simp, by simp, b, fun H a ns hn hbits _ hS => ?_, fun base h1 h2 _ => F base h1 h2⟩
  obtain ⟨S', e⟩ := hl ns hn hbits
  refine ⟨rfl, _, [], _, .cons (scr_rw hS) .nil, rl_nil, ?_⟩
  rw [e]
  intro r' H' v _ _ q
  cases q
  rfl
theorem cx_end (P : Program) (w : World) (H : Hp) (s : Shared) (e : Value) (s' : Shared) : L2.CX P w [] H s (fun _ _ _ => False) e s' → False := fun ⟨_, _, _, _, _, _, _, _, _, _, _, _, z⟩ => z
end DD
namespace DD
open PySem PySem.Spec PyProof.Rows L2
section
variable {G : Gx} {xv : Nat → Value} {Wx : WX} {X : Cx} {H H' : Hp} {S S' : Sto} {r r' : Rh}
/-! ### dicts of the store: int and text keys -/
def keyW : W → Option Key
  | .int i => some (.inl i)
  | .str x => some (.inr x)
  | _ => none
theorem keyW_ok {w : W} {v : V} {k : Key} (q : RW G H S r w v) (e : keyW w = some k) : v = kV k := by
  cases w with
  | int i => cases e; cases q; rfl
  | str i => cases e; cases q; rfl
  | _ => cases e
def dGetW (ks : List Key) (ws : List W) (k : Key) : Option W := match ks, ws with
  | a :: ks, w :: ws => if a = k then some w else dGetW ks ws k
  | _, _ => none
def dPutW (ks : List Key) (ws : List W) (k : Key) (x : W) : List Key × List W := match ks, ws with
  | a :: ks, w :: ws => if a = k then (a :: ks, x :: ws) else let p := dPutW ks ws k x; (a :: p.1, w :: p.2)
  | _, _ => ([k], [x])
theorem dGetW_none {k : Key} : ∀ {ks : List Key} {ws : List W} {vs : List V}, ks.length = ws.length → RWs G H S r ws vs → dGetW ks ws k = none → valV (ks.zip vs) k = none
  | [], [], _, _, .nil, _ => rfl
  | a :: ks, w :: ws, _, hl, .cons q t, e => by
    simp only [dGetW] at e
    split at e
    · cases e
    · rename_i h
      rw [List.zip_cons_cons, valV_neg h]
      exact dGetW_none (by simpa using hl) t e
  | [], _ :: _, _, hl, _, _ => by simp at hl
  | _ :: _, [], _, hl, _, _ => by simp at hl
theorem dGetW_some {k : Key} {w : W} : ∀ {ks : List Key} {ws : List W} {vs : List V}, ks.length = ws.length → RWs G H S r ws vs → dGetW ks ws k = some w → ∃ v, valV (ks.zip vs) k = some v ∧ RW G H S r w v
  | [], [], _, _, .nil, e => by cases e
  | a :: ks, x :: ws, _, hl, .cons q t, e => by
    simp only [dGetW] at e
    split at e
    · rename_i h
      cases e
      rw [List.zip_cons_cons, valV_pos (p := (a, _)) h]
      exact ⟨_, rfl, q⟩
    · rename_i h
      rw [List.zip_cons_cons, valV_neg h]
      exact dGetW_some (by simpa using hl) t e
  | [], _ :: _, _, hl, _, _ => by simp at hl
  | _ :: _, [], _, hl, _, _ => by simp at hl
theorem dPutW_len {k : Key} {x : W} : ∀ {ks : List Key} {ws : List W}, ks.length = ws.length → (dPutW ks ws k x).1.length = (dPutW ks ws k x).2.length
  | [], [], _ => rfl
  | a :: ks, w :: ws, h => by
    simp only [dPutW]
    split
    · exact h
    · simp only [List.length_cons]
      rw [dPutW_len (by simpa using h)]
  | [], _ :: _, hl => by simp at hl
  | _ :: _, [], hl => by simp at hl
/-- keys once each -/
theorem putK_zip {k : Key} {v : V} {x : W} (qx : RW G H S r x v) : ∀ {ks : List Key} {ws : List W} {vs : List V}, ks.length = ws.length → RWs G H S r ws vs → ks.Nodup → ∃ vs', putK (ks.zip vs) k v = (dPutW ks ws k x).1.zip vs' ∧ RWs G H S r (dPutW ks ws k x).2 vs'
  | [], [], _, _, .nil, _ => ⟨[v], by simp [putK, dPutW], .cons qx .nil⟩
  | a :: ks, w :: ws, _, hl, .cons (v := y) (vs := ys) q t, nd => by
    rw [List.nodup_cons] at nd
    by_cases h : a = k
    · subst h
      refine ⟨v :: ys, ?_, ?_⟩
      · simp only [dPutW, if_pos]
        rw [List.zip_cons_cons, List.zip_cons_cons]
        unfold putK
        rw [if_pos (by simp)]
        simp only [List.map_cons, if_pos]
        congr 1
        have : ∀ (bs : List Key) (us : List V), a ∉ bs → (bs.zip us).map (fun kv => if kv.1 = a then (kv.1, v) else kv) = bs.zip us := by
          intro bs
          induction bs with
          | nil => intro us _; simp
          | cons b bs ih =>
            intro us hn
            simp only [List.mem_cons, not_or] at hn
            cases us with
            | nil => simp
            | cons u us => simp only [List.zip_cons_cons, List.map_cons, if_neg (fun z => hn.1 (Eq.symm z) : ¬ b = a), ih us hn.2]
        exact this ks ys nd.1
      · simp only [dPutW, if_pos]
        exact .cons qx t
    · obtain ⟨vs', h1, h2⟩ := putK_zip qx (k := k) (ks := ks) (ws := ws) (vs := ys) (by simpa using hl) t nd.2
      refine ⟨y :: vs', ?_, ?_⟩
      · simp only [dPutW, if_neg h]
        rw [List.zip_cons_cons, List.zip_cons_cons, ← h1]
        unfold putK
        simp only [List.any_cons, decide_eq_false h, Bool.false_or]
        split
        · simp only [List.map_cons, if_neg h]
        · rfl
      · simp only [dPutW, if_neg h]
        exact .cons q h2
  | [], _ :: _, _, hl, _, _ => by simp at hl
  | _ :: _, [], _, hl, _, _ => by simp at hl
/-- {} -/
def dNewD : DX := fun _ S => .ok (.ref S.length) (S ++ [.dic [] []])
theorem de_newD {pos : Pos} : PE X (.Dict [] [] pos) (toE G xv Wx dNewD) := PEi pe_dnewK fun s H Q ⟨r, t, S, l, rl, o⟩ p hp =>
  o _ _ _ (Ev.snoc hp) (rl.snoc hp (.dic (ks := []) (ws := []) (vs := []) rfl .nil)) newRef
/-- what a dict holds: of the store or a value -/
def dicOf (S : Sto) : W → Option (List Key × List W)
  | .dic ks ws => some (ks, ws)
  | .ref i => match S[i]? with
    | some (.dic ks ws) => some (ks, ws)
    | _ => none
  | _ => none
theorem dicOf_ok {w : W} {v : V} {p : List Key × List W} (rl : Rl G H S r) (q : RW G H S r w v) (e : dicOf S w = some p) : ∃ a vs, v = .ref a ∧ H a = some (.dK (p.1.zip vs)) ∧ p.1.length = p.2.length ∧ RWs G H S r p.2 vs := by
  cases w with
  | dic ks ws =>
    cases e
    cases q with
    | dic ow hl q => exact ⟨_, _, rfl, ow.1, hl, q⟩
  | ref i =>
    simp only [dicOf] at e
    cases e1 : S[i]? with
    | none => rw [e1] at e; cases e
    | some o =>
      rw [e1] at e
      cases o with
      | dic ks ws =>
        cases e
        obtain ⟨ho, h1, h2⟩ := rl.at_ i _ e1 (fun z => by cases z)
        cases q with
        | ref hi =>
          cases h2 with
          | dic hl q => exact ⟨_, _, rfl, h1, hl, q⟩
      | _ => cases e
  | _ => cases e
def dDGet (d k : DX) : DX := fun t S => (d t S).bind fun w S1 => (k t S1).bind fun y S2 => match dicOf S2 w, keyW y with
  | some p, some k => match dGetW p.1 p.2 k with
    | some x => .ok x S2
    | none => .no
  | _, _ => .no
theorem de_dget {o i : Expr} {d k : DX} {pos : Pos} (hu : X.A.units + 64 < cLine) (ho : PE X o (toE G xv Wx d)) (hi : PE X i (toE G xv Wx k)) (hs : NoSl i := by intro _ _ _; rfl) : PE X (.Subscript o i pos) (toE G xv Wx (dDGet d k)) :=
  PEi (pe_dget (by omega) ho hi hs) fun s H Q ⟨r, t, S, l, rl, o⟩ => toX.bind l rl o fun w S1 r1 H1 v _ e1 rl1 l1 q o1 => toX.bind l1 rl1 o1 fun y S2 r2 H2 yv _ e2 rl2 l2 qy o2 => by
    cases ed : dicOf S2 w with
    | none => rw [ed] at o2; exact o2.elim
    | some p =>
      cases ek : keyW y with
      | none => rw [ed, ek] at o2; exact o2.elim
      | some k =>
        rw [ed, ek] at o2
        simp only [] at o2
        obtain ⟨a, vs, rfl, h1, hl, qs⟩ := dicOf_ok rl2 (q.ev e2) ed
        have hy := keyW_ok qy ek
        subst hy
        cases eg : dGetW p.1 p.2 k with
        | none => rw [eg] at o2; exact o2.elim
        | some x =>
          rw [eg] at o2
          obtain ⟨xv', g1, g2⟩ := dGetW_some hl qs eg
          exact ⟨a, xv', rfl, by rw [← g1]; exact DGet.k h1, o2 r2 H2 _ .refl rl2 g2⟩
def dDIn (neg : Bool) (k d : DX) : DX := fun t S => (k t S).bind fun y S1 => (d t S1).bind fun w S2 => match dicOf S2 w, keyW y with
  | some p, some k => .ok (.bl (neg != (dGetW p.1 p.2 k).isSome)) S2
  | _, _ => .no
theorem toDIn {k d : DX} {neg : Bool} {s : L2.St} {H : Hp} {Q : VK} (h : toE G xv Wx (dDIn neg k d) s H Q) : toE G xv Wx k s H fun y H1 => toE G xv Wx d s H1 fun x H2 => ∃ a o, x = .ref a ∧ DGet H2 a y o ∧ Q (.bl (neg != o.isSome)) H2 := by
  obtain ⟨r, t, S, l, rl, o⟩ := h
  refine toX.bind l rl o fun y S1 r1 H1 yv _ e1 rl1 l1 qy o1 => toX.bind l1 rl1 o1 fun w S2 r2 H2 v _ e2 rl2 l2 q o2 => ?_
  cases ed : dicOf S2 w with
  | none => rw [ed] at o2; exact o2.elim
  | some p =>
    cases ek : keyW y with
    | none => rw [ed, ek] at o2; exact o2.elim
    | some k =>
      rw [ed, ek] at o2
      simp only [] at o2
      obtain ⟨a, vs, rfl, h1, hl, qs⟩ := dicOf_ok rl2 q ed
      have hy := keyW_ok qy ek
      subst hy
      cases eg : dGetW p.1 p.2 k with
      | none =>
        rw [eg] at o2
        have g1 := dGetW_none hl qs eg
        exact ⟨a, none, rfl, by rw [← g1]; exact DGet.k h1, o2 r2 H2 _ .refl rl2 (.bl _)⟩
      | some x =>
        rw [eg] at o2
        obtain ⟨xv', g1, g2⟩ := dGetW_some hl qs eg
        exact ⟨a, some xv', rfl, by rw [← g1]; exact DGet.k h1, o2 r2 H2 _ .refl rl2 (.bl _)⟩
theorem de_din {o i : Expr} {d k : DX} {pos : Pos} (hu : X.A.units + 64 < cLine) (hi : PE X i (toE G xv Wx k)) (ho : PE X o (toE G xv Wx d)) (hm : behindInMarks .In o = false := by rfl) : PE X (.Compare i [.In] [o] pos) (toE G xv Wx (dDIn false k d)) :=
  PEi (pe_cmp (pc_din (by omega) hi ho) hm) fun s H Q h => by
    have := toDIn h
    simpa only [tDIn, Bool.false_bne] using this
theorem dt_din {o i : Expr} {d k : DX} {pos : Pos} (hu : X.A.units + 64 < cLine) (hi : PE X i (toE G xv Wx k)) (ho : PE X o (toE G xv Wx d)) (hm : behindInMarks .In o = false := by rfl) : PT X (.Compare i [.In] [o] pos) (toT G xv Wx (dTest (dDIn false k d))) :=
  PTi (pt_cmp (pc_din (by omega) hi ho) hm) fun s H Q h => toTest (te := tDIn (toE G xv Wx k) (toE G xv Wx d)) (fun s H Q h => by
    have := toDIn h
    simpa only [tDIn, Bool.false_bne] using this) s H Q h
theorem de_dnotin {o i : Expr} {d k : DX} {pos : Pos} (hu : X.A.units + 64 < cLine) (hi : PE X i (toE G xv Wx k)) (ho : PE X o (toE G xv Wx d)) (hm : behindInMarks .NotIn o = false := by rfl) : PE X (.Compare i [.NotIn] [o] pos) (toE G xv Wx (dDIn true k d)) :=
  PEi (pe_cmp (pc_dnotin (by omega) hi ho) hm) fun s H Q h => by
    have := toDIn h
    simpa only [tDNotIn, Bool.true_bne] using this
theorem dt_dnotin {o i : Expr} {d k : DX} {pos : Pos} (hu : X.A.units + 64 < cLine) (hi : PE X i (toE G xv Wx k)) (ho : PE X o (toE G xv Wx d)) (hm : behindInMarks .NotIn o = false := by rfl) : PT X (.Compare i [.NotIn] [o] pos) (toT G xv Wx (dTest (dDIn true k d))) :=
  PTi (pt_cmp (pc_dnotin (by omega) hi ho) hm) fun s H Q h => toTest (te := tDNotIn (toE G xv Wx k) (toE G xv Wx d)) (fun s H Q h => by
    have := toDIn h
    simpa only [tDNotIn, Bool.true_bne] using this) s H Q h
/-- d[k] = v -/
def dDPut (d k v : DX) : DS := fun t S => (v t S).toF t fun x S1 => (d t S1).toF t fun w S2 => (k t S2).toF t fun y S3 => match w with
  | .ref i => match S3[i]?, keyW y with
    | some (.dic ks ws), some k => if ks.Nodup ∧ ks.length < 1000000 then .nx t (S3.set i (.dic (dPutW ks ws k x).1 (dPutW ks ws k x).2)) else .no
    | _, _ => .no
  | _ => .no
theorem ds_dput {o i value : Expr} {d k v : DX} {pos pos' : Pos} (hu : X.A.units + 64 < cLine) (ho : PE X o (toE G xv Wx d)) (hi : PE X i (toE G xv Wx k)) (hv : PE X value (toE G xv Wx v)) (hs : swapsWith value (some (.Subscript o i pos')) pos.line X.env = pure false := by rfl) :
    PS X (.Assign [.Subscript o i pos'] value pos) (toS G xv Wx (dDPut d k v)) := PSi (ps_dput (by omega) ho hi hv hs) fun D s H ⟨r, t, S, l, rl, o⟩ =>
  toX.bindS l rl o fun x S1 r1 H1 vx _ e1 rl1 l1 q o1 => toX.bindS l1 rl1 o1 fun w S2 r2 H2 vw _ e2 rl2 l2 qw o2 => toX.bindS l2 rl2 o2 fun y S3 r3 H3 vy _ e3 rl3 l3 qy o3 => by
    cases w with
    | ref i =>
      simp only [] at o3
      cases es : S3[i]? with
      | none => rw [es] at o3; exact o3.elim
      | some u =>
        rw [es] at o3
        cases u with
        | dic ks ws =>
          cases ek : keyW y with
          | none => rw [ek] at o3; exact o3.elim
          | some k =>
            rw [ek] at o3
            simp only [] at o3
            split at o3
            · rename_i hm
              obtain ⟨ho, h1, h2⟩ := rl3.at_ i _ es (fun z => by cases z)
              have qw3 := qw.ev e3
              cases qw3 with
              | ref hi =>
                cases h2 with
                | @dic _ _ vs hl q' =>
                  have hy := keyW_ok qy ek
                  subst hy
                  obtain ⟨vs', p1, p2⟩ := putK_zip (k := k) ((q.ev e2).ev e3) hl q' hm.1
                  refine ⟨r3 i, _, rfl, DPut.k h1 (by rw [List.length_zip]; have := sizeLine_eq; omega), ?_⟩
                  rw [p1]
                  exact o3 r3 _ _ (Ev.set rl3 es (fun z => by cases z)) (rl3.set es (fun z => by cases z) (.dic (dPutW_len hl) p2)) (l3.ev (Ev.set rl3 es (fun z => by cases z)))
            · exact o3.elim
        | _ => exact o3.elim
    | _ => exact o3.elim
/-! ### starred parts of a display -/
def seqA (S : Sto) (w : W) : Option (List W) := match seqL S w with
  | some l => some l
  | none => seqT w
def dStar (a : DX) (b : DA) : DA := fun t S => (a t S).bind fun w S1 => match seqA S1 w with
  | some l => (b t S1).bind fun ws S2 => .ok (l ++ ws) S2
  | none => .no
theorem seqA_ok {w : W} {v : V} {ws : List W} (rl : Rl G H S r) (q : RW G H S r w v) (e : seqA S w = some ws) : ∃ a vs, v = .ref a ∧ (SqT G.K H a vs ∨ SqL G.K H a vs) ∧ RWs G H S r ws vs := by
  unfold seqA at e
  cases e1 : seqL S w with
  | some l =>
    rw [e1] at e
    cases e
    obtain ⟨a, vs, h1, h2, h3⟩ := seqL_ok rl q e1
    exact ⟨a, vs, h1, .inr h2, h3⟩
  | none =>
    rw [e1] at e
    obtain ⟨a, vs, h1, h2, h3⟩ := seqT_ok q e
    exact ⟨a, vs, h1, .inl h2, h3⟩
theorem da_star {e : Expr} {es : List Expr} {d : DX} {ds : DA} {p : Pos} (c : Cok G X Wx) (h1 : PE X e (toE G xv Wx d)) (h2 : PA X es (toA G xv Wx ds)) (hs : starEach (.Starred e p :: es) X.env = (true, eval e X.env) :: starEach es X.env := by rfl) : PA X (.Starred e p :: es) (toA G xv Wx (dStar d ds)) :=
  PAi (StX.pa_star h1 h2 hs) fun s H Q ⟨r, t, S, l, rl, o⟩ => toX.bind l rl o fun w S1 r1 H1 v _ e1 rl1 l1 q o1 => by
    cases e : seqA S1 w with
    | none => rw [e] at o1; exact o1.elim
    | some us =>
      rw [e] at o1
      obtain ⟨a, vs, rfl, hq, qs⟩ := seqA_ok rl1 q e
      exact ⟨a, vs, rfl, by rw [c.kk]; exact hq, toX.bind l1 rl1 o1 fun ws S2 r2 H2 ys _ e2 rl2 l2 qw o2 => o2 r2 H2 _ .refl rl2 ((qs.ev e2).append qw)⟩
/-! ### operators of own classes -/
/-- an instance of the class c -/
def isOf (c : Nat) (w : W) (S : Sto) : Bool := match w with
  | .obj c' _ _ => decide (c' = c)
  | .ref i => match S[i]? with
    | some (.ins c' _ _) => decide (c' = c)
    | _ => false
  | _ => false
theorem isOf_ok {c : Nat} {w : W} {v : V} (rl : Rl G H S r) (q : RW G H S r w v) (h : isOf c w S = true) : ∃ a dx fs, v = .ref a ∧ H a = some (.ins (G.cm c) dx fs) := by
  cases w with
  | obj c' ns ws =>
    simp only [isOf, decide_eq_true_eq] at h
    subst h
    cases q with
    | obj ow hl q => exact ⟨_, _, _, rfl, ow.1⟩
  | ref i =>
    simp only [isOf] at h
    cases e : S[i]? with
    | none => rw [e] at h; cases h
    | some u =>
      rw [e] at h
      cases u with
      | ins c' ns ws =>
        simp only [decide_eq_true_eq] at h
        subst h
        obtain ⟨ho, h1, h2⟩ := rl.at_ i _ e (fun z => by cases z)
        cases q with
        | ref hi =>
          cases h2 with
          | ins hl q => exact ⟨_, _, _, rfl, h1⟩
      | _ => cases h
  | _ => cases h
theorem inst_at {pins : List (Addr × Obj)} {σ : L2.St} {s : Shared} {a C dx : Addr} {fs : List (Str × V)} (I : Inv X pins σ H s) (e : H a = some (.ins C dx fs)) : ∃ od, PySem.W.InstAt s.heap a (PySem.W.instObj C dx) C (some od) := by
  obtain ⟨mA, O, _⟩ := ins_get I.hok e
  obtain ⟨od, J, _⟩ := O.look
  exact ⟨od, J⟩
/-- the callee of an operator: nothing is let out -/
theorem run_op {pins : List (Addr × Obj)} {σ : L2.St} {s : Shared} {f : Addr} {k n : Nat} {fn : Fn} {ws : List W} {vs : List V} {us : List Value} {Q : VK} (h : DefOk X.prog X.w X.K X.mg X.base G xv f k n fn) (hr : Room k X.A) (I : Inv X pins σ H s) (hv : Vals vs us) (hl : vs.length = n) (q : RWs G H S r ws vs) (rl : Rl G H S r)
    (o : OutE G xv W0 (fun H S r w v => RW G H S r w v) [] H S r (fn ws S) Q) : wpAny (model X.prog X.w) X.A (call (.ref f) us) (EP X pins σ Q) X.xe s := by
  obtain ⟨⟨fd, ps, hp, F, b⟩, kp⟩ := h
  have sp : spF G xv n fn vs H Q E0 := ⟨hl, r, S, ws, q, rl, by
    cases e : fn ws S with
    | ok w S1 => rw [e] at o; exact o
    | er c ns us S1 => rw [e] at o; exact o
    | no => rw [e] at o; exact o⟩
  exact run_fn (ds := []) (dvs := []) (E := E0) F hr b .nil passL I hv (by rw [List.append_nil]; exact sp)
def usrD (c : Nat) (fn : Fn) : D2 := fun a b S => if (isOf c a S && isOf c b S) = true then fn [a, b] S else .no
theorem o_usr {op : Operator} {c : Nat} {f : Addr} {k : Nat} {fn : Fn} {m : Str} (hk : X.K = G.K) (h : DefOk X.prog X.w X.K X.mg X.base G xv f k 2 fn) (hr : Room k X.A) (M : Meth G.K (G.cm c) m f) (hc : PySem.W.selfFirst G.K (G.cm c) = true) (hm : PySem.dunder op.info.2 = m := by rfl) : OpR X (binaryOp op) (toR2 G xv (usrD c fn)) := by
  intro pins s σ H x y v u Q I rx ry ⟨r, S, a, b, rl, qa, qb, o⟩
  unfold usrD at o
  split at o
  · rename_i hi
    rw [Bool.and_eq_true] at hi
    obtain ⟨p, dx, fs, rfl, e1⟩ := isOf_ok rl qa hi.1
    obtain ⟨p', dx', fs', rfl, e2⟩ := isOf_ok rl qb hi.2
    cases (show v = Value.ref p from rx)
    cases (show u = Value.ref p' from ry)
    obtain ⟨od, J⟩ := inst_at I e1
    obtain ⟨od', J'⟩ := inst_at I e2
    obtain ⟨m, hF⟩ := I.fr
    subst hm
    refine PySem.W.binop_K (K := X.K) hF I.ok.mod.kin J J'.type (by rw [hk]; exact hc) (by rw [hk]; exact M.at_) (by rw [hk]; exact M.fn) ?_
    refine wpAny_mono (run_op (vs := [.ref p, .ref p']) h hr I (.cons rfl (.cons rfl .nil)) rfl (.cons qa (.cons qb .nil)) rl o) (fun w s' z => ?_) fun _ _ z => z
    obtain ⟨z', H', I', rz, qz⟩ := z
    cases w <;> first | exact ⟨z', H', I', rz, qz⟩ | (cases z' <;> first | exact nomatch rz | (obtain ⟨t, e⟩ := rz; exact nomatch e))
  · exact o.elim
theorem o_usrC {op : CmpOp} {c : Nat} {f : Addr} {k : Nat} {fn : Fn} {m : Str} (hk : X.K = G.K) (h : DefOk X.prog X.w X.K X.mg X.base G xv f k 2 fn) (hr : Room k X.A) (M : Meth G.K (G.cm c) m f) (hop : ∀ a b, compareOp op a b = richCompare op a b := by intro _ _; rfl) (hm : (cmpInfo op).2.1 = m := by rfl) : OpR X (compareOp op) (toR2 G xv (usrD c fn)) := by
  intro pins s σ H x y v u Q I rx ry ⟨r, S, a, b, rl, qa, qb, o⟩
  unfold usrD at o
  split at o
  · rename_i hi
    rw [Bool.and_eq_true] at hi
    obtain ⟨p, dx, fs, rfl, e1⟩ := isOf_ok rl qa hi.1
    obtain ⟨p', dx', fs', rfl, e2⟩ := isOf_ok rl qb hi.2
    cases (show v = Value.ref p from rx)
    cases (show u = Value.ref p' from ry)
    obtain ⟨od, J⟩ := inst_at I e1
    obtain ⟨od', J'⟩ := inst_at I e2
    obtain ⟨m, hF⟩ := I.fr
    subst hm
    rw [hop]
    refine PySem.W.cmp_K (op := op) (K := X.K) (tb := .ref (G.cm c)) hr.units0 hF I.ok.mod.kin J J'.type (by unfold PySem.W.notFirst; simp) (by rw [hk]; exact M.at_) (by rw [hk]; exact M.fn) ?_
    refine wpAny_mono (run_op (vs := [.ref p, .ref p']) h hr I (.cons rfl (.cons rfl .nil)) rfl (.cons qa (.cons qb .nil)) rl o) (fun w s' z => ?_) fun _ _ z => z
    obtain ⟨z', H', I', rz, qz⟩ := z
    cases w <;> first | exact ⟨z', H', I', rz, qz⟩ | (cases z' <;> first | exact nomatch rz | (obtain ⟨t, e⟩ := rz; exact nomatch e))
  · exact o.elim
/-- x in o -/
def usrIn (neg : Bool) (c : Nat) (fn : Fn) : D2 := fun a b S => if isOf c b S = true then match fn [b, a] S with
    | .ok (.bl k) S1 => .ok (.bl (neg != k)) S1
    | _ => .no
  else .no
theorem o_usrIn {c : Nat} {f : Addr} {k : Nat} {fn : Fn} (hk : X.K = G.K) (h : DefOk X.prog X.w X.K X.mg X.base G xv f k 2 fn) (hr : Room k X.A) (M : Meth G.K (G.cm c) "__contains__" f) : OpR X (compareOp .In) (toR2 G xv (usrIn false c fn)) := by
  intro pins s σ H x y v u Q I rx ry ⟨r, S, a, b, rl, qa, qb, o⟩
  unfold usrIn at o
  split at o
  · rename_i hi
    obtain ⟨p, dx, fs, rfl, e1⟩ := isOf_ok rl qb hi
    cases (show u = Value.ref p from ry)
    obtain ⟨od, J⟩ := inst_at I e1
    obtain ⟨m, hF⟩ := I.fr
    refine PySem.W.in_K (K := X.K) hF I.ok.mod.kin J (by rw [hk]; exact M.at_) (by rw [hk]; exact M.fn) ?_
    refine wpAny_mono (run_op (Q := fun z H' => ∃ k, z = .bl k ∧ Q (.bl k) H') (vs := [.ref p, x]) h hr I (.cons rfl (.cons rx .nil)) rfl (.cons qb (.cons qa .nil)) rl ?_) (fun w s' z => ?_) fun _ _ z => z
    · cases e : fn [b, a] S with
      | ok w S1 =>
        rw [e] at o
        cases w with
        | bl k =>
          intro r1 H1 z ev rl1 q
          cases q
          exact ⟨k, rfl, by simpa using o r1 H1 _ ev rl1 (.bl _)⟩
        | _ => exact o.elim
      | er c ns us S1 => rw [e] at o; exact o.elim
      | no => rw [e] at o; exact o.elim
    · obtain ⟨z', H', I', rz, k, rfl, qz⟩ := z
      cases (show w = Value.bool k from rz)
      exact wpAny_truthy_bool ⟨.bl k, H', I', rfl, qz⟩
  · exact o.elim
theorem o_usrNotIn {c : Nat} {f : Addr} {k : Nat} {fn : Fn} (hk : X.K = G.K) (h : DefOk X.prog X.w X.K X.mg X.base G xv f k 2 fn) (hr : Room k X.A) (M : Meth G.K (G.cm c) "__contains__" f) : OpR X (compareOp .NotIn) (toR2 G xv (usrIn true c fn)) := by
  intro pins s σ H x y v u Q I rx ry ⟨r, S, a, b, rl, qa, qb, o⟩
  unfold usrIn at o
  split at o
  · rename_i hi
    obtain ⟨p, dx, fs, rfl, e1⟩ := isOf_ok rl qb hi
    cases (show u = Value.ref p from ry)
    obtain ⟨od, J⟩ := inst_at I e1
    obtain ⟨m, hF⟩ := I.fr
    refine PySem.W.notIn_K (K := X.K) hF I.ok.mod.kin J (by rw [hk]; exact M.at_) (by rw [hk]; exact M.fn) ?_
    refine wpAny_mono (run_op (Q := fun z H' => ∃ k, z = .bl k ∧ Q (.bl (!k)) H') (vs := [.ref p, x]) h hr I (.cons rfl (.cons rx .nil)) rfl (.cons qb (.cons qa .nil)) rl ?_) (fun w s' z => ?_) fun _ _ z => z
    · cases e : fn [b, a] S with
      | ok w S1 =>
        rw [e] at o
        cases w with
        | bl k =>
          intro r1 H1 z ev rl1 q
          cases q
          exact ⟨k, rfl, by simpa using o r1 H1 _ ev rl1 (.bl _)⟩
        | _ => exact o.elim
      | er c ns us S1 => rw [e] at o; exact o.elim
      | no => rw [e] at o; exact o.elim
    · obtain ⟨z', H', I', rz, k, rfl, qz⟩ := z
      cases (show w = Value.bool k from rz)
      exact wpAny_truthy_bool ⟨.bl (!k), H', I', rfl, qz⟩
  · exact o.elim
/-- len(o) -/
def usrLen (c : Nat) (fn : Fn) : Fn := fun ws S => match ws with
  | [a] => if isOf c a S = true then match fn [a] S with
      | .ok (.int n) S1 => if 0 ≤ n ∧ n < 2 ^ 63 then .ok (.int n) S1 else .no
      | _ => .no
    else .no
  | _ => .no
theorem c_usrLen {c : Nat} {f : Addr} {k : Nat} {fn : Fn} (hk : X.K = G.K) (h : DefOk X.prog X.w X.K X.mg X.base G xv f k 1 fn) (hr : Room (k + 1) X.A) (M : Meth G.K (G.cm c) "__len__" f) : CallR X (.builtin "len") (toC1 G xv (usrLen c fn)) := by
  intro pins s σ H xs us Q I rv ⟨r, S, ws, rl, q, o⟩
  cases q with
  | nil => exact o.elim
  | @cons w ws v vs a q =>
    cases q with
    | cons _ _ => exact o.elim
    | nil =>
      simp only [usrLen] at o
      split at o
      · rename_i hi
        obtain ⟨p, dx, fs, rfl, e1⟩ := isOf_ok rl a hi
        obtain ⟨od, J⟩ := inst_at I e1
        obtain ⟨m, hF⟩ := I.fr
        rw [Vals.ref1 rv]
        refine PySem.W.len_K (K := X.K) hF I.ok.mod.kin J (by rw [hk]; exact M.at_) (by rw [hk]; exact M.fn) ?_
        obtain ⟨⟨fd, ps, hp, F, b⟩, kp⟩ := h
        have hr1 : Room k X.A.in1 := Room.in1 hr
        have sp : spF G xv 1 fn [.ref p] H (fun z H' => ∃ n, z = .int n ∧ (0 ≤ n ∧ n < 2 ^ 63) ∧ Q (.int n) H') E0 := ⟨rfl, r, S, [w], .cons a .nil, rl, by
          cases e : fn [w] S with
          | ok x S1 =>
            rw [e] at o
            cases x with
            | int n =>
              simp only [] at o
              split at o
              · rename_i hn
                intro r1 H1 z ev rl1 q
                cases q
                exact ⟨n, rfl, hn, o r1 H1 _ ev rl1 (.int n)⟩
              · exact o.elim
            | _ => exact o.elim
          | er c ns us S1 => rw [e] at o; exact o.elim
          | no => rw [e] at o; exact o.elim⟩
        have bb := b s [.ref p] I.kIn (by simp [hp])
        rw [List.append_nil] at bb
        refine wpAny_call (codeAny_mono (F.run X.A.in1 X.stack s H ⟨[.ref p], []⟩ [.ref p] [.ref p] _ E0 hr1 I.env0.in1 bb (.cons rfl .nil) sp) fun rr s' hq => ?_)
        cases rr with
        | error e => exact (passL pins σ H s e s' I hq)
        | ok fl =>
          cases fl with
          | ret u =>
            obtain ⟨z, H', I', rz, n, rfl, hn, qz⟩ := I.after hq
            obtain ⟨t, rfl⟩ := (show ∃ t, u = Value.int n t from rz)
            exact ⟨hn, .int n, H', I'.tok _, ⟨_, rfl⟩, qz⟩
          | next => exact False.elim hq
          | brk => exact False.elim hq
          | cont => exact False.elim hq
      · exact o.elim
/-! ### x op= e -/
def dAug (i : Nat) (f : D2) (d : DX) : DS := fun t S => match t[i]? with
  | some (some a) => (d t S).toF t fun b S1 => match f a b S1 with
    | .ok w S2 => .nx (t.set i (some w)) S2
    | _ => .no
  | _ => .no
theorem ds_aug {i : Nat} {x : Str} {e : Expr} {op : Operator} {f : D2} {d : DX} {pos pos' : Pos} (c : Cok G X Wx) (ho : OpR X (inplaceOp op) (toR2 G xv f)) (he : PE X e (toE G xv Wx d)) (hi : X.N[i]? = some x := by rfl) (hx : Loc X.env.scope x := by first | exact Or.inl rfl | exact Or.inr rfl)
    (hf : X.fn x = true ∨ X.env.scope.names.lookup x = some .local := by first | exact .inl rfl | exact .inr rfl) : PS X (.AugAssign (.Name x pos') op e pos) (toS G xv Wx (dAug i f d)) :=
  PSi (ps_aug c.nd hi hx he (show PIp X op (toR2 G xv f) from ho) hf) fun D s H ⟨r, t, S, l, rl, o⟩ => by
    unfold dAug at o
    cases ei : t[i]? with
    | none => rw [ei] at o; exact o.elim
    | some a =>
      cases a with
      | none => rw [ei] at o; exact o.elim
      | some a =>
        rw [ei] at o
        obtain ⟨v, h1, h2⟩ := l.get ei
        refine ⟨v, h1, ?_⟩
        refine toX.bindS l rl o fun b S1 r1 H1 bv _ e1 rl1 l1 q o1 => ⟨r1, S1, a, b, rl1, h2.ev e1, q, ?_⟩
        cases ef : f a b S1 with
        | ok w S2 => rw [ef] at o1; exact fun r2 H2 z e2 rl2 q2 => o1 r2 H2 _ e2 rl2 ((l1.ev e2).set q2 i)
        | er c ns ws S2 => rw [ef] at o1; exact o1.elim
        | no => rw [ef] at o1; exact o1.elim
theorem io_add : OpR X (inplaceOp .Add) (toR2 G xv iAdd) := op_intD (fun _ _ _ _ _ => .int _) (opC0 iop_add)
theorem io_sub : OpR X (inplaceOp .Sub) (toR2 G xv iSub) := op_intD (fun _ _ _ _ _ => .int _) (opC0 iop_sub)
theorem io_or : OpR X (inplaceOp .BitOr) (toR2 G xv iOr) := op_intD (fun _ _ _ _ _ => .int _) (opC0 iop_or)
/-! ### enumerate, ranges by steps -/
def enumFrom (n : Int) : List W → List W
  | [] => []
  | w :: ws => .tup [.int n, w] :: enumFrom (n + 1) ws
theorem enumFrom_get : ∀ {ws : List W} {n : Int} {i : Nat} {x : W}, (enumFrom n ws)[i]? = some x → ∃ w, ws[i]? = some w ∧ x = .tup [.int (n + i), w]
  | [], _, _, _, e => by simp [enumFrom] at e
  | w :: ws, n, 0, x, e => by simp [enumFrom] at e; exact ⟨w, rfl, by rw [← e]; simp⟩
  | w :: ws, n, i + 1, x, e => by
    simp only [enumFrom, List.getElem?_cons_succ] at e
    obtain ⟨y, h1, h2⟩ := enumFrom_get e
    refine ⟨y, by simpa using h1, ?_⟩
    rw [h2]
    have : n + 1 + (i : Int) = n + ((i + 1 : Nat) : Int) := by push_cast; omega
    rw [this]
theorem enumFrom_length : ∀ (ws : List W) (n : Int), (enumFrom n ws).length = ws.length
  | [], _ => rfl
  | w :: ws, n => by simp [enumFrom, enumFrom_length ws]
def dEnum (d : DA) : DA := fun t S => (d t S).bind fun ws S1 => match ws with
  | [.lst l] => .ok (enumFrom 0 l) S1
  | [.scr l] => .ok (enumFrom 0 l) S1
  | _ => .no
theorem ite_ok {a : Addr} {ws : List W} {vs : List V} (hs : ∀ H1 S1 r1, Mp H S r H1 S1 r1 → SqL G.K H1 a vs) (q : RWs G H S r ws vs) : ItOk G H S r (Ite G.K a) (enumFrom 0 ws) where
  go := fun H1 S1 r1 e rl i w hw => by
    obtain ⟨x, hx, _⟩ := enumFrom_get hw
    obtain ⟨v, h1, _⟩ := q.get hx
    exact ⟨vs, v, hs H1 S1 r1 e, h1⟩
  yld := fun H1 S1 r1 e rl i w hw x H2 hy => by
    obtain ⟨y, hx, rfl⟩ := enumFrom_get hw
    obtain ⟨v, h1, h2⟩ := q.get hx
    obtain ⟨T, x1, rfl, nT, rfl, f⟩ := hy
    have := f vs (hs _ S1 r1 e)
    rw [h1] at this
    cases this
    refine ⟨Ev.fresh nT rl, rl.fresh nT, .tup (.inl (Own.new nT rl)) (.cons ?_ (.cons ((h2.mp e).ev (Ev.fresh nT rl)) .nil))⟩
    have e0 : (0 : Int) + (i : Int) = (i : Int) := by omega
    rw [e0]
    exact .int _
  stop := fun H1 S1 r1 e rl i hi => ⟨vs, hs H1 S1 r1 e, by rw [← q.length]; rw [enumFrom_length] at hi; exact hi⟩
theorem di_enum {e : Expr} {d : DA} {p pos tpos : Pos} {elts : List Expr} {kk : Nat} (c : Cok G X Wx) (ha : PA X [e] (toA G xv Wx d)) (hm : X.mg "enumerate" = none) (hg : Gl X "enumerate" := by rfl) (hs : starEach [e] X.env = [(false, eval e X.env)] := by rfl) :
    PI X (.Tuple elts kk tpos) (.Call (.Name "enumerate" p) [e] [] pos) (toI G xv Wx (dEnum d)) := PIi (pi_enum hg hm ha hs) fun s H Q ⟨r, t, S, l, rl, o⟩ => toX.bind l rl o fun ws S1 r1 H1 vs _ e1 rl1 l1 q o1 => by
  cases q with
  | nil => exact o1.elim
  | @cons w ws v vs a q =>
    cases q with
    | cons _ _ => cases w <;> exact o1.elim
    | nil =>
      rw [c.kk]
      cases w with
      | lst us =>
        cases a with
        | lst ow q => exact ⟨_, _, rfl, .inl (.inl ow.1), o1 r1 H1 _ .refl rl1 (ite_ok (fun H2 S2 r2 e2 => .inl (.inl (e2.own _ _ ow).1)) q)⟩
      | scr us =>
        cases a with
        | scr ow q => exact ⟨_, _, rfl, ow.sq, o1 r1 H1 _ .refl rl1 (ite_ok (fun H2 S2 r2 e2 => (ow.mp e2).sq) q)⟩
      | _ => exact o1.elim
def intsDown (hi : Int) : Nat → List W
  | 0 => []
  | n + 1 => .int hi :: intsDown (hi - 1) n
theorem intsDown_length : ∀ (n : Nat) (lo : Int), (intsDown lo n).length = n
  | 0, _ => rfl
  | n + 1, lo => congrArg Nat.succ (intsDown_length n (lo - 1))
theorem intsDown_get : ∀ (n : Nat) (hi : Int) (i : Nat) (w : W), (intsDown hi n)[i]? = some w → i < n ∧ w = .int (hi + (i : Nat) * (-1))
  | 0, _, _, _, e => by simp [intsDown] at e
  | n + 1, hi, 0, w, e => by
    simp [intsDown] at e; subst e
    exact ⟨Nat.succ_pos n, by simp⟩
  | n + 1, hi, i + 1, w, e => by
    simp only [intsDown, List.getElem?_cons_succ] at e
    obtain ⟨h1, h2⟩ := intsDown_get n (hi - 1) i w e
    refine ⟨Nat.succ_lt_succ h1, ?_⟩
    rw [h2]
    congr 1
    push_cast
    omega
def threeI (f : Int → Int → Int → R (List W)) : List W → R (List W)
  | [.int i, .int j, .int c] => f i j c
  | _ => .no
theorem three_ints {ws : List W} {vs : List V} {f : Int → Int → Int → R (List W)} {C : R (List W) → Prop} (hno : ¬ C .no) (q : RWs G H S r ws vs) (o : C (threeI f ws)) : ∃ i j c, ws = [.int i, .int j, .int c] ∧ vs = [.int i, .int j, .int c] ∧ C (f i j c) := by
  cases q with
  | nil => exact absurd o hno
  | @cons w ws v vs a q =>
    cases q with
    | nil => cases w <;> exact absurd o hno
    | @cons w2 ws2 v2 vs2 b q =>
      cases q with
      | nil => cases w <;> first | exact absurd o hno | (cases w2 <;> exact absurd o hno)
      | @cons w3 ws3 v3 vs3 c q =>
        cases q with
        | cons _ _ => cases w <;> first | exact absurd o hno | (cases w2 <;> first | exact absurd o hno | (cases w3 <;> exact absurd o hno))
        | nil =>
          cases w with
          | int i =>
            cases w2 with
            | int j =>
              cases w3 with
              | int k => cases a; cases b; cases c; exact ⟨i, j, k, rfl, rfl, o⟩
              | _ => exact absurd o hno
            | _ => exact absurd o hno
          | _ => exact absurd o hno
def dRangeD (d : DA) : DA := fun t S => (d t S).bind fun ws S1 => threeI (fun i j c => if c = -1 ∧ -(2 ^ 62) ≤ i ∧ i < 2 ^ 62 ∧ -(2 ^ 62) ≤ j ∧ j < 2 ^ 62 then .ok (intsDown i (i - j).toNat) S1 else .no) ws
theorem itd {hi : Int} {n : Nat} : ItOk G H S r (Itc hi (-1) n) (intsDown hi n) where
  go := fun H1 S1 r1 e rl i w hw => (intsDown_get n hi i w hw).1
  yld := fun H1 S1 r1 e rl i w hw x H2 hy => by
    obtain ⟨rfl, rfl⟩ := hy
    obtain ⟨_, rfl⟩ := intsDown_get n hi i w hw
    exact ⟨.refl, rl, .int _⟩
  stop := fun H1 S1 r1 e rl i h => by rw [intsDown_length] at h; exact h
theorem di_rangeD {tg a b c : Expr} {d : DA} {p pos : Pos} (ha : PA X [a, b, c] (toA G xv Wx d)) (hm : X.mg "range" = none) (hg : Gl X "range" := by rfl) (hs : starEach [a, b, c] X.env = (false, eval a X.env) :: starEach [b, c] X.env := by rfl) (hpl : (backTo pos (starEach [b, c] X.env)).any (·.1) = false := by rfl) :
    PI X tg (.Call (.Name "range" p) [a, b, c] [] pos) (toI G xv Wx (dRangeD d)) := PIi (pi_range3 hg hm ha hs hpl) fun s H Q ⟨r, t, S, l, rl, o⟩ => toX.bind l rl o fun ws S1 r1 H1 vs _ e1 rl1 l1 q o1 => by
  obtain ⟨i, j, c, rfl, rfl, o2⟩ := three_ints (C := fun x => OutE G xv Wx (fun H S r w J => ItOk G H S r J w) s H1 S1 r1 x Q) (fun z => z) q o1
  split at o2
  · rename_i h
    obtain ⟨rfl, hb⟩ := h
    exact ⟨i, j, -1, (i - j).toNat, rfl, RgC.neg hb.1 hb.2.1 hb.2.2.1 hb.2.2.2, o2 r1 H1 _ .refl rl1 itd⟩
  · exact o2.elim
/-! ### is True, is False -/
def isB (neg : Bool) : D2 := fun a b S => match a, b with
  | .bl x, .bl y => .ok (.bl (neg != (x == y))) S
  | _, _ => .no
theorem o_isB : OpR X (compareOp .Is) (toR2 G xv (isB false)) := by
  intro pins s σ H x y v u Q I rx ry ⟨r, S, a, b, rl, qa, qb, o⟩
  cases a with
  | bl p =>
    cases b with
    | bl q =>
      cases qa
      cases qb
      cases (show v = Value.bool p from rx)
      cases (show u = Value.bool q from ry)
      refine wpAny_is_plain rfl ⟨.bl (p == q), H, I, ?_, by simpa using o r H _ .refl rl (.bl _)⟩
      cases p <;> cases q <;> rfl
    | _ => exact o.elim
  | _ => exact o.elim
theorem o_isNotB : OpR X (compareOp .IsNot) (toR2 G xv (isB true)) := by
  intro pins s σ H x y v u Q I rx ry ⟨r, S, a, b, rl, qa, qb, o⟩
  cases a with
  | bl p =>
    cases b with
    | bl q =>
      cases qa
      cases qb
      cases (show v = Value.bool p from rx)
      cases (show u = Value.bool q from ry)
      refine wpAny_isNot_plain rfl ⟨.bl (!(p == q)), H, I, ?_, by simpa using o r H _ .refl rl (.bl _)⟩
      cases p <;> cases q <;> rfl
    | _ => exact o.elim
  | _ => exact o.elim
/-! ### list(range(n)), list(range(a, b)) -/
theorem cr_range1 : CallR X (.type "range") (fun vs H Q => ∃ j, vs = [V.int j] ∧ ∀ p, H p = none → Q (.ref p) (upd H p (.rng 0 j))) := by
  intro pins s σ H vs us Q I r h
  obtain ⟨j, rfl, q⟩ := h
  obtain ⟨u1, rfl, rj⟩ := r.one
  obtain ⟨u, rfl⟩ := rj
  exact call_range_1 ⟨.ref s.heap.objs.size, upd H s.heap.objs.size (.rng 0 j), I.laid (t' := s.toks + 1 + 1) (fun b o e => Heap.get?_push_of_some _ e) (Nat.le_refl _) ⟨_, _, _, Heap.get?_push_size _ rfl⟩, rfl, q _ (I.hok.fresh (Nat.le_refl _))⟩
def intsV (lo : Int) : Nat → List V
  | 0 => []
  | n + 1 => .int lo :: intsV (lo + 1) n
theorem intsV_rw : ∀ (n : Nat) (lo : Int), RWs G H S r (intsFrom lo n) (intsV lo n)
  | 0, _ => .nil
  | n + 1, lo => .cons (.int lo) (intsV_rw n (lo + 1))
theorem intsV_len : ∀ (n : Nat) (lo : Int), (intsV lo n).length = n
  | 0, _ => rfl
  | n + 1, lo => congrArg Nat.succ (intsV_len n (lo + 1))
theorem intsV_vals : ∀ (n : Nat) (lo : Int) (us : List Value), us.length = n → (∀ (i : Nat) (v : Value), us[i]? = some v → ∃ t, v = Value.int (lo + (i : Int)) t) → Vals (intsV lo n) us
  | 0, _, [], _, _ => .nil
  | n + 1, lo, u :: us, hl, h => by
    obtain ⟨t, e⟩ := h 0 u rfl
    refine .cons ⟨t, by simpa using e⟩ (intsV_vals n (lo + 1) us (by simpa using hl) fun i v hv => ?_)
    obtain ⟨t, e⟩ := h (i + 1) v (by simpa using hv)
    refine ⟨t, ?_⟩
    rw [e]
    have : lo + ((i + 1 : Nat) : Int) = lo + 1 + (i : Int) := by push_cast; omega
    rw [this]
  | 0, _, _ :: _, hl, _ => by simp at hl
  | _ + 1, _, [], hl, _ => by simp at hl
theorem cr_listRng (hc : X.calm = true) : CallR X (.type "list") (fun vs H Q => ∃ a lo hi, vs = [V.ref a] ∧ H a = some (.rng lo hi) ∧ (-(2 ^ 62) ≤ lo ∧ lo < 2 ^ 62 ∧ -(2 ^ 62) ≤ hi ∧ hi < 2 ^ 62) ∧ (hi - lo).toNat ≤ 1000000 ∧ ∀ l, H l = none → Q (.ref l) (upd H l (.lst (intsV lo (hi - lo).toNat)))) := by
  intro pins s σ H vs us Q I r h
  obtain ⟨a, lo, hi, rfl, ea, ⟨b1, b2, b3, b4⟩, hn, q⟩ := h
  rw [Vals.ref1 r]
  obtain ⟨t, u, v, ho⟩ := (show ObjOk X.prog X.w H s.heap a (.rng lo hi) from I.hok a _ ea)
  refine call_list_range (n := (hi - lo).toNat) (I.ok.hd hc) ho (small_one b1 b2 b3 b4) (by rw [rangeSize_one]; split <;> omega) (by omega) fun h' tk acc c k hl hit => ?_
  refine ⟨.ref s.heap.objs.size, upd H s.heap.objs.size (.lst (intsV lo (hi - lo).toNat)), I.laid (t' := tk) k (Nat.le_refl _) ⟨by rw [intsV_len]; have := sizeLine_eq; omega, acc.toList, c, intsV_vals _ lo _ (by simpa using hit.1) fun i v hv => ?_, ?_⟩, rfl, q _ I.fresh⟩
  · obtain ⟨t, e⟩ := hit.2 i v (by simpa using hv)
    exact ⟨t, by rw [e]; simp⟩
  · rw [hl]
def dListR (d : DA) : DX := fun t S => (d t S).bind fun ws S1 => match ws with
  | [.int j] => if -(2 ^ 62) ≤ j ∧ j < 2 ^ 62 ∧ j.toNat ≤ 1000000 then .ok (.lst (intsFrom 0 j.toNat)) S1 else .no
  | _ => .no
theorem de_listR {a : Expr} {d : DA} {p p2 pos pos2 : Pos} (c : Cok G X Wx) (ha : PA X [a] (toA G xv Wx d)) (h1 : X.mg "list" = none) (h2 : X.mg "range" = none) (g1 : Gl X "list" := by rfl) (g2 : Gl X "range" := by rfl)
    (he : starEach [Expr.Call (.Name "range" p2) [a] [] pos2] X.env = (false, eval (.Call (.Name "range" p2) [a] [] pos2) X.env) :: starEach [] X.env := by rfl) (he2 : starEach [a] X.env = (false, eval a X.env) :: starEach [] X.env := by rfl) :
    PE X (.Call (.Name "list" p) [.Call (.Name "range" p2) [a] [] pos2] [] pos) (toE G xv Wx (dListR d)) := by
  refine PEi (pe_callTy (cr_listRng c.calm) g1 h1 boot_list (pa_cons (pe_callTy cr_range1 g2 h2 boot_range ha (by decide) (by decide) he2 rfl) pa_nil he) (by decide) (by decide) he rfl) fun s H Q ⟨r, t, S, l, rl, o⟩ => ?_
  refine toX.bind l rl o fun ws S1 r1 H1 vs _ e1 rl1 l1 q o1 => ?_
  cases q with
  | nil => exact o1.elim
  | @cons w ws v vs a q =>
    cases q with
    | cons _ _ => cases w <;> exact o1.elim
    | nil =>
      cases w with
      | int j =>
        cases a
        simp only [] at o1
        split at o1
        · rename_i hb
          refine ⟨j, rfl, fun p hp => ⟨p, 0, j, rfl, upd_same, ⟨by decide, by decide, hb.1, hb.2.1⟩, by simpa using hb.2.2, fun l hl => ?_⟩⟩
          have ev := Ev.fresh (o := .rng 0 j) hp rl1
          have rl2 := rl1.fresh (o := .rng 0 j) hp
          simp only [Int.sub_zero]
          exact o1 r1 _ _ (ev.trans (Ev.fresh hl rl2)) (rl2.fresh hl) (.lst (Own.new hl rl2) (intsV_rw _ _))
        · exact o1.elim
      | _ => exact o1.elim
/-! ### one or the other -/
def orF (f g : Fn) : Fn := fun ws S => match f ws S with
  | .no => g ws S
  | x => x
theorem c_or {v : Value} {f g : Fn} (h1 : CallR X v (toC1 G xv f)) (h2 : CallR X v (toC1 G xv g)) : CallR X v (toC1 G xv (orF f g)) := by
  intro pins s σ H xs us Q I rv ⟨r, S, ws, rl, q, o⟩
  unfold orF at o
  cases e : f ws S with
  | no => rw [e] at o; exact h2 pins s σ H xs us Q I rv ⟨r, S, ws, rl, q, o⟩
  | ok w S1 => rw [e] at o; exact h1 pins s σ H xs us Q I rv ⟨r, S, ws, rl, q, by rw [e]; exact o⟩
  | er c ns us' S1 => rw [e] at o; exact h1 pins s σ H xs us Q I rv ⟨r, S, ws, rl, q, by rw [e]; exact o⟩
end
end DD
namespace DD
open PySem PySem.Spec PyProof.Rows L2
section
variable {G : Gx} {xv : Nat → Value} {Wx : WX} {X : Cx} {H H' : Hp} {S S' : Sto} {r r' : Rh}
/-! ### a list of the store is walked: it must stay as it is meanwhile -/
structure ItG (G : Gx) (H : Hp) (S : Sto) (r : Rh) (J : It) (p : Nat) (ws : List W) : Prop where
  go : ∀ H1 S1 r1, Mp H S r H1 S1 r1 → Rl G H1 S1 r1 → S1[p]? = some (.lst ws) → ∀ i w, ws[i]? = some w → J.go i H1
  yld : ∀ H1 S1 r1, Mp H S r H1 S1 r1 → Rl G H1 S1 r1 → S1[p]? = some (.lst ws) → ∀ i w, ws[i]? = some w → ∀ x H2, J.yld i H1 x H2 → Ev H1 S1 r1 H2 S1 r1 ∧ Rl G H2 S1 r1 ∧ RW G H2 S1 r1 w x
  stop : ∀ H1 S1 r1, Mp H S r H1 S1 r1 → Rl G H1 S1 r1 → S1[p]? = some (.lst ws) → ∀ i, ws.length ≤ i → J.stop i H1
abbrev toIR (G : Gx) (xv : Nat → Value) (Wx : WX) (d : Lo → Sto → R (Nat × List W)) : TI := toX G xv Wx (fun H S r w J => ItG G H S r J w.1 w.2) d
def dSeqR (d : DX) : Lo → Sto → R (Nat × List W) := fun t S => (d t S).bind fun w S1 => match w with
  | .ref p => match S1[p]? with
    | some (.lst ws) => .ok (p, ws) S1
    | _ => .no
  | _ => .no
theorem itG {p : Nat} {ws : List W} (hp : p < S.length) : ItG G H S r (Itl G.K (r p)) p ws where
  go := fun H1 S1 r1 e rl hg i w hw => by
    obtain ⟨ho, h1, h2⟩ := rl.at_ p _ hg (fun z => by cases z)
    cases h2 with
    | lst q =>
      obtain ⟨v, h3, _⟩ := q.get hw
      exact ⟨_, v, .inl (.inl (by rw [← e.rho p hp]; exact h1)), h3⟩
  yld := fun H1 S1 r1 e rl hg i w hw x H2 hy => by
    obtain ⟨ho, h1, h2⟩ := rl.at_ p _ hg (fun z => by cases z)
    cases h2 with
    | lst q =>
      obtain ⟨v, h3, h4⟩ := q.get hw
      obtain ⟨rfl, f⟩ := hy
      have := f _ (.inl (.inl (by rw [← e.rho p hp]; exact h1)))
      rw [h3] at this
      cases this
      exact ⟨.refl, rl, h4⟩
  stop := fun H1 S1 r1 e rl hg i hi => by
    obtain ⟨ho, h1, h2⟩ := rl.at_ p _ hg (fun z => by cases z)
    cases h2 with
    | lst q => exact ⟨_, .inl (.inl (by rw [← e.rho p hp]; exact h1)), by rw [← q.length]; exact hi⟩
theorem di_seqR {tg e : Expr} {d : DX} (k : Cok G X Wx) (he : PE X e (toE G xv Wx d)) : PI X tg e (toIR G xv Wx (dSeqR d)) := PIi (pi_list he) fun s H Q ⟨r, t, S, l, rl, o⟩ =>
  toX.bind l rl o fun w S1 r1 H1 v _ e1 rl1 l1 q o1 => by
    rw [k.kk]
    cases w with
    | ref p =>
      simp only [] at o1
      cases es : S1[p]? with
      | none => rw [es] at o1; exact o1.elim
      | some u =>
        rw [es] at o1
        cases u with
        | lst ws =>
          obtain ⟨ho, h1, h2⟩ := rl1.at_ p _ es (fun z => by cases z)
          cases q with
          | ref hi =>
            cases h2 with
            | lst q => exact ⟨_, rfl, ⟨_, .inl (.inl h1)⟩, o1 r1 H1 _ .refl rl1 (itG (List.getElem?_eq_some_iff.mp es).1)⟩
        | _ => exact o1.elim
    | _ => exact o1.elim
open Classical in
noncomputable def forLR (g : DG) (b : DS) (p : Nat) (us : List W) : List W → Lo → Sto → F
  | [], t, S => if S[p]? = some (.lst us) then .nx t S else .no
  | w :: ws, t, S => if S[p]? = some (.lst us) then match g w t S with
    | .ok t1 S1 => match b t1 S1 with
      | .nx t2 S2 => forLR g b p us ws t2 S2
      | .ct t2 S2 => forLR g b p us ws t2 S2
      | .bk t2 S2 => .nx t2 S2
      | x => x
    | _ => .no
    else .no
noncomputable def dForR (d : Lo → Sto → R (Nat × List W)) (g : DG) (b : DS) : DS := fun t S => (d t S).toF t fun ws S1 => forLR g b ws.1 ws.2 ws.2 t S1
theorem ds_forR {tg iter : Expr} {body : List Stmt} {d : Lo → Sto → R (Nat × List W)} {g : DG} {db : DS} {pos : Pos} (k : Cok G X Wx) (hi : PI X tg iter (toIR G xv Wx d)) (hg : PG X tg (toG G xv g)) (hb : PSs X body (toS G xv Wx db))
    (hs : ∀ x, foldedSetIterable iter X.env x = pure x := by intro _; rfl) : PS X (.For tg iter body [] pos) (toS G xv Wx (dForR d g db)) := PSi (ps_for k.po k.calm hi hg hb hs) fun D s H ⟨r, t, S, l, rl, o⟩ => by
  refine toX.bindS l rl o fun pw S1 r1 H1 J _ e1 rl1 l1 q o1 => ?_
  obtain ⟨p, ws⟩ := pw
  refine ⟨fun i m s2 H2 => ∃ r2 t2 S2, m + i = ws.length ∧ Ev H1 S1 r1 H2 S2 r2 ∧ Rl G H2 S2 r2 ∧ RLo G H2 S2 r2 t2 s2 ∧ OutS G xv Wx H2 S2 r2 (forLR g db p ws (ws.drop i) t2 S2) D, ⟨ws.length, r1, t, S1, rfl, .refl, rl1, l1, o1⟩, ?_⟩
  rintro i m s2 H2 ⟨r2, t2, S2, hm, e2, rl2, l2, o2⟩
  by_cases hi : i < ws.length
  · have hw : ws[i]? = some ws[i] := List.getElem?_eq_getElem hi
    rw [List.drop_eq_getElem_cons hi] at o2
    unfold forLR at o2
    split at o2
    · rename_i hG
      refine .inr ⟨q.go H2 S2 r2 e2.mp rl2 hG i _ hw, fun s3 H3 => ∃ r3 t3 S3, Ev H1 S1 r1 H3 S3 r3 ∧ Rl G H3 S3 r3 ∧ RLo G H3 S3 r3 t3 s3 ∧ OutS G xv Wx H3 S3 r3 (forLR g db p ws (ws.drop (i + 1)) t3 S3) D, fun s3 H3 ⟨r3, t3, S3, e3, rl3, l3, o3⟩ => ⟨m - 1, by omega, r3, t3, S3, by omega, e3, rl3, l3, o3⟩, fun x H3 hy => ?_⟩
      obtain ⟨e3, rl3, qx⟩ := q.yld H2 S2 r2 e2.mp rl2 hG i _ hw x H3 hy
      refine ⟨r2, t2, S2, ws[i], l2.ev e3, rl3, qx, ?_⟩
      have o3 := OutS.from e3 o2
      cases eg : g ws[i] t2 S2 with
      | er c ns us S4 => rw [eg] at o3; exact o3.elim
      | no => rw [eg] at o3; exact o3.elim
      | ok t4 S4 =>
        simp only [eg] at o3
        refine fun r4 H4 s4 e4 rl4 l4 => ⟨r4, t4, S4, l4, rl4, ?_⟩
        have o4 := OutS.from e4 o3
        cases eb : db t4 S4 with
        | nx t5 S5 => rw [eb] at o4; exact fun r5 H5 s5 e5 rl5 l5 => ⟨r5, t5, S5, ((e2.trans e3).trans e4).trans e5, rl5, l5, OutS.from e5 o4⟩
        | ct t5 S5 => rw [eb] at o4; exact fun r5 H5 s5 e5 rl5 l5 => ⟨r5, t5, S5, ((e2.trans e3).trans e4).trans e5, rl5, l5, OutS.from e5 o4⟩
        | bk t5 S5 => rw [eb] at o4; exact o4
        | rt w S5 => rw [eb] at o4; exact o4
        | er c ns us t5 S5 => rw [eb] at o4; exact o4
        | no => rw [eb] at o4; exact o4
    · exact o2.elim
  · have hl : ws.length ≤ i := Nat.le_of_not_lt hi
    rw [List.drop_eq_nil_of_le hl] at o2
    unfold forLR at o2
    split at o2
    · rename_i hG
      exact .inl ⟨q.stop H2 S2 r2 e2.mp rl2 hG i hl, o2 r2 H2 s2 .refl rl2 l2⟩
    · exact o2.elim
open Classical in
noncomputable def lcLR (g : Tg) (tt : DT) (te : DX) (t0 : Lo) (p : Nat) (us : List W) : List W → List W → Sto → R W
  | [], acc, S => if S[p]? = some (.lst us) then .ok (.lst acc) S else .no
  | w :: ws, acc, S => if S[p]? = some (.lst us) then match g.put w t0 with
    | some t1 => match tt t1 S with
      | .ok true S2 => match te t1 S2 with
        | .ok x S3 => if acc.length < sizeLine then lcLR g tt te t0 p us ws (acc ++ [x]) S3 else .no
        | _ => .no
      | .ok false S2 => lcLR g tt te t0 p us ws acc S2
      | _ => .no
    | none => .no
    else .no
noncomputable def dLcR (d : Lo → Sto → R (Nat × List W)) (g : Tg) (tt : DT) (te : DX) (vs : List Nat) : DX := fun t S => (d t S).bind fun ws S1 => lcLR g tt te (wipeW t vs) ws.1 ws.2 ws.2 [] S1
theorem toLcR {d : Lo → Sto → R (Nat × List W)} {g : Tg} {tt : DT} {te : DX} {vs : List Nat} (hv : ∀ i ∈ g.places, i ∈ vs) (s : L2.St) (H : Hp) (Q : VK) : toE G xv Wx (dLcR d g tt te vs) s H Q → tLc (toIR G xv Wx d) (g.toTG G.K) (toT G xv W0 tt) (toE G xv W0 te) vs s H Q := by
  rintro ⟨r, t, S, l, rl, o⟩
  refine toX.bind l rl o fun pw S1 r1 H1 J _ e1 rl1 l1 q o1 => ?_
  obtain ⟨p, ws⟩ := pw
  intro D hD
  obtain ⟨f1, z1⟩ := r1
  have hz1 : ¬ z1 D := fun z => by
    obtain ⟨u, h⟩ := rl1.zs D z
    rw [hD] at h; cases h
  have sub : ∀ a, z1 a → (z1 a ∨ a = D) := fun a h => .inl h
  -- from the base into a state with D
  have inn : ∀ {H2 : Hp} {S2 : Sto} {f2 : Nat → Addr}, Ev H1 S1 ⟨f1, z1⟩ H2 S2 ⟨f2, z1⟩ → Mp H1 S1 ⟨f1, z1⟩ H2 S2 ⟨f2, fun a => z1 a ∨ a = D⟩ := fun {H2 S2 f2} e2 =>
    ⟨fun a u ow => ⟨(ow.ev e2).1, fun lv => by
      rcases lv with lv | lv | lv
      · exact (ow.ev e2).2 (.inl lv)
      · exact (ow.ev e2).2 (.inr lv)
      · exact ne_of_none ow.1 hD lv⟩, e2.rho, e2.len⟩
  refine ⟨fun i m H2 => ∃ (f2 : Nat → Addr) (S2 : Sto) (acc : List W) (av : List V), m + i = ws.length ∧ Ev H1 S1 ⟨f1, z1⟩ H2 S2 ⟨f2, z1⟩ ∧ Rl G H2 S2 ⟨f2, fun a => z1 a ∨ a = D⟩ ∧ H2 D = some (.lst av) ∧ RWs G H2 S2 ⟨f2, fun a => z1 a ∨ a = D⟩ acc av ∧
      OutE G xv Wx (fun H S r w v => RW G H S r w v) s H1 S1 ⟨f1, z1⟩ (lcLR g tt te (wipeW t vs) p ws (ws.drop i) acc S2) Q,
    ⟨ws.length, f1, S1, [], [], rfl, Ev.fresh hD rl1, rl1.add hD, upd_same, .nil, o1⟩, ?_⟩
  rintro i m H2 ⟨f2, S2, acc, av, hm, e2, rl2, d2, qa, o2⟩
  by_cases hi : i < ws.length
  · have hw : ws[i]? = some ws[i] := List.getElem?_eq_getElem hi
    rw [List.drop_eq_getElem_cons hi] at o2
    unfold lcLR at o2
    split at o2
    · rename_i hG
      refine .inr ⟨q.go H2 S2 _ (inn e2) rl2 hG i _ hw, fun H3 => ∃ (f3 : Nat → Addr) (S3 : Sto) (acc : List W) (av : List V), Ev H1 S1 ⟨f1, z1⟩ H3 S3 ⟨f3, z1⟩ ∧ Rl G H3 S3 ⟨f3, fun a => z1 a ∨ a = D⟩ ∧ H3 D = some (.lst av) ∧ RWs G H3 S3 ⟨f3, fun a => z1 a ∨ a = D⟩ acc av ∧
        OutE G xv Wx (fun H S r w v => RW G H S r w v) s H1 S1 ⟨f1, z1⟩ (lcLR g tt te (wipeW t vs) p ws (ws.drop (i + 1)) acc S3) Q, fun H3 ⟨f3, S3, acc, av, a1, a2, a3, a4, a5⟩ => ⟨m - 1, by omega, f3, S3, acc, av, by omega, a1, a2, a3, a4, a5⟩, fun x H3 hy => ?_⟩
      obtain ⟨e3, rl3, qx⟩ := q.yld H2 S2 _ (inn e2) rl2 hG i _ hw x H3 hy
      have b3 : Ev H1 S1 ⟨f1, z1⟩ H3 S2 ⟨f2, z1⟩ := e2.trans (e3.less rl3 sub)
      have d3 : H3 D = some (.lst av) := e3.kz D _ d2 (.inr rfl)
      have l3 : RLo G H3 S2 ⟨f2, fun a => z1 a ∨ a = D⟩ (wipeW t vs) (wipe s vs) := (l1.mp (inn b3)).wipe vs
      cases eg : g.put ws[i] (wipeW t vs) with
      | none => rw [eg] at o2; exact o2.elim
      | some t4 =>
        simp only [eg] at o2
        refine Tg.ok hv qx l3 eg fun s4 l4 w4 => ⟨by rw [w4, wipe_wipe], _, t4, S2, l4, rl3, ?_⟩
        cases et : tt t4 S2 with
        | er c ns us S5 => simp only [et] at o2; exact o2.elim
        | no => simp only [et] at o2; exact o2.elim
        | ok k S5 =>
          rintro ⟨f5, z5⟩ H5 k' e5 rl5 rfl
          have hz5 : z5 = fun a => z1 a ∨ a = D := e5.zz
          subst hz5
          have b5 : Ev H1 S1 ⟨f1, z1⟩ H5 S5 ⟨f5, z1⟩ := b3.trans (e5.less rl5 sub)
          have d5 : H5 D = some (.lst av) := e5.kz D _ d3 (.inr rfl)
          have qa5 := (qa.ev e3).ev e5
          cases k with
          | false =>
            simp only [et] at o2
            rw [if_neg Bool.false_ne_true]
            exact ⟨f5, S5, acc, av, b5, rl5, d5, qa5, o2⟩
          | true =>
            simp only [et] at o2
            rw [if_pos rfl]
            refine ⟨_, t4, S5, l4.ev e5, rl5, ?_⟩
            cases ee : te t4 S5 with
            | er c ns us S6 => simp only [ee] at o2; exact o2.elim
            | no => simp only [ee] at o2; exact o2.elim
            | ok y S6 =>
              simp only [ee] at o2
              rintro ⟨f6, z6⟩ H6 v e6 rl6 qy
              have hz6 : z6 = fun a => z1 a ∨ a = D := e6.zz
              subst hz6
              have b6 : Ev H1 S1 ⟨f1, z1⟩ H6 S6 ⟨f6, z1⟩ := b5.trans (e6.less rl6 sub)
              have d6 : H6 D = some (.lst av) := e6.kz D _ d5 (.inr rfl)
              have qa6 := qa5.ev e6
              have hl : av.length = acc.length := qa6.length.symm
              by_cases hs : acc.length < sizeLine
              · rw [if_pos hs] at o2
                have mp : Mp H6 S6 ⟨f6, fun a => z1 a ∨ a = D⟩ (upd H6 D (.lst (av ++ [v]))) S6 ⟨f6, fun a => z1 a ∨ a = D⟩ := Mp.poke (.inr rfl)
                exact ⟨av, d6, by rw [hl]; exact hs, f6, S6, acc ++ [y], av ++ [v], b6.poke hD, rl6.poke (.inr rfl), upd_same, (qa6.mp mp).snoc (qy.mp mp), o2⟩
              · rw [if_neg hs] at o2; exact o2.elim
    · exact o2.elim
  · have hl : ws.length ≤ i := Nat.le_of_not_lt hi
    rw [List.drop_eq_nil_of_le hl] at o2
    unfold lcLR at o2
    split at o2
    · rename_i hG
      refine .inl ⟨q.stop H2 S2 _ (inn e2) rl2 hG i hl, o2 ⟨f2, z1⟩ H2 _ e2 (rl2.less sub) (.lst ⟨d2, ?_⟩ (qa.mp (.less sub)))⟩
      rintro (⟨j, u, e, d, z⟩ | z)
      · exact rl2.dz j u e d (.inr z)
      · exact hz1 z
    · exact o2.elim
theorem de_lcR {elt tg iter : Expr} {ifs : List Expr} {scope : Scope} {own : List (Str × Nat)} {pos : Pos} {d : Lo → Sto → R (Nat × List W)} {g : Tg} {tt : DT} {te : DX} (k : Cok G X Wx) (hi : PI X tg iter (toIR G xv Wx d)) (ok : blkC X.N X.env.scope scope own = true)
    (hg : ∀ (s : Shared) (H : Hp) (C : Addr) (cl : List (Str × Addr)) (fp : List Addr), Cok G (X.blk s H scope (compEnvC scope cl C X.env) fp) W0 → PG (X.blk s H scope (compEnvC scope cl C X.env) fp) tg (g.toTG G.K))
    (ht : ∀ (s : Shared) (H : Hp) (C : Addr) (cl : List (Str × Addr)) (fp : List Addr), Cok G (X.blk s H scope (compEnvC scope cl C X.env) fp) W0 → PTs (X.blk s H scope (compEnvC scope cl C X.env) fp) ifs (toT G xv W0 tt))
    (he : ∀ (s : Shared) (H : Hp) (C : Addr) (cl : List (Str × Addr)) (fp : List Addr), Cok G (X.blk s H scope (compEnvC scope cl C X.env) fp) W0 → PE (X.blk s H scope (compEnvC scope cl C X.env) fp) elt (toE G xv W0 te))
    (hv : (g.places.all fun i => (own.map (·.2)).contains i) = true := by rfl) (hs : ∀ x, foldedSetIterable iter X.env x = pure x := by intro _; rfl) :
    PE X (.ListComp elt [⟨tg, iter, ifs, 0⟩] scope pos) (toE G xv Wx (dLcR d g tt te (own.map (·.2)))) :=
  PEi (pe_lc k.calm k.nd hi (blkOk_by ok) (fun s H C cl fp => hg s H C cl fp (k.blk s H _ _ fp)) (fun s H C cl fp => ht s H C cl fp (k.blk s H _ _ fp)) (fun s H C cl fp => he s H C cl fp (k.blk s H _ _ fp)) hs) (toLcR fun i h => by
    have := List.all_eq_true.mp hv i h
    simpa using this)
theorem ds_setLcR {i : Nat} {y : Str} {py : Pos} {elt tg iter : Expr} {ifs : List Expr} {scope : Scope} {own : List (Str × Nat)} {pos spos : Pos} {d : Lo → Sto → R (Nat × List W)} {g : Tg} {tt : DT} {te : DX} (k : Cok G X Wx) (hi : PI X tg iter (toIR G xv Wx d)) (ok : blkC X.N X.env.scope scope own = true)
    (hg : ∀ (s : Shared) (H : Hp) (C : Addr) (cl : List (Str × Addr)) (fp : List Addr), Cok G (X.blk s H scope (compEnvC scope cl C X.env) fp) W0 → PG (X.blk s H scope (compEnvC scope cl C X.env) fp) tg (g.toTG G.K))
    (ht : ∀ (s : Shared) (H : Hp) (C : Addr) (cl : List (Str × Addr)) (fp : List Addr), Cok G (X.blk s H scope (compEnvC scope cl C X.env) fp) W0 → PTs (X.blk s H scope (compEnvC scope cl C X.env) fp) ifs (toT G xv W0 tt))
    (he : ∀ (s : Shared) (H : Hp) (C : Addr) (cl : List (Str × Addr)) (fp : List Addr), Cok G (X.blk s H scope (compEnvC scope cl C X.env) fp) W0 → PE (X.blk s H scope (compEnvC scope cl C X.env) fp) elt (toE G xv W0 te))
    (hsw : swapsWith (.ListComp elt [⟨tg, iter, ifs, 0⟩] scope pos) (some (.Name y py)) spos.line X.env = pure true) (hy : X.N[i]? = some y := by rfl) (hyl : X.env.scope.names.lookup y = some .local := by rfl)
    (hv : (g.places.all fun i => (own.map (·.2)).contains i) = true := by rfl) (hs : ∀ x, foldedSetIterable iter X.env x = pure x := by intro _; rfl) :
    PS X (.Assign [.Name y py] (.ListComp elt [⟨tg, iter, ifs, 0⟩] scope pos) spos) (toS G xv Wx (dAsg (dLcR d g tt te (own.map (·.2))) (gN i))) :=
  PSi (ps_setLc k.calm k.nd hy hyl hsw hi (blkOk_by ok) (fun s H C cl fp => hg s H C cl fp (k.blk s H _ _ fp)) (fun s H C cl fp => ht s H C cl fp (k.blk s H _ _ fp)) (fun s H C cl fp => he s H C cl fp (k.blk s H _ _ fp)) hs) fun D s H ⟨r, t, S, l, rl, o⟩ => by
    refine toLcR (G := G) (xv := xv) (Wx := Wx) (fun i h => by
      have := List.all_eq_true.mp hv i h
      simpa using this) s H _ ⟨r, t, S, l, rl, ?_⟩
    unfold dAsg at o
    cases e : dLcR d g tt te (own.map (·.2)) t S with
    | ok w S1 =>
      rw [e] at o
      exact fun r1 H1 v e1 rl1 q => o r1 H1 _ e1 rl1 ((l.ev e1).set q i)
    | er c ns ws S1 =>
      rw [e] at o
      exact fun r1 H1 dd e1 rl1 x => o r1 H1 s dd e1 rl1 (l.ev e1) x
    | no => rw [e] at o; exact o.elim
end
end DD
namespace DD
open PySem PySem.Spec PyProof.Rows L2
/-! ### errors of one's own -/
def oexB (K : PySem.W.Frag) (C : Addr) : Bool := (match K.lookup C with
  | some ⟨.type "type", _, .cls cd, sl⟩ => (match cd.mro, sl.toList with
    | .ref C' :: bm, [_, _, _, _, some (.builtin n), _] => C' == C && n == "ValueError.__new__" && !cd.hasDel && cd.hasDict && PySem.HandSPX.refsVE bm
    | _, _ => false)
  | _ => false) && decide (PySem.W.findIn K (.ref C) "__setattr__" = some (some (.builtin "object.__setattr__"))) && decide (PySem.W.subIn K (.ref C) (.type "BaseException") = some true) && decide (PySem.W.typeIn K (.ref C) = some (.type "type")) && PySem.W.keepIn K (.ref C)
theorem oexB_ok {K : PySem.W.Frag} {C : Addr} (h : oexB K C = true) : OexC K C := by
  unfold oexB at h
  rw [Bool.and_eq_true, Bool.and_eq_true, Bool.and_eq_true, Bool.and_eq_true] at h
  obtain ⟨⟨⟨⟨q, h2⟩, h3⟩, h4⟩, h5⟩ := h
  refine ⟨?_, of_decide_eq_true h2, of_decide_eq_true h3, of_decide_eq_true h4, h5⟩
  split at q
  · rename_i dd cd sl ho
    split at q
    · rename_i C' bm k0 k1 k2 k3 n k5 hm hs
      simp only [Bool.and_eq_true, beq_iff_eq, Bool.not_eq_true'] at q
      obtain ⟨⟨⟨⟨rfl, rfl⟩, hdel⟩, hd⟩, ht⟩ := q
      obtain ⟨nm, bs, mro, ns, qn, hd', sn, sub, ab, col, del⟩ := cd
      dsimp only at hm hdel hd
      subst hm hdel hd
      have hsl : sl = #[k0, k1, k2, k3, some (.builtin "ValueError.__new__"), k5] := by
        obtain ⟨l⟩ := sl
        simp only at hs
        rw [hs]
      subst hsl
      exact ⟨nm, qn, ns, bs, bm, sn, sub, ab, col, dd, k0, k1, k2, k3, k5, ho, ht⟩
    · cases q
  · cases q
/-- what the top says of an error class with an __init__ at fI -/
structure Exc1 (K : PySem.W.Frag) (C fI : Addr) (f : Str) : Prop where
  ox : OexC K C
  iC : PySem.W.findIn K (.ref C) "__init__" = some (some (.ref fI))
  tI : PySem.W.typeIn K (.ref fI) = some (.type "function")
  no : PySem.W.findIn K (.ref C) f = some none
/-- what __init__ does: self.f = f -/
def spX1 (C : Addr) (f : Str) : Sp := fun vs H Q _ => ∃ (a : Addr) (v : V), vs = [.ref a, v] ∧ H a = some (exo a C none) ∧ ∀ dx, H dx = none → dx ≠ a → Q .non (upd (upd H dx (exd dx [(f, v)])) a (exo a C (some dx)))
theorem init1_ok {P : Program} {w : World} {K : PySem.W.Frag} {mg : Str → Option Value} {base : Heap} {C fI : Addr} {f x y qual nm : Str} {params : Arguments} {body : List Stmt} {scope : Scope} {dvs : List V} {kws : List (Str × V)} {fd : FuncData}
    (F : FunD K nm qual params body scope dvs kws fI fd) (Sc : FnScope [x, y] [x, y] scope) (T : Exc1 K C fI f)
    (hb : ∀ (cdv : Value) (A : Around) (outer : List Env) (s : Shared) (H : Hp) (E : XK), PSs (cxOf (L2.CX P w) P w K mg base [x, y] qual scope fI cdv A outer s H E) body (tOst K f (tVar 0) (tVar 1))) : FnOk P w K mg base (L2.CX P w) 1 fI fd [x, y] (spX1 C f) := by
  refine F.ok Sc (fun vs H Q E h => ?_) fun cdv A outer s H vs Q E hr h => ⟨tOst K f (tVar 0) (tVar 1), hb cdv A outer s H E, ?_⟩
  · obtain ⟨a, v, rfl, _⟩ := h
    rfl
  · obtain ⟨a, v, rfl, ha, h⟩ := h
    exact ⟨_, rfl, _, rfl, a, C, rfl, T.ox, T.no, .inl ⟨ha, fun dx h1 h2 => h dx h1 h2⟩⟩
section
variable {G : Gx} {xv : Nat → Value} {Wx : WX} {X : Cx} {H H' : Hp} {S S' : Sto} {r r' : Rh}
/-- an __init__ that keeps its promise -/
def InitOk (P : Program) (w : World) (K : PySem.W.Frag) (mg : Str → Option Value) (base : Heap) (C fI : Addr) (f : Str) (k : Nat) : Prop := ∃ fd ps, ps.length = 2 ∧ FnOk P w K mg base (L2.CX P w) k fI fd ps (spX1 C f) ∧ Binds K fd ps []
theorem init1_ok' {P : Program} {w : World} {K : PySem.W.Frag} {mg : Str → Option Value} {base : Heap} {C fI : Addr} {f x y qual nm : Str} {params : Arguments} {body : List Stmt} {scope : Scope} {kws : List (Str × V)}
    (F : ∃ fd, FunD K nm qual params body scope [] kws fI fd) (Sc : FnScope [x, y] [x, y] scope) (T : Exc1 K C fI f)
    (hb : ∀ (cdv : Value) (A : Around) (outer : List Env) (s : Shared) (H : Hp) (E : XK), PSs (cxOf (L2.CX P w) P w K mg base [x, y] qual scope fI cdv A outer s H E) body (tOst K f (tVar 0) (tVar 1)))
    (hbi : ∀ fd, FunD K nm qual params body scope [] kws fI fd → Binds K fd [x, y] []) : InitOk P w K mg base C fI f 1 := by
  obtain ⟨fd, F⟩ := F
  exact ⟨fd, [x, y], rfl, init1_ok F Sc T hb, hbi fd F⟩
/-- raise C(e), C with the one field f -/
def dRaise1 (c : Nat) (f : Str) (e : DX) : DS := fun t S => (e t S).toF t fun v S1 => .er c [f] [v] t S1
theorem upd_raise {H : Hp} {a d : Addr} {u u' v w : HO} (ha : H a = none) (hd : H d = none) (ne : d ≠ a) : upd (del (upd (upd (upd H a u) d v) a u') a) d w = upd H d w := by
  funext b
  by_cases h : b = d
  · subst h; rw [upd_same, upd_same]
  · rw [upd_ne h, upd_ne h]
    by_cases h2 : b = a
    · subst h2; rw [del_same, ha]
    · rw [del_ne h2, upd_ne h2, upd_ne h, upd_ne h2]
theorem ds_raise1 {c : Nat} {x f : Str} {e : Expr} {de : DX} {fI : Addr} {j : Nat} {p pos pos2 : Pos} (k : Cok G X Wx) (T : Exc1 X.K (G.cm c) fI f) (hi : InitOk X.prog X.w X.K X.mg X.base (G.cm c) fI f j) (hr : Room (j + 1) X.A) (hm : X.mg x = some (.ref (G.cm c))) (hx : xv c = .ref (G.cm c))
    (he : PE X e (toE G xv Wx de)) (hg : Gl X x := by rfl) (hdb : (x == ("__debug__" : Str)) = false := by decide) (hs : starEach [e] X.env = (false, eval e X.env) :: starEach [] X.env := by rfl) :
    PS X (.Raise (some (.Call (.Name x p) [e] [] pos)) none pos2) (toS G xv Wx (dRaise1 c f de)) := by
  obtain ⟨fd, ps, hp, F, hb⟩ := hi
  have hx0 : Passes (L2.CX X.prog X.w) X (fun _ _ _ => False) := passL
  refine PSi (ps_raise k.calm k.tk (pmk_oex (dvs := []) (ta := toA G xv Wx (dCons de dNil)) T.ox T.iC T.tI F hr hb .nil hx0 hg hm (da_cons he da_nil hs) hdb hs rfl)) fun D s H ⟨r, t, S, l, rl, o⟩ => ?_
  unfold dRaise1 at o
  refine ⟨r, t, S, l, rl, ?_⟩
  unfold dCons
  cases ee : de t S with
  | no => rw [ee] at o; exact o.elim
  | er c' ns ws S1 =>
    rw [ee] at o
    exact fun r1 H1 d e1 rl1 xd => o r1 H1 s d e1 rl1 (l.ev e1) xd
  | ok w S1 =>
    rw [ee] at o
    intro r1 H1 vs e1 rl1 q
    cases q with
    | @cons _ _ v _ q1 qn =>
      cases qn
      refine ⟨by simp, fun a ha => ⟨a, v, rfl, upd_same, fun dx h1 h2 => ⟨rfl, dx, [(f, v)], upd_same, ?_, ?_, ?_⟩⟩⟩
      · rw [upd_ne h2, upd_same]
      · rw [upd_ne h2] at h1; exact h1
      · have hd1 : H1 dx = none := by rw [upd_ne h2] at h1; exact h1
        rw [upd_raise ha hd1 h2, ← hx]
        exact o r1 _ s (some dx) (e1.trans (Ev.fresh hd1 rl1)) (rl1.fresh hd1) ((l.ev e1).ev (Ev.fresh hd1 rl1)) (.inr ⟨dx, [v], rfl, Own.new hd1 rl1, rfl, .cons (q1.ev (Ev.fresh hd1 rl1)) .nil⟩)
theorem pvx {x : Str} {pos : Pos} (i : Nat) (hN : X.N[i]? = some x := by rfl) (hv : Vis X.env.scope x := by first | exact Or.inl rfl | exact Or.inr (Or.inl rfl) | exact Or.inr (Or.inr rfl)) (hd : (x == ("__debug__" : Str)) = false := by decide) (hcd : (x == ("__classdict__" : Str)) = false := by decide) : PE X (.Name x pos) (tVar i) := pe_var (i := i) hN hv hd hcd
/-! ### try .. except X as n -/
def dTry1 (b : DS) (m : Nat → Option Bool) (i : Nat) (h : Nat → List Str → List W → DS) : DS := fun t S => match b t S with
  | .er c ns ws t1 S1 => match m c with
    | some true => if i < t1.length then (match h c ns ws (t1.set i none) S1 with
        | .nx t2 S2 => .nx (t2.set i none) S2
        | .bk t2 S2 => .bk (t2.set i none) S2
        | .ct t2 S2 => .ct (t2.set i none) S2
        | .rt w S2 => .rt w S2
        | _ => .no) else .no
    | some false => .er c ns ws t1 S1
    | none => .no
  | x => x
theorem RLo.setN {o : Option V} : ∀ {t : Lo} {s : L2.St} (i : Nat), RLo G H S r t s → RLo G H S r (t.set i none) (s.set i o)
  | _, _, _, .nil => .nil
  | _, _, 0, .non q => .non q
  | _, _, 0, .som _ q => .non q
  | _, _, i + 1, .non q => .non (q.setN i)
  | _, _, i + 1, .som a q => .som a (q.setN i)
theorem RLo.len : ∀ {t : Lo} {s : L2.St}, RLo G H S r t s → t.length = s.length
  | _, _, .nil => rfl
  | _, _, .non q => congrArg Nat.succ q.len
  | _, _, .som _ q => congrArg Nat.succ q.len
/-- in an except suite: the error at a, of the class cls, its own dict d, its name in slot i -/
def toXx (G : Gx) (xv : Nat → Value) (a : Addr) (cls : Value) (d : Option Addr) (i : Nat) {α β : Type} (rel : Hp → Sto → Rh → α → β → Prop) (e : Nat → List Str → List W → Lo → Sto → R α) : L2.St → Hp → (β → Hp → Prop) → Prop := fun s H Q =>
  ∃ r t S c ns ws, cls = xv c ∧ s[i]? = some (some (.ref a)) ∧ Xd G H S r d ns ws ∧ RLo G H S r t s ∧ Rl G H S r ∧ OutE G xv W0 rel s H S r (e c ns ws t S) Q
abbrev toEx (G : Gx) (xv : Nat → Value) (a : Addr) (cls : Value) (d : Option Addr) (i : Nat) (e : Nat → List Str → List W → DX) : TE := toXx G xv a cls d i (fun H S r w v => RW G H S r w v) e
abbrev toAx (G : Gx) (xv : Nat → Value) (a : Addr) (cls : Value) (d : Option Addr) (i : Nat) (e : Nat → List Str → List W → DA) : TA := toXx G xv a cls d i (fun H S r w v => RWs G H S r w v) e
def toSx (G : Gx) (xv : Nat → Value) (a : Addr) (cls : Value) (d : Option Addr) (i : Nat) (b : Nat → List Str → List W → DS) : TS := fun D s H =>
  ∃ r t S c ns ws, cls = xv c ∧ s[i]? = some (some (.ref a)) ∧ Xd G H S r d ns ws ∧ RLo G H S r t s ∧ Rl G H S r ∧ OutS G xv W0 H S r (b c ns ws t S) D
theorem ds_try1 {i : Nat} {x n : Str} {cE : Value} {body suite : List Stmt} {b₀ : Stmt} {np pos pos' : Pos} {db : DS} {dh : Nat → List Str → List W → DS} {m : Nat → Option Bool} (k : Cok G X Wx) (hs : X.stack = X.env :: X.outer) (hf : X.env.frame = some X.env.locals) (hc : Names X x cE)
    (hm : ∀ c b, m c = some b → PySem.W.exmOne X.K (xv c) cE = some b)
    (hb : ∀ (W : WX) (pn : List (Addr × Obj)) (xe : Value → Shared → Prop), Cok G (X.tr pn xe) W → PSs (X.tr pn xe) body (toS G xv W db))
    (hsu : ∀ (a : Addr) (oe : Obj) (cls : Value) (d : Option Addr) (pn : List (Addr × Obj)), Zc cls d oe → (∃ vs, oe.data = .fields vs) → PSs (X.suite a ((a, oe) :: pn)) (b₀ :: suite) (toSx G xv a cls d i dh))
    (hi : X.N[i]? = some n := by rfl) (hln : X.env.kindOf n = some .local := by rfl) :
    PS X (.Try body [.ExceptHandler (some (.Name x np)) (some n) (b₀ :: suite) pos'] [] [] pos) (toS G xv Wx (dTry1 db m i dh)) :=
  PSi (ps_try_as (tb := fun W => toS G xv W db) (ts := fun a cls d => toSx G xv a cls d i dh) hs hf k.nd hi hln hc k.tk (fun W pn xe tk po => hb W pn xe ⟨k.kk, tk, po, k.calm, k.nd⟩) hsu) fun D s H ⟨r, t, S, l, rl, o⟩ => by
    refine ⟨r, t, S, l, rl, ?_⟩
    unfold dTry1 at o
    cases e : db t S with
    | nx t1 S1 => rw [e] at o; exact o
    | rt w S1 => rw [e] at o; exact o
    | bk t1 S1 => rw [e] at o; exact o
    | ct t1 S1 => rw [e] at o; exact o
    | no => rw [e] at o; exact o
    | er c ns ws t1 S1 =>
      rw [e] at o
      intro r1 H1 s1 d e1 rl1 l1 xd
      simp only [] at o
      cases em : m c with
      | none => rw [em] at o; exact o.elim
      | some b =>
        refine ⟨b, hm c b em, ?_, ?_⟩
        · rintro rfl
          intro a ha
          rw [em] at o
          simp only [] at o
          split at o
          · rename_i hlt
            have hl1 : i < s1.length := by rw [← l1.len]; exact hlt
            refine ⟨r1, t1.set i none, S1, c, ns, ws, rfl, List.getElem?_set_self hl1, xd, l1.setN i, rl1, ?_⟩
            have o2 := OutS.from e1 o
            cases eh : dh c ns ws (t1.set i none) S1 with
            | nx t2 S2 => rw [eh] at o2; exact fun r2 H2 s2 e2 rl2 l2 => o2 r2 H2 _ e2 rl2 (l2.setN i)
            | bk t2 S2 => rw [eh] at o2; exact fun r2 H2 s2 e2 rl2 l2 => o2 r2 H2 _ e2 rl2 (l2.setN i)
            | ct t2 S2 => rw [eh] at o2; exact fun r2 H2 s2 e2 rl2 l2 => o2 r2 H2 _ e2 rl2 (l2.setN i)
            | rt w S2 => rw [eh] at o2; exact o2
            | er c2 ns2 ws2 t2 S2 => rw [eh] at o2; exact o2.elim
            | no => rw [eh] at o2; exact o2.elim
          · exact o.elim
        · rintro rfl
          rw [em] at o
          exact o r1 H1 s1 d e1 rl1 l1 xd
/-! what an except suite is made of -/
section
variable {a : Addr} {cls : Value} {d : Option Addr} {i : Nat}
theorem toXx.bind {α β γ δ : Type} {rel : Hp → Sto → Rh → α → β → Prop} {rel' : Hp → Sto → Rh → γ → δ → Prop} {f : α → Sto → R γ} {t : Lo} {s : L2.St} {Q : β → Hp → Prop} {Q' : δ → Hp → Prop} {e : Nat → List Str → List W → Lo → Sto → R α} {c : Nat} {ns : List Str} {ws : List W}
    (hc : cls = xv c) (hi : s[i]? = some (some (.ref a))) (x : Xd G H S r d ns ws) (l : RLo G H S r t s) (rl : Rl G H S r) (o : OutE G xv W0 rel' s H S r ((e c ns ws t S).bind f) Q')
    (h : ∀ u S' r' H' b, e c ns ws t S = .ok u S' → Ev H S r H' S' r' → Rl G H' S' r' → RLo G H' S' r' t s → Xd G H' S' r' d ns ws → rel H' S' r' u b → OutE G xv W0 rel' s H' S' r' (f u S') Q' → Q b H') : toXx G xv a cls d i rel e s H Q := by
  refine ⟨r, t, S, c, ns, ws, hc, hi, x, l, rl, ?_⟩
  cases ee : e c ns ws t S with
  | ok u S1 =>
    rw [ee] at o
    exact fun r1 H1 b e1 rl1 q => h u S1 r1 H1 b ee e1 rl1 (l.ev e1) (x.ev e1) q (OutE.from e1 o)
  | er c' ns' ws' S1 => rw [ee] at o; exact o
  | no => rw [ee] at o; exact o
theorem xe_of {e : Expr} {de : DX} (h : PE X e (toE G xv W0 de)) : PE X e (toEx G xv a cls d i fun _ _ _ => de) := PEi h fun s H Q ⟨r, t, S, c, ns, ws, _, _, _, l, rl, o⟩ => ⟨r, t, S, l, rl, o⟩
theorem xa_nil : PA X [] (toAx G xv a cls d i fun _ _ _ => dNil) := PAi pa_nil fun s H Q ⟨r, t, S, c, ns, ws, _, _, _, l, rl, o⟩ => o r H [] .refl rl .nil
theorem xa_cons {e : Expr} {es : List Expr} {d1 : Nat → List Str → List W → DX} {d2 : Nat → List Str → List W → DA} (h1 : PE X e (toEx G xv a cls d i d1)) (h2 : PA X es (toAx G xv a cls d i d2)) (he : starEach (e :: es) X.env = (false, eval e X.env) :: starEach es X.env := by rfl) : PA X (e :: es) (toAx G xv a cls d i fun c ns ws => dCons (d1 c ns ws) (d2 c ns ws)) :=
  PAi (pa_cons h1 h2 he) fun s H Q ⟨r, t, S, c, ns, ws, hc, hi, x, l, rl, o⟩ => toXx.bind hc hi x l rl o fun w S1 r1 H1 v _ e1 rl1 l1 x1 q o1 => toXx.bind hc hi x1 l1 rl1 o1 fun us S2 r2 H2 vs _ e2 rl2 l2 x2 qs o2 => o2 r2 H2 _ .refl rl2 (.cons (q.ev e2) qs)
theorem xe_tup {es : List Expr} {x1} {de : Nat → List Str → List W → DA} {pos : Pos} (h : PA X es (toAx G xv a cls d i de)) : PE X (.Tuple es x1 pos) (toEx G xv a cls d i fun c ns ws => dTup (de c ns ws)) := PEi (pe_tup h) fun s H Q ⟨r, t, S, c, ns, ws, hc, hi, x, l, rl, o⟩ =>
  toXx.bind hc hi x l rl o fun us S1 r1 H1 vs _ e1 rl1 l1 x1 q o1 => by
    by_cases hl : us.length ≤ sizeLine
    · rw [if_pos hl] at o1
      exact ⟨by rw [← q.length]; exact hl, fun p hp => o1 r1 _ _ (Ev.fresh hp rl1) (rl1.fresh hp) (.tup (.inl (Own.new hp rl1)) (q.ev (Ev.fresh hp rl1)))⟩
    · rw [if_neg hl] at o1; exact o1.elim
theorem xe_lst {es : List Expr} {de : Nat → List Str → List W → DA} {pos : Pos} (h : PA X es (toAx G xv a cls d i de)) : PE X (.List es pos) (toEx G xv a cls d i fun c ns ws => dLst (de c ns ws)) := PEi (pe_lst h) fun s H Q ⟨r, t, S, c, ns, ws, hc, hi, x, l, rl, o⟩ =>
  toXx.bind hc hi x l rl o fun us S1 r1 H1 vs _ e1 rl1 l1 x1 q o1 => by
    by_cases hl : us.length ≤ sizeLine
    · rw [if_pos hl] at o1
      exact ⟨by rw [← q.length]; exact hl, fun p hp => o1 r1 _ _ (Ev.fresh hp rl1) (rl1.fresh hp) (.lst (Own.new hp rl1) (q.ev (Ev.fresh hp rl1)))⟩
    · rw [if_neg hl] at o1; exact o1.elim
/-- n.f -/
def dXf (cs : List Nat) (f : Str) : Nat → List Str → List W → DX := fun c ns ws _ S => if cs.contains c = true then match fget ns ws f with
  | some w => .ok w S
  | none => .no
  else .no
theorem xe_fld {n f : Str} {oe : Obj} {pn : List (Addr × Obj)} {cs : List Nat} {np pos : Pos} (hz : Zc cls d oe) (hf : ∃ vs, oe.data = .fields vs) (hx : ∀ c, xv c = .ref (G.cm c)) (hcs : ∀ c ∈ cs, XfC X.K (G.cm c) ∧ PySem.W.findIn X.K (.ref (G.cm c)) f = some none)
    (hn : PE (X.suite a ((a, oe) :: pn)) (.Name n np) (tVar i)) (hb : attributeBase (.Name n np) f X.env (eval (.Name n np) X.env) = eval (.Name n np) X.env := by rfl) :
    PE (X.suite a ((a, oe) :: pn)) (.Attribute (.Name n np) f pos) (toEx G xv a cls d i (dXf cs f)) := by
  refine ⟨fun pins s σ H Q I h => ?_⟩
  obtain ⟨r, t, S, c, ns, ws, hc, hi, x, l, rl, o⟩ := h
  unfold dXf at o
  split at o
  · rename_i hm
    have hm' : c ∈ cs := by simpa using hm
    obtain ⟨T, hno⟩ := hcs c hm'
    refine (pe_xf (C := G.cm c) T hno hz hf hn hb).run pins s σ H Q I ?_
    cases eg : fget ns ws f with
    | none => rw [eg] at o; exact o.elim
    | some w =>
      rw [eg] at o
      rcases x with ⟨rfl, rfl, _⟩ | ⟨dd, vs, rfl, ow, hl, q⟩
      · simp [fget] at eg
      · obtain ⟨v, h1, h2⟩ := fget_ok q eg
        exact ⟨_, hi, rfl, by rw [hc, hx], dd, _, v, rfl, ow.1, h1, o r H v .refl rl h2⟩
  · exact o.elim
theorem xs_ret {e : Expr} {de : Nat → List Str → List W → DX} {pos : Pos} (he : PE X e (toEx G xv a cls d i de)) : PS X (.Return (some e) pos) (toSx G xv a cls d i fun c ns ws => dRet (de c ns ws)) := PSi (ps_ret he) fun D s H ⟨r, t, S, c, ns, ws, hc, hi, x, l, rl, o⟩ => by
  refine ⟨r, t, S, c, ns, ws, hc, hi, x, l, rl, ?_⟩
  change OutS G xv W0 H S r ((de c ns ws t S).toF t fun w S1 => F.rt w S1) D at o
  cases ee : de c ns ws t S with
  | ok u S1 => rw [ee] at o; exact o
  | er c' ns' ws' S1 => rw [ee] at o; exact fun r1 H1 d1 e1 rl1 x1 => o r1 H1 s d1 e1 rl1 (l.ev e1) x1
  | no => rw [ee] at o; exact o
theorem xs_set {j : Nat} {x : Str} {e : Expr} {de : Nat → List Str → List W → DX} {pos pos' : Pos} (nd : X.N.Nodup) (he : PE X e (toEx G xv a cls d i de)) (hi : X.N[j]? = some x := by rfl) (hx : Loc X.env.scope x := by first | exact Or.inl rfl | exact Or.inr rfl) (hs : swapsWith e (some (.Name x pos')) pos.line X.env = pure false := by rfl) (hf : X.fn x = true ∨ X.env.scope.names.lookup x = some .local := by first | exact .inl rfl | exact .inr rfl) :
    PS X (.Assign [.Name x pos'] e pos) (toSx G xv a cls d i fun c ns ws => dAsg (de c ns ws) (gN j)) := PSi (ps_set nd hi hx he hs hf) fun D s H ⟨r, t, S, c, ns, ws, hc, hi, x, l, rl, o⟩ => by
  refine ⟨r, t, S, c, ns, ws, hc, hi, x, l, rl, ?_⟩
  change OutS G xv W0 H S r ((de c ns ws t S).toF t fun w S1 => F.nx (t.set j (some w)) S1) D at o
  cases ee : de c ns ws t S with
  | ok u S1 => rw [ee] at o; exact fun r1 H1 v e1 rl1 q => o r1 H1 _ e1 rl1 ((l.ev e1).set q j)
  | er c' ns' ws' S1 => rw [ee] at o; exact fun r1 H1 d1 e1 rl1 x1 => o r1 H1 s d1 e1 rl1 (l.ev e1) x1
  | no => rw [ee] at o; exact o
/-- what the suite holds, as isinstance wants it -/
theorem call_isX {C : Addr} {oe : Obj} {pn : List (Addr × Obj)} (T : ExcC X.K C) (hz : Zc (.ref C) d oe) (hf : ∃ vs, oe.data = .fields vs) : CallR (X.suite a ((a, oe) :: pn)) (.builtin "isinstance")
    (fun xs H Q => ∃ (c : Addr) (b : Bool), xs = [.ref a, .ref c] ∧ (d = none ∨ ∃ dd fs, d = some dd ∧ H dd = some (.xd fs)) ∧ PySem.W.kitOne X.K (.ref C) (.ref c) = some b ∧ Q (.bl b) H) := by
  intro pins s σ H xs us Q I rv h
  obtain ⟨c, b, rfl, hd, e, q⟩ := h
  cases rv with
  | cons rx rr =>
    cases rr with
    | cons rt rr =>
      cases rr
      cases rx
      cases rt
      obtain ⟨hget, _⟩ := I.pin (a, oe) (List.mem_append.mpr (.inl List.mem_cons_self))
      obtain ⟨vs, hv⟩ := hf
      have J : ∃ od, PySem.W.InstAt s.heap a oe C od := by
        rcases hd with rfl | ⟨dd, fs, rfl, ea⟩
        · exact ⟨none, hget, hz.1, by unfold PySem.W.notCls; rw [hv] <;> rfl, by rw [hz.2]; trivial⟩
        · have hx : ObjOk X.prog X.w H s.heap dd (.xd fs) := I.hok dd _ ea
          obtain ⟨mA, hns, hr⟩ := hx
          obtain ⟨od, ho, hl⟩ := lookIn_ns hns
          exact ⟨some od, hget, hz.1, by unfold PySem.W.notCls; rw [hv] <;> rfl, by rw [hz.2]; exact ho⟩
      obtain ⟨od, J⟩ := J
      have hcl : (PySem.W.clsIn X.K C).isSome = true := by
        obtain ⟨cd, hc, _⟩ := PySem.W.any_some T.hd
        rw [hc]; rfl
      exact PySem.W.kia_one (PySem.W.kitx_exc hcl T.hg T.hk T.hs T.ha T.hn T.ht T.hm) I.kIn J e (fun z => nomatch z) fun tk => ⟨.bl b, H, I.kept (t' := tk) fun _ _ z => z, rfl, q⟩
def dXi (m : Nat → Option Bool) : Nat → List Str → List W → DX := fun c _ _ _ S => match m c with
  | some b => .ok (.bl b) S
  | none => .no
theorem xe_isi {n y : Str} {oe : Obj} {pn : List (Addr × Obj)} {m : Nat → Option Bool} {j : Nat} {ip np yp pos : Pos} (hz : Zc cls d oe) (hf : ∃ vs, oe.data = .fields vs) (hx : ∀ c, xv c = .ref (G.cm c)) (hm : ∀ c b, m c = some b → PySem.W.kitOne X.K (.ref (G.cm c)) (.ref (G.cm j)) = some b ∧ ExcC X.K (G.cm c))
    (hn : PE (X.suite a ((a, oe) :: pn)) (.Name n np) (tVar i)) (hy : X.mg y = some (.ref (G.cm j))) (hb : X.mg "isinstance" = none) (hg : Gl (X.suite a ((a, oe) :: pn)) y := by rfl) (hgi : Gl (X.suite a ((a, oe) :: pn)) "isinstance" := by rfl) (hdy : (y == ("__debug__" : Str)) = false := by decide)
    (h1 : starEach [.Name n np, .Name y yp] X.env = (false, eval (.Name n np) X.env) :: starEach [.Name y yp] X.env := by rfl) (h2 : starEach [.Name y yp] X.env = (false, eval (.Name y yp) X.env) :: starEach [] X.env := by rfl) (hpl : (backTo pos (starEach [.Name y yp] X.env)).any (·.1) = false := by rfl) :
    PE (X.suite a ((a, oe) :: pn)) (.Call (.Name "isinstance" ip) [.Name n np, .Name y yp] [] pos) (toEx G xv a cls d i (dXi m)) := by
  refine ⟨fun pins s σ H Q I h => ?_⟩
  obtain ⟨r, t, S, c, ns, ws, hc, hi, x, l, rl, o⟩ := h
  unfold dXi at o
  cases em : m c with
  | none => rw [em] at o; exact o.elim
  | some b =>
    rw [em] at o
    obtain ⟨hk, T⟩ := hm c b em
    rw [hx] at hc
    subst hc
    refine (pe_callB (r := fun xs H Q => ∃ (c' : Addr) (b : Bool), xs = [.ref a, .ref c'] ∧ (d = none ∨ ∃ dd fs, d = some dd ∧ H dd = some (.xd fs)) ∧ PySem.W.kitOne X.K (.ref (G.cm c)) (.ref c') = some b ∧ Q (.bl b) H) (call_isX T hz hf) hgi hb boot_isinstance (pa_cons hn (pa_cons (pe_glob (v := .ref (G.cm j)) hg hy rfl hdy) pa_nil h2) h1) (by decide) (by decide) h1 hpl).run pins s σ H Q I ?_
    refine ⟨_, hi, ?_⟩
    refine ⟨G.cm j, b, rfl, ?_, hk, o r H _ .refl rl (.bl b)⟩
    rcases x with ⟨_, _, rfl⟩ | ⟨dd, vs, rfl, ow, _⟩
    · exact .inl rfl
    · exact .inr ⟨dd, _, rfl, ow.1⟩
end
/-! ### a for over a list of the store or a value -/
theorem toForV {d : DA} {g : DG} {db : DS} {D : Ends} {s : L2.St} {H : Hp} (h : toS G xv Wx (dFor d g db) D s H) : tFor (toI G xv Wx d) (toG G xv g) (toS G xv Wx db) D s H := by
  obtain ⟨r, t, S, l, rl, o⟩ := h
  refine toX.bindS l rl o fun ws S1 r1 H1 J _ e1 rl1 l1 q o1 => ?_
  refine ⟨fun i m s2 H2 => ∃ r2 t2 S2, m + i = ws.length ∧ Ev H1 S1 r1 H2 S2 r2 ∧ Rl G H2 S2 r2 ∧ RLo G H2 S2 r2 t2 s2 ∧ OutS G xv Wx H2 S2 r2 (forL g db (ws.drop i) t2 S2) D, ⟨ws.length, r1, t, S1, rfl, .refl, rl1, l1, o1⟩, ?_⟩
  rintro i m s2 H2 ⟨r2, t2, S2, hm, e2, rl2, l2, o2⟩
  by_cases hi : i < ws.length
  · have hw : ws[i]? = some ws[i] := List.getElem?_eq_getElem hi
    rw [List.drop_eq_getElem_cons hi] at o2
    unfold forL at o2
    refine .inr ⟨q.go H2 S2 r2 e2.mp rl2 i _ hw, fun s3 H3 => ∃ r3 t3 S3, Ev H1 S1 r1 H3 S3 r3 ∧ Rl G H3 S3 r3 ∧ RLo G H3 S3 r3 t3 s3 ∧ OutS G xv Wx H3 S3 r3 (forL g db (ws.drop (i + 1)) t3 S3) D, fun s3 H3 ⟨r3, t3, S3, e3, rl3, l3, o3⟩ => ⟨m - 1, by omega, r3, t3, S3, by omega, e3, rl3, l3, o3⟩, fun x H3 hy => ?_⟩
    obtain ⟨e3, rl3, qx⟩ := q.yld H2 S2 r2 e2.mp rl2 i _ hw x H3 hy
    refine ⟨r2, t2, S2, ws[i], l2.ev e3, rl3, qx, ?_⟩
    have o3 := OutS.from e3 o2
    cases eg : g ws[i] t2 S2 with
    | er c ns us S4 => rw [eg] at o3; exact o3.elim
    | no => rw [eg] at o3; exact o3.elim
    | ok t4 S4 =>
      simp only [eg] at o3
      refine fun r4 H4 s4 e4 rl4 l4 => ⟨r4, t4, S4, l4, rl4, ?_⟩
      have o4 := OutS.from e4 o3
      cases eb : db t4 S4 with
      | nx t5 S5 => rw [eb] at o4; exact fun r5 H5 s5 e5 rl5 l5 => ⟨r5, t5, S5, ((e2.trans e3).trans e4).trans e5, rl5, l5, OutS.from e5 o4⟩
      | ct t5 S5 => rw [eb] at o4; exact fun r5 H5 s5 e5 rl5 l5 => ⟨r5, t5, S5, ((e2.trans e3).trans e4).trans e5, rl5, l5, OutS.from e5 o4⟩
      | bk t5 S5 => rw [eb] at o4; exact o4
      | rt w S5 => rw [eb] at o4; exact o4
      | er c ns us t5 S5 => rw [eb] at o4; exact o4
      | no => rw [eb] at o4; exact o4
  · have hl : ws.length ≤ i := Nat.le_of_not_lt hi
    rw [List.drop_eq_nil_of_le hl] at o2
    exact .inl ⟨q.stop H2 S2 r2 e2.mp rl2 i hl, o2 r2 H2 s2 .refl rl2 l2⟩
theorem toForR {d : Lo → Sto → R (Nat × List W)} {g : DG} {db : DS} {D : Ends} {s : L2.St} {H : Hp} (h : toS G xv Wx (dForR d g db) D s H) : tFor (toIR G xv Wx d) (toG G xv g) (toS G xv Wx db) D s H := by
  obtain ⟨r, t, S, l, rl, o⟩ := h
  refine toX.bindS l rl o fun pw S1 r1 H1 J _ e1 rl1 l1 q o1 => ?_
  obtain ⟨p, ws⟩ := pw
  refine ⟨fun i m s2 H2 => ∃ r2 t2 S2, m + i = ws.length ∧ Ev H1 S1 r1 H2 S2 r2 ∧ Rl G H2 S2 r2 ∧ RLo G H2 S2 r2 t2 s2 ∧ OutS G xv Wx H2 S2 r2 (forLR g db p ws (ws.drop i) t2 S2) D, ⟨ws.length, r1, t, S1, rfl, .refl, rl1, l1, o1⟩, ?_⟩
  rintro i m s2 H2 ⟨r2, t2, S2, hm, e2, rl2, l2, o2⟩
  by_cases hi : i < ws.length
  · have hw : ws[i]? = some ws[i] := List.getElem?_eq_getElem hi
    rw [List.drop_eq_getElem_cons hi] at o2
    unfold forLR at o2
    split at o2
    · rename_i hG
      refine .inr ⟨q.go H2 S2 r2 e2.mp rl2 hG i _ hw, fun s3 H3 => ∃ r3 t3 S3, Ev H1 S1 r1 H3 S3 r3 ∧ Rl G H3 S3 r3 ∧ RLo G H3 S3 r3 t3 s3 ∧ OutS G xv Wx H3 S3 r3 (forLR g db p ws (ws.drop (i + 1)) t3 S3) D, fun s3 H3 ⟨r3, t3, S3, e3, rl3, l3, o3⟩ => ⟨m - 1, by omega, r3, t3, S3, by omega, e3, rl3, l3, o3⟩, fun x H3 hy => ?_⟩
      obtain ⟨e3, rl3, qx⟩ := q.yld H2 S2 r2 e2.mp rl2 hG i _ hw x H3 hy
      refine ⟨r2, t2, S2, ws[i], l2.ev e3, rl3, qx, ?_⟩
      have o3 := OutS.from e3 o2
      cases eg : g ws[i] t2 S2 with
      | er c ns us S4 => rw [eg] at o3; exact o3.elim
      | no => rw [eg] at o3; exact o3.elim
      | ok t4 S4 =>
        simp only [eg] at o3
        refine fun r4 H4 s4 e4 rl4 l4 => ⟨r4, t4, S4, l4, rl4, ?_⟩
        have o4 := OutS.from e4 o3
        cases eb : db t4 S4 with
        | nx t5 S5 => rw [eb] at o4; exact fun r5 H5 s5 e5 rl5 l5 => ⟨r5, t5, S5, ((e2.trans e3).trans e4).trans e5, rl5, l5, OutS.from e5 o4⟩
        | ct t5 S5 => rw [eb] at o4; exact fun r5 H5 s5 e5 rl5 l5 => ⟨r5, t5, S5, ((e2.trans e3).trans e4).trans e5, rl5, l5, OutS.from e5 o4⟩
        | bk t5 S5 => rw [eb] at o4; exact o4
        | rt w S5 => rw [eb] at o4; exact o4
        | er c ns us t5 S5 => rw [eb] at o4; exact o4
        | no => rw [eb] at o4; exact o4
    · exact o2.elim
  · have hl : ws.length ≤ i := Nat.le_of_not_lt hi
    rw [List.drop_eq_nil_of_le hl] at o2
    unfold forLR at o2
    split at o2
    · rename_i hG
      exact .inl ⟨q.stop H2 S2 r2 e2.mp rl2 hG i hl, o2 r2 H2 s2 .refl rl2 l2⟩
    · exact o2.elim
noncomputable def dForA (d : DX) (g : DG) (b : DS) : DS := fun t S => match d t S with
  | .ok (.ref _) _ => dForR (dSeqR d) g b t S
  | _ => dFor (dSeqI d) g b t S
theorem ds_forA {tg iter : Expr} {body : List Stmt} {d : DX} {g : DG} {db : DS} {pos : Pos} (k : Cok G X Wx) (hi : PE X iter (toE G xv Wx d)) (hg : PG X tg (toG G xv g)) (hb : PSs X body (toS G xv Wx db))
    (hs : ∀ x, foldedSetIterable iter X.env x = pure x := by intro _; rfl) : PS X (.For tg iter body [] pos) (toS G xv Wx (dForA d g db)) :=
  PSi (ps_for k.po k.calm (PIor (di_seq k hi) (di_seqR k hi)) hg hb hs) fun D s H ⟨r, t, S, l, rl, o⟩ => by
    unfold dForA at o
    split at o
    · exact .inr (toForR ⟨r, t, S, l, rl, o⟩)
    · exact .inl (toForV ⟨r, t, S, l, rl, o⟩)
/-! ### xs[::-1] -/
theorem RWs.rev : ∀ {ws : List W} {vs : List V}, RWs G H S r ws vs → RWs G H S r ws.reverse vs.reverse
  | _, _, .nil => .nil
  | _, _, .cons a q => by
    rw [List.reverse_cons, List.reverse_cons]
    exact q.rev.append (.cons a .nil)
def dRevL (d : DX) : DX := fun t S => (d t S).bind fun w S1 => match seqL S1 w with
  | some ws => .ok (.lst ws.reverse) S1
  | none => .no
theorem de_revL {e : Expr} {d : DX} {j : Nat} {p1 p2 p3 pos : Pos} (k : Cok G X Wx) (he : PE X e (toE G xv Wx d)) : PE X (.Subscript e (.Slice none none (some (.UnaryOp .USub (.Constant (.int 1) j p1) p2)) p3) pos) (toE G xv Wx (dRevL d)) :=
  PEi (pe_revL he) fun s H Q ⟨r, t, S, l, rl, o⟩ => toX.bind l rl o fun w S1 r1 H1 v _ e1 rl1 l1 q o1 => by
    cases e : seqL S1 w with
    | none => rw [e] at o1; exact o1.elim
    | some ws =>
      rw [e] at o1
      obtain ⟨p, vs, rfl, hq, qs⟩ := seqL_ok rl1 q e
      exact ⟨p, vs, rfl, by rw [k.kk]; exact hq, fun p hp => o1 r1 _ _ (Ev.fresh hp rl1) (rl1.fresh hp) (.lst (Own.new hp rl1) (qs.rev.ev (Ev.fresh hp rl1)))⟩
end
end DD
namespace DD
open PySem PySem.Spec PyProof.Rows L2
section
variable {G : Gx} {xv : Nat → Value} {Wx : WX} {X : Cx} {H H' : Hp} {S S' : Sto} {r r' : Rh}
/-! ### a comprehension whose list will be changed -/
/-- what was in the making becomes a thing of the store -/
theorem Ev.adopt {f f2 : Nat → Addr} {z : Addr → Prop} {D : Addr} {o : O} (e : Ev H S ⟨f, z⟩ H' S' ⟨f2, z⟩) (hD : H D = none) : Ev H S ⟨f, z⟩ H' (S' ++ [o]) (put ⟨f2, z⟩ S'.length D) where
  len := by rw [List.length_append]; exact Nat.le_trans e.len (Nat.le_add_right _ _)
  rho := fun i hi => by rw [put_ne (Nat.ne_of_lt (Nat.lt_of_lt_of_le hi e.len))]; exact e.rho i hi
  keep := e.keep
  live := fun a l => by
    rcases lv_snoc l with l | rfl
    · exact e.live a l
    · exact .inr hD
  zz := rfl
  kz := e.kz
theorem Rl.adopt {f2 : Nat → Addr} {z z' : Addr → Prop} {D : Addr} {o : O} {ho : HO} (rl : Rl G H S ⟨f2, z'⟩) (hz' : z' D) (hz : ¬ z D) (h : H D = some ho) (n : RO G H S ⟨f2, z'⟩ o ho) (sub : ∀ a, z a → z' a := by intro a h; exact Or.inl h) : Rl G H (S ++ [o]) (put ⟨f2, z⟩ S.length D) := by
  have m : Mp H S ⟨f2, z'⟩ H (S ++ [o]) (put ⟨f2, z⟩ S.length D) := ⟨fun a u ow => ⟨ow.1, fun l => by
    rcases lv_snoc l with l | rfl
    · rcases l with l | l
      · exact ow.2 (.inl l)
      · exact ow.2 (.inr (sub a l))
    · exact ow.2 (.inr hz')⟩, fun i hi => put_ne (Nat.ne_of_lt hi), by simp⟩
  have key : ∀ (k : Nat) (u : O), (S ++ [o])[k]? = some u → (k < S.length ∧ S[k]? = some u) ∨ (k = S.length ∧ u = o) := fun k u e => by
    by_cases hk : k < S.length
    · rw [List.getElem?_append_left hk] at e; exact .inl ⟨hk, e⟩
    · have := (List.getElem?_eq_some_iff.mp e).1
      simp only [List.length_append, List.length_cons, List.length_nil] at this
      have hk : k = S.length := by omega
      subst hk
      exact .inr ⟨rfl, by simpa using e.symm⟩
  refine ⟨fun i u e d => ?_, fun i j o1 o2 e1 d1 e2 d2 q => ?_, fun a q => rl.zs a (sub a q), fun i u e d => ?_⟩
  · rcases key i u e with ⟨hi, a1⟩ | ⟨hi, rfl⟩
    · obtain ⟨hu, h1, h2⟩ := rl.at_ i u a1 d
      exact ⟨hu, by rw [put_ne (Nat.ne_of_lt hi)]; exact h1, h2.mp m⟩
    · subst hi
      exact ⟨ho, by rw [put_same]; exact h, n.mp m⟩
  · rcases key i o1 e1 with ⟨hi, a1⟩ | ⟨hi, _⟩
    · rcases key j o2 e2 with ⟨hj, a2⟩ | ⟨hj, _⟩
      · rw [put_ne (Nat.ne_of_lt hi), put_ne (Nat.ne_of_lt hj)] at q
        exact rl.inj i j o1 o2 a1 d1 a2 d2 q
      · subst hj
        rw [put_ne (Nat.ne_of_lt hi), put_same] at q
        exact (rl.dz i o1 a1 d1 (by rw [show (Rh.f ⟨f2, z'⟩) i = D from q]; exact hz')).elim
    · rcases key j o2 e2 with ⟨hj, a2⟩ | ⟨hj, _⟩
      · subst hi
        rw [put_ne (Nat.ne_of_lt hj), put_same] at q
        exact (rl.dz j o2 a2 d2 (by rw [show (Rh.f ⟨f2, z'⟩) j = D from q.symm]; exact hz')).elim
      · omega
  · rcases key i u e with ⟨hi, a1⟩ | ⟨hi, rfl⟩
    · rw [put_ne (Nat.ne_of_lt hi)]
      exact fun q => rl.dz i u a1 d (sub _ q)
    · subst hi
      rw [put_same]
      exact hz
def finL : R W → R W
  | .ok (.lst acc) S => .ok (.ref S.length) (S ++ [.lst acc])
  | _ => .no
def dNewLc (d : DA) (g : Tg) (tt : DT) (te : DX) (vs : List Nat) : DX := fun t S => (d t S).bind fun ws S1 => finL (lcL g tt te (wipeW t vs) ws [] S1)
theorem toNewLc {d : DA} {g : Tg} {tt : DT} {te : DX} {vs : List Nat} (hv : ∀ i ∈ g.places, i ∈ vs) (s : L2.St) (H : Hp) (Q : VK) : toE G xv Wx (dNewLc d g tt te vs) s H Q → tLc (toI G xv Wx d) (g.toTG G.K) (toT G xv W0 tt) (toE G xv W0 te) vs s H Q := by
  rintro ⟨r, t, S, l, rl, o⟩
  refine toX.bind l rl o fun ws S1 r1 H1 J _ e1 rl1 l1 q o1 => ?_
  intro D hD
  obtain ⟨f1, z1⟩ := r1
  have hz1 : ¬ z1 D := fun z => by
    obtain ⟨u, h⟩ := rl1.zs D z
    rw [hD] at h; cases h
  have sub : ∀ a, z1 a → (z1 a ∨ a = D) := fun a h => .inl h
  -- from the base into a state with D
  have inn : ∀ {H2 : Hp} {S2 : Sto} {f2 : Nat → Addr}, Ev H1 S1 ⟨f1, z1⟩ H2 S2 ⟨f2, z1⟩ → Mp H1 S1 ⟨f1, z1⟩ H2 S2 ⟨f2, fun a => z1 a ∨ a = D⟩ := fun {H2 S2 f2} e2 =>
    ⟨fun a u ow => ⟨(ow.ev e2).1, fun lv => by
      rcases lv with lv | lv | lv
      · exact (ow.ev e2).2 (.inl lv)
      · exact (ow.ev e2).2 (.inr lv)
      · exact ne_of_none ow.1 hD lv⟩, e2.rho, e2.len⟩
  refine ⟨fun i m H2 => ∃ (f2 : Nat → Addr) (S2 : Sto) (acc : List W) (av : List V), m + i = ws.length ∧ Ev H1 S1 ⟨f1, z1⟩ H2 S2 ⟨f2, z1⟩ ∧ Rl G H2 S2 ⟨f2, fun a => z1 a ∨ a = D⟩ ∧ H2 D = some (.lst av) ∧ RWs G H2 S2 ⟨f2, fun a => z1 a ∨ a = D⟩ acc av ∧
      OutE G xv Wx (fun H S r w v => RW G H S r w v) s H1 S1 ⟨f1, z1⟩ (finL (lcL g tt te (wipeW t vs) (ws.drop i) acc S2)) Q,
    ⟨ws.length, f1, S1, [], [], rfl, Ev.fresh hD rl1, rl1.add hD, upd_same, .nil, o1⟩, ?_⟩
  rintro i m H2 ⟨f2, S2, acc, av, hm, e2, rl2, d2, qa, o2⟩
  by_cases hi : i < ws.length
  · have hw : ws[i]? = some ws[i] := List.getElem?_eq_getElem hi
    rw [List.drop_eq_getElem_cons hi] at o2
    unfold lcL at o2
    refine .inr ⟨q.go H2 S2 _ (inn e2) rl2 i _ hw, fun H3 => ∃ (f3 : Nat → Addr) (S3 : Sto) (acc : List W) (av : List V), Ev H1 S1 ⟨f1, z1⟩ H3 S3 ⟨f3, z1⟩ ∧ Rl G H3 S3 ⟨f3, fun a => z1 a ∨ a = D⟩ ∧ H3 D = some (.lst av) ∧ RWs G H3 S3 ⟨f3, fun a => z1 a ∨ a = D⟩ acc av ∧
      OutE G xv Wx (fun H S r w v => RW G H S r w v) s H1 S1 ⟨f1, z1⟩ (finL (lcL g tt te (wipeW t vs) (ws.drop (i + 1)) acc S3)) Q, fun H3 ⟨f3, S3, acc, av, a1, a2, a3, a4, a5⟩ => ⟨m - 1, by omega, f3, S3, acc, av, by omega, a1, a2, a3, a4, a5⟩, fun x H3 hy => ?_⟩
    obtain ⟨e3, rl3, qx⟩ := q.yld H2 S2 _ (inn e2) rl2 i _ hw x H3 hy
    have b3 : Ev H1 S1 ⟨f1, z1⟩ H3 S2 ⟨f2, z1⟩ := e2.trans (e3.less rl3 sub)
    have d3 : H3 D = some (.lst av) := e3.kz D _ d2 (.inr rfl)
    have l3 : RLo G H3 S2 ⟨f2, fun a => z1 a ∨ a = D⟩ (wipeW t vs) (wipe s vs) := (l1.mp (inn b3)).wipe vs
    cases eg : g.put ws[i] (wipeW t vs) with
    | none => rw [eg] at o2; exact o2.elim
    | some t4 =>
      simp only [eg] at o2
      refine Tg.ok hv qx l3 eg fun s4 l4 w4 => ⟨by rw [w4, wipe_wipe], _, t4, S2, l4, rl3, ?_⟩
      cases et : tt t4 S2 with
      | er c ns us S5 => simp only [et] at o2; exact o2.elim
      | no => simp only [et] at o2; exact o2.elim
      | ok k S5 =>
        rintro ⟨f5, z5⟩ H5 k' e5 rl5 rfl
        have hz5 : z5 = fun a => z1 a ∨ a = D := e5.zz
        subst hz5
        have b5 : Ev H1 S1 ⟨f1, z1⟩ H5 S5 ⟨f5, z1⟩ := b3.trans (e5.less rl5 sub)
        have d5 : H5 D = some (.lst av) := e5.kz D _ d3 (.inr rfl)
        have qa5 := (qa.ev e3).ev e5
        cases k with
        | false =>
          simp only [et] at o2
          rw [if_neg Bool.false_ne_true]
          exact ⟨f5, S5, acc, av, b5, rl5, d5, qa5, o2⟩
        | true =>
          simp only [et] at o2
          rw [if_pos rfl]
          refine ⟨_, t4, S5, l4.ev e5, rl5, ?_⟩
          cases ee : te t4 S5 with
          | er c ns us S6 => simp only [ee] at o2; exact o2.elim
          | no => simp only [ee] at o2; exact o2.elim
          | ok y S6 =>
            simp only [ee] at o2
            rintro ⟨f6, z6⟩ H6 v e6 rl6 qy
            have hz6 : z6 = fun a => z1 a ∨ a = D := e6.zz
            subst hz6
            have b6 : Ev H1 S1 ⟨f1, z1⟩ H6 S6 ⟨f6, z1⟩ := b5.trans (e6.less rl6 sub)
            have d6 : H6 D = some (.lst av) := e6.kz D _ d5 (.inr rfl)
            have qa6 := qa5.ev e6
            have hl : av.length = acc.length := qa6.length.symm
            by_cases hs : acc.length < sizeLine
            · rw [if_pos hs] at o2
              have mp : Mp H6 S6 ⟨f6, fun a => z1 a ∨ a = D⟩ (upd H6 D (.lst (av ++ [v]))) S6 ⟨f6, fun a => z1 a ∨ a = D⟩ := Mp.poke (.inr rfl)
              exact ⟨av, d6, by rw [hl]; exact hs, f6, S6, acc ++ [y], av ++ [v], b6.poke hD, rl6.poke (.inr rfl), upd_same, (qa6.mp mp).snoc (qy.mp mp), o2⟩
            · rw [if_neg hs] at o2; exact o2.elim
  · have hl : ws.length ≤ i := Nat.le_of_not_lt hi
    rw [List.drop_eq_nil_of_le hl] at o2
    refine .inl ⟨q.stop H2 S2 _ (inn e2) rl2 i hl, ?_⟩
    have o3 : OutE G xv Wx (fun H S r w v => RW G H S r w v) s H1 S1 ⟨f1, z1⟩ (.ok (.ref S2.length) (S2 ++ [.lst acc])) Q := o2
    have hh := o3 (put ⟨f2, z1⟩ S2.length D) H2 (.ref (put ⟨f2, z1⟩ S2.length D S2.length)) (e2.adopt hD) (rl2.adopt (.inr rfl) hz1 d2 (.lst qa)) (.ref (by simp))
    rw [put_same] at hh
    exact hh
theorem de_newLc {elt tg iter : Expr} {ifs : List Expr} {scope : Scope} {own : List (Str × Nat)} {pos : Pos} {d : DA} {g : Tg} {tt : DT} {te : DX} (k : Cok G X Wx) (hi : PI X tg iter (toI G xv Wx d)) (ok : blkC X.N X.env.scope scope own = true)
    (hg : ∀ (s : Shared) (H : Hp) (C : Addr) (cl : List (Str × Addr)) (fp : List Addr), Cok G (X.blk s H scope (compEnvC scope cl C X.env) fp) W0 → PG (X.blk s H scope (compEnvC scope cl C X.env) fp) tg (g.toTG G.K))
    (ht : ∀ (s : Shared) (H : Hp) (C : Addr) (cl : List (Str × Addr)) (fp : List Addr), Cok G (X.blk s H scope (compEnvC scope cl C X.env) fp) W0 → PTs (X.blk s H scope (compEnvC scope cl C X.env) fp) ifs (toT G xv W0 tt))
    (he : ∀ (s : Shared) (H : Hp) (C : Addr) (cl : List (Str × Addr)) (fp : List Addr), Cok G (X.blk s H scope (compEnvC scope cl C X.env) fp) W0 → PE (X.blk s H scope (compEnvC scope cl C X.env) fp) elt (toE G xv W0 te))
    (hv : (g.places.all fun i => (own.map (·.2)).contains i) = true := by rfl) (hs : ∀ x, foldedSetIterable iter X.env x = pure x := by intro _; rfl) :
    PE X (.ListComp elt [⟨tg, iter, ifs, 0⟩] scope pos) (toE G xv Wx (dNewLc d g tt te (own.map (·.2)))) :=
  PEi (pe_lc k.calm k.nd hi (blkOk_by ok) (fun s H C cl fp => hg s H C cl fp (k.blk s H _ _ fp)) (fun s H C cl fp => ht s H C cl fp (k.blk s H _ _ fp)) (fun s H C cl fp => he s H C cl fp (k.blk s H _ _ fp)) hs) (toNewLc fun i h => by
    have := List.all_eq_true.mp hv i h
    simpa using this)
theorem ds_setNewLc {i : Nat} {y : Str} {py : Pos} {elt tg iter : Expr} {ifs : List Expr} {scope : Scope} {own : List (Str × Nat)} {pos spos : Pos} {d : DA} {g : Tg} {tt : DT} {te : DX} (k : Cok G X Wx) (hi : PI X tg iter (toI G xv Wx d)) (ok : blkC X.N X.env.scope scope own = true)
    (hg : ∀ (s : Shared) (H : Hp) (C : Addr) (cl : List (Str × Addr)) (fp : List Addr), Cok G (X.blk s H scope (compEnvC scope cl C X.env) fp) W0 → PG (X.blk s H scope (compEnvC scope cl C X.env) fp) tg (g.toTG G.K))
    (ht : ∀ (s : Shared) (H : Hp) (C : Addr) (cl : List (Str × Addr)) (fp : List Addr), Cok G (X.blk s H scope (compEnvC scope cl C X.env) fp) W0 → PTs (X.blk s H scope (compEnvC scope cl C X.env) fp) ifs (toT G xv W0 tt))
    (he : ∀ (s : Shared) (H : Hp) (C : Addr) (cl : List (Str × Addr)) (fp : List Addr), Cok G (X.blk s H scope (compEnvC scope cl C X.env) fp) W0 → PE (X.blk s H scope (compEnvC scope cl C X.env) fp) elt (toE G xv W0 te))
    (hsw : swapsWith (.ListComp elt [⟨tg, iter, ifs, 0⟩] scope pos) (some (.Name y py)) spos.line X.env = pure true) (hy : X.N[i]? = some y := by rfl) (hyl : X.env.scope.names.lookup y = some .local := by rfl)
    (hv : (g.places.all fun i => (own.map (·.2)).contains i) = true := by rfl) (hs : ∀ x, foldedSetIterable iter X.env x = pure x := by intro _; rfl) :
    PS X (.Assign [.Name y py] (.ListComp elt [⟨tg, iter, ifs, 0⟩] scope pos) spos) (toS G xv Wx (dAsg (dNewLc d g tt te (own.map (·.2))) (gN i))) :=
  PSi (ps_setLc k.calm k.nd hy hyl hsw hi (blkOk_by ok) (fun s H C cl fp => hg s H C cl fp (k.blk s H _ _ fp)) (fun s H C cl fp => ht s H C cl fp (k.blk s H _ _ fp)) (fun s H C cl fp => he s H C cl fp (k.blk s H _ _ fp)) hs) fun D s H ⟨r, t, S, l, rl, o⟩ => by
    refine toNewLc (G := G) (xv := xv) (Wx := Wx) (fun i h => by
      have := List.all_eq_true.mp hv i h
      simpa using this) s H _ ⟨r, t, S, l, rl, ?_⟩
    unfold dAsg at o
    cases e : dNewLc d g tt te (own.map (·.2)) t S with
    | ok w S1 =>
      rw [e] at o
      exact fun r1 H1 v e1 rl1 q => o r1 H1 _ e1 rl1 ((l.ev e1).set q i)
    | er c ns ws S1 =>
      rw [e] at o
      exact fun r1 H1 dd e1 rl1 x => o r1 H1 s dd e1 rl1 (l.ev e1) x
    | no => rw [e] at o; exact o.elim
end
end DD
namespace DD
open PySem PySem.Spec PyProof.Rows L2
section
variable {G : Gx} {xv : Nat → Value} {Wx : WX} {X : Cx} {H H' : Hp} {S S' : Sto} {r r' : Rh}
/-! ### defs with defaults and keywords -/
/-- a def whose parameters may be bound in several ways -/
structure DefG (P : Program) (w : World) (K : PySem.W.Frag) (mg : Str → Option Value) (base : Heap) (G : Gx) (xv : Nat → Value) (f : Addr) (k : Nat) (ps : List Str) (fn : Fn) (Fd : FuncData → Prop) : Prop where
  ex : ∃ fd : FuncData, Fd fd ∧ FnOk P w K mg base (L2.CX P w) k f fd ps (spF G xv ps.length fn)
  kp : PySem.W.keepIn K (.ref f) = true
theorem DefG.mono {P : Program} {w : World} {K : PySem.W.Frag} {mg : Str → Option Value} {base : Heap} {f : Addr} {j k : Nat} {ps : List Str} {fn : Fn} {Fd : FuncData → Prop} (h : DefG P w K mg base G xv f j ps fn Fd) (le : j ≤ k) : DefG P w K mg base G xv f k ps fn Fd :=
  ⟨let ⟨fd, a, b⟩ := h.ex; ⟨fd, a, b.mono le⟩, h.kp⟩
theorem DefG.gc {P : Program} {w : World} {K : PySem.W.Frag} {mg : Str → Option Value} {base : Heap} {f : Addr} {k : Nat} {ps : List Str} {fn : Fn} {Fd : FuncData → Prop} (h : DefG P w K mg base G xv f k ps fn Fd) : DefG P w K mg base G xv f k ps (gcF fn) Fd :=
  ⟨let ⟨fd, a, b⟩ := h.ex; ⟨fd, a, b.imp fun vs H Q E ⟨l, r, S, ws, q, rl, o⟩ => ⟨l, r, S, ws, q, rl, outGc rl o⟩⟩, h.kp⟩
theorem defG_ok {P : Program} {w : World} {K : PySem.W.Frag} {mg : Str → Option Value} {base : Heap} {cm : Nat → Addr} {x qual : Str} {params : Arguments} {body : List Stmt} {scope : Scope} {dvs : List V} {kws : List (Str × V)} {f : Addr} {fd : FuncData} {N ps : List Str} {k : Nat} {d : DS}
    (F : FunD K x qual params body scope dvs kws f fd) (Sc : FnScope N ps scope)
    (hd : ∀ (cdv : Value) (A : Around) (outer : List Env) (s : Shared) (H : Hp) (E : XK), Room k (A.deeper (envOfC qual scope s.heap.objs.size f cdv)) → Cok ⟨K, cm⟩ (cxOf (L2.CX P w) P w K mg base N qual scope f cdv A outer s H E) (fun c d _ H => E c d H) →
      PSs (cxOf (L2.CX P w) P w K mg base N qual scope f cdv A outer s H E) body (toS ⟨K, cm⟩ xv (fun c d _ H => E c d H) d)) : DefG P w K mg base ⟨K, cm⟩ xv f (k + 1) ps (dFn N.length d) (FunD K x qual params body scope dvs kws f) :=
  ⟨⟨fd, F, fn_ok F Sc hd⟩, F.kp⟩
/-- all parameters are given, or the last ones are defaults -/
theorem DefG.def {P : Program} {w : World} {K : PySem.W.Frag} {mg : Str → Option Value} {base : Heap} {f : Addr} {k : Nat} {ps : List Str} {fn : Fn} {Fd : FuncData → Prop} (h : DefG P w K mg base G xv f k ps fn Fd) (hb : ∀ fd, Fd fd → Binds K fd ps []) : DefOk P w K mg base G xv f k ps.length fn :=
  ⟨let ⟨fd, a, b⟩ := h.ex; ⟨fd, ps, rfl, b, hb fd a⟩, h.kp⟩
/-- f(e, ..), the last parameters by their defaults dw -/
def dCallD (fn : Fn) (dw : List W) (d : DA) : DX := fun t S => (d t S).bind fun ws S1 => fn (ws ++ dw) S1
theorem de_callD {x : Str} {p pos : Pos} {e : Expr} {es : List Expr} {d : DA} {f : Addr} {k : Nat} {ps : List Str} {fn : Fn} {Fd : FuncData → Prop} {dw : List W} {dv : List V} (c : Cok G X Wx) (h : DefG X.prog X.w X.K X.mg X.base G xv f k ps fn Fd) (hm : X.mg x = some (.ref f)) (hr : Room k X.A)
    (hb : ∀ fd, Fd fd → ∃ ds, Vals dv ds ∧ Binds X.K fd ps ds) (hdw : ∀ H S r, RWs G H S r dw dv) (ha : PA X (e :: es) (toA G xv Wx d)) (hlen : ∀ t S ws S', d t S = .ok ws S' → ws.length = (e :: es).length) (hn : (e :: es).length + dw.length = ps.length := by rfl) (hg : Gl X x := by rfl)
    (hdb : (x == ("__debug__" : Str)) = false := by decide) (he : starEach (e :: es) X.env = (false, eval e X.env) :: starEach es X.env := by rfl) (hpl : (backTo pos (starEach es X.env)).any (·.1) = false := by rfl) : PE X (.Call (.Name x p) (e :: es) [] pos) (toE G xv Wx (dCallD fn dw d)) := by
  obtain ⟨⟨fd, hF, F⟩, kp⟩ := h
  obtain ⟨ds, hv, b⟩ := hb fd hF
  refine PEi (pe_callSD (dvs := dv) F hr hg hm kp b hv (fun σ => passAt c.tk σ) ha hdb he hpl) fun s H Q ⟨r, t, S, l, rl, o⟩ => ?_
  refine toX.bind l rl o fun ws S1 r1 H1 vs e1 ev rl1 l1 q o1 => ?_
  have q2 := q.append (hdw H1 S1 r1)
  exact spOut (by rw [← q2.length, List.length_append, hlen t S ws S1 e1, hn]) q2 rl1 o1
/-- C(e, .., k = v, ..): aW puts the values into the parameters' order -/
def dBoth (aW : List W → List W → List W) (d dk : DA) : DA := fun t S => (d t S).bind fun ws S1 => (dk t S1).bind fun zs S2 => .ok (aW ws zs) S2
theorem dk_nil : PK X [] (toA G xv Wx dNil) := ⟨fun pos pins s σ H Q I h => pk_nil.run pos pins s σ H Q I (by
  obtain ⟨r, t, S, l, rl, o⟩ := h
  exact o r H [] .refl rl .nil)⟩
theorem dk_cons {nm : Option Str} {kpos : Pos} {e : Expr} {kws : List Keyword} {d : DX} {ds : DA} (h1 : PE X e (toE G xv Wx d)) (h2 : PK X kws (toA G xv Wx ds)) : PK X (⟨nm, e, kpos⟩ :: kws) (toA G xv Wx (dCons d ds)) := ⟨fun pos pins s σ H Q I h => (pk_cons h1 h2).run pos pins s σ H Q I (by
  obtain ⟨r, t, S, l, rl, o⟩ := h
  exact toX.bind l rl o fun w S1 r1 H1 v _ e1 rl1 l1 q o1 => toX.bind l1 rl1 o1 fun ws S2 r2 H2 vs _ e2 rl2 l2 qs o2 => o2 r2 H2 _ .refl rl2 (.cons (q.ev e2) qs))⟩
theorem run_makeKS {CX : CXT} {k n : Nat} {f C : Addr} {fd : FuncData} {ps ks : List Str} {sp : Sp} {E : XK} {g : List Value → List Value → List Value} {gV : List V → List V → List V} {pins : List (Addr × Obj)} {σ : L2.St} {H : Hp} {s : Shared} {Q : VK} {us ws : List Value} {vs zs : List V} (M : Mk X.K C f) (F : FnOk X.prog X.w X.K X.mg X.base CX k f fd ps sp) (hr : Room (k + 1) X.A) (hb : KBn X.K fd ps (n + 1) ks g gV) (hx : PassesAt CX X σ E)
    (I : Inv X pins σ H s) (r : Vals vs us) (rz : Vals zs ws) (l1 : vs.length = n) (l2 : zs.length = ks.length)
    (h : ∀ x dx, H x = none → H dx = none → dx ≠ x → sp (gV (.ref x :: vs) zs) (upd (upd H dx (.own x)) x (.ins C dx [])) (fun v H2 => v = .non ∧ Q (.ref x) H2) E) :
    wpAny (model X.prog X.w) X.A (call (.ref C) us (ks.zip ws)) (EP X pins σ Q) X.xe s := by
  have hq := h (s.heap.objs.size + 1) s.heap.objs.size (I.hok.fresh (Nat.le_succ _)) (I.hok.fresh (Nat.le_refl _)) (Nat.ne_of_lt (Nat.lt_succ_self _))
  have I2 := Inv.made (C := C) I
  have r1 : Vals (V.ref (s.heap.objs.size + 1) :: vs) (Value.ref (s.heap.objs.size + 1) :: us) := .cons rfl r
  have r2 := hb.rel r1 rz
  have n1 : (Value.ref (s.heap.objs.size + 1) :: us).length = n + 1 := by
    rw [List.length_cons, ← r.length, l1]
  refine wpAny_call (make_map (f := f) I.kIn M.makes M.init (beq_iff_eq.mp M.fn) (codeAny_mono (F.run _ X.stack _ _ ⟨Value.ref (s.heap.objs.size + 1) :: us, ks.zip ws⟩ (g (Value.ref (s.heap.objs.size + 1) :: us) ws) _ _ E (hr.make C us (ks.zip ws))
    (I2.env0.make C us (ks.zip ws)) (hb.to _ (Value.ref (s.heap.objs.size + 1) :: us) ws I2.kIn n1 (rz.length.symm.trans l2)) r2 hq) fun r s' hq' => ?_))
  cases r with
  | error e => exact hx pins _ _ e s' I2 hq'
  | ok fl =>
    cases fl with
    | ret u =>
      obtain ⟨v, H', I3, rv, ev, q3⟩ := I2.after hq'
      subst ev
      exact ⟨rv, ⟨V.ref (s.heap.objs.size + 1), H', I3, rfl, q3⟩⟩
    | next => exact False.elim hq'
    | brk => exact False.elim hq'
    | cont => exact False.elim hq'
/-- how the values of a call with keywords go into the parameters' order -/
structure Arr (G : Gx) (n m : Nat) (aW : List W → List W → List W) (gV : List V → List V → List V) : Prop where
  rel : ∀ {H : Hp} {S : Sto} {r : Rh} {x : V} {ws : List W} {vs : List V} {zs : List W} {us : List V}, RWs G H S r ws vs → RWs G H S r zs us → ws.length = n → zs.length = m → ∃ vs', gV (x :: vs) us = x :: vs' ∧ RWs G H S r (aW ws zs) vs'
theorem de_makeK {c : Nat} {x : Str} {p pos : Pos} {e : Expr} {es : List Expr} {kws : List Keyword} {d dk : DA} {f : Addr} {k : Nat} {ps ks : List Str} {fn : Fn} {Fd : FuncData → Prop} {aW : List W → List W → List W} {gV : List V → List V → List V} (ck : Cok G X Wx) (h : DefG X.prog X.w X.K X.mg X.base G xv f k ps fn Fd) (M : Mk X.K (G.cm c) f) (hm : X.mg x = some (.ref (G.cm c))) (hr : Room (k + 1) X.A)
    (hb : ∀ fd, Fd fd → ∃ g, KBn X.K fd ps ((e :: es).length + 1) ks g gV) (ar : Arr G (e :: es).length ks.length aW gV) (ha : PA X (e :: es) (toA G xv Wx d)) (hk : PK X kws (toA G xv Wx dk)) (hlen : ∀ t S ws S', d t S = .ok ws S' → ws.length = (e :: es).length) (hlk : ∀ t S ws S', dk t S = .ok ws S' → ws.length = ks.length)
    (hn : ∀ ws zs, ws.length = (e :: es).length → zs.length = ks.length → (aW ws zs).length + 1 = ps.length) (hg : Gl X x := by rfl)
    (hall : (backToKw pos (keywordEach kws X.env)).all (·.1.isSome) = true := by rfl) (hks : (backToKw pos (keywordEach kws X.env)).filterMap (·.1) = ks := by rfl) (hdb : (x == ("__debug__" : Str)) = false := by decide)
    (he : starEach (e :: es) X.env = (false, eval e X.env) :: starEach es X.env := by rfl) (hpl : ((backTo pos (starEach (e :: es) X.env)).any (·.1) || (backToKw pos (keywordEach kws X.env)).any (·.1.isNone)) = false := by rfl) :
    PE X (.Call (.Name x p) (e :: es) kws pos) (toE G xv Wx (dMake c fn (dBoth aW d dk))) := by
  obtain ⟨⟨fd, hF, F⟩, kp⟩ := h
  obtain ⟨g, b⟩ := hb fd hF
  refine ⟨fun pins s σ H Q I h => ?_⟩
  obtain ⟨r, t, S, l, rl, o⟩ := h
  have h1 : toA G xv Wx d σ H fun vs H1 => toA G xv Wx dk σ H1 fun zs H2 => vs.length = (e :: es).length ∧ zs.length = ks.length ∧ ∀ x dx, H2 x = none → H2 dx = none → dx ≠ x → spF G xv ps.length fn (gV (.ref x :: vs) zs) (upd (upd H2 dx (.own x)) x (.ins (G.cm c) dx [])) (fun v H2 => v = .non ∧ Q (.ref x) H2) (WE Wx σ) := by
    have o' : OutE G xv Wx (fun H S r w v => RW G H S r w v) σ H S r ((d t S).bind fun ws S1 => (dk t S1).bind fun zs S2 => match fn (.ref S2.length :: aW ws zs) (S2 ++ [.ins c [] []]) with
      | .ok .non S3 => .ok (.ref S2.length) S3
      | .er k ns us S3 => .er k ns us S3
      | _ => .no) Q := by
      unfold dMake dBoth at o
      cases ed : d t S with
      | no => rw [ed] at o; exact o
      | er c' ns' ws' S1 => rw [ed] at o; exact o
      | ok ws S1 =>
        rw [ed] at o
        simp only [R.bind_ok] at o ⊢
        cases ek : dk t S1 with
        | no => rw [ek] at o; exact o
        | er c' ns' ws' S1 => rw [ek] at o; exact o
        | ok zs S2 => rw [ek] at o; exact o
    refine toX.bind l rl o' fun ws S1 r1 H1 vs ew e1 rl1 l1 q o1 => toX.bind l1 rl1 o1 fun zs S2 r2 H2 us ez e2 rl2 l2 qz o2 => ⟨by rw [← q.length]; exact hlen t S ws S1 ew, by rw [← qz.length]; exact hlk t S1 zs S2 ez, ?_⟩
    intro x dx nx nd ne
    obtain ⟨vs', ev, q'⟩ := ar.rel (x := .ref x) (q.ev e2) qz (hlen t S ws S1 ew) (hlk t S1 zs S2 ez)
    rw [ev]
    exact outMake (by rw [← q'.length]; exact hn ws zs (hlen t S ws S1 ew) (hlk t S1 zs S2 ez)) q' rl2 o2 x dx nx nd ne
  refine wpAny_Call_Name_kw (ld_glob I hg hm ?_ hdb)
  refine PySem.W.callWith_KW (h₀ := X.base) I.ok.mod.kin M.kp hall (thn (ha.run pos pins s σ H _ I h1) fun us s1 ⟨vs, H1, I1, r, q⟩ => ?_) hpl he
  refine thn (hk.run pos pins s1 σ H1 _ I1 q) fun ws s2 ⟨zs, H2, I2, rz, q1, q2, q3⟩ => ⟨I2.kIn, ?_⟩
  rw [hks]
  exact run_makeKS M F hr b (passAt ck.tk σ) I2 r rz q1 q2 q3
/-- C(e, ..), the last parameters by their defaults -/
theorem de_makeD {c : Nat} {x : Str} {p pos : Pos} {e : Expr} {es : List Expr} {d : DA} {f : Addr} {k : Nat} {ps : List Str} {fn : Fn} {Fd : FuncData → Prop} {dw : List W} {dv : List V} (ck : Cok G X Wx) (h : DefG X.prog X.w X.K X.mg X.base G xv f k ps fn Fd) (M : Mk X.K (G.cm c) f) (hm : X.mg x = some (.ref (G.cm c))) (hr : Room (k + 1) X.A)
    (hb : ∀ fd, Fd fd → ∃ ds, Vals dv ds ∧ Binds X.K fd ps ds) (hdw : ∀ H S r, RWs G H S r dw dv) (ha : PA X (e :: es) (toA G xv Wx d)) (hlen : ∀ t S ws S', d t S = .ok ws S' → ws.length = (e :: es).length) (hn : (e :: es).length + dw.length + 1 = ps.length := by rfl) (hg : Gl X x := by rfl) (hdb : (x == ("__debug__" : Str)) = false := by decide)
    (he : starEach (e :: es) X.env = (false, eval e X.env) :: starEach es X.env := by rfl) (hpl : (backTo pos (starEach es X.env)).any (·.1) = false := by rfl) :
    PE X (.Call (.Name x p) (e :: es) [] pos) (toE G xv Wx (dMake c fn (dBoth (· ++ ·) d (fun _ S => .ok dw S)))) := by
  obtain ⟨⟨fd, hF, F⟩, kp⟩ := h
  obtain ⟨ds, hv, b⟩ := hb fd hF
  refine ⟨fun pins s σ H Q I h => ?_⟩
  obtain ⟨r, t, S, l, rl, o⟩ := h
  have h1 : toA G xv Wx d σ H fun vs H1 => vs.length = (e :: es).length ∧ ∀ x dx, H1 x = none → H1 dx = none → dx ≠ x → spF G xv ps.length fn (.ref x :: (vs ++ dv)) (upd (upd H1 dx (.own x)) x (.ins (G.cm c) dx [])) (fun v H2 => v = .non ∧ Q (.ref x) H2) (WE Wx σ) := by
    have o' : OutE G xv Wx (fun H S r w v => RW G H S r w v) σ H S r ((d t S).bind fun ws S2 => match fn (.ref S2.length :: (ws ++ dw)) (S2 ++ [.ins c [] []]) with
      | .ok .non S3 => .ok (.ref S2.length) S3
      | .er k ns us S3 => .er k ns us S3
      | _ => .no) Q := by
      unfold dMake dBoth at o
      cases ed : d t S with
      | no => rw [ed] at o; exact o
      | er c' ns' ws' S1 => rw [ed] at o; exact o
      | ok ws S1 => rw [ed] at o; exact o
    refine toX.bind l rl o' fun ws S1 r1 H1 vs ew e1 rl1 l1 q o1 => ⟨by rw [← q.length]; exact hlen t S ws S1 ew, ?_⟩
    intro x dx nx nd ne
    have q2 := q.append (hdw H1 S1 r1)
    exact outMake (by rw [← q2.length, List.length_append, hlen t S ws S1 ew]; exact hn) q2 rl1 o1 x dx nx nd ne
  refine wpAny_Call_Name_kw (ld_glob I hg hm ?_ hdb)
  refine PySem.W.callWith_K (h₀ := X.base) I.ok.mod.kin M.kp (thn (ha.run pos pins s σ H _ I h1) fun us s1 ⟨vs, H1, I1, r, ql, q⟩ => ⟨I1.kIn, ?_⟩) he hpl
  have hl : ds.length = dw.length := by rw [← hv.length, ← (hdw H1 [] ⟨fun _ => 0, fun _ => False⟩).length]
  have kb : KBn X.K fd ps ((e :: es).length + 1) [] (fun us _ => us ++ ds) (fun vs _ => vs ++ dv) := ⟨fun s us ws X l1 l2 => by
    cases ws with
    | nil => exact b s us X (by rw [List.length_append, l1, hl, ← hn]; omega)
    | cons _ _ => simp at l2, fun r1 _ => r1.append hv⟩
  exact run_makeKS (ws := []) (zs := []) M F hr kb (passAt ck.tk σ) I1 r .nil ql rfl q
end
end DD
namespace DD
open PySem PySem.Spec PyProof.Rows L2
/-! ### a, *b = t -/
section
variable {prog : Program} {w : World} {A : Around} {E : Value → Shared → Prop} {s : Shared}
theorem walksFrom (hh : A.handled = none) (I t : Addr) (hne : t ≠ I) (items : Array Value) (j : Nat) (hj : j ≤ items.size) :
    Walks prog w A I [I, t] [I] (items.size - j) (fun i v => items[j + i]? = some v) (fun i h => h.IsTupleIter I t (j + i) ∧ h.IsTuple t items) where
  sub := fun b hb => by simp at hb; simp [hb]
  frame := fun _ _ _ st hk => ⟨st.1.at fun o e => hk I (by simp) o e, st.2.at fun o e => hk t (by simp) o e⟩
  item := fun i s Q E hi st hQ => by
    have hlt : j + i < items.size := by omega
    refine wpAny_pyNext_tuple_item st.1 st.2 (x := items[j + i]) (by simp [hlt]) fun h' hit' hs' => ?_
    exact hQ _ h' s.toks (by simp [hlt]) ⟨hit', st.2.extBut hs'.extBut hne⟩ fun b o hb e => hs'.extBut b o (fun h => hb (by simp [h])) e
  done := fun s Q E st hQ => wpAny_pyNext_tuple_end hh st.1 st.2 (by simp; omega) fun h' he' => hQ h' s.toks fun b o hb e => he' b o (fun h => hb (by simp [h])) e
  self := fun _ _ _ _ st hQ => wpAny_pyIter_tupleiter st.1 hQ
theorem items_drop {items acc : Array Value} {j : Nat} (hj : j ≤ items.size) (h : ItemsOf (fun i v => items[j + i]? = some v) acc (items.size - j)) : acc.toList = items.toList.drop j := by
  refine List.ext_getElem? fun k => ?_
  rw [List.getElem?_drop]
  by_cases hk : k < acc.size
  · have e1 : acc[k]? = some acc[k] := by simp [hk]
    have e2 := h.2 k _ e1
    rw [Array.getElem?_toList, Array.getElem?_toList, e1, e2]
  · have : items.size ≤ j + k := by have := h.1; omega
    rw [Array.getElem?_toList, Array.getElem?_toList, Array.getElem?_eq_none (by omega), Array.getElem?_eq_none this]
theorem unpackItems_star {t : Addr} {items : Array Value} {j : Nat} {Q : List Value → Shared → Prop} (hh : A.handled = none) (ht : IsTup s.heap t items) (hj : j ≤ items.size) (hsz : items.size ≤ sizeLine)
    (hQ : ∀ h' tk l, (∀ b o, s.heap.get? b = some o → h'.get? b = some o) → s.heap.get? l = none → h'.get? l = some { cls := .type "list", data := .seq (items.toList.drop j).toArray } → Q (items.toList.take j ++ [.ref l]) { s with heap := h', toks := tk }) :
    wpAny (model prog w) A (unpackItems (.ref t) (j + 1) (some j)) Q E s := by
  have hlt : t ≠ s.heap.objs.size := by obtain ⟨o, ho, _⟩ := ht; exact Nat.ne_of_lt (Heap.lt_size ho)
  unfold unpackItems
  refine wpAny_bind ?_
  unfold notIterableAtAll
  refine wpAny_bind (wpAny_specialOf ht.typeIs slot_tuple_iter.lookup ?_)
  refine wpAny_pure ?_
  simp only [Bool.false_eq_true, if_false]
  refine wpAny_bind (wpAny_holding (iter_tuple ht ?_))
  refine wpAny_bind (wpAny_holding (draw_tuple hlt j 0 _ _ ⟨_, Heap.get?_push_size _ rfl, rfl, rfl⟩ (ht.push _) (by omega) fun h₁ hit₁ hs₁ => ?_))
  have ht₁ : IsTup h₁ t items := (ht.push _).extBut hs₁.extBut hlt
  rw [List.drop_zero]
  have hl : ¬ (items.toList.take j).length < j := by simp; omega
  rw [if_neg hl]
  refine wpAny_bind (wpAny_holding (wpAny_collect_iter (T := "tuple_iterator") (.inr (.inr (.inr rfl))) (walksFrom (A := A.in1) hh s.heap.objs.size t hlt items j hj).toS (fun i s st => st.1.typeIs) ⟨(by have z := hit₁; rw [Nat.zero_add] at z; exact z), ht₁⟩ ?_ (by simp) (fun s' acc mv io => ?_) (by omega)))
  · intro b hb
    simp at hb
    rcases hb with rfl | rfl
    · obtain ⟨o, ho, _⟩ := hit₁; exact Heap.lt_size ho
    · obtain ⟨o, ho, _⟩ := ht₁; exact Heap.lt_size ho
  · have hr := items_drop hj io
    rw [hr]
    have e0 : j + 1 - 1 - j = 0 := by omega
    rw [e0, if_neg (Nat.not_lt_zero _)]
    simp only [Nat.sub_zero, List.take_length, List.drop_length]
    obtain ⟨hp', g', d', t', os'⟩ := s'
    have hg : g' = s.gens := mv.gens
    have hd : d' = s.drawn := mv.drawn
    have ho : os' = s.os := mv.os
    subst hg hd ho
    have hk : ∀ b o, s.heap.get? b = some o → hp'.get? b = some o := fun b o e => by
      have hb : b ≠ s.heap.objs.size := Nat.ne_of_lt (Heap.lt_size e)
      exact mv.heap b o (by simp [hb]) (hs₁.extBut b o hb (Heap.get?_push_of_some _ e))
    have hsz' : (items.toList.drop j).length ≤ sizeLine := by simp; omega
    refine wpAny_bind ?_
    unfold newList
    refine wpAny_newObj_type ?_ (by first | size_fits | (simp; omega))
    refine wpAny_pure ?_
    rw [List.append_nil]
    refine hQ _ _ hp'.objs.size (fun b o e => Heap.get?_push_of_some _ (hk b o e)) ?_ (Heap.get?_push_size _ rfl)
    cases e : s.heap.get? hp'.objs.size with
    | none => rfl
    | some o => exact absurd (Heap.lt_size (hk _ _ e)) (Nat.lt_irrefl _)
end
section
variable {G : Gx} {xv : Nat → Value} {Wx : WX} {X : Cx} {H H' : Hp} {S S' : Sto} {r r' : Rh}
/-- a, .., *b = a tuple: j names ahead of the star -/
def gStarT (K : PySem.W.Frag) (j : Nat) (t : TGs) : TG := fun v σ H Q => ∃ a xs, v = .ref a ∧ SqT K H a xs ∧ j ≤ xs.length ∧ ∀ l, H l = none → t (xs.take j ++ [.ref l]) σ (upd H l (.lst (xs.drop j))) Q
theorem pg_star {es es' : List Expr} {k : Nat} {t : TGs} {j : Nat} {pos : Pos} (hc : X.calm = true) (h : PGs X es' t) (hn : (assignEach es X.env).length = j + 1 := by rfl) (hst : (assignEach es X.env).findIdx? (·.1) = some j := by rfl)
    (hm : (assignEach es X.env).map (·.2) = (assignEach es' X.env).map (·.2) := by rfl) : PG X (.Tuple es k pos) (gStarT X.K j t) := by
  refine ⟨fun pins s σ H v u Q I r hw => ?_⟩
  obtain ⟨a, xs, e1, hq, hl, hw⟩ := hw
  subst e1
  cases r
  obtain ⟨its, rv, ht, hz⟩ := I.tuple hq
  rw [assign_Tuple]
  refine wpAny_bind (wpAny_standAt ?_)
  unfold unpack
  have hlen := rv.length
  refine wpAny_bind (wpAny_holding ?_)
  rw [hn, hst]
  refine unpackItems_star (I.ok.hd hc) ht (by simp; omega) (by simp; omega) fun h' tk l kp nl hl' => ?_
  have hHl : H l = none := HOk.gone I.hok nl
  have I1 : Inv X pins σ (upd H l (.lst (xs.drop j))) { s with heap := h', toks := tk } := I.laidN kp nl hHl ⟨by simp; omega, its.drop j, 0, rv.drop j, hl'⟩
  rw [hm]
  exact h.run pins _ σ _ _ _ Q I1 ((rv.take j).append (.cons (show RelV (.ref l) (.ref l) from rfl) .nil)) (hw l hHl)
end
end DD
namespace DD
open PySem PySem.Spec PyProof.Rows L2
/-! ### isinstance of one own class -/
def isi1 (c : Nat) : Ki → Ki → Option Bool
  | .b x, .c d => if d = c then (if x = "NoneType" ∨ x = "bool" ∨ x = "int" ∨ x = "str" ∨ x = "tuple" ∨ x = "list" ∨ x = "dict" then some false else none) else none
  | .c a, .c d => if d = c ∧ a = c then some true else none
  | _, _ => none
theorem isi1_ok {K : PySem.W.Frag} {cm : Nat → Addr} {n : Nat} (h1 : PySem.W.kitOne K (.type "NoneType") (.ref (cm n)) = some false) (h2 : PySem.W.kitOne K (.type "bool") (.ref (cm n)) = some false) (h3 : PySem.W.kitOne K (.type "int") (.ref (cm n)) = some false) (h4 : PySem.W.kitOne K (.type "str") (.ref (cm n)) = some false)
    (h5 : PySem.W.kitOne K (.type "tuple") (.ref (cm n)) = some false) (h6 : PySem.W.kitOne K (.type "list") (.ref (cm n)) = some false) (h7 : PySem.W.kitOne K (.type "dict") (.ref (cm n)) = some false) (h8 : PySem.W.kitOne K (.ref (cm n)) (.ref (cm n)) = some true) (hI : InsK K (cm n)) :
    ∀ a b k, isi1 n a b = some k → PySem.W.kitOne K (a.v cm) (b.v cm) = some k ∧ ∀ c, a = .c c → InsK K (cm c) := by
  intro a b k e
  cases a with
  | b x =>
    cases b with
    | b y => simp [isi1] at e
    | c d =>
      simp only [isi1] at e
      split at e
      · rename_i h
        subst h
        split at e
        · rename_i hx
          cases e
          refine ⟨?_, fun c z => by cases z⟩
          rcases hx with rfl | rfl | rfl | rfl | rfl | rfl | rfl <;> assumption
        · cases e
      · cases e
  | c x =>
    cases b with
    | b y => simp [isi1] at e
    | c d =>
      simp only [isi1] at e
      split at e
      · rename_i h
        obtain ⟨rfl, rfl⟩ := h
        cases e
        exact ⟨h8, fun c z => by cases z; exact hI⟩
      · cases e
end DD
namespace DD
open PySem PySem.Spec PyProof.Rows L2
/-! ### enumerate(tuple) -/
set_option maxHeartbeats 1000000 in
theorem meets_enumerate_one {v : Value} {o : Obj} {H : Heap → Prop} (B : Begins v o H) :
    Meets (Builtin.«enumerate.__new__» ⟨[.type "enumerate", v], []⟩) (fun _ R s => H s.heap ∧
      R (.ok (.ret (.ref (s.heap.push o).objs.size))) { s with heap := (s.heap.push o).push { cls := .type "enumerate", data := .fields #[.none, .bool false, .ref s.heap.objs.size, rawInt 0, .none, .none] } }) :=
  .of_wp fun prog w A R s h => by
    obtain ⟨hp, g, d, tk, os⟩ := s; obtain ⟨h1, h⟩ := h
    have hsub := sub_enumerate
    have q1 : ∀ {A' : Around} {E : Value → Shared → Prop} {Q : Value → Shared → Prop}, Q (.ref hp.objs.size) ⟨hp.push o, g, d, tk, os⟩ → wpAny (model prog w) A' (pyIter v) Q E ⟨hp, g, d, tk, os⟩ :=
      fun q => B.iter prog w _ _ ⟨hp, g, d, tk, os⟩ _ h1 q
    wp_walk using q1
    refine wpAny_stack_any fun st => wpAny_pure ?_
    split
    · rename_i c _ _ _ _ _
      cases (c == Value.type "enumerate")
      · wp_walk using q1
        exact ⟨_, rfl, h⟩
      · wp_walk using q1
        exact ⟨_, rfl, h⟩
    · wp_walk using q1
      exact ⟨_, rfl, h⟩
section
variable {prog : Program} {w : World} {A : Around} {E : Value → Shared → Prop} {s : Shared}
theorem enum_begins_one {v : Value} {o : Obj} {H : Heap → Prop} {Q : Value → Shared → Prop} (B : Begins v o H) (h1 : H s.heap)
    (h : ∀ h', IsEnum h' (s.heap.objs.size + 1) s.heap.objs.size 0 .none → h'.get? s.heap.objs.size = some o → h'.objs.size = s.heap.objs.size + 2 →
      (∀ b o, s.heap.get? b = some o → h'.get? b = some o) → Q (.ref (s.heap.objs.size + 1)) { s with heap := h' }) :
    wpAny (model prog w) A (call (.type "enumerate") [v]) Q E s := by
  refine callType_new F.called_enumerate (by decide) (F.typeCall_enumerate_1 _) (F.newCall_enumerate_1 _) (fun obj => F.args_object_init_2 obj _) F.entry_enumerate_new
    (meets_enumerate_one B) ⟨h1, ?_⟩
  have hz : (s.heap.push o).objs.size = s.heap.objs.size + 1 := Heap.size_push ..
  show _ ∧ _
  rw [hz]
  have he : IsEnum ((s.heap.push o).push { cls := .type "enumerate", data := .fields #[.none, .bool false, .ref s.heap.objs.size, rawInt 0, .none, .none] }) (s.heap.objs.size + 1) s.heap.objs.size 0 .none := by
    have := Heap.get?_push_size (s.heap.push o) (o := { cls := .type "enumerate", data := .fields #[.none, .bool false, .ref s.heap.objs.size, rawInt 0, .none, .none] }) rfl
    rw [hz] at this; exact this
  refine ⟨⟨_, he, rfl⟩, h _ he (Heap.get?_push_of_some _ (Heap.get?_push_size _ B.free)) (by rw [Heap.size_push, hz]) fun b o x => Heap.get?_push_of_some _ (Heap.get?_push_of_some _ x)⟩
end
/-- the tuple at a, each item in a new pair -/
def IteT (K : PySem.W.Frag) (a : Addr) : It :=
  ⟨fun i H => ∃ (xs : List V) (x : V), SqT K H a xs ∧ xs[i]? = some x, fun i H v H' => ∃ T x, v = .ref T ∧ H T = none ∧ H' = upd H T (.tup [.int (i : Nat), x]) ∧ ∀ xs, SqT K H a xs → xs[i]? = some x, fun i H => ∃ xs : List V, SqT K H a xs ∧ xs.length ≤ i⟩
theorem turn_enumT {P : Program} {w : World} {K : PySem.W.Frag} {elts : List Expr} {kk : Nat} {tpos : Pos} (a e it : Addr) (hei : e ≠ it) (hai : a ≠ it) (hea : e ≠ a) :
    Turn P w K (.Tuple elts kk tpos) (IteT K a) [e, it] e (fun i h => (∃ old, IsEnum h e it ((i : Nat) : Int) old) ∧ h.IsTupleIter it a i) where
  mem := by simp
  obj := fun i h st b hb => by
    obtain ⟨⟨old, he⟩, ⟨o, ho, hc, hd⟩⟩ := st
    have e' : b = e ∨ b = it := by simpa using hb
    rcases e' with z | z
    · rw [z]; exact ⟨_, he, fun v q => nomatch q⟩
    · rw [z]; exact ⟨o, ho, fun v q => by rw [hd] at q; cases q⟩
  keep := fun i h h' st k => let ⟨⟨old, he⟩, hi⟩ := st; ⟨⟨old, k e (by simp) _ he⟩, hi.at fun o q => k it (by simp) o q⟩
  item := by
    intro X hP hw hK hc i pins s σ H E I hf st hg
    subst hP hw hK
    obtain ⟨⟨old, he⟩, hit⟩ := st
    obtain ⟨xs, x, hq, hx⟩ := hg
    obtain ⟨its, rv, p, hz⟩ := I.tuple hq
    obtain ⟨u, hu, ru⟩ := rv.get hx
    have hel : e < s.heap.objs.size := Heap.lt_size he
    have hil : it < s.heap.objs.size := by obtain ⟨_, q, _⟩ := hit; exact Heap.lt_size q
    have hu' : its.toArray[i]? = some u := by simpa using hu
    refine wpAny_pyNext_enum_itemD (n := its.toArray.size) (Draws.tuple (A := X.A.in1) (show X.A.in1.handled = none from I.ok.hd hc) it a hai its.toArray) he ⟨hit, p⟩ (by simpa using (List.getElem?_eq_some_iff.mp hu).1) hei (by simp [hei, hea]) fun y h' tk hP ho st' hT hsz hk => ?_
    have : y = u := by rw [hu'] at hP; cases hP; rfl
    subst this
    obtain ⟨hit', _⟩ := st'
    refine ⟨_, rfl, wpAny_letOwnedTupleGo_enum (s := { s with heap := h', toks := tk + 1 }) ho fun h'' he' sb => ?_⟩
    have hT2 : h''.get? s.heap.objs.size = some { cls := .type "tuple", data := .seq #[.int i tk, y] } := (sb.2 _ (Nat.ne_of_gt hel)).trans hT
    have new : ObjOk X.prog X.w (upd H s.heap.objs.size (.tup [.int (i : Nat), x])) h'' s.heap.objs.size (.tup [.int (i : Nat), x]) :=
      ⟨by show 2 ≤ sizeLine; decide, [.int i tk, y], .cons ⟨_, rfl⟩ (.cons ru .nil), ⟨_, hT2, rfl, _, rfl⟩⟩
    have I1 : Inv X pins σ (upd H s.heap.objs.size (.tup [.int (i : Nat), x])) { s with heap := h'', toks := tk + 1 } :=
      I.turnedNew (ch := [e, it]) (fun b ob hb q => (sb.2 b (fun z => hb (by simp [z]))).trans (hk b ob (fun z => hb (by simp [z])) (fun z => hb (by simp [z])) q)) hf (Nat.le_refl _) new
    refine ⟨.ref s.heap.objs.size, _, I1, rfl, ⟨_, x, rfl, I.hok.fresh (Nat.le_refl _), rfl, fun ys hy => by rw [I.tuple_inj hy hq]; exact hx⟩, ⟨⟨y, ?_⟩, hit'.at fun o q => (sb.2 it (Ne.symm hei)).trans q⟩, fun b hb => ?_⟩
    · have e1 : ((i + 1 : Nat) : Int) = (i : Int) + 1 := by omega
      rw [e1]; exact he'
    · have hb' : b < s.heap.objs.size := by
        have e' : b = e ∨ b = it := by simpa using hb
        rcases e' with z | z
        · rw [z]; exact hel
        · rw [z]; exact hil
      rw [upd_ne (Nat.ne_of_lt hb')]
      exact (hf b hb).1
  done := by
    intro X hP hw hK hc i pins s σ H E I hf st hg
    subst hP hw hK
    obtain ⟨⟨old, he⟩, hit⟩ := st
    obtain ⟨xs, hq, hx⟩ := hg
    obtain ⟨its, rv, p, hz⟩ := I.tuple hq
    obtain ⟨f0, f1, f2, f3, f4, f5⟩ := hf it (by simp)
    have hl := rv.length
    have hT : s.TypeIs (.ref e) "enumerate" := ⟨_, he, rfl⟩
    unfold pyNext
    refine wpAny_bind (wpAny_attempt (wpAny_callSpecial?_slot (name := Str.ofString "__next__") hT F.slot_enumerate_next
      (wpAny_call_entry F.slot_enumerate_next hT F.entry_enumerate_next ?_ (F.args_enumerate_next_1 _))))
    show wpAny _ _ (field (.ref e) 2 >>= _) _ _ _
    refine wpAny_bind (wpAny_field he rfl (x := .ref it) rfl ?_)
    refine wpAny_bind (wpAny_nextOf_tuple_end (I.ok.hd hc) hit (show s.heap.IsTuple a its.toArray from p) (by simp; omega) fun h' x eb hx' => ?_)
    obtain ⟨o, ho, hc'⟩ := hx'
    refine wpAny_bind (wpAny_isInstance (T := "StopIteration") (b := true) ⟨o, ho, hc'⟩ isSubtype_stop ?_)
    exact wpAny_pure ⟨rfl, I.turned (t' := s.toks) (fun b o hb q => eb b o hb q) f0 f1 f3 f4 f5⟩
  self := fun A i s Q E st h => let ⟨⟨_, he⟩, _⟩ := st; wpAny_pyIter_enum he h
def iEnumT (K : PySem.W.Frag) (ta : TA) : TI := fun σ H R => ta σ H fun vs H1 => ∃ a xs, vs = [.ref a] ∧ SqT K H1 a xs ∧ R (IteT K a) H1
theorem pi_enumT {X : Cx} {e : Expr} {ta : TA} {p pos tpos : Pos} {elts : List Expr} {kk : Nat} (hg : Gl X "enumerate") (hm : X.mg "enumerate" = none) (ha : PA X [e] ta) (hs : starEach [e] X.env = [(false, eval e X.env)] := by rfl) :
    PI X (.Tuple elts kk tpos) (.Call (.Name "enumerate" p) [e] [] pos) (iEnumT X.K ta) := by
  refine ⟨fun pins s σ H R I h => ?_⟩
  refine Call_ (ld_blt I hg hm boot_enumerate (PyProof.Rows.callWith_type1 (thn (ha.run pos pins s σ H _ I h) fun us s1 ⟨vs, H1, I1, r1, q1⟩ => ?_) hs rfl))
  obtain ⟨a, xs, ex, hq, q⟩ := q1
  subst ex
  cases r1 with
  | cons r rr =>
    cases rr
    cases r
    obtain ⟨its, rv, p', hz⟩ := I1.tuple hq
    have hal : a < s1.heap.objs.size := by obtain ⟨o, ho, _⟩ := p'; exact Heap.lt_size ho
    refine enum_begins_one (begins_tuple a its.toArray) p' fun h' he hit hsz hk => wpAny_pyIter_enum he ?_
    have I2 : Inv X pins σ H1 { s1 with heap := h' } := I1.kept (t' := s1.toks) hk
    refine ⟨s1.heap.objs.size + 1, [s1.heap.objs.size + 1, s1.heap.objs.size], _, _, H1, rfl, I2, turn_enumT a (s1.heap.objs.size + 1) s1.heap.objs.size (Nat.succ_ne_self _) (Nat.ne_of_lt hal) (Nat.ne_of_gt (Nat.lt_succ_of_lt hal)), ⟨⟨.none, he⟩, ⟨_, hit, rfl, rfl⟩⟩, fun b hb => ?_, q⟩
    have e' : b = s1.heap.objs.size + 1 ∨ b = s1.heap.objs.size := by simpa using hb
    have hle : s1.heap.objs.size ≤ b := by
      rcases e' with z | z
      · rw [z]; exact Nat.le_add_right _ _
      · rw [z]; exact Nat.le_refl _
    exact I1.fpOk hle (I1.hok.fresh hle)
section
variable {G : Gx} {xv : Nat → Value} {Wx : WX} {X : Cx} {H H' : Hp} {S S' : Sto} {r r' : Rh}
theorem iteT_ok {a : Addr} {ws : List W} {vs : List V} (ta : TupAt G H S r a vs) (q : RWs G H S r ws vs) : ItOk G H S r (IteT G.K a) (enumFrom 0 ws) where
  go := fun H1 S1 r1 e rl i w hw => by
    obtain ⟨x, hx, _⟩ := enumFrom_get hw
    obtain ⟨v, h1, _⟩ := q.get hx
    exact ⟨vs, v, (ta.mp e).sq, h1⟩
  yld := fun H1 S1 r1 e rl i w hw x H2 hy => by
    obtain ⟨y, hx, rfl⟩ := enumFrom_get hw
    obtain ⟨v, h1, h2⟩ := q.get hx
    obtain ⟨T, x1, rfl, nT, rfl, f⟩ := hy
    have := f vs (ta.mp e).sq
    rw [h1] at this
    cases this
    refine ⟨Ev.fresh nT rl, rl.fresh nT, .tup (.inl (Own.new nT rl)) (.cons ?_ (.cons ((h2.mp e).ev (Ev.fresh nT rl)) .nil))⟩
    have e0 : (0 : Int) + (i : Int) = (i : Int) := by omega
    rw [e0]
    exact .int _
  stop := fun H1 S1 r1 e rl i hi => ⟨vs, (ta.mp e).sq, by rw [← q.length]; rw [enumFrom_length] at hi; exact hi⟩
def dEnumT (d : DA) : DA := fun t S => (d t S).bind fun ws S1 => match ws with
  | [.tup l] => .ok (enumFrom 0 l) S1
  | _ => .no
theorem di_enumT {e : Expr} {d : DA} {p pos tpos : Pos} {elts : List Expr} {kk : Nat} (c : Cok G X Wx) (ha : PA X [e] (toA G xv Wx d)) (hm : X.mg "enumerate" = none) (hg : Gl X "enumerate" := by rfl) (hs : starEach [e] X.env = [(false, eval e X.env)] := by rfl) :
    PI X (.Tuple elts kk tpos) (.Call (.Name "enumerate" p) [e] [] pos) (toI G xv Wx (dEnumT d)) := PIi (pi_enumT hg hm ha hs) fun s H Q ⟨r, t, S, l, rl, o⟩ => toX.bind l rl o fun ws S1 r1 H1 vs _ e1 rl1 l1 q o1 => by
  cases q with
  | nil => exact o1.elim
  | @cons w ws v vs a q =>
    cases q with
    | cons _ _ => cases w <;> exact o1.elim
    | nil =>
      rw [c.kk]
      cases w with
      | tup us =>
        cases a with
        | tup ow q => exact ⟨_, _, rfl, ow.sq, o1 r1 H1 _ .refl rl1 (iteT_ok ow q)⟩
      | _ => exact o1.elim
/-- enumerate of a list or a tuple -/
def dEnumA (d : DA) : DA := fun t S => match d t S with
  | .ok [.tup _] _ => dEnumT d t S
  | _ => dEnum d t S
theorem di_enumA {e : Expr} {d : DA} {p pos tpos : Pos} {elts : List Expr} {kk : Nat} (c : Cok G X Wx) (ha : PA X [e] (toA G xv Wx d)) (hm : X.mg "enumerate" = none) (hg : Gl X "enumerate" := by rfl) (hs : starEach [e] X.env = [(false, eval e X.env)] := by rfl) :
    PI X (.Tuple elts kk tpos) (.Call (.Name "enumerate" p) [e] [] pos) (toI G xv Wx (dEnumA d)) := PIi (PIor (di_enum c ha hm hg hs) (di_enumT c ha hm hg hs)) fun s H Q ⟨r, t, S, l, rl, o⟩ => by
  unfold dEnumA at o
  split at o
  · exact .inr ⟨r, t, S, l, rl, o⟩
  · exact .inl ⟨r, t, S, l, rl, o⟩
/-! ### a, *b = t -/
def gStar (j : Nat) (gs : DGs) : DG := fun w t S => match w with
  | .tup ws => if j ≤ ws.length then gs (ws.take j ++ [.lst (ws.drop j)]) t S else .no
  | _ => .no
theorem dg_star {es es' : List Expr} {k : Nat} {gs : DGs} {j : Nat} {pos : Pos} (c : Cok G X Wx) (h : PGs X es' (toGs G xv gs)) (hn : (assignEach es X.env).length = j + 1 := by rfl) (hst : (assignEach es X.env).findIdx? (·.1) = some j := by rfl)
    (hm : (assignEach es X.env).map (·.2) = (assignEach es' X.env).map (·.2) := by rfl) : PG X (.Tuple es k pos) (toG G xv (gStar j gs)) :=
  PGi (pg_star c.calm h hn hst hm) fun v s H Q ⟨r, t, S, w, l, rl, q, o⟩ => by
    cases w with
    | tup ws =>
      cases q with
      | @tup a _ vs ta q =>
        simp only [gStar] at o
        by_cases hl : j ≤ ws.length
        · rw [if_pos hl] at o
          refine ⟨a, vs, rfl, by rw [c.kk]; exact ta.sq, by rw [← q.length]; exact hl, fun p hp => ?_⟩
          refine ⟨r, t, S, _, l.ev (Ev.fresh hp rl), rl.fresh hp, ?_, OutE.from (Ev.fresh hp rl) o⟩
          exact ((q.take j).ev (Ev.fresh hp rl)).append (.cons (.lst (Own.new hp rl) ((q.drop j).ev (Ev.fresh hp rl))) .nil)
        · rw [if_neg hl] at o; exact o.elim
    | _ => exact o.elim
/-! ### xs.insert(i, y) -/
def insertM : W → List W → Sto → R W := fun w ws S => match w, ws with
  | .ref p, [.int i, y] => match S[p]? with
    | some (.lst xs) => if xs.length < sizeLine ∧ 0 ≤ i ∧ i < 2 ^ 63 then .ok .non (S.set p (.lst (xs.take i.toNat ++ [y] ++ xs.drop i.toNat))) else .no
    | _ => .no
  | _, _ => .no
theorem m_insert : MtR X "list.insert" (toM G xv insertM) := by
  intro pins s σ H x xs v us Q I rx rv ⟨r, S, w, ws, rl, qw, q, o⟩
  cases w with
  | ref p =>
    cases q with
    | nil => exact o.elim
    | @cons y ws yv vs a q =>
      cases a with
      | int i =>
        cases q with
        | nil => exact o.elim
        | @cons z ws zv vs b q =>
          cases q with
          | cons _ _ => exact o.elim
          | nil =>
            simp only [insertM] at o
            cases e : S[p]? with
            | none => rw [e] at o; exact o.elim
            | some u =>
              rw [e] at o
              cases u with
              | lst zs =>
                simp only [] at o
                split at o
                · rename_i h
                  obtain ⟨ho, h1, h2⟩ := rl.at_ p _ e (fun z => by cases z)
                  cases qw with
                  | ref hp =>
                    cases h2 with
                    | @lst _ zl qz =>
                      refine mt_insert pins s σ H _ _ v us Q I rx rv ⟨r p, zl, i, zv, rfl, rfl, h1, by rw [← qz.length]; exact h.1, h.2.1, h.2.2, ?_⟩
                      exact o r _ _ (Ev.set rl e (fun z => by cases z)) (rl.set e (fun z => by cases z) (.lst (((qz.take i.toNat).append (.cons b .nil)).append (qz.drop i.toNat)))) .non
                · exact o.elim
              | _ => exact o.elim
      | _ => exact o.elim
  | _ => exact o.elim
/-! ### comprehensions, whatever is walked -/
def LcOf (G : Gx) (xv : Nat → Value) (Wx : WX) (dl : DX) (wi : TI) (g : Tg) (tt : DT) (te : DX) (vs : List Nat) : Prop := ∀ (s : L2.St) (H : Hp) (Q : VK), toE G xv Wx dl s H Q → tLc wi (g.toTG G.K) (toT G xv W0 tt) (toE G xv W0 te) vs s H Q
theorem de_lcG {elt tg iter : Expr} {ifs : List Expr} {scope : Scope} {own : List (Str × Nat)} {pos : Pos} {wi : TI} {dl : DX} {g : Tg} {tt : DT} {te : DX} (k : Cok G X Wx) (hi : PI X tg iter wi) (ok : blkC X.N X.env.scope scope own = true)
    (hg : ∀ (s : Shared) (H : Hp) (C : Addr) (cl : List (Str × Addr)) (fp : List Addr), Cok G (X.blk s H scope (compEnvC scope cl C X.env) fp) W0 → PG (X.blk s H scope (compEnvC scope cl C X.env) fp) tg (g.toTG G.K))
    (ht : ∀ (s : Shared) (H : Hp) (C : Addr) (cl : List (Str × Addr)) (fp : List Addr), Cok G (X.blk s H scope (compEnvC scope cl C X.env) fp) W0 → PTs (X.blk s H scope (compEnvC scope cl C X.env) fp) ifs (toT G xv W0 tt))
    (he : ∀ (s : Shared) (H : Hp) (C : Addr) (cl : List (Str × Addr)) (fp : List Addr), Cok G (X.blk s H scope (compEnvC scope cl C X.env) fp) W0 → PE (X.blk s H scope (compEnvC scope cl C X.env) fp) elt (toE G xv W0 te))
    (h : LcOf G xv Wx dl wi g tt te (own.map (·.2))) (hs : ∀ x, foldedSetIterable iter X.env x = pure x := by intro _; rfl) :
    PE X (.ListComp elt [⟨tg, iter, ifs, 0⟩] scope pos) (toE G xv Wx dl) :=
  PEi (pe_lc k.calm k.nd hi (blkOk_by ok) (fun s H C cl fp => hg s H C cl fp (k.blk s H _ _ fp)) (fun s H C cl fp => ht s H C cl fp (k.blk s H _ _ fp)) (fun s H C cl fp => he s H C cl fp (k.blk s H _ _ fp)) hs) h
theorem ds_setLcG {i : Nat} {y : Str} {py : Pos} {elt tg iter : Expr} {ifs : List Expr} {scope : Scope} {own : List (Str × Nat)} {pos spos : Pos} {wi : TI} {dl : DX} {g : Tg} {tt : DT} {te : DX} (k : Cok G X Wx) (hi : PI X tg iter wi) (ok : blkC X.N X.env.scope scope own = true)
    (hg : ∀ (s : Shared) (H : Hp) (C : Addr) (cl : List (Str × Addr)) (fp : List Addr), Cok G (X.blk s H scope (compEnvC scope cl C X.env) fp) W0 → PG (X.blk s H scope (compEnvC scope cl C X.env) fp) tg (g.toTG G.K))
    (ht : ∀ (s : Shared) (H : Hp) (C : Addr) (cl : List (Str × Addr)) (fp : List Addr), Cok G (X.blk s H scope (compEnvC scope cl C X.env) fp) W0 → PTs (X.blk s H scope (compEnvC scope cl C X.env) fp) ifs (toT G xv W0 tt))
    (he : ∀ (s : Shared) (H : Hp) (C : Addr) (cl : List (Str × Addr)) (fp : List Addr), Cok G (X.blk s H scope (compEnvC scope cl C X.env) fp) W0 → PE (X.blk s H scope (compEnvC scope cl C X.env) fp) elt (toE G xv W0 te))
    (h : LcOf G xv Wx dl wi g tt te (own.map (·.2)))
    (hsw : swapsWith (.ListComp elt [⟨tg, iter, ifs, 0⟩] scope pos) (some (.Name y py)) spos.line X.env = pure true) (hy : X.N[i]? = some y := by rfl) (hyl : X.env.scope.names.lookup y = some .local := by rfl)
    (hs : ∀ x, foldedSetIterable iter X.env x = pure x := by intro _; rfl) :
    PS X (.Assign [.Name y py] (.ListComp elt [⟨tg, iter, ifs, 0⟩] scope pos) spos) (toS G xv Wx (dAsg dl (gN i))) :=
  PSi (ps_setLc k.calm k.nd hy hyl hsw hi (blkOk_by ok) (fun s H C cl fp => hg s H C cl fp (k.blk s H _ _ fp)) (fun s H C cl fp => ht s H C cl fp (k.blk s H _ _ fp)) (fun s H C cl fp => he s H C cl fp (k.blk s H _ _ fp)) hs) fun D s H ⟨r, t, S, l, rl, o⟩ => by
    refine h s H _ ⟨r, t, S, l, rl, ?_⟩
    unfold dAsg at o
    cases e : dl t S with
    | ok w S1 =>
      rw [e] at o
      exact fun r1 H1 v e1 rl1 q => o r1 H1 _ e1 rl1 ((l.ev e1).set q i)
    | er c ns ws S1 =>
      rw [e] at o
      exact fun r1 H1 dd e1 rl1 x => o r1 H1 s dd e1 rl1 (l.ev e1) x
    | no => rw [e] at o; exact o.elim
theorem plc {g : Tg} {vs : List Nat} (hv : (g.places.all fun i => vs.contains i) = true) : ∀ i ∈ g.places, i ∈ vs := fun i h => by
  have := List.all_eq_true.mp hv i h
  simpa using this
theorem lc_v {d : DA} {g : Tg} {tt : DT} {te : DX} {vs : List Nat} (hv : (g.places.all fun i => vs.contains i) = true := by rfl) : LcOf G xv Wx (dLc d g tt te vs) (toI G xv Wx d) g tt te vs := toLc (plc hv)
theorem lc_r {d : Lo → Sto → R (Nat × List W)} {g : Tg} {tt : DT} {te : DX} {vs : List Nat} (hv : (g.places.all fun i => vs.contains i) = true := by rfl) : LcOf G xv Wx (dLcR d g tt te vs) (toIR G xv Wx d) g tt te vs := toLcR (plc hv)
theorem lc_new {d : DA} {g : Tg} {tt : DT} {te : DX} {vs : List Nat} (hv : (g.places.all fun i => vs.contains i) = true := by rfl) : LcOf G xv Wx (dNewLc d g tt te vs) (toI G xv Wx d) g tt te vs := toNewLc (plc hv)
/-- over a list of the store, a list or a tuple -/
noncomputable def dLcA (d : DX) (g : Tg) (tt : DT) (te : DX) (vs : List Nat) : DX := fun t S => match d t S with
  | .ok (.ref _) _ => dLcR (dSeqR d) g tt te vs t S
  | _ => dLc (dSeqI d) g tt te vs t S
def tOr (t t' : TI) : TI := fun s H R => t s H R ∨ t' s H R
theorem di_a {tg e : Expr} {d : DX} (k : Cok G X Wx) (he : PE X e (toE G xv Wx d)) : PI X tg e (tOr (toI G xv Wx (dSeqI d)) (toIR G xv Wx (dSeqR d))) := PIor (di_seq k he) (di_seqR k he)
theorem lc_a {d : DX} {g : Tg} {tt : DT} {te : DX} {vs : List Nat} (hv : (g.places.all fun i => vs.contains i) = true := by rfl) : LcOf G xv Wx (dLcA d g tt te vs) (tOr (toI G xv Wx (dSeqI d)) (toIR G xv Wx (dSeqR d))) g tt te vs := fun s H Q ⟨r, t, S, l, rl, o⟩ => by
  unfold dLcA at o
  split at o
  · exact .inr (toLcR (plc hv) s H Q ⟨r, t, S, l, rl, o⟩)
  · exact .inl (toLc (plc hv) s H Q ⟨r, t, S, l, rl, o⟩)
end
end DD
namespace DD
open PySem PySem.Spec PyProof.Rows L2
section
variable {G : Gx} {xv : Nat → Value} {Wx : WX} {X : Cx} {H H' : Hp} {S S' : Sto} {r r' : Rh}
/-! ### o[i] by an own __getitem__ -/
def dGetK (c : Nat) (fn : Fn) (o i : DX) : DX := fun t S => (o t S).bind fun w S1 => (i t S1).bind fun k S2 => if isOf c w S2 = true then fn [w, k] S2 else .no
theorem de_getK {c : Nat} {o i : Expr} {pos : Pos} {d e : DX} {f : Addr} {k : Nat} {fn : Fn} (ck : Cok G X Wx) (h : DefOk X.prog X.w X.K X.mg X.base G xv f k 2 fn) (hr : Room (k + 1) X.A) (M : Meth G.K (G.cm c) "__getitem__" f) (hfi : PySem.W.fnIn G.K f = true)
    (ho : PE X o (toE G xv Wx d)) (hi : PE X i (toE G xv Wx e)) (hsl : ∀ x v, subscripted i true (.ref x) v = runValue (.builtin "lifetime.subscript" ⟨[.ref x, v], []⟩) := by intro _ _; with_unfolding_all rfl) :
    PE X (.Subscript o i pos) (toE G xv Wx (dGetK c fn d e)) := by
  obtain ⟨⟨fd, ps, hp, F, b⟩, kp⟩ := h
  refine ⟨fun pins s σ H Q I h => ?_⟩
  obtain ⟨r, t, S, l, rl, oo⟩ := h
  have h1 : toE G xv Wx d σ H (fun x H1 => toE G xv Wx e σ H1 fun y H2 => ∃ a dx fs, x = .ref a ∧ H2 a = some (.ins (G.cm c) dx fs) ∧ spF G xv 2 fn [x, y] H2 Q (WE Wx σ)) := by
    refine toX.bind l rl oo fun w S1 r1 H1 v _ e1 rl1 l1 q o1 => ?_
    refine toX.bind l1 rl1 o1 fun w2 S2 r2 H2 v2 _ e2 rl2 l2 q2 o2 => ?_
    split at o2
    · rename_i hi
      obtain ⟨a, dx, fs, rfl, h1⟩ := isOf_ok rl2 (q.ev e2) hi
      exact ⟨a, dx, fs, rfl, h1, spOut rfl (.cons (q.ev e2) (.cons q2 .nil)) rl2 o2⟩
    · exact o2.elim
  refine PyProof.Rows.Subscript_ (thn (ho.run pins s σ H _ I h1) fun u s1 ⟨x, H1, I1, rx, q1⟩ => thn (hi.run pins s1 σ H1 _ I1 q1) fun u2 s2 ⟨y, H2, I2, ry, a, dx, fs, ex, ea, sp⟩ => ?_)
  subst ex
  obtain rfl : u = Value.ref a := rx
  obtain ⟨od, J⟩ := inst_at I2 ea
  obtain ⟨m, hF⟩ := I2.fr
  refine PySem.W.sub_K (K := X.K) hF I2.ok.mod.kin J (by rw [ck.kk]; exact M.at_) (by rw [ck.kk]; exact hfi) (by rw [ck.kk]; exact M.fn) ?_ (hsl a u2)
  have hr1 : Room k X.A.in1 := Room.in1 hr
  have bb := b s2 [.ref a, u2] I2.kIn (by simp [hp])
  rw [List.append_nil] at bb
  refine wpAny_call (codeAny_mono (F.run X.A.in1 X.stack s2 H2 ⟨[.ref a, u2], []⟩ [.ref a, u2] [.ref a, y] _ (WE Wx σ) hr1 I2.env0.in1 bb (.cons rfl (.cons ry .nil)) sp) fun rr s' hq => ?_)
  cases rr with
  | error e => exact (passAt ck.tk σ) pins H2 s2 e s' I2 hq
  | ok fl =>
    cases fl with
    | ret u => exact I2.after hq
    | next => exact False.elim hq
    | brk => exact False.elim hq
    | cont => exact False.elim hq
end
end DD
/-! Plain reasoning about mirrors. -/
namespace DD
open PySem L2
/-! ### gc -/
theorem gc_ok {S S' : Sto} {w : W} (h : GcS S S') (l : lowW S.length w = true) : gcR S (.ok w S') = .ok w (S'.take S.length) := by
  unfold gcR
  simp only [h, l, and_self, if_true]
theorem gc_er {S S' : Sto} {c : Nat} {ns : List Str} {ws : List W} (h : GcS S S') (l : lowL S.length ws = true) : gcR S (.er c ns ws S') = .er c ns ws (S'.take S.length) := by
  unfold gcR
  simp only [h, l, and_self, if_true]
theorem gcs_same (S : Sto) : GcS S S := ⟨Nat.le_refl _, fun i hi => .inl rfl⟩
theorem gcs_app (S g : Sto) : GcS S (S ++ g) := ⟨by simp, fun i hi => .inl (List.getElem?_append_left hi)⟩
theorem gc_same {S : Sto} {w : W} (l : lowW S.length w = true) : gcR S (.ok w S) = .ok w S := by
  rw [gc_ok (gcs_same S) l, List.take_length]
theorem gc_app {S g : Sto} {w : W} (l : lowW S.length w = true) : gcR S (.ok w (S ++ g)) = .ok w S := by
  rw [gc_ok (gcs_app S g) l]; simp
/-- the same length, all that is there is low -/
theorem gc_set {S S' : Sto} {w : W} (hl : S'.length = S.length) (h : ∀ i, i < S.length → S'[i]? = S[i]? ∨ ∃ o, S'[i]? = some o ∧ lowO S.length o = true) (l : lowW S.length w = true) : gcR S (.ok w S') = .ok w S' := by
  rw [gc_ok ⟨by omega, h⟩ l, ← hl, List.take_length]
theorem gc_set1 {S : Sto} {p : Nat} {o : O} {w : W} (l1 : lowO S.length o = true) (l : lowW S.length w = true) : gcR S (.ok w (S.set p o)) = .ok w (S.set p o) := by
  refine gc_set (by simp) (fun i hi => ?_) l
  by_cases h : p = i
  · subst h; exact .inr ⟨o, List.getElem?_set_self hi, l1⟩
  · exact .inl (List.getElem?_set_ne h)
theorem gc_set2 {S : Sto} {p q : Nat} {o u : O} {w : W} (l1 : lowO S.length o = true) (l2 : lowO S.length u = true) (l : lowW S.length w = true) : gcR S (.ok w ((S.set p o).set q u)) = .ok w ((S.set p o).set q u) := by
  refine gc_set (by simp) (fun i hi => ?_) l
  by_cases h2 : q = i
  · subst h2; exact .inr ⟨u, List.getElem?_set_self (by simpa using hi), l2⟩
  · rw [List.getElem?_set_ne h2]
    by_cases h : p = i
    · subst h; exact .inr ⟨o, List.getElem?_set_self hi, l1⟩
    · exact .inl (List.getElem?_set_ne h)
/-! ### what is low -/
theorem lowL_all {n : Nat} : ∀ {l : List W}, (∀ w ∈ l, lowW n w = true) → lowL n l = true
  | [], _ => rfl
  | w :: l, h => by
    simp only [lowL, Bool.and_eq_true]
    exact ⟨h w (List.mem_cons_self ..), lowL_all fun x hx => h x (List.mem_cons_of_mem _ hx)⟩
theorem lowL_mem {n : Nat} : ∀ {l : List W}, lowL n l = true → ∀ w ∈ l, lowW n w = true
  | [], _, _, h => by cases h
  | x :: l, h, w, hw => by
    simp only [lowL, Bool.and_eq_true] at h
    rcases List.mem_cons.mp hw with rfl | hw
    · exact h.1
    · exact lowL_mem h.2 w hw
theorem lowL_ints {n : Nat} (l : List Int) : lowL n (l.map W.int) = true := lowL_all fun w hw => by
  obtain ⟨i, _, rfl⟩ := List.mem_map.mp hw; rfl
theorem lowL_append {n : Nat} {l k : List W} (h : lowL n l = true) (g : lowL n k = true) : lowL n (l ++ k) = true := lowL_all fun w hw => by
  rcases List.mem_append.mp hw with hw | hw
  · exact lowL_mem h w hw
  · exact lowL_mem g w hw
theorem lowW_dat {n k : Nat} {w : W} (h : dat k w = true) : lowW n w = true := by
  induction k generalizing w with
  | zero => cases w <;> first | rfl | simp [dat] at h
  | succ k ih =>
    cases w <;> first
      | rfl
      | (simp [dat] at h; done)
      | (simp only [lowW]; exact lowL_all fun x hx => ih (List.all_eq_true.mp (by simpa only [dat] using h) x hx))
theorem lowL_dat {n k : Nat} {l : List W} (h : l.all (dat k) = true) : lowL n l = true := lowL_all fun w hw => lowW_dat (List.all_eq_true.mp h w hw)
/-! ### loops -/
/-- one turn of a for -/
def turn (g : DG) (b : DS) (w : W) (t : Lo) (S : Sto) : F := match g w t S with
  | .ok t1 S1 => b t1 S1
  | _ => .no
theorem forL_cons {g : DG} {b : DS} {w : W} {ws : List W} {t : Lo} {S : Sto} : forL g b (w :: ws) t S = match turn g b w t S with
  | .nx t2 S2 => forL g b ws t2 S2
  | .ct t2 S2 => forL g b ws t2 S2
  | .bk t2 S2 => .nx t2 S2
  | x => x := by
  unfold turn
  rw [forL]
  cases g w t S <;> rfl
@[simp] theorem forL_nil {g : DG} {b : DS} {t : Lo} {S : Sto} : forL g b [] t S = .nx t S := rfl
/-- a loop that goes through: an invariant by the turn -/
theorem forL_inv {g : DG} {b : DS} (ws : List W) (I : Nat → Lo → Sto → Prop)
    (h : ∀ i w t S, ws[i]? = some w → I i t S → ∃ t' S', (turn g b w t S = .nx t' S' ∨ turn g b w t S = .ct t' S') ∧ I (i + 1) t' S') {t : Lo} {S : Sto} (h0 : I 0 t S) : ∃ t' S', forL g b ws t S = .nx t' S' ∧ I ws.length t' S' := by
  have key : ∀ (us : List W) (k : Nat) (t : Lo) (S : Sto), ws.drop k = us → k ≤ ws.length → I k t S → ∃ t' S', forL g b us t S = .nx t' S' ∧ I ws.length t' S' := by
    intro us
    induction us with
    | nil =>
      intro k t S e hk i
      have : ws.length ≤ k := by
        have := congrArg List.length e
        simp at this; omega
      have : k = ws.length := by omega
      subst this
      exact ⟨t, S, rfl, i⟩
    | cons w us ih =>
      intro k t S e hk i
      have hw : ws[k]? = some w := by
        have : (ws.drop k)[0]? = some w := by rw [e]; rfl
        simpa using this
      have hlt : k < ws.length := (List.getElem?_eq_some_iff.mp hw).1
      obtain ⟨t', S', e1, i1⟩ := h k w t S hw i
      have e2 : ws.drop (k + 1) = us := by
        rw [← List.drop_drop, e]; rfl
      obtain ⟨t2, S2, e3, i3⟩ := ih (k + 1) t' S' e2 hlt i1
      refine ⟨t2, S2, ?_, i3⟩
      rw [forL_cons]
      rcases e1 with e1 | e1 <;> rw [e1] <;> exact e3
  exact key ws 0 t S rfl (Nat.zero_le _) h0
/-- a loop that may return: each turn goes on with the invariant or ends with Q -/
theorem forL_ret {g : DG} {b : DS} (ws : List W) (I : Nat → Lo → Sto → Prop) (Q : F → Prop)
    (h : ∀ i w t S, ws[i]? = some w → I i t S → (∃ t' S', (turn g b w t S = .nx t' S' ∨ turn g b w t S = .ct t' S') ∧ I (i + 1) t' S') ∨ (∃ w' S', turn g b w t S = .rt w' S' ∧ Q (.rt w' S')) ∨ (∃ t' S', turn g b w t S = .bk t' S' ∧ Q (.nx t' S')) ∨ ∃ c ns us t' S', turn g b w t S = .er c ns us t' S' ∧ Q (.er c ns us t' S'))
    (hd : ∀ t S, I ws.length t S → Q (.nx t S)) {t : Lo} {S : Sto} (h0 : I 0 t S) : Q (forL g b ws t S) := by
  have key : ∀ (us : List W) (k : Nat) (t : Lo) (S : Sto), ws.drop k = us → k ≤ ws.length → I k t S → Q (forL g b us t S) := by
    intro us
    induction us with
    | nil =>
      intro k t S e hk i
      have : ws.length ≤ k := by
        have := congrArg List.length e
        simp at this; omega
      have : k = ws.length := by omega
      subst this
      exact hd t S i
    | cons w us ih =>
      intro k t S e hk i
      have hw : ws[k]? = some w := by
        have : (ws.drop k)[0]? = some w := by rw [e]; rfl
        simpa using this
      have hlt : k < ws.length := (List.getElem?_eq_some_iff.mp hw).1
      have e2 : ws.drop (k + 1) = us := by
        rw [← List.drop_drop, e]; rfl
      rw [forL_cons]
      rcases h k w t S hw i with ⟨t', S', e1, i1⟩ | ⟨w', S', e1, q⟩ | ⟨t', S', e1, q⟩ | ⟨c, ns, vs, t', S', e1, q⟩
      · rcases e1 with e1 | e1 <;> rw [e1] <;> exact ih (k + 1) t' S' e2 hlt i1
      · rw [e1]; exact q
      · rw [e1]; exact q
      · rw [e1]; exact q
  exact key ws 0 t S rfl (Nat.zero_le _) h0
/-- a comprehension that keeps every item -/
theorem lcL_inv {g : Tg} {te : DX} {t0 : Lo} (ws : List W) (I : Nat → List W → Sto → Prop) (hz : ws.length ≤ 1000)
    (h : ∀ i w acc S, ws[i]? = some w → I i acc S → ∃ t1 x S', g.put w t0 = some t1 ∧ te t1 S = .ok x S' ∧ I (i + 1) (acc ++ [x]) S') {S : Sto} (h0 : I 0 [] S) : ∃ acc S', lcL g dYes te t0 ws [] S = .ok (.lst acc) S' ∧ I ws.length acc S' ∧ acc.length = ws.length := by
  have key : ∀ (us : List W) (k : Nat) (acc : List W) (S : Sto), ws.drop k = us → k ≤ ws.length → I k acc S → acc.length = k → ∃ acc' S', lcL g dYes te t0 us acc S = .ok (.lst acc') S' ∧ I ws.length acc' S' ∧ acc'.length = ws.length := by
    intro us
    induction us with
    | nil =>
      intro k acc S e hk i ha
      have : ws.length ≤ k := by
        have := congrArg List.length e
        simp at this; omega
      have : k = ws.length := by omega
      subst this
      exact ⟨acc, S, rfl, i, ha⟩
    | cons w us ih =>
      intro k acc S e hk i ha
      have hw : ws[k]? = some w := by
        have : (ws.drop k)[0]? = some w := by rw [e]; rfl
        simpa using this
      have hlt : k < ws.length := (List.getElem?_eq_some_iff.mp hw).1
      obtain ⟨t1, x, S', e0, e1, i1⟩ := h k w acc S hw i
      have e2 : ws.drop (k + 1) = us := by
        rw [← List.drop_drop, e]; rfl
      obtain ⟨acc', S2, e3, i3⟩ := ih (k + 1) (acc ++ [x]) S' e2 hlt i1 (by simp [ha])
      refine ⟨acc', S2, ?_, i3⟩
      have hs : acc.length < sizeLine := by rw [sizeLine_eq]; omega
      rw [lcL]
      simp only [e0, dYes, e1, if_pos hs]
      exact e3
  exact key ws 0 [] S rfl (Nat.zero_le _) h0 rfl
/-- a comprehension over values: a filter and a map, the store untouched -/
theorem lcL_pure {g : Tg} {tt : DT} {te : DX} {t0 : Lo} {S : Sto} (p : W → Bool) (f : W → W) : ∀ (ws acc : List W), acc.length + ws.length ≤ 100000 → (∀ w ∈ ws, ∃ t1, g.put w t0 = some t1 ∧ tt t1 S = .ok (p w) S ∧ (p w = true → te t1 S = .ok (f w) S)) → lcL g tt te t0 ws acc S = .ok (.lst (acc ++ (ws.filter p).map f)) S
  | [], acc, _, _ => by simp [lcL]
  | w :: ws, acc, hz, h => by
    obtain ⟨t1, e0, e1, e2⟩ := h w (List.mem_cons_self ..)
    have hs : acc.length < sizeLine := by rw [sizeLine_eq]; simp at hz; omega
    rw [lcL]
    simp only [e0, e1]
    cases hp : p w with
    | true =>
      simp only [e2 hp, if_pos hs]
      rw [lcL_pure p f ws (acc ++ [f w]) (by simp at hz ⊢; omega) fun x hx => h x (List.mem_cons_of_mem _ hx)]
      simp [List.filter_cons, hp]
    | false =>
      simp only []
      rw [lcL_pure p f ws acc (by simp at hz ⊢; omega) fun x hx => h x (List.mem_cons_of_mem _ hx)]
      simp [List.filter_cons, hp]
theorem lcL_map {g : Tg} {te : DX} {t0 : Lo} {S : Sto} (f : W → W) (ws : List W) (hz : ws.length ≤ 100000) (h : ∀ w ∈ ws, ∃ t1, g.put w t0 = some t1 ∧ te t1 S = .ok (f w) S) : lcL g dYes te t0 ws [] S = .ok (.lst (ws.map f)) S := by
  rw [lcL_pure (fun _ => true) f ws [] (by simpa using hz) fun w hw => ?_]
  · congr 2
    rw [List.nil_append]
    congr 1
    exact List.filter_eq_self.mpr fun _ _ => rfl
  · obtain ⟨t1, a, b⟩ := h w hw
    exact ⟨t1, a, rfl, fun _ => b⟩
theorem lcL_filter {g : Tg} {tt : DT} {te : DX} {t0 : Lo} {S : Sto} (p : W → Bool) (ws : List W) (hz : ws.length ≤ 100000) (h : ∀ w ∈ ws, ∃ t1, g.put w t0 = some t1 ∧ tt t1 S = .ok (p w) S ∧ (p w = true → te t1 S = .ok w S)) : lcL g tt te t0 ws [] S = .ok (.lst (ws.filter p)) S := by
  rw [lcL_pure p (fun w => w) ws [] (by simpa using hz) h]
  simp
/-! ### ranges -/
theorem intsFrom_eq (lo : Int) (n : Nat) : intsFrom lo n = (List.range n).map fun (i : Nat) => W.int (lo + (i : Int)) := by
  induction n generalizing lo with
  | zero => rfl
  | succ n ih =>
    rw [List.range_succ_eq_map, List.map_cons, List.map_map]
    simp only [intsFrom, ih]
    congr 1
    · simp
    · apply List.map_congr_left
      intro i _
      simp only [Function.comp]
      congr 1
      push_cast
      omega
/-! ### small -/
theorem atI0 {α : Type} (x : α) (l : List α) : atI (x :: l) 0 = some x := atI_nat (j := 0) rfl
theorem atI1 {α : Type} (x y : α) (l : List α) : atI (x :: y :: l) 1 = some y := atI_nat (j := 1) rfl
theorem atI2 {α : Type} (x y z : α) (l : List α) : atI (x :: y :: z :: l) 2 = some z := atI_nat (j := 2) rfl
theorem atI3 {α : Type} (x y z u : α) (l : List α) : atI (x :: y :: z :: u :: l) 3 = some u := atI_nat (j := 3) rfl
theorem atI4 {α : Type} (x y z u v : α) (l : List α) : atI (x :: y :: z :: u :: v :: l) 4 = some v := atI_nat (j := 4) rfl
theorem atI_in {α : Type} {l : List α} {i : Int} (h0 : 0 ≤ i) (h1 : i < l.length) : ∃ x, atI l i = some x ∧ l[i.toNat]? = some x := by
  obtain ⟨x, hx⟩ : ∃ x, l[i.toNat]? = some x := ⟨l[i.toNat]'(by omega), List.getElem?_eq_getElem _⟩
  refine ⟨x, ?_, hx⟩
  have := atI_nat hx
  rwa [Int.toNat_of_nonneg h0] at this
theorem ixN_in {n : Nat} {i : Int} (h0 : 0 ≤ i) (h1 : i < n) : ixN n i = some i.toNat := by
  unfold ixN; rw [if_pos h0, if_pos h1]
theorem fmod_pos {i j : Int} (h : 0 < j) : fmod i j = i % j := if_pos h
theorem fdiv_pos {i j : Int} (h : 0 < j) : fdiv i j = i / j := if_pos h
theorem dat_ints {n : Nat} (l : List Int) : (l.map W.int).all (dat n) = true := by
  rw [List.all_eq_true]; intro w hw
  obtain ⟨i, _, rfl⟩ := List.mem_map.mp hw
  cases n <;> rfl
/-! ### how mirrors run -/
section
variable {t : Lo} {S : Sto}
@[simp] theorem e_nx {k : Lo → Sto → F} : (F.nx t S).andThen k = k t S := rfl
@[simp] theorem e_rt {w : W} {k : Lo → Sto → F} : (F.rt w S).andThen k = .rt w S := rfl
@[simp] theorem e_bk {k : Lo → Sto → F} : (F.bk t S).andThen k = .bk t S := rfl
@[simp] theorem e_ct {k : Lo → Sto → F} : (F.ct t S).andThen k = .ct t S := rfl
@[simp] theorem e_er {c : Nat} {ns : List Str} {ws : List W} {k : Lo → Sto → F} : (F.er c ns ws t S).andThen k = .er c ns ws t S := rfl
@[simp] theorem e_seq {a b : DS} : dSeq a b t S = (a t S).andThen b := rfl
@[simp] theorem e_next : dNext t S = .nx t S := rfl
@[simp] theorem e_break : dBreak t S = .bk t S := rfl
@[simp] theorem e_cont : dCont t S = .ct t S := rfl
@[simp] theorem e_drop {d : DX} : dDrop d t S = (d t S).toF t fun _ S1 => .nx t S1 := rfl
@[simp] theorem e_ret {d : DX} : dRet d t S = (d t S).toF t fun w S1 => .rt w S1 := rfl
@[simp] theorem e_retN : dRetN t S = .rt .non S := rfl
@[simp] theorem e_ifS {c : DT} {a b : DS} : dIfS c a b t S = (c t S).toF t fun k S1 => if k = true then a t S1 else b t S1 := rfl
@[simp] theorem e_if {c : DT} {a b : DX} : dIf c a b t S = (c t S).bind fun k S1 => if k = true then a t S1 else b t S1 := rfl
@[simp] theorem e_setN {d : DX} {i : Nat} : dAsg d (gN i) t S = (d t S).toF t fun w S1 => .nx (t.set i (some w)) S1 := rfl
@[simp] theorem e_var0 {w : W} {t : Lo} : dVar 0 (some w :: t) S = .ok w S := rfl
@[simp] theorem e_varS {i : Nat} {o : Option W} {t : Lo} : dVar (i + 1) (o :: t) S = dVar i t S := by simp [dVar]
@[simp] theorem e_C {w : W} : dC w t S = .ok w S := rfl
@[simp] theorem e_op {f : D2} {a b : DX} : dOp f a b t S = (a t S).bind fun x S1 => (b t S1).bind fun y S2 => match f x y S2 with
  | .ok w S3 => .ok w S3
  | _ => .no := rfl
@[simp] theorem e_nil : dNil t S = .ok [] S := rfl
@[simp] theorem e_cons {a : DX} {b : DA} : dCons a b t S = (a t S).bind fun w S1 => (b t S1).bind fun ws S2 => .ok (w :: ws) S2 := rfl
@[simp] theorem e_call {f : Fn} {d : DA} : dCall f d t S = (d t S).bind fun ws S1 => f ws S1 := rfl
@[simp] theorem e_bi {f : Fn} {d : DA} : dBi f d t S = (d t S).bind fun ws S1 => match f ws S1 with
  | .ok w S2 => .ok w S2
  | _ => .no := rfl
@[simp] theorem e_and {a b : DT} : dtAnd a b t S = (a t S).bind fun k S1 => if k = true then b t S1 else .ok false S1 := rfl
@[simp] theorem e_or {a b : DT} : dtOr a b t S = (a t S).bind fun k S1 => if k = true then .ok true S1 else b t S1 := rfl
@[simp] theorem e_not {a : DT} : dtNot a t S = (a t S).bind fun k S1 => .ok (!k) S1 := rfl
@[simp] theorem e_yes : dYes t S = .ok true S := rfl
@[simp] theorem e_tru {d : DX} : dTru d t S = (d t S).bind fun w S1 => match truW S1 w with
  | some k => .ok k S1
  | none => .no := rfl
@[simp] theorem e_test {d : DX} : dTest d t S = match d t S with
  | .ok (.bl b) S1 => .ok b S1
  | .er c ns ws S1 => .er c ns ws S1
  | _ => .no := rfl
@[simp] theorem e_neg {d : DX} : dNeg d t S = (d t S).bind fun w S1 => match w with
  | .int i => .ok (.int (-i)) S1
  | _ => .no := rfl
@[simp] theorem e_notT {d : DX} : dNotT d t S = (d t S).bind fun w S1 => match truW S1 w with
  | some k => .ok (.bl (!k)) S1
  | none => .no := rfl
@[simp] theorem e_andT {a b : DX} : dAndT a b t S = (a t S).bind fun w S1 => match truW S1 w with
  | some true => b t S1
  | some false => .ok w S1
  | none => .no := rfl
@[simp] theorem e_orT {a b : DX} : dOrT a b t S = (a t S).bind fun w S1 => match truW S1 w with
  | some true => .ok w S1
  | some false => b t S1
  | none => .no := rfl
@[simp] theorem e_for {d : DA} {g : DG} {b : DS} : dFor d g b t S = (d t S).toF t fun ws S1 => forL g b ws t S1 := rfl
@[simp] theorem e_seqI {d : DX} : dSeqI d t S = (d t S).bind fun w S1 => match w with
  | .lst ws => .ok ws S1
  | .scr ws => .ok ws S1
  | .tup ws => .ok ws S1
  | _ => .no := rfl
@[simp] theorem e_lc {d : DA} {g : Tg} {tt : DT} {te : DX} {vs : List Nat} : dLc d g tt te vs t S = (d t S).bind fun ws S1 => lcL g tt te (wipeW t vs) ws [] S1 := rfl
@[simp] theorem e_chain {f g : D2} {a b c : DX} : dChain f g a b c t S = (a t S).bind fun x S1 => (b t S1).bind fun y S2 => match f x y S2 with
  | .ok (.bl true) S3 => (c t S3).bind fun z S4 => match g y z S4 with
    | .ok w S5 => .ok w S5
    | _ => .no
  | .ok (.bl false) S3 => .ok (.bl false) S3
  | _ => .no := rfl
@[simp] theorem e_par {i j : Nat} {d : DA} : dPar i j d t S = (d t S).toF t fun ws S1 => match ws with
  | [a, b] => .nx ((t.set i (some a)).set j (some b)) S1
  | _ => .no := rfl
@[simp] theorem e_tup {d : DA} : dTup d t S = (d t S).bind fun ws S1 => if ws.length ≤ sizeLine then .ok (.tup ws) S1 else .no := rfl
@[simp] theorem e_lst {d : DA} : dLst d t S = (d t S).bind fun ws S1 => if ws.length ≤ sizeLine then .ok (.lst ws) S1 else .no := rfl
@[simp] theorem e_newL {d : DA} : dNewL d t S = (d t S).bind fun ws S1 => if ws.length ≤ sizeLine then .ok (.ref S1.length) (S1 ++ [.lst ws]) else .no := rfl
@[simp] theorem e_wipe0 : wipeW t [] = t := rfl
@[simp] theorem e_wipe1 {v : Nat} {vs : List Nat} : wipeW t (v :: vs) = (wipeW t vs).set v none := rfl
@[simp] theorem e_add {i j : Int} : addD (.int i) (.int j) S = .ok (.int (i + j)) S := rfl
@[simp] theorem e_sub {i j : Int} : iSub (.int i) (.int j) S = .ok (.int (i - j)) S := rfl
@[simp] theorem e_lt {i j : Int} : iLt (.int i) (.int j) S = .ok (.bl (decide (i < j))) S := rfl
@[simp] theorem e_le {i j : Int} : iLe (.int i) (.int j) S = .ok (.bl (decide (i ≤ j))) S := rfl
@[simp] theorem e_gt {i j : Int} : iGt (.int i) (.int j) S = .ok (.bl (decide (j < i))) S := rfl
@[simp] theorem e_ge {i j : Int} : iGe (.int i) (.int j) S = .ok (.bl (decide (j ≤ i))) S := rfl
theorem e_mod {i j : Int} (h : 0 < j) : iMod (.int i) (.int j) S = .ok (.int (i % j)) S := by
  show (if decide (j ≠ 0) = true then R.ok (W.int (fmod i j)) S else .no) = _
  rw [if_pos (decide_eq_true (by omega)), fmod_pos h]
theorem log2_le {n k : Nat} (h : n < 2 ^ k) (h0 : 0 < k) : n.log2 < k := PySem.Flt.log2_lt_of h0 h
theorem e_div {i j : Int} (h : 0 < j) (h2 : j < 2 ^ 8000) : iDiv (.int i) (.int j) S = .ok (.int (i / j)) S := by
  have : j.natAbs.log2 < 9000 := Nat.lt_trans (log2_le (k := 8000) (by omega) (by decide)) (by decide)
  show (if (decide (j ≠ 0) && decide (j.natAbs.log2 < 9000)) = true then R.ok (W.int (fdiv i j)) S else .no) = _
  rw [if_pos (by rw [decide_eq_true (show j ≠ 0 by omega), decide_eq_true this]; rfl), fdiv_pos h]
theorem e_mulR {b : Bool} {i j : Int} (h : -(2 ^ 64) < j ∧ j < 2 ^ 64) : mulD b (.int i) (.int j) S = .ok (.int (i * j)) S := by
  have : mulOk i j = true := by unfold mulOk; rw [decide_eq_true h]; simp
  show (match (if mulOk i j = true then R.ok (W.int (i * j)) S else .no) with
    | .no => _
    | x => x) = _
  rw [if_pos this]
theorem e_mulL {b : Bool} {i j : Int} (h : -(2 ^ 64) < i ∧ i < 2 ^ 64) : mulD b (.int i) (.int j) S = .ok (.int (i * j)) S := by
  have : mulOk i j = true := by unfold mulOk; rw [decide_eq_true h]; simp
  show (match (if mulOk i j = true then R.ok (W.int (i * j)) S else .no) with
    | .no => _
    | x => x) = _
  rw [if_pos this]
theorem e_pow {i j : Int} (h : powOk i j = true) : iPow (.int i) (.int j) S = .ok (.int (i ^ j.toNat)) S := by
  show (if powOk i j = true then R.ok (W.int (i ^ j.toNat)) S else .no) = _
  rw [if_pos h]
@[simp] theorem e_intF {i : Int} : intF [.int i] S = .ok (.int i) S := rfl
@[simp] theorem e_intB {k : Bool} : intF [.bl k] S = .ok (.int (if k then 1 else 0)) S := rfl
@[simp] theorem e_absF {i : Int} : absF [.int i] S = .ok (.int (if i < 0 then -i else i)) S := rfl
@[simp] theorem e_maxF {i j : Int} : max2F [.int i, .int j] S = .ok (.int (if j > i then j else i)) S := rfl
@[simp] theorem e_minF {i j : Int} : min2F [.int i, .int j] S = .ok (.int (if j < i then j else i)) S := rfl
/-- an item of a list, a tuple, a list of the store -/
theorem e_ixT {ws : List W} {i : Int} {w : W} (h : atI ws i = some w) : ixD (.tup ws) (.int i) S = .ok w S := by simp [ixD, seqL, seqT, h]
theorem e_ixL {ws : List W} {i : Int} {w : W} (h : atI ws i = some w) : ixD (.lst ws) (.int i) S = .ok w S := by simp [ixD, seqL, h]
theorem e_ixC {ws : List W} {i : Int} {w : W} (h : atI ws i = some w) : ixD (.scr ws) (.int i) S = .ok w S := by simp [ixD, seqL, h]
theorem e_ixR {ws : List W} {i : Int} {w : W} {p : Nat} (e : S[p]? = some (.lst ws)) (h : atI ws i = some w) : ixD (.ref p) (.int i) S = .ok w S := by simp [ixD, seqL, e, h]
@[simp] theorem e_lenT {ws : List W} : lenF [.tup ws] S = .ok (.int ws.length) S := rfl
@[simp] theorem e_lenL {ws : List W} : lenF [.lst ws] S = .ok (.int ws.length) S := rfl
@[simp] theorem e_lenC {ws : List W} : lenF [.scr ws] S = .ok (.int ws.length) S := rfl
theorem e_lenR {ws : List W} {p : Nat} (e : S[p]? = some (.lst ws)) : lenF [.ref p] S = .ok (.int ws.length) S := by simp [lenF, seqL, e]
@[simp] theorem e_tupL {ws : List W} : tupleF [.lst ws] S = .ok (.tup ws) S := rfl
@[simp] theorem e_tupT {ws : List W} : tupleF [.tup ws] S = .ok (.tup ws) S := rfl
theorem e_tupR {ws : List W} {p : Nat} (e : S[p]? = some (.lst ws)) : tupleF [.ref p] S = .ok (.tup ws) S := by simp [tupleF, seqL, e]
@[simp] theorem e_listL {ws : List W} : listF [.lst ws] S = .ok (.lst ws) S := rfl
@[simp] theorem e_listT {ws : List W} : listF [.tup ws] S = .ok (.lst ws) S := rfl
@[simp] theorem e_listC {ws : List W} : listF [.scr ws] S = .ok (.lst ws) S := rfl
@[simp] theorem e_newListC {ws : List W} : newListF [.scr ws] S = .ok (.ref S.length) (S ++ [.lst ws]) := rfl
theorem e_setIx {d da db : DX} {p : Nat} {i : Int} {w : W} {ws : List W} {j : Nat} {S1 : Sto} (e0 : d t S = .ok w S1) (e1 : da t S1 = .ok (.ref p) S1) (e2 : db t S1 = .ok (.int i) S1) (e3 : S1[p]? = some (.lst ws)) (e4 : ixN ws.length i = some j) :
    dAsg d (gIx da db) t S = .nx t (S1.set p (.lst (ws.set j w))) := by
  simp [dAsg, gIx, e0, e1, e2, e3, e4]
@[simp] theorem e_asgIx {d da db : DX} : dAsg d (gIx da db) t S = (d t S).toF t fun w S1 => match da t S1 with
  | .ok (.ref p) S1 => match db t S1 with
    | .ok (.int i) S2 => match S2[p]? with
      | some (.lst ws) => match ixN ws.length i with
        | some j => .nx t (S2.set p (.lst (ws.set j w)))
        | none => .no
      | _ => .no
    | _ => .no
  | _ => .no := by
  unfold dAsg gIx
  congr 1
  funext w S1
  cases da t S1 with
  | ok p S1 =>
    cases p <;> try rfl
    simp only []
    cases db t S1 with
    | ok i S2 =>
      cases i <;> try rfl
      simp only []
      rename_i p i
      cases S2[p]? with
      | none => rfl
      | some o =>
        cases o <;> try rfl
        simp only []
        rename_i ws
        cases ixN ws.length i <;> rfl
    | _ => rfl
  | _ => rfl
@[simp] theorem e_asgTp {d : DX} {n : Nat} {gs : DGs} : dAsg d (gTp n gs) t S = (d t S).toF t fun w S1 => match gTp n gs w t S1 with
  | .ok t' S2 => .nx t' S2
  | _ => .no := rfl
@[simp] theorem e_mt {f : W → List W → Sto → R W} {o : DX} {d : DA} : dMt f o d t S = (o t S).bind fun w S1 => match seqL S1 w with
  | some _ => (d t S1).bind fun ws S2 => match f w ws S2 with
    | .ok x S3 => .ok x S3
    | _ => .no
  | none => .no := rfl
theorem e_append {p : Nat} {xs : List W} {y : W} (e : S[p]? = some (.lst xs)) (h : xs.length < 1000000) : appendM (.ref p) [y] S = .ok .non (S.set p (.lst (xs ++ [y]))) := by
  simp only [appendM, e]
  rw [if_pos (by rw [sizeLine_eq]; omega)]
@[simp] theorem e_range1 {d : DA} : dRange1 d t S = (d t S).bind fun ws S1 => match ws with
  | [.int j] => if -(2 ^ 62) ≤ j ∧ j < 2 ^ 62 then .ok (intsFrom 0 j.toNat) S1 else .no
  | _ => .no := rfl
theorem e_frzL {d : DX} {p : Nat} {ws : List W} {S1 : Sto} (e0 : d t S = .ok (.ref p) S1) (e : S1[p]? = some (.lst ws)) : dFrz d t S = .ok (.lst ws) (S1.set p .dead) := by
  simp [dFrz, e0, e]
end
theorem dat_look {S : Sto} {n : Nat} {a : W} (h : dat n a = true) : lookS S a = a := by
  cases a <;> first | rfl | (cases n <;> simp [dat] at h)
theorem e_eq {S : Sto} {a b : W} (h1 : dat dDep a = true) (h2 : dat dDep b = true) : eqD a b S = .ok (.bl (eqW a b)) S := by
  unfold eqD
  rw [dat_look h1, dat_look h2, h1, h2]; rfl
theorem e_ne {S : Sto} {a b : W} (h1 : dat dDep a = true) (h2 : dat dDep b = true) : neD a b S = .ok (.bl (!eqW a b)) S := by
  unfold neD
  rw [dat_look h1, dat_look h2, h1, h2]; rfl
@[simp] theorem e_eqI {S : Sto} {i j : Int} : eqD (.int i) (.int j) S = .ok (.bl (decide (i = j))) S := by
  rw [e_eq rfl rfl]; simp [eqW]; by_cases h : i = j <;> simp [h]
@[simp] theorem e_neI {S : Sto} {i j : Int} : neD (.int i) (.int j) S = .ok (.bl (!decide (i = j))) S := by
  rw [e_ne rfl rfl]; simp [eqW]; by_cases h : i = j <;> simp [h]
@[simp] theorem e_eqB {S : Sto} {i j : Bool} : eqD (.bl i) (.bl j) S = .ok (.bl (i == j)) S := by rw [e_eq rfl rfl]; rfl
@[simp] theorem e_neB {S : Sto} {i j : Bool} : neD (.bl i) (.bl j) S = .ok (.bl (!(i == j))) S := by rw [e_ne rfl rfl]; rfl
theorem e_inT {S : Sto} {a : W} {ws : List W} (h1 : dat dDep a = true) (h2 : ws.all (dat dDep) = true) : inD a (.tup ws) S = .ok (.bl (inW a ws)) S := by
  simp [inD, lookS, h1, h2]
theorem e_inL {S : Sto} {a : W} {ws : List W} (h1 : dat dDep a = true) (h2 : ws.all (dat dDep) = true) : inD a (.lst ws) S = .ok (.bl (inW a ws)) S := by
  simp [inD, lookS, h1, h2]
theorem e_notInT {S : Sto} {a : W} {ws : List W} (h1 : dat dDep a = true) (h2 : ws.all (dat dDep) = true) : notInD a (.tup ws) S = .ok (.bl (!inW a ws)) S := by
  simp [notInD, lookS, h1, h2]
theorem e_notInL {S : Sto} {a : W} {ws : List W} (h1 : dat dDep a = true) (h2 : ws.all (dat dDep) = true) : notInD a (.lst ws) S = .ok (.bl (!inW a ws)) S := by
  simp [notInD, lookS, h1, h2]
theorem blsOf_map {α : Type} (g : α → Bool) : ∀ l : List α, blsOf (l.map fun x => W.bl (g x)) = some (l.map g)
  | [] => rfl
  | x :: l => by simp [blsOf, blsOf_map g l]
theorem intsOf_map {α : Type} (g : α → Int) : ∀ l : List α, intsOf (l.map fun x => W.int (g x)) = some (l.map g)
  | [] => rfl
  | x :: l => by simp [intsOf, intsOf_map g l]
theorem e_all {S : Sto} {ws : List W} {bs : List Bool} (h : blsOf ws = some bs) : allF [.lst ws] S = .ok (.bl (bs.all id)) S := by simp [allF, seqL, h]
theorem e_any {S : Sto} {ws : List W} {bs : List Bool} (h : blsOf ws = some bs) : anyF [.lst ws] S = .ok (.bl (bs.any id)) S := by simp [anyF, seqL, h]
theorem e_sum {S : Sto} {ws : List W} {bs : List Int} (h : intsOf ws = some bs) : sumF [.lst ws] S = .ok (.int bs.sum) S := by simp [sumF, seqL, h]
@[simp] theorem e_putN {i : Nat} {w : W} {t : Lo} : (Tg.nm i).put w t = some (t.set i (some w)) := rfl
/-- data is data at any greater depth -/
theorem dat_succ {n : Nat} {w : W} (h : dat n w = true) : dat (n + 1) w = true := by
  induction n generalizing w with
  | zero => cases w <;> first | rfl | (simp [dat] at h ⊢; done) | (simp only [dat] at h ⊢; exact h)
  | succ n ih =>
    cases w <;> first
      | rfl
      | (simp [dat] at h; done)
      | (simp only [dat] at h ⊢; first | exact h | exact List.all_eq_true.mpr fun x hx => ih (List.all_eq_true.mp h x hx))
theorem dat_le {n m : Nat} {w : W} (h : dat n w = true) (le : n ≤ m) : dat m w = true := by
  induction le with
  | refl => exact h
  | step _ ih => exact dat_succ ih
theorem dats_le {n m : Nat} {l : List W} (h : l.all (dat n) = true) (le : n ≤ m) : l.all (dat m) = true := List.all_eq_true.mpr fun x hx => dat_le (List.all_eq_true.mp h x hx) le
theorem eqW_refl : ∀ {n : Nat} {w : W}, dat n w = true → eqW w w = true := by
  intro n
  induction n with
  | zero => intro w h; cases w <;> first | (simp [dat] at h; done) | simp [eqW]
  | succ n ih =>
    intro w h
    have key : ∀ l : List W, l.all (dat n) = true → eqWs l l = true := fun l => by
      induction l with
      | nil => intro _; rfl
      | cons x l il =>
        intro g
        simp only [List.all_cons, Bool.and_eq_true] at g
        simp only [eqWs, ih g.1, il g.2, Bool.and_self]
    cases w <;> first
      | (simp [dat] at h; done)
      | (simp only [eqW]; exact key _ (by simpa only [dat] using h))
      | simp [eqW]
/-- the start of a def -/
theorem dFn_eq {n : Nat} {b : DS} {ws : List W} {S : Sto} : dFn n b ws S = match b (ws.map some ++ List.replicate (n - ws.length) none) S with
  | .nx _ S1 => .ok .non S1
  | .rt w S1 => .ok w S1
  | .er c ns us _ S1 => .er c ns us S1
  | _ => .no := rfl
theorem gcF_eq {f : Fn} {ws : List W} {S : Sto} : gcF f ws S = gcR S (f ws S) := rfl
end DD
namespace DD
open PySem L2
/-! ### dicts, plainly -/
theorem dGetW_put {k k' : Key} {x : W} : ∀ {ks : List Key} {ws : List W}, ks.length = ws.length → dGetW (dPutW ks ws k x).1 (dPutW ks ws k x).2 k' = if k = k' then some x else dGetW ks ws k'
  | [], [], _ => by simp [dPutW, dGetW]
  | a :: ks, w :: ws, h => by
    have ih := dGetW_put (k := k) (k' := k') (x := x) (ks := ks) (ws := ws) (by simpa using h)
    by_cases e : a = k
    · subst e
      simp only [dPutW, if_pos]
      by_cases e2 : a = k'
      · subst e2; simp [dGetW]
      · simp [dGetW, e2]
    · simp only [dPutW, if_neg e]
      by_cases e2 : a = k'
      · subst e2
        simp [dGetW, Ne.symm e]
      · simp only [dGetW, if_neg e2, ih]
  | [], _ :: _, h => by simp at h
  | _ :: _, [], h => by simp at h
theorem mem_put {k k' : Key} {x : W} : ∀ {ks : List Key} {ws : List W}, ks.length = ws.length → (k' ∈ (dPutW ks ws k x).1 ↔ k' = k ∨ k' ∈ ks)
  | [], [], _ => by simp [dPutW]
  | a :: ks, w :: ws, h => by
    have ih := mem_put (k := k) (k' := k') (x := x) (ks := ks) (ws := ws) (by simpa using h)
    by_cases e : a = k
    · subst e
      simp only [dPutW, if_pos, List.mem_cons]
      constructor
      · intro z; exact .inr z
      · rintro (z | z)
        · exact .inl z
        · exact z
    · simp only [dPutW, if_neg e, List.mem_cons, ih]
      constructor
      · rintro (z | z | z)
        · exact .inr (.inl z)
        · exact .inl z
        · exact .inr (.inr z)
      · rintro (z | z | z)
        · exact .inr (.inl z)
        · exact .inl z
        · exact .inr (.inr z)
  | [], _ :: _, h => by simp at h
  | _ :: _, [], h => by simp at h
theorem nodup_put {k : Key} {x : W} : ∀ {ks : List Key} {ws : List W}, ks.length = ws.length → ks.Nodup → (dPutW ks ws k x).1.Nodup
  | [], [], _, _ => by simp [dPutW]
  | a :: ks, w :: ws, h, nd => by
    by_cases e : a = k
    · subst e; simpa [dPutW] using nd
    · rw [List.nodup_cons] at nd
      simp only [dPutW, if_neg e, List.nodup_cons]
      refine ⟨fun z => ?_, nodup_put (by simpa using h) nd.2⟩
      rcases (mem_put (by simpa using h)).mp z with z | z
      · exact e z
      · exact nd.1 z
  | [], _ :: _, h, _ => by simp at h
  | _ :: _, [], h, _ => by simp at h
theorem len_put {k : Key} {x : W} : ∀ {ks : List Key} {ws : List W}, ks.length = ws.length → (dPutW ks ws k x).1.length ≤ ks.length + 1
  | [], [], _ => by simp [dPutW]
  | a :: ks, w :: ws, h => by
    have ih := len_put (k := k) (x := x) (ks := ks) (ws := ws) (by simpa using h)
    by_cases e : a = k
    · subst e; simp [dPutW]
    · simp [dPutW, e]; omega
  | [], _ :: _, h => by simp at h
  | _ :: _, [], h => by simp at h
/-! ### a list of the store is walked -/
section
variable {t : Lo} {S : Sto}
@[simp] theorem e_seqR {d : DX} : dSeqR d t S = (d t S).bind fun w S1 => match w with
  | .ref p => match S1[p]? with
    | some (.lst ws) => .ok (p, ws) S1
    | _ => .no
  | _ => .no := rfl
@[simp] theorem e_forR {d : Lo → Sto → R (Nat × List W)} {g : DG} {b : DS} : dForR d g b t S = (d t S).toF t fun ws S1 => forLR g b ws.1 ws.2 ws.2 t S1 := rfl
@[simp] theorem e_lcR {d : Lo → Sto → R (Nat × List W)} {g : Tg} {tt : DT} {te : DX} {vs : List Nat} : dLcR d g tt te vs t S = (d t S).bind fun ws S1 => lcLR g tt te (wipeW t vs) ws.1 ws.2 ws.2 [] S1 := rfl
theorem forLR_cons {g : DG} {b : DS} {p : Nat} {us : List W} {w : W} {ws : List W} (h : S[p]? = some (.lst us)) : forLR g b p us (w :: ws) t S = match turn g b w t S with
  | .nx t2 S2 => forLR g b p us ws t2 S2
  | .ct t2 S2 => forLR g b p us ws t2 S2
  | .bk t2 S2 => .nx t2 S2
  | x => x := by
  unfold turn
  rw [forLR, if_pos h]
  cases g w t S <;> rfl
theorem forLR_inv {g : DG} {b : DS} {p : Nat} (ws : List W) (I : Nat → Lo → Sto → Prop) (hg : ∀ i t S, I i t S → S[p]? = some (.lst ws))
    (h : ∀ i w t S, ws[i]? = some w → I i t S → ∃ t' S', (turn g b w t S = .nx t' S' ∨ turn g b w t S = .ct t' S') ∧ I (i + 1) t' S') {t : Lo} {S : Sto} (h0 : I 0 t S) : ∃ t' S', forLR g b p ws ws t S = .nx t' S' ∧ I ws.length t' S' := by
  have key : ∀ (us : List W) (k : Nat) (t : Lo) (S : Sto), ws.drop k = us → k ≤ ws.length → I k t S → ∃ t' S', forLR g b p ws us t S = .nx t' S' ∧ I ws.length t' S' := by
    intro us
    induction us with
    | nil =>
      intro k t S e hk i
      have : ws.length ≤ k := by
        have := congrArg List.length e
        simp at this; omega
      have : k = ws.length := by omega
      subst this
      exact ⟨t, S, by rw [forLR, if_pos (hg _ _ _ i)], i⟩
    | cons w us ih =>
      intro k t S e hk i
      have hw : ws[k]? = some w := by
        have : (ws.drop k)[0]? = some w := by rw [e]; rfl
        simpa using this
      have hlt : k < ws.length := (List.getElem?_eq_some_iff.mp hw).1
      obtain ⟨t', S', e1, i1⟩ := h k w t S hw i
      have e2 : ws.drop (k + 1) = us := by
        rw [← List.drop_drop, e]; rfl
      obtain ⟨t2, S2, e3, i3⟩ := ih (k + 1) t' S' e2 hlt i1
      refine ⟨t2, S2, ?_, i3⟩
      rw [forLR_cons (hg _ _ _ i)]
      rcases e1 with e1 | e1 <;> rw [e1] <;> exact e3
  exact key ws 0 t S rfl (Nat.zero_le _) h0
/-- where the store stays, a comprehension over a list of the store is one over a value -/
theorem lcLR_same {g : Tg} {tt : DT} {te : DX} {t0 : Lo} {p : Nat} {us : List W} (hp : S[p]? = some (.lst us)) : ∀ (ws acc : List W), (∀ w ∈ ws, ∃ t1, g.put w t0 = some t1 ∧ ((∃ x, tt t1 S = .ok true S ∧ te t1 S = .ok x S) ∨ tt t1 S = .ok false S)) → lcLR g tt te t0 p us ws acc S = lcL g tt te t0 ws acc S
  | [], acc, _ => by rw [lcLR, if_pos hp, lcL]
  | w :: ws, acc, h => by
    obtain ⟨t1, e0, e1⟩ := h w (List.mem_cons_self ..)
    rw [lcLR, if_pos hp, lcL]
    rcases e1 with ⟨x, e1, e2⟩ | e1
    · simp only [e0, e1, e2]
      split
      · exact lcLR_same hp ws _ fun y hy => h y (List.mem_cons_of_mem _ hy)
      · rfl
    · simp only [e0, e1]
      exact lcLR_same hp ws _ fun y hy => h y (List.mem_cons_of_mem _ hy)
theorem lcLR_map {g : Tg} {te : DX} {t0 : Lo} {p : Nat} {us : List W} (hp : S[p]? = some (.lst us)) (f : W → W) (ws : List W) (hz : ws.length ≤ 100000) (h : ∀ w ∈ ws, ∃ t1, g.put w t0 = some t1 ∧ te t1 S = .ok (f w) S) : lcLR g dYes te t0 p us ws [] S = .ok (.lst (ws.map f)) S := by
  rw [lcLR_same hp ws [] fun w hw => by
    obtain ⟨t1, a, b⟩ := h w hw
    exact ⟨t1, a, .inl ⟨_, rfl, b⟩⟩]
  exact lcL_map f ws hz h
theorem lcLR_filter {g : Tg} {tt : DT} {te : DX} {t0 : Lo} {q : Nat} {us : List W} (hq : S[q]? = some (.lst us)) (p : W → Bool) (ws : List W) (hz : ws.length ≤ 100000) (h : ∀ w ∈ ws, ∃ t1, g.put w t0 = some t1 ∧ tt t1 S = .ok (p w) S ∧ (p w = true → te t1 S = .ok w S)) : lcLR g tt te t0 q us ws [] S = .ok (.lst (ws.filter p)) S := by
  rw [lcLR_same hq ws [] fun w hw => by
    obtain ⟨t1, a, b, c⟩ := h w hw
    refine ⟨t1, a, ?_⟩
    cases hp : p w with
    | true => exact .inl ⟨w, by rw [b, hp], c hp⟩
    | false => exact .inr (by rw [b, hp])]
  exact lcL_filter p ws hz h
end
/-! ### rows of ints -/
abbrev wl (l : List Int) : List W := l.map W.int
@[simp] theorem eqWs_ints : ∀ (a b : List Int), eqWs (wl a) (wl b) = decide (a = b)
  | [], [] => by simp [wl, eqWs]
  | [], b :: bs => by simp [wl, eqWs]
  | a :: as, [] => by simp [wl, eqWs]
  | a :: as, b :: bs => by
    have := eqWs_ints as bs
    simp only [wl, List.map_cons] at this ⊢
    simp [eqWs, eqW, this, Bool.decide_and]
    rfl
@[simp] theorem inW_ints (z : Int) (l : List Int) : inW (.int z) (wl l) = decide (z ∈ l) := by
  induction l with
  | nil => simp [wl, inW]
  | cons a l ih =>
    simp only [wl, inW, List.map_cons, List.any_cons, eqW] at ih ⊢
    rw [ih]
    by_cases h : a = z
    · subst h; simp
    · simp [h, Ne.symm h]
theorem e_eqTI {S : Sto} {a b : List Int} : eqD (.tup (wl a)) (.tup (wl b)) S = .ok (.bl (decide (a = b))) S := by
  rw [e_eq (by show dat (15+1) _ = true; simp [dat, dat_ints]) (by show dat (15+1) _ = true; simp [dat, dat_ints])]; simp [eqW]
theorem e_neTI {S : Sto} {a b : List Int} : neD (.tup (wl a)) (.tup (wl b)) S = .ok (.bl (!decide (a = b))) S := by
  rw [e_ne (by show dat (15+1) _ = true; simp [dat, dat_ints]) (by show dat (15+1) _ = true; simp [dat, dat_ints])]; simp [eqW]
theorem e_eqLI {S : Sto} {a b : List Int} : eqD (.lst (wl a)) (.lst (wl b)) S = .ok (.bl (decide (a = b))) S := by
  rw [e_eq (by show dat (15+1) _ = true; simp [dat, dat_ints]) (by show dat (15+1) _ = true; simp [dat, dat_ints])]; simp [eqW]
theorem e_neLI {S : Sto} {a b : List Int} : neD (.lst (wl a)) (.lst (wl b)) S = .ok (.bl (!decide (a = b))) S := by
  rw [e_ne (by show dat (15+1) _ = true; simp [dat, dat_ints]) (by show dat (15+1) _ = true; simp [dat, dat_ints])]; simp [eqW]
theorem e_inTI {S : Sto} {z : Int} {l : List Int} : inD (.int z) (.tup (wl l)) S = .ok (.bl (decide (z ∈ l))) S := by rw [e_inT rfl (dat_ints _)]; simp
theorem e_inLI {S : Sto} {z : Int} {l : List Int} : inD (.int z) (.lst (wl l)) S = .ok (.bl (decide (z ∈ l))) S := by rw [e_inL rfl (dat_ints _)]; simp
theorem e_notInTI {S : Sto} {z : Int} {l : List Int} : notInD (.int z) (.tup (wl l)) S = .ok (.bl (!decide (z ∈ l))) S := by rw [e_notInT rfl (dat_ints _)]; simp
theorem e_notInLI {S : Sto} {z : Int} {l : List Int} : notInD (.int z) (.lst (wl l)) S = .ok (.bl (!decide (z ∈ l))) S := by rw [e_notInL rfl (dat_ints _)]; simp
theorem rng_wl (n : Nat) : intsFrom 0 n = wl ((List.range n).map fun (i : Nat) => (i : Int)) := by rw [intsFrom_eq]; simp [wl, List.map_map, Function.comp_def]
theorem filter_wl (p : W → Bool) (l : List Int) : (wl l).filter p = wl (l.filter fun z => p (.int z)) := by
  simp only [wl]
  induction l with
  | nil => rfl
  | cons a l ih =>
    simp only [List.map_cons, List.filter_cons]
    split <;> simp [ih]
/-- a filter by a test on ints -/
theorem lc_filterI {g : Tg} {tt : DT} {te : DX} {t0 : Lo} {S : Sto} (p : Int → Bool) (l : List Int) (hz : l.length ≤ 100000) (h : ∀ z ∈ l, ∃ t1, g.put (.int z) t0 = some t1 ∧ tt t1 S = .ok (p z) S ∧ te t1 S = .ok (.int z) S) : lcL g tt te t0 (wl l) [] S = .ok (.lst (wl (l.filter p))) S := by
  have := lcL_filter (g := g) (tt := tt) (te := te) (t0 := t0) (S := S) (fun w => match w with | .int z => p z | _ => false) (wl l) (by simpa [wl] using hz) (fun w hw => by
    obtain ⟨z, hz, rfl⟩ := List.mem_map.mp hw
    obtain ⟨t1, h1, h2, h3⟩ := h z hz
    exact ⟨t1, h1, h2, fun _ => h3⟩)
  rw [this, filter_wl]
theorem ints_of {us : List W} {P : Int → Prop} (h : ∀ u ∈ us, ∃ z, u = W.int z ∧ P z) : ∃ l, us = wl l ∧ ∀ z ∈ l, P z := by
  induction us with
  | nil => exact ⟨[], rfl, by simp⟩
  | cons u us ih =>
    obtain ⟨l, hl, hp⟩ := ih fun x hx => h x (List.mem_cons_of_mem _ hx)
    obtain ⟨z, hz, pz⟩ := h u (List.mem_cons_self ..)
    refine ⟨z :: l, by simp [hz, hl], fun y hy => ?_⟩
    rcases List.mem_cons.mp hy with rfl | hy
    · exact pz
    · exact hp y hy
end DD
namespace DD
open PySem PySem.Spec PyProof.Rows L2
section
variable {G : Gx} {xv : Nat → Value} {Wx : WX} {X : Cx} {H H' : Hp} {S S' : Sto} {r r' : Rh}
/-- where nothing is let out -/
theorem Cok.w0 (c : Cok G X Wx) : Cok G X W0 := ⟨c.kk, fun _ _ ⟨_, _, _, _, _, _, _, _, _, _, _, _, _, _, _, _, w⟩ => w.elim, c.po, c.calm, c.nd⟩
/-! ### {k: v, ..} -/
def dPs : List (DX × DX) → Lo → Sto → R (List (Key × W))
  | [], _, S => .ok [] S
  | (k, v) :: r, t, S => match k t S with
    | .ok a S1 => match v t S1 with
      | .ok b S2 => match keyW a with
        | some key => match dPs r t S2 with
          | .ok ps S3 => .ok ((key, b) :: ps) S3
          | _ => .no
        | none => .no
      | _ => .no
    | _ => .no
def mergeW : List (Key × W) → List Key × List W → List Key × List W
  | [], p => p
  | (k, w) :: r, p => mergeW r (dPutW p.1 p.2 k w)
def dDisp (ps : List (DX × DX)) : DX := fun t S => match dPs ps t S with
  | .ok kvs S1 => if kvs.length ≤ 15 then .ok (.ref S1.length) (S1 ++ [.dic (mergeW kvs ([], [])).1 (mergeW kvs ([], [])).2]) else .no
  | _ => .no
def toPs (G : Gx) (xv : Nat → Value) (ps : List (DX × DX)) : List (TE × TE) := ps.map fun p => (toE G xv W0 p.1, toE G xv W0 p.2)
theorem pairs_ok {s : L2.St} {t : Lo} : ∀ {ps : List (DX × DX)} {H : Hp} {S : Sto} {r : Rh} {kvs : List (Key × W)} {S' : Sto} {Q : List (V × V) → Hp → Prop}, RLo G H S r t s → Rl G H S r → dPs ps t S = .ok kvs S' →
    (∀ H' r' vs, Ev H S r H' S' r' → Rl G H' S' r' → RWs G H' S' r' (kvs.map (·.2)) vs → Q (((kvs.map (·.1)).zip vs).map fun kv => (kV kv.1, kv.2)) H') → tPairs (toPs G xv ps) s H Q
  | [], H, S, r, kvs, S', Q, l, rl, e, h => by
    cases e
    exact h H r [] .refl rl .nil
  | (k, v) :: ps, H, S, r, kvs, S', Q, l, rl, e, h => by
    simp only [dPs] at e
    cases ek : k t S with
    | er c ns us S1 => rw [ek] at e; cases e
    | no => rw [ek] at e; cases e
    | ok a S1 =>
      rw [ek] at e
      simp only [] at e
      refine ⟨r, t, S, l, rl, ?_⟩
      show OutE G xv W0 _ s H S r (k t S) _
      rw [ek]
      intro r1 H1 x e1 rl1 qa
      cases ev : v t S1 with
      | er c ns us S2 => rw [ev] at e; cases e
      | no => rw [ev] at e; cases e
      | ok b S2 =>
        rw [ev] at e
        simp only [] at e
        refine ⟨r1, t, S1, l.ev e1, rl1, ?_⟩
        show OutE G xv W0 _ s H1 S1 r1 (v t S1) _
        rw [ev]
        intro r2 H2 y e2 rl2 qb
        cases ekey : keyW a with
        | none => rw [ekey] at e; cases e
        | some key =>
          rw [ekey] at e
          simp only [] at e
          cases er : dPs ps t S2 with
          | er c ns us S3 => rw [er] at e; cases e
          | no => rw [er] at e; cases e
          | ok kvs2 S3 =>
            rw [er] at e
            cases e
            refine pairs_ok (l.ev (e1.trans e2)) rl2 er fun H3 r3 vs e3 rl3 qs => ?_
            have hx := keyW_ok qa ekey
            subst hx
            have := h H3 r3 (y :: vs) ((e1.trans e2).trans e3) rl3 (.cons (qb.ev e3) qs)
            exact this
theorem merge_ok {H : Hp} {S : Sto} {r : Rh} : ∀ {kvs : List (Key × W)} {vs : List V} {ks : List Key} {ws : List W} {us : List V}, RWs G H S r (kvs.map (·.2)) vs → ks.length = ws.length → RWs G H S r ws us → ks.Nodup →
    ∃ us', mergeK (ks.zip us) ((kvs.map (·.1)).zip vs) = (mergeW kvs (ks, ws)).1.zip us' ∧ RWs G H S r (mergeW kvs (ks, ws)).2 us' ∧ (mergeW kvs (ks, ws)).1.length = (mergeW kvs (ks, ws)).2.length
  | [], vs, ks, ws, us, q, hl, qs, nd => by
    cases q
    exact ⟨us, rfl, qs, hl⟩
  | (k, w) :: kvs, vs, ks, ws, us, q, hl, qs, nd => by
    cases q with
    | @cons _ _ v vs a q =>
      obtain ⟨us1, e1, q1⟩ := putK_zip (k := k) a hl qs nd
      have hl1 := dPutW_len (k := k) (x := w) hl
      have nd1 : (dPutW ks ws k w).1.Nodup := nodup_put hl nd
      obtain ⟨us2, e2, q2, h2⟩ := merge_ok (kvs := kvs) (vs := vs) (ks := (dPutW ks ws k w).1) (ws := (dPutW ks ws k w).2) (us := us1) q hl1 q1 nd1
      refine ⟨us2, ?_, q2, h2⟩
      show mergeK (putK (ks.zip us) k v) ((kvs.map (·.1)).zip vs) = _
      rw [e1]
      exact e2
theorem de_disp {pos : Pos} {keys : List (Option Expr)} {values : List Expr} {ps : List (DX × DX)} (h : PPs X pos keys values (toPs G xv ps)) (hall : keys.all (·.isSome) = true := by rfl) (hl : keys.length = values.length := by rfl) (h0 : keys ≠ [] := by simp) (h15 : keys.length ≤ 15 := by decide) :
    PE X (.Dict keys values pos) (toE G xv Wx (dDisp ps)) := PEi (pe_disp h hall hl h0 h15) fun s H Q ⟨r, t, S, l, rl, o⟩ => by
  intro p hp
  obtain ⟨f1, z1⟩ := r
  have hz1 : ¬ z1 p := fun z => by
    obtain ⟨u, h⟩ := rl.zs p z
    rw [hp] at h; cases h
  have sub : ∀ a, z1 a → (z1 a ∨ a = p) := fun a h => .inl h
  have inn : Mp H S ⟨f1, z1⟩ (upd H p (.dK [])) S ⟨f1, fun a => z1 a ∨ a = p⟩ := ⟨fun a u ow => ⟨(ow.ev (Ev.fresh hp rl)).1, fun lv => by
      rcases lv with lv | lv | lv
      · exact (ow.ev (Ev.fresh (o := .dK []) hp rl)).2 (.inl lv)
      · exact (ow.ev (Ev.fresh (o := .dK []) hp rl)).2 (.inr lv)
      · exact ne_of_none ow.1 hp lv⟩, fun _ _ => rfl, Nat.le_refl _⟩
  unfold dDisp at o
  cases e : dPs ps t S with
  | er c ns us S1 => rw [e] at o; exact o.elim
  | no => rw [e] at o; exact o.elim
  | ok kvs S1 =>
    rw [e] at o
    simp only [] at o
    split at o
    · rename_i h15'
      refine pairs_ok (l.mp inn) (rl.add hp) e fun H2 r2 vs e2 rl2 qs => ?_
      obtain ⟨f2, z2⟩ := r2
      have hz2 : z2 = fun a => z1 a ∨ a = p := e2.zz
      subst hz2
      have d2 : H2 p = some (.dK []) := e2.kz p _ upd_same (.inr rfl)
      obtain ⟨us', m1, m2, m3⟩ := merge_ok (ks := []) (ws := []) (us := []) qs rfl .nil List.nodup_nil
      have hlen : ((kvs.map (·.1)).zip vs).length ≤ 15 := by
        rw [List.length_zip]; simp; omega
      refine ⟨d2, (kvs.map (·.1)).zip vs, rfl, hlen, ?_⟩
      have b2 : Ev H S ⟨f1, z1⟩ H2 S1 ⟨f2, z1⟩ := (Ev.fresh hp rl).trans (e2.less rl2 sub)
      have mm : mergeK [] ((kvs.map (·.1)).zip vs) = (mergeW kvs ([], [])).1.zip us' := m1
      rw [mm]
      have mp : Mp H2 S1 ⟨f2, fun a => z1 a ∨ a = p⟩ (upd H2 p (.dK ((mergeW kvs ([], [])).1.zip us'))) S1 ⟨f2, fun a => z1 a ∨ a = p⟩ := Mp.poke (.inr rfl)
      have rl3 : Rl G (upd H2 p (.dK ((mergeW kvs ([], [])).1.zip us'))) S1 ⟨f2, fun a => z1 a ∨ a = p⟩ := rl2.poke (.inr rfl)
      have hh := o (put ⟨f2, z1⟩ S1.length p) _ (.ref (put ⟨f2, z1⟩ S1.length p S1.length)) ((b2.poke hp).adopt hp) (rl3.adopt (.inr rfl) hz1 upd_same (.dic m3 (m2.mp mp))) (.ref (by simp))
      rw [put_same] at hh
      exact hh
    · exact o.elim
theorem pd_nil {pos : Pos} : PPs X pos [] [] (toPs G xv []) := pps_nil
theorem pd_cons {pos : Pos} {k v : Expr} {ks : List (Option Expr)} {vs : List Expr} {dk dv : DX} {ps : List (DX × DX)} (hk : PE X k (toE G xv W0 dk)) (hv : PE X v (toE G xv W0 dv)) (hr : PPs X pos ks vs (toPs G xv ps)) :
    PPs X pos (some k :: ks) (v :: vs) (toPs G xv ((dk, dv) :: ps)) := pps_cons hk hv hr
/-! ### list(d) -/
def kW : Key → W
  | .inl i => .int i
  | .inr x => .str x
def listDF : Fn := fun ws S => match ws with
  | [w] => match dicOf S w with
    | some p => .ok (.lst (p.1.map kW)) S
    | none => .no
  | _ => .no
theorem kW_rw : ∀ ks : List Key, RWs G H S r (ks.map kW) (ks.map kV)
  | [] => .nil
  | .inl i :: ks => .cons (.int i) (kW_rw ks)
  | .inr x :: ks => .cons (.str x) (kW_rw ks)
theorem c_listD (hc : X.calm = true) : CallR X (.type "list") (toC1 G xv listDF) := by
  intro pins s σ H xs us Q I rv ⟨r, S, ws, rl, q, o⟩
  cases q with
  | nil => exact o.elim
  | @cons w ws v vs a q =>
    cases q with
    | cons _ _ => exact o.elim
    | nil =>
      simp only [listDF] at o
      cases e : dicOf S w with
      | none => rw [e] at o; exact o.elim
      | some p =>
        rw [e] at o
        obtain ⟨b, vs, rfl, hb, hl, qs⟩ := dicOf_ok rl a e
        refine call_listD hc pins s σ H _ us Q I rv ⟨b, p.1.zip vs, rfl, .inl hb, fun l hl' => ?_⟩
        have ek : ((p.1.zip vs).map fun kv => kV kv.1) = p.1.map kV := by
          have : (p.1.zip vs).map (fun kv => kV kv.1) = ((p.1.zip vs).map Prod.fst).map kV := by rw [List.map_map]; rfl
          rw [this, List.map_fst_zip (by rw [hl, qs.length]; exact Nat.le_refl _)]
        rw [ek]
        exact o r _ _ (Ev.fresh hl' rl) (rl.fresh hl') (.lst (Own.new hl' rl) (kW_rw p.1))
end
end DD
namespace DD
open PySem PySem.Spec PyProof.Rows L2
variable {G : Gx} {xv : Nat → Value} {Wx : WX} {X : Cx} {H H' : Hp} {S S' : Sto} {r r' : Rh}
/-- X() -/
theorem pmk_own0 {C : Addr} {bmB : List Value} {B newId initId : String} {x : Str} {p pos : Pos} (F : ExcBaseFacts B newId initId bmB) (q : PySem.W.excIn X.K C bmB newId = true) (gC : X.mg x = some (.ref C)) (kC : PySem.W.keepIn X.K (.ref C) = true) (r : Raises X (.ref C)) (hg : Gl X x)
    (hdb : (x == ("__debug__" : Str)) = false := by decide) :
    PMk X (.Call (.Name x p) [] [] pos) (fun _ H Q => Q (.ref C) none H) := by
  intro pins s σ H Q I h
  refine wpAny_Call_Name_kw (ld_glob I hg gC ?_ hdb)
  refine PySem.W.callWith_K0 I.kIn kC ?_
  show wpAny _ _ (call (.ref C) []) _ _ _
  obtain ⟨bm, N, nm, qn, bs, hdct, sn, sub, ab, col, dd, k0, k1, k2, k3, k5, mN, hC, hN, hni, T⟩ := exc_obj I.kIn q
  refine wpAny_call_exc_subT F T hC hN hni (fun h' e hm => ?_) (by show 0 ≤ sizeLine; omega)
  exact mk_of I hm r h (I.hok.gone hm.new)
/-- raise X() -/
def dRaise0 (c : Nat) : DS := fun t S => .er c [] [] t S
structure Exc0 (K : PySem.W.Frag) (C : Addr) {B newId initId : String} {bmB : List Value} (F : ExcBaseFacts B newId initId bmB) : Prop where
  q : PySem.W.excIn K C bmB newId = true
  kC : PySem.W.keepIn K (.ref C) = true
  sub : PySem.W.subIn K (.ref C) (.type "BaseException") = some true
  ty : PySem.W.typeIn K (.ref C) = some (.type "type")
theorem ds_raise0 {c : Nat} {x : Str} {B newId initId : String} {bmB : List Value} {F : ExcBaseFacts B newId initId bmB} {p pos pos2 : Pos} (k : Cok G X Wx) (T : Exc0 X.K (G.cm c) F) (hm : X.mg x = some (.ref (G.cm c))) (hx : xv c = .ref (G.cm c))
    (hg : Gl X x := by rfl) (hdb : (x == ("__debug__" : Str)) = false := by decide) :
    PS X (.Raise (some (.Call (.Name x p) [] [] pos)) none pos2) (toS G xv Wx (dRaise0 c)) :=
  PSi (ps_raise k.calm k.tk (pmk_own0 F T.q hm T.kC (raises_own T.sub T.ty) hg hdb)) fun D s H ⟨r, t, S, l, rl, o⟩ => by
    rw [← hx]
    exact o r H s none .refl rl l (.inl ⟨rfl, rfl, rfl⟩)
end DD
namespace DD
open PySem PySem.Spec PyProof.Rows L2
open PySem.W (InstAt)
section
variable {prog : Program} {w : World} {A : Around} {E : Value → Shared → Prop} {s : Shared} {K : PySem.W.Frag} {x C L f g dx : Addr} {h₀ : Heap} {m : Str → Option Value} {od : Option Obj}
theorem asInt_ref {M : Model} {Q : Option Int → Shared → Prop} (I : InstAt s.heap x (PySem.W.instObj C dx) C od) (h : Q none s) : wpAny M A (asInt? (.ref x)) Q E s := by
  unfold asInt?
  refine wpAny_bind (wpAny_load I.at_ ?_)
  exact wpAny_pure h
/-- an int on the left, which declines: the own method on the right -/
theorem rbin_K {op : Operator} {i : Int} {t : Tok} {id : String} {Q : Value → Shared → Prop} (F : Fr h₀ L s.heap m) (X₀ : K.In h₀) (I : InstAt s.heap x (PySem.W.instObj C dx) C od) (hc : PySem.W.selfFirst K C = true)
    (hs : PySem.W.findIn K (.ref C) (PySem.dunder op.info.2) = some (some (.ref f))) (hr : PySem.W.findIn K (.ref C) (dunderR op.info.2) = some (some (.ref g))) (hg : PySem.W.isFn K (.ref g) = true)
    (hsub : PySem.W.subIn K (.ref C) (.type "int") = some false) (hl : Slot "int" (dunder op.info.2) id) (hfill : fillsNumberSlot (.type "int") op.info.2 = pure true)
    (hd : wpAny (model prog w) A (call (.builtin id) [.int i t, .ref x]) (fun v s' => v = .notImplemented ∧ s' = s) E s)
    (h : wpAny (model prog w) A (call (.ref g) [.ref x, .int i t]) (PySem.W.CmpBack Q) E s) : wpAny (model prog w) A (binaryOp op (.int i t) (.ref x)) Q E s := by
  have X := X₀.keeps F.keep
  obtain ⟨cd, rest, hcd, hm⟩ := PySem.W.ksp_first hc
  rcases hi : op.info with ⟨sym, nm⟩
  rw [hi] at hs hr hl hfill
  dsimp only at hs hr hl hfill
  have two := PySem.W.ksp_try X I hr hg h
  have one : wpAny (model prog w) A (tryMethod (.int i t) (PySem.dunder nm) (.ref x)) (fun r s' => r = none ∧ s' = s) E s :=
    wpAny_tryMethod_declines (typeIs_int s i t) hl (wpAny_mono hd (fun v s' e => ⟨e.1, rfl, e.2⟩) fun _ _ e => e)
  obtain ⟨hh, gg, d, tt, os⟩ := s
  have L1 : PySem.W.Looks (model prog w) hh (typeOf (.int i t)) (.type "int") := PySem.W.Looks.of_pure rfl
  have L2 : PySem.W.Looks (model prog w) hh (typeOf (.ref x)) (.ref C) := I.type
  have L3 : PySem.W.Looks (model prog w) hh (fillsNumberSlot (.type "int") nm) true := PySem.W.Looks.of_pure hfill
  have L4 : PySem.W.Looks (model prog w) hh (fillsNumberSlot (.ref C) nm) true := PySem.W.fills_K X hcd hm hs
  have L5 : PySem.W.Looks (model prog w) hh (isSubtype (.ref C) (.type "int")) false := PySem.W.looks_subIn X hsub
  have L6 : PySem.W.Looks (model prog w) hh (numberSlotInPython (.type "int") nm) false := PySem.W.Looks.of_pure rfl
  have hne : (Value.type "int" == Value.ref C) = false := Bool.eq_false_iff.mpr fun q => by cases beq_iff_eq.mp q
  simp only [binaryOp, hi]
  refine wpAny_holding (wpAny_bind ?_)
  unfold binaryOp1
  refine wpAny_bind (L1.at (wpAny_bind (L2.at (wpAny_bind (L3.at ?_)))))
  simp only [hne, Bool.false_eq_true, if_false]
  ksp_lk
  refine wpAny_mono one (fun r s' e => ?_) fun _ _ e => e
  obtain ⟨rfl, rfl⟩ := e
  ksp_lk
  refine wpAny_mono two (fun r s' e => ?_) fun _ _ e => e
  obtain ⟨v, rfl, hq⟩ := e
  ksp_lk
  exact hq
end
end DD
namespace DD
open PySem PySem.Spec PyProof.Rows L2
open PySem.W (InstAt)
section
variable {prog : Program} {w : World} {A : Around} {E : Value → Shared → Prop} {s : Shared} {K : PySem.W.Frag} {x C L f g dx : Addr} {h₀ : Heap} {m : Str → Option Value} {od : Option Obj}
theorem int_no {nm : Str} {id n : String} {fi : Int → Int → Sem Fin} {b : Bool} {i : Int} {t : Tok} (slot : Slot "int" nm id) (entry : entryFor table id = some (Builtin.Int.intBinary n fi b)) (args : argsOk id ⟨[.int i t, .ref x], []⟩)
    (hsl : slotArgs n 1 ⟨[.int i t, .ref x], []⟩ = pure (.int i t, [.ref x]))
    (I : InstAt s.heap x (PySem.W.instObj C dx) C od) : wpAny (model prog w) A (call (.builtin id) [.int i t, .ref x]) (fun v s' => v = .notImplemented ∧ s' = s) E s := by
  refine wpAny_call_entry slot (typeIs_int s i t) entry ?_ args
  unfold Builtin.Int.intBinary
  rw [hsl]
  refine wpAny_bind (wpAny_pure ?_)
  refine wpAny_bind (m := Builtin.Int.intOfSelf (.int i t)) (wpAny_pure ?_)
  refine wpAny_bind (m := asInt? (.ref x)) (asInt_ref I ?_)
  exact wpAny_bind (wpAny_rule (wpAny_pure ⟨_, rfl, rfl, rfl⟩))
theorem rcmp_K {op : CmpOp} {i : Int} {t : Tok} {id : String} {Q : Value → Shared → Prop} (hu : A.units < cLine) (F : Fr h₀ L s.heap m) (X₀ : K.In h₀) (I : InstAt s.heap x (PySem.W.instObj C dx) C od)
    (hs : PySem.W.findIn K (.ref C) (cmpInfo op).2.2 = some (some (.ref g))) (hg : PySem.W.isFn K (.ref g) = true)
    (hsub : PySem.W.subIn K (.ref C) (.type "int") = some false) (hl : Slot "int" (cmpInfo op).2.1 id)
    (hd : wpAny (model prog w) A (call (.builtin id) [.int i t, .ref x]) (fun v s' => v = .notImplemented ∧ s' = s) E s)
    (h : wpAny (model prog w) A (call (.ref g) [.ref x, .int i t]) (PySem.W.CmpBack Q) E s) : wpAny (model prog w) A (richCompare op (.int i t) (.ref x)) Q E s := by
  have X := X₀.keeps F.keep
  have two : wpAny (model prog w) A (tryCompare (.ref x) (cmpInfo op).2.2 (.int i t)) (fun r s' => ∃ v, r = some v ∧ Q v s') E s := by
    unfold tryCompare
    refine wpAny_bind (PySem.W.ifBound_K X I hs hg (wpAny_mono h (fun v s' hv => ?_) fun _ _ e => e))
    cases v <;> first | exact hv.elim | exact wpAny_pure ⟨_, rfl, hv⟩
  have one : wpAny (model prog w) A (tryCompare (.int i t) (cmpInfo op).2.1 (.ref x)) (fun r s' => r = none ∧ s' = s) E s :=
    wpAny_tryCompare_declines (typeIs_int s i t) hl (wpAny_mono hd (fun v s' e => ⟨e.1, rfl, e.2⟩) fun _ _ e => e)
  have hne : (Value.type "int" != Value.ref C) = true := by simp
  unfold richCompare
  simp only [(typeIs_int s i t).oneThing_none]
  refine wpAny_holding (wpAny_bind (wpAny_cRoomFor hu ?_))
  refine wpAny_bind (wpAny_typeOf (typeIs_int s i t) (wpAny_bind (I.type.here ?_)))
  simp only [hne, if_true]
  refine wpAny_bind ((PySem.W.looks_subIn X hsub).here ?_)
  simp only [Bool.false_eq_true, if_false]
  refine wpAny_bind (wpAny_mono one (fun r s' e => ?_) fun _ _ e => e)
  obtain ⟨rfl, rfl⟩ := e
  simp only [Bool.not_false, if_true]
  refine wpAny_bind (wpAny_mono two (fun r s' e => ?_) fun _ _ e => e)
  obtain ⟨v, rfl, hq⟩ := e
  exact wpAny_pure hq
end
end DD
namespace DD
open PySem PySem.Spec PyProof.Rows L2
variable {G : Gx} {xv : Nat → Value} {Wx : WX} {X : Cx} {H H' : Hp} {S S' : Sto} {r r' : Rh}
/-- int's own method declines an instance -/
def IntNo (nm : Str) : Prop := ∃ (id n : String) (fi : Int → Int → Sem Fin) (b : Bool), Slot "int" nm id ∧ entryFor table id = some (Builtin.Int.intBinary n fi b) ∧ (∀ i t x, argsOk id ⟨[.int i t, .ref x], []⟩) ∧ ∀ i t x, slotArgs n 1 ⟨[.int i t, .ref x], []⟩ = pure (.int i t, [.ref x])
theorem no_add : IntNo "__add__" := ⟨_, _, _, _, F.slot_int_add, F.entry_int_add, fun _ _ _ => F.args_int_add_2 _ _, fun _ _ _ => rfl⟩
theorem no_sub : IntNo "__sub__" := ⟨_, _, _, _, F.slot_int_sub, F.entry_int_sub, fun _ _ _ => F.args_int_sub_2 _ _, fun _ _ _ => rfl⟩
theorem no_mul : IntNo "__mul__" := ⟨_, _, _, _, F.slot_int_mul, F.entry_int_mul, fun _ _ _ => F.args_int_mul_2 _ _, fun _ _ _ => rfl⟩
theorem no_eq : IntNo "__eq__" := ⟨_, _, _, _, F.slot_int_eq, F.entry_int_eq, fun _ _ _ => F.args_int_eq_2 _ _, fun _ _ _ => rfl⟩
theorem no_lt : IntNo "__lt__" := ⟨_, _, _, _, F.slot_int_lt, F.entry_int_lt, fun _ _ _ => F.args_int_lt_2 _ _, fun _ _ _ => rfl⟩
theorem no_le : IntNo "__le__" := ⟨_, _, _, _, F.slot_int_le, F.entry_int_le, fun _ _ _ => F.args_int_le_2 _ _, fun _ _ _ => rfl⟩
theorem no_gt : IntNo "__gt__" := ⟨_, _, _, _, F.slot_int_gt, F.entry_int_gt, fun _ _ _ => F.args_int_gt_2 _ _, fun _ _ _ => rfl⟩
theorem no_ge : IntNo "__ge__" := ⟨_, _, _, _, F.slot_int_ge, F.entry_int_ge, fun _ _ _ => F.args_int_ge_2 _ _, fun _ _ _ => rfl⟩
/-- an own class whose operator op is to meet ints -/
structure IntOp (K : PySem.W.Frag) (C : Addr) (op : Operator) : Prop where
  h1 : (PySem.W.findIn K (.type "int") (PySem.dunder op.info.2)).isSome = true
  h2 : (PySem.W.findIn K (.type "int") (dunderR op.info.2)).isSome = true
  s1 : PySem.W.subIn K (.type "int") (.ref C) = some false
  s2 : PySem.W.subIn K (.ref C) (.type "int") = some false
def usrL (c : Nat) (fn : Fn) : D2 := fun a b S => match b with
  | .int _ => if isOf c a S = true then fn [a, b] S else .no
  | _ => .no
theorem back {pins : List (Addr × Obj)} {σ : L2.St} {Q : VK} : ∀ w s', EP X pins σ Q w s' → PySem.W.CmpBack (EP X pins σ Q) w s' := fun w s' z => by
  obtain ⟨z', H', I', rz, qz⟩ := z
  cases w <;> first | exact ⟨z', H', I', rz, qz⟩ | (cases z' <;> first | exact nomatch rz | (obtain ⟨t, e⟩ := rz; exact nomatch e))
theorem o_usrL {op : Operator} {c : Nat} {f g : Addr} {k : Nat} {fn : Fn} {m mr : Str} (hk : X.K = G.K) (h : DefOk X.prog X.w X.K X.mg X.base G xv f k 2 fn) (hr : Room k X.A) (M : Meth G.K (G.cm c) m f) (MR : Meth G.K (G.cm c) mr g) (hc : PySem.W.selfFirst G.K (G.cm c) = true) (J : IntOp G.K (G.cm c) op)
    (hm : PySem.dunder op.info.2 = m := by rfl) (hmr : dunderR op.info.2 = mr := by rfl) : OpR X (binaryOp op) (toR2 G xv (usrL c fn)) := by
  intro pins s σ H x y v u Q I rx ry ⟨r, S, a, b, rl, qa, qb, o⟩
  unfold usrL at o
  split at o
  · rename_i i
    cases qb
    split at o
    · rename_i hi
      obtain ⟨p, dx, fs, rfl, e1⟩ := isOf_ok rl qa hi
      cases (show v = Value.ref p from rx)
      obtain ⟨tk, rfl⟩ : ∃ t, u = Value.int i t := ry
      obtain ⟨od, Jn⟩ := inst_at I e1
      obtain ⟨m, hF⟩ := I.fr
      subst hm; subst hmr
      obtain ⟨fo, h1⟩ := Option.isSome_iff_exists.mp J.h1
      obtain ⟨ro, h2⟩ := Option.isSome_iff_exists.mp J.h2
      refine PySem.W.ksp_binT (K := X.K) (T := "int") hF I.ok.mod.kin Jn rfl (by rw [hk]; exact hc) (by rw [hk]; exact M.at_) (by rw [hk]; exact M.fn) (by rw [hk]; exact MR.at_) (.inr ⟨_, rfl⟩) (by rw [hk]; exact h1) (by rw [hk]; exact h2) (by rw [hk]; exact J.s1) ?_
      exact wpAny_mono (run_op (vs := [.ref p, .int i]) h hr I (.cons rfl (.cons ⟨tk, rfl⟩ .nil)) rfl (.cons qa (.cons (.int i) .nil)) rl o) back fun _ _ z => z
    · exact o.elim
  · exact o.elim
def usrR (c : Nat) (fn : Fn) : D2 := fun a b S => match a with
  | .int _ => if isOf c b S = true then fn [b, a] S else .no
  | _ => .no
theorem o_usrR {op : Operator} {c : Nat} {f g : Addr} {k : Nat} {fn : Fn} {m mr : Str} (hk : X.K = G.K) (h : DefOk X.prog X.w X.K X.mg X.base G xv g k 2 fn) (hr : Room k X.A) (M : Meth G.K (G.cm c) m f) (MR : Meth G.K (G.cm c) mr g) (hc : PySem.W.selfFirst G.K (G.cm c) = true) (J : IntOp G.K (G.cm c) op)
    (N : IntNo (PySem.dunder op.info.2)) (hfill : fillsNumberSlot (.type "int") op.info.2 = pure true)
    (hm : PySem.dunder op.info.2 = m := by rfl) (hmr : dunderR op.info.2 = mr := by rfl) : OpR X (binaryOp op) (toR2 G xv (usrR c fn)) := by
  intro pins s σ H x y v u Q I rx ry ⟨r, S, a, b, rl, qa, qb, o⟩
  unfold usrR at o
  split at o
  · rename_i i
    cases qa
    split at o
    · rename_i hi
      obtain ⟨p, dx, fs, rfl, e1⟩ := isOf_ok rl qb hi
      cases (show u = Value.ref p from ry)
      obtain ⟨tk, rfl⟩ : ∃ t, v = Value.int i t := rx
      obtain ⟨od, Jn⟩ := inst_at I e1
      obtain ⟨m, hF⟩ := I.fr
      subst hm; subst hmr
      obtain ⟨id, n, fi, bb, sl, en, ar, sa⟩ := N
      refine rbin_K (K := X.K) hF I.ok.mod.kin Jn (by rw [hk]; exact hc) (by rw [hk]; exact M.at_) (by rw [hk]; exact MR.at_) (by rw [hk]; exact MR.fn) (by rw [hk]; exact J.s2) sl hfill (int_no sl en (ar _ _ _) (sa _ _ _) Jn) ?_
      exact wpAny_mono (run_op (vs := [.ref p, .int i]) h hr I (.cons rfl (.cons ⟨tk, rfl⟩ .nil)) rfl (.cons qb (.cons (.int i) .nil)) rl o) back fun _ _ z => z
    · exact o.elim
  · exact o.elim
theorem o_usrCL {op : CmpOp} {c : Nat} {f : Addr} {k : Nat} {fn : Fn} {m : Str} (hk : X.K = G.K) (h : DefOk X.prog X.w X.K X.mg X.base G xv f k 2 fn) (hr : Room k X.A) (M : Meth G.K (G.cm c) m f) (s1 : PySem.W.subIn G.K (.type "int") (.ref (G.cm c)) = some false) (hop : ∀ a b, compareOp op a b = richCompare op a b := by intro _ _; rfl) (hm : (cmpInfo op).2.1 = m := by rfl) : OpR X (compareOp op) (toR2 G xv (usrL c fn)) := by
  intro pins s σ H x y v u Q I rx ry ⟨r, S, a, b, rl, qa, qb, o⟩
  unfold usrL at o
  split at o
  · rename_i i
    cases qb
    split at o
    · rename_i hi
      obtain ⟨p, dx, fs, rfl, e1⟩ := isOf_ok rl qa hi
      cases (show v = Value.ref p from rx)
      obtain ⟨tk, rfl⟩ : ∃ t, u = Value.int i t := ry
      obtain ⟨od, Jn⟩ := inst_at I e1
      obtain ⟨m, hF⟩ := I.fr
      subst hm
      rw [hop]
      refine PySem.W.cmp_K (op := op) (K := X.K) (tb := .type "int") hr.units0 hF I.ok.mod.kin Jn (PySem.W.Looks.of_pure rfl) (by unfold PySem.W.notFirst; rw [hk, s1]; simp) (by rw [hk]; exact M.at_) (by rw [hk]; exact M.fn) ?_
      exact wpAny_mono (run_op (vs := [.ref p, .int i]) h hr I (.cons rfl (.cons ⟨tk, rfl⟩ .nil)) rfl (.cons qa (.cons (.int i) .nil)) rl o) back fun _ _ z => z
    · exact o.elim
  · exact o.elim
theorem o_usrCR {op : CmpOp} {c : Nat} {g : Addr} {k : Nat} {fn : Fn} {m mr : Str} (hk : X.K = G.K) (h : DefOk X.prog X.w X.K X.mg X.base G xv g k 2 fn) (hr : Room k X.A) (MR : Meth G.K (G.cm c) mr g) (s2 : PySem.W.subIn G.K (.ref (G.cm c)) (.type "int") = some false) (N : IntNo (cmpInfo op).2.1) (hop : ∀ a b, compareOp op a b = richCompare op a b := by intro _ _; rfl) (hmr : (cmpInfo op).2.2 = mr := by rfl) : OpR X (compareOp op) (toR2 G xv (usrR c fn)) := by
  intro pins s σ H x y v u Q I rx ry ⟨r, S, a, b, rl, qa, qb, o⟩
  unfold usrR at o
  split at o
  · rename_i i
    cases qa
    split at o
    · rename_i hi
      obtain ⟨p, dx, fs, rfl, e1⟩ := isOf_ok rl qb hi
      cases (show u = Value.ref p from ry)
      obtain ⟨tk, rfl⟩ : ∃ t, v = Value.int i t := rx
      obtain ⟨od, Jn⟩ := inst_at I e1
      obtain ⟨m, hF⟩ := I.fr
      subst hmr
      rw [hop]
      obtain ⟨id, n, fi, bb, sl, en, ar, sa⟩ := N
      refine rcmp_K (K := X.K) hr.units0 hF I.ok.mod.kin Jn (by rw [hk]; exact MR.at_) (by rw [hk]; exact MR.fn) (by rw [hk]; exact s2) sl (int_no sl en (ar _ _ _) (sa _ _ _) Jn) ?_
      exact wpAny_mono (run_op (vs := [.ref p, .int i]) h hr I (.cons rfl (.cons ⟨tk, rfl⟩ .nil)) rfl (.cons qb (.cons (.int i) .nil)) rl o) back fun _ _ z => z
    · exact o.elim
  · exact o.elim
/-- -x, of an int or of an own class -/
def dNegU (c : Nat) (fn : Fn) (d : DX) : DX := fun t S => (d t S).bind fun w S1 => match w with
  | .int i => .ok (.int (-i)) S1
  | w => if isOf c w S1 = true then match fn [w] S1 with
      | .ok v S2 => .ok v S2
      | _ => .no
    else .no
theorem un_negU {c : Nat} {f : Addr} {k : Nat} {fn : Fn} (hk : X.K = G.K) (h : DefOk X.prog X.w X.K X.mg X.base G xv f k 1 fn) (hr : Room k X.A) (M : Meth G.K (G.cm c) "__neg__" f) :
    UnR X (unaryOp .USub) (fun x H Q => ∃ r S w, Rl G H S r ∧ RW G H S r w x ∧ isOf c w S = true ∧ OutE G xv W0 (fun H S r w v => RW G H S r w v) [] H S r (fn [w] S) Q) := by
  intro pins s σ H x v Q I rx ⟨r, S, w, rl, q, hi, o⟩
  obtain ⟨p, dx, fs, rfl, e1⟩ := isOf_ok rl q hi
  cases (show v = Value.ref p from rx)
  obtain ⟨od, Jn⟩ := inst_at I e1
  obtain ⟨m, hF⟩ := I.fr
  refine PySem.W.ksp_neg (K := X.K) hF I.ok.mod.kin Jn (by rw [hk]; exact M.at_) (by rw [hk]; exact M.fn) ?_
  exact run_op (vs := [.ref p]) h hr I (.cons rfl .nil) rfl (.cons q .nil) rl o
theorem un_or {f : Value → Sem Value} {r1 r2 : V → Hp → VK → Prop} (h1 : UnR X f r1) (h2 : UnR X f r2) : UnR X f (fun x H Q => r1 x H Q ∨ r2 x H Q) := by
  intro pins s σ H x v Q I rx h
  rcases h with h | h
  · exact h1 pins s σ H x v Q I rx h
  · exact h2 pins s σ H x v Q I rx h
theorem de_negU {a : Expr} {d : DX} {pos : Pos} {c : Nat} {f : Addr} {k : Nat} {fn : Fn} (hk : X.K = G.K) (h : DefOk X.prog X.w X.K X.mg X.base G xv f k 1 fn) (hr : Room k X.A) (M : Meth G.K (G.cm c) "__neg__" f) (ha : PE X a (toE G xv Wx d)) : PE X (.UnaryOp .USub a pos) (toE G xv Wx (dNegU c fn d)) :=
  PEi (pe_un (un_or un_neg (un_negU hk h hr M)) ha) fun s H Q ⟨r, t, S, l, rl, o⟩ =>
  toX.bind l rl o fun w S1 r1 H1 v _ e1 rl1 l1 q o1 => by
    split at o1
    · cases q; exact .inl ⟨_, rfl, o1 r1 H1 _ .refl rl1 (.int _)⟩
    · split at o1
      · rename_i hi
        refine .inr ⟨r1, S1, w, rl1, q, hi, ?_⟩
        split at o1
        · rename_i e; rw [e]; exact o1
        · exact o1.elim
      · exact o1.elim
end DD
namespace DD
open PySem PySem.Spec PyProof.Rows L2
def isBt (y : String) : Bool := y = "bool" || y = "int" || y = "str" || y = "tuple" || y = "list" || y = "dict"
/-- isinstance of values and of instances of one own class, by a built-in class or this one -/
def isi2 (c : Nat) : Ki → Ki → Option Bool := fun a b => match isi1 c a b with
  | some k => some k
  | none => match isiB a b with
    | some k => some k
    | none => match a, b with
      | .c a, .b y => if a = c ∧ isBt y = true then some false else none
      | _, _ => none
theorem isi2_ok {K : PySem.W.Frag} {cm : Nat → Addr} {n : Nat} (h1 : ∀ a b k, isi1 n a b = some k → PySem.W.kitOne K (a.v cm) (b.v cm) = some k ∧ ∀ c, a = .c c → InsK K (cm c)) (hI : InsK K (cm n))
    (b1 : PySem.W.kitOne K (.ref (cm n)) (.type "bool") = some false) (b2 : PySem.W.kitOne K (.ref (cm n)) (.type "int") = some false) (b3 : PySem.W.kitOne K (.ref (cm n)) (.type "str") = some false)
    (b4 : PySem.W.kitOne K (.ref (cm n)) (.type "tuple") = some false) (b5 : PySem.W.kitOne K (.ref (cm n)) (.type "list") = some false) (b6 : PySem.W.kitOne K (.ref (cm n)) (.type "dict") = some false) :
    ∀ a b k, isi2 n a b = some k → PySem.W.kitOne K (a.v cm) (b.v cm) = some k ∧ ∀ c, a = .c c → InsK K (cm c) := by
  intro a b k e
  unfold isi2 at e
  split at e
  · rename_i k' e1; cases e; exact h1 _ _ _ e1
  · split at e
    · rename_i k' e1; cases e; exact isiB_ok _ _ _ e1
    · split at e
      · rename_i a y _ _
        split at e
        · rename_i h
          obtain ⟨rfl, hy⟩ := h
          cases e
          refine ⟨?_, fun c z => by cases z; exact hI⟩
          simp only [isBt, Bool.or_eq_true, decide_eq_true_eq] at hy
          rcases hy with ((((rfl | rfl) | rfl) | rfl) | rfl) | rfl <;> assumption
        · cases e
      · cases e
end DD
namespace DD
open PySem PySem.Spec PyProof.Rows L2
variable {G : Gx} {xv : Nat → Value} {Wx : WX} {X : Cx} {H H' : Hp} {S S' : Sto} {r r' : Rh}
def dPar3 (i j l : Nat) (d : DA) : DS := fun t S => (d t S).toF t fun ws S1 => match ws with
  | [a, b, c] => .nx (((t.set i (some a)).set j (some b)).set l (some c)) S1
  | _ => .no
theorem ds_par3 {i j m : Nat} {x y z : Str} {a b e : Expr} {d : DA} {px py pz pt pos : Pos} {kt k2 pt2} (c : Cok G X Wx) (ha : PA X [a, b, e] (toA G xv Wx d)) (hi : X.N[i]? = some x := by rfl) (hj : X.N[j]? = some y := by rfl) (hm : X.N[m]? = some z := by rfl) (hij : i ≠ j := by decide) (him : i ≠ m := by decide) (hjm : j ≠ m := by decide)
    (hx : X.env.scope.names.lookup x = some .local := by rfl) (hy : X.env.scope.names.lookup y = some .local := by rfl) (hz : X.env.scope.names.lookup z = some .local := by rfl)
    (hw : swappedStores [.Tuple [.Name x px, .Name y py, .Name z pz] kt pt] (.Tuple [a, b, e] k2 pt2) X.env = pure (some [x, y, z]) := by rfl)
    (hs : swapsWithSole [.Tuple [.Name x px, .Name y py, .Name z pz] kt pt] (.Tuple [a, b, e] k2 pt2) pos.line X.env = pure false := by rfl) : PS X (.Assign [.Tuple [.Name x px, .Name y py, .Name z pz] kt pt] (.Tuple [a, b, e] k2 pt2) pos) (toS G xv Wx (dPar3 i j m d)) := PSi (ps_par3 c.calm c.nd hi hj hm hij him hjm hx hy hz ha hw hs) fun D s H ⟨r, t, S, l, rl, o⟩ =>
  toX.bindS l rl o fun ws S1 r1 H1 vs _ e1 rl1 l1 q o1 => by
    cases q with
    | nil => exact o1.elim
    | cons a q =>
      cases q with
      | nil => exact o1.elim
      | cons b q =>
        cases q with
        | nil => exact o1.elim
        | cons c q =>
          cases q with
          | nil => exact ⟨_, _, _, rfl, o1 r1 H1 _ .refl rl1 (((l1.set a i).set b j).set c m)⟩
          | cons _ _ => exact o1.elim
end DD

namespace U
open PySem L2 DD
def xm_NoNode : Nat → Option Bool
  | 1 => some false
  | 2 => some false
  | 3 => some false
  | 4 => some false
  | 5 => some true
  | _ => none
def aw_Web_2_start : List W → List W → List W := fun ws zs => match ws, zs with
  | [a0, a1], [b0] => [a0, a1, b0]
  | _, _ => []
noncomputable def b_l_draw : DS :=
    (dSeq (dAsg (dOp addD (dOp ixD (dVar 0) (dC (.int 1))) (dC (.int 1))) (gIx (dVar 0) (dC (.int 1))))
    (dSeq (dIfS (dtAnd (dTest (dOp eqD (dOp ixD (dVar 0) (dC (.int 3))) (dC (.int 0)))) (dTest (dOp iLt (dOp ixD (dVar 0) (dC (.int 2))) (dBi lenF (dCons (dOp ixD (dVar 0) (dC (.int 0))) dNil)))))
    (dSeq (dAsg (dBi absF (dCons (dOp ixD (dOp ixD (dVar 0) (dC (.int 0))) (dOp ixD (dVar 0) (dC (.int 2)))) dNil)) (gN 3))
    (dSeq (dAsg (dOp addD (dOp ixD (dVar 0) (dC (.int 2))) (dC (.int 1))) (gIx (dVar 0) (dC (.int 2))))
    (dIfS (dTest (dOp iGe (dVar 3) (dOp iPow (dC (.int 10)) (dC (.int 18)))))
    (dAsg (dVar 3) (gIx (dVar 0) (dC (.int 3))))
    (dAsg (dOp iMod (dBi intF (dCons (dOp (mulD false) (dOp addD (dOp addD (dOp ixD (dVar 0) (dC (.int 4))) (dVar 3)) (dC (.int 1))) (dC (.int 48271))) dNil)) (dC (.int 2147483629))) (gIx (dVar 0) (dC (.int 4)))))))
    dNext)
    (dSeq (dIfS (dTest (dOp iGt (dOp ixD (dVar 0) (dC (.int 3))) (dC (.int 0))))
    (dSeq (dAsg (dOp iMod (dBi intF (dCons (dOp ixD (dVar 0) (dC (.int 3))) dNil)) (dVar 1)) (gN 4))
    (dSeq (dAsg (dOp iDiv (dOp ixD (dVar 0) (dC (.int 3))) (dVar 1)) (gIx (dVar 0) (dC (.int 3))))
    (dRet (dVar 4))))
    dNext)
    (dSeq (dAsg (dOp iMod (dBi intF (dCons (dOp iPow (dOp addD (dOp ixD (dVar 0) (dC (.int 4))) (dOp (mulD false) (dOp ixD (dVar 0) (dC (.int 1))) (dC (.int 7919)))) (dC (.int 3))) dNil)) (dC (.int 2147483647))) (gN 2))
    (dRet (dOp iMod (dBi intF (dCons (dOp iDiv (dVar 2) (dC (.int 16))) dNil)) (dVar 1)))))))
noncomputable def fn_l_draw : Fn := gcF (dFn 5 b_l_draw)
noncomputable def b_l_pool : DS :=
    (dRet (dNewL (dCons (dVar 0) (dCons (dC (.int 0)) (dCons (dC (.int 0)) (dCons (dC (.int 0)) (dCons (dC (.int 7)) dNil)))))))
noncomputable def fn_l_pool : Fn := dFn 1 b_l_pool
noncomputable def b_Web_contains : DS :=
    (dRet (dChain iLt iLt (dOp iSub (dNeg (dC (.int 1))) (dFld [30] "ends" (dVar 0))) (dVar 1) (dBi lenF (dCons (dFld [30] "nodes" (dVar 0)) dNil))))
noncomputable def fn_Web_contains : Fn := gcF (dFn 2 b_Web_contains)
noncomputable def b_Web_len : DS :=
    (dRet (dBi lenF (dCons (dFld [30] "nodes" (dVar 0)) dNil)))
noncomputable def fn_Web_len : Fn := gcF (dFn 1 b_Web_len)
noncomputable def b_Web_eq : DS :=
    (dSeq (dIfS (dtNot (dTru (dBi (isiF (isi1 30)) (dCons (dVar 1) (dCons (dC (.cls 30)) dNil)))))
    (dRet (dC (.bl false)))
    dNext)
    (dRet (dAndT (dOp eqD (dFld [30] "nodes" (dVar 0)) (dFld [30] "nodes" (dVar 1))) (dAndT (dOp eqD (dFld [30] "ends" (dVar 0)) (dFld [30] "ends" (dVar 1))) (dOp eqD (dFld [30] "start" (dVar 0)) (dFld [30] "start" (dVar 1)))))))
noncomputable def fn_Web_eq : Fn := gcF (dFn 2 b_Web_eq)
noncomputable def b_repeats_l0 : DS :=
    (dIfS (dTest (dOp iGe (dVar 5) (dC (.int 0))))
    (dAug 4 iOr (dOp ixD (dVar 1) (dVar 5)))
    dNext)
noncomputable def b_repeats_l1 : DS :=
    (dSeq (dAsg (dOp ixD (dVar 0) (dVar 3)) (gStar 1 (gsCons (gN 6) (gsCons (gN 7) gsNil))))
    (dSeq (dAsg (dC (.int 0)) (gN 4))
    (dSeq (dFor (dSeqI (dVar 7)) (gN 5)
    b_repeats_l0)
    (dSeq (dIfS (dTest (dOp eqD (dOp iAnd (dOp iShr (dVar 4) (dVar 6)) (dC (.int 1))) (dC (.int 1))))
    (dAsg (dVar 3) (gN 2))
    dNext)
    (dAsg (dOp iOr (dVar 4) (dOp iShl (dC (.int 1)) (dVar 6))) (gIx (dVar 1) (dVar 3)))))))
noncomputable def b_repeats : DS :=
    (dSeq (dAsg (dOp (mulD true) (dLst (dCons (dC (.int 0)) dNil)) (dBi lenF (dCons (dVar 0) dNil))) (gN 1))
    (dSeq (dAsg (dC .non) (gN 2))
    (dSeq (dFor (dRangeD (dCons (dOp iSub (dBi lenF (dCons (dVar 0) dNil)) (dC (.int 1))) (dCons (dNeg (dC (.int 1))) (dCons (dNeg (dC (.int 1))) dNil)))) (gN 3)
    b_repeats_l1)
    (dRet (dVar 2)))))
noncomputable def fn_repeats : Fn := gcF (dFn 8 b_repeats)
noncomputable def b_questions_of : DS :=
    (dRet (dBi tupleF (dCons (dLc (dRange1 (dCons (dC (.int 48)) dNil)) (.nm 1) (dTest (dOp eqD (dOp iAnd (dOp iShr (dVar 0) (dVar 1)) (dC (.int 1))) (dC (.int 1)))) (dVar 1) [1]) dNil)))
noncomputable def fn_questions_of : Fn := gcF (dFn 2 b_questions_of)
noncomputable def b_good_target : DS :=
    (dSeq (dIfS (dTest (dOp iLt (dVar 0) (dC (.int 0))))
    (dRet (dOp iLt (dOp iSub (dNeg (dC (.int 1))) (dVar 0)) (dVar 3)))
    dNext)
    (dRet (dChain iLt iLt (dVar 1) (dVar 0) (dVar 2))))
noncomputable def fn_good_target : Fn := gcF (dFn 4 b_good_target)
noncomputable def b_l_names_l0 : DS :=
    (dSeq (dAsg (dCall fn_l_draw (dCons (dVar 0) (dCons (dC (.int 48)) dNil))) (gN 4))
    (dIfS (dTest (dOp notInD (dVar 4) (dVar 2)))
    (dDrop (dMt appendM (dVar 2) (dCons (dVar 4) dNil)))
    dNext))
noncomputable def b_l_names : DS :=
    (dSeq (dAsg (dNewL dNil) (gN 2))
    (dSeq (dFor (dRange1 (dCons (dOp addD (dC (.int 1)) (dCall fn_l_draw (dCons (dVar 0) (dCons (dVar 1) dNil)))) dNil)) (gN 3)
    b_l_names_l0)
    (dRet (dFrz (dVar 2)))))
noncomputable def fn_l_names : Fn := gcF (dFn 5 b_l_names)
noncomputable def b_l_target : DS :=
    (dSeq (dIfS (dtAnd (dTest (dOp iLt (dOp addD (dVar 1) (dC (.int 1))) (dVar 2))) (dTest (dOp iGt (dCall fn_l_draw (dCons (dVar 0) (dCons (dC (.int 4)) dNil))) (dC (.int 0)))))
    (dSeq (dAsg (dOp iSub (dOp iSub (dVar 2) (dC (.int 1))) (dVar 1)) (gN 4))
    (dSeq (dIfS (dTest (dOp iGt (dCall fn_l_draw (dCons (dVar 0) (dCons (dC (.int 3)) dNil))) (dC (.int 0))))
    (dAsg (dBi min2F (dCons (dC (.int 4)) (dCons (dBi intF (dCons (dVar 4) dNil)) dNil))) (gN 4))
    dNext)
    (dRet (dOp addD (dOp addD (dVar 1) (dC (.int 1))) (dCall fn_l_draw (dCons (dVar 0) (dCons (dVar 4) dNil)))))))
    dNext)
    (dRet (dOp iSub (dNeg (dC (.int 1))) (dCall fn_l_draw (dCons (dVar 0) (dCons (dVar 3) dNil))))))
noncomputable def fn_l_target : Fn := gcF (dFn 5 b_l_target)
noncomputable def b_asked_behind_l0 : DS :=
    (dIfS (dTest (dOp iGe (dVar 4) (dC (.int 0))))
    (dAug 3 iOr (dOp ixD (dVar 1) (dVar 4)))
    dNext)
noncomputable def b_asked_behind_l1 : DS :=
    (dSeq (dAsg (dOp iShl (dC (.int 1)) (dOp ixD (dOp ixD (dVar 0) (dVar 2)) (dC (.int 0)))) (gN 3))
    (dSeq (dFor (dSeqI (dSl (dOp ixD (dVar 0) (dVar 2)) (dPart (dC (.int 1))) (dPart (dC (.int 3))))) (gN 4)
    b_asked_behind_l0)
    (dAsg (dVar 3) (gIx (dVar 1) (dVar 2)))))
noncomputable def b_asked_behind : DS :=
    (dSeq (dAsg (dOp (mulD true) (dLst (dCons (dC (.int 0)) dNil)) (dBi lenF (dCons (dVar 0) dNil))) (gN 1))
    (dSeq (dFor (dRangeD (dCons (dOp iSub (dBi lenF (dCons (dVar 0) dNil)) (dC (.int 1))) (dCons (dNeg (dC (.int 1))) (dCons (dNeg (dC (.int 1))) dNil)))) (gN 2)
    b_asked_behind_l1)
    (dRet (dLcR (dSeqR (dVar 1)) (.nm 3) dYes (dCall fn_questions_of (dCons (dVar 3) dNil)) [3]))))
noncomputable def fn_asked_behind : Fn := gcF (dFn 5 b_asked_behind)
noncomputable def b_good_node : DS :=
    (dSeq (dIfS (dtOr (dTest (dOp notInD (dBi lenF (dCons (dVar 0) dNil)) (dTup (dCons (dC (.int 3)) (dCons (dC (.int 4)) dNil))))) (dtNot (dTest (dChain iLe iLt (dC (.int 0)) (dOp ixD (dVar 0) (dC (.int 0))) (dC (.int 48))))))
    (dRet (dC (.bl false)))
    dNext)
    (dRet (dBi allF (dCons (dLc (dSeqI (dSl (dVar 0) (dPart (dC (.int 1))) dNoP)) (.nm 4) dYes (dCall fn_good_target (dCons (dVar 4) (dCons (dVar 1) (dCons (dVar 2) (dCons (dVar 3) dNil))))) [4]) dNil))))
noncomputable def fn_good_node : Fn := gcF (dFn 5 b_good_node)
noncomputable def b_l_nodes_l0 : DS :=
    (dIfS (dTest (dOp iGe (dVar 12) (dC (.int 0))))
    (dAsg (dOp addD (dVar 11) (dOp ixD (dVar 6) (dOp iSub (dOp iSub (dVar 12) (dVar 8)) (dC (.int 1))))) (gN 11))
    dNext)
noncomputable def b_l_nodes_l1 : DS :=
    (dSeq (dAsg (dOp iSub (dOp iSub (dVar 1) (dC (.int 1))) (dVar 7)) (gN 8))
    (dSeq (dAsg (dOp addD (dC (.int 2)) (dBi intF (dCons (dAndT (dVar 4) (dOp eqD (dCall fn_l_draw (dCons (dVar 0) (dCons (dC (.int 3)) dNil))) (dC (.int 0)))) dNil))) (gN 9))
    (dSeq (dAsg (dLc (dRange1 (dCons (dVar 9) dNil)) (.nm 15) dYes (dCall fn_l_target (dCons (dVar 0) (dCons (dVar 8) (dCons (dVar 1) (dCons (dVar 2) dNil))))) [15]) (gN 10))
    (dSeq (dAsg (dLst dNil) (gN 11))
    (dSeq (dFor (dSeqI (dVar 10)) (gN 12)
    b_l_nodes_l0)
    (dSeq (dAsg (dLcA (dVar 3) (.nm 16) (dTest (dOp notInD (dVar 16) (dVar 11))) (dVar 16) [16]) (gN 13))
    (dSeq (dIfS (dTest (dOp eqD (dVar 13) (dLst dNil)))
    (dSeq (dAsg (dLc (dRange1 (dCons (dVar 9) dNil)) (.nm 15) dYes (dOp iSub (dNeg (dC (.int 1))) (dCall fn_l_draw (dCons (dVar 0) (dCons (dVar 2) dNil)))) [15]) (gN 10))
    (dSeq (dAsg (dLst dNil) (gN 11))
    (dAsg (dVar 3) (gN 13))))
    dNext)
    (dSeq (dAsg (dOp ixD (dVar 13) (dCall fn_l_draw (dCons (dVar 0) (dCons (dBi lenF (dCons (dVar 13) dNil)) dNil)))) (gN 14))
    (dSeq (dDrop (dMt insertM (dVar 5) (dCons (dC (.int 0)) (dCons (dBi tupleF (dCons (dOp addD (dLst (dCons (dVar 14) dNil)) (dVar 10)) dNil)) dNil))))
    (dDrop (dMt insertM (dVar 6) (dCons (dC (.int 0)) (dCons (dOp addD (dVar 11) (dLst (dCons (dVar 14) dNil))) dNil)))))))))))))
noncomputable def b_l_nodes : DS :=
    (dSeq (dAsg (dNewL dNil) (gN 5))
    (dSeq (dAsg (dNewL dNil) (gN 6))
    (dSeq (dFor (dRange1 (dCons (dVar 1) dNil)) (gN 7)
    b_l_nodes_l1)
    (dRet (dFrz (dVar 5))))))
noncomputable def fn_l_nodes : Fn := gcF (dFn 17 b_l_nodes)
noncomputable def b_Web_init_l0 : DS :=
    (dIfS (dtNot (dTru (dCall fn_good_node (dCons (dVar 7) (dCons (dVar 6) (dCons (dBi lenF (dCons (dVar 4) dNil)) (dCons (dVar 2) dNil)))))))
    (dRaise1 2 "index" (dVar 6))
    dNext)
noncomputable def b_Web_init : DS :=
    (dSeq (dAsg (dBi tupleF (dCons (dLcA (dVar 1) (.nm 7) dYes (dBi tupleF (dCons (dVar 7) dNil)) [7]) dNil)) (gN 4))
    (dSeq (dIfS (dtNot (dTest (dChain iLe iLe (dC (.int 1)) (dVar 2) (dC (.int 60)))))
    (dRaise1 1 "count" (dVar 2))
    dNext)
    (dSeq (dFor (dEnumA (dCons (dVar 4) dNil)) (gTp 2 (gsCons (gN 6) (gsCons (gN 7) gsNil)))
    b_Web_init_l0)
    (dSeq (dIfS (dTest (isNone false (dVar 3)))
    (dAsg (dIf (dTru (dVar 4)) (dC (.int 0)) (dNeg (dC (.int 1)))) (gN 3))
    dNext)
    (dSeq (dIfS (dtNot (dTest (dChain iLt iLt (dOp iSub (dNeg (dC (.int 1))) (dVar 2)) (dVar 3) (dBi lenF (dCons (dVar 4) dNil)))))
    (dRaise1 3 "place" (dVar 3))
    dNext)
    (dSeq (dAsg (dCall fn_repeats (dCons (dVar 4) dNil)) (gN 5))
    (dSeq (dIfS (dTest (isNone true (dVar 5)))
    (dRaise1 4 "index" (dVar 5))
    dNext)
    (dSeq (dSetF [30] "nodes" (dVar 0) (dVar 4))
    (dSeq (dSetF [30] "ends" (dVar 0) (dVar 2))
    (dSeq (dSetF [30] "start" (dVar 0) (dVar 3))
    (dSetF [30] "behind" (dVar 0) (dCall fn_asked_behind (dCons (dVar 4) dNil)))))))))))))
noncomputable def fn_Web_init : Fn := gcF (dFn 8 b_Web_init)
noncomputable def b_Web_getitem : DS :=
    (dSeq (dIfS (dtNot (dTest (dChain iLe iLt (dC (.int 0)) (dVar 1) (dBi lenF (dCons (dFld [30] "nodes" (dVar 0)) dNil)))))
    (dRaise1 5 "index" (dVar 1))
    dNext)
    (dRet (dOp ixD (dFld [30] "nodes" (dVar 0)) (dVar 1))))
noncomputable def fn_Web_getitem : Fn := gcF (dFn 2 b_Web_getitem)
noncomputable def b_l_unlike_l0 : DS :=
    (dIfS (dtAnd (dTest (dOp neD (dVar 5) (dVar 4))) (dTest (dOp (orD (usrD 30 fn_Web_eq) eqD) (dVar 1) (dGc (dFrz (dMake 30 fn_Web_init (dBoth aw_Web_2_start (dCons (dVar 2) (dCons (dVar 3) dNil)) (dCons (dVar 5) dNil))))))))
    (dRet (dC (.bl false)))
    dNext)
noncomputable def b_l_unlike : DS :=
    (dSeq (dIfS (dtNot (dTest (dOp (orD (usrD 30 fn_Web_eq) eqD) (dVar 1) (dGc (dFrz (dMake 30 fn_Web_init (dBoth aw_Web_2_start (dCons (dLcA (dVar 2) (.nm 8) dYes (dBi listF (dCons (dVar 8) dNil)) [8]) (dCons (dVar 3) dNil)) (dCons (dVar 4) dNil))))))))
    (dRet (dC (.bl false)))
    dNext)
    (dSeq (dIfS (dTest (dOp (orD (usrD 30 fn_Web_eq) eqD) (dVar 1) (dGc (dFrz (dMake 30 fn_Web_init (dBoth aw_Web_2_start (dCons (dVar 2) (dCons (dOp addD (dVar 3) (dC (.int 1))) dNil)) (dCons (dVar 4) dNil)))))))
    (dRet (dC (.bl false)))
    dNext)
    (dSeq (dFor (dRange2 (dCons (dNeg (dVar 3)) (dCons (dBi lenF (dCons (dVar 2) dNil)) dNil))) (gN 5)
    b_l_unlike_l0)
    (dSeq (dIfS (dTest (dOp eqD (dVar 2) (dLst dNil)))
    (dRet (dC (.bl true)))
    dNext)
    (dSeq (dAsg (dCall fn_l_draw (dCons (dVar 0) (dCons (dBi lenF (dCons (dVar 2) dNil)) dNil))) (gN 6))
    (dSeq (dAsg (dOp addD (dC (.int 1)) (dCall fn_l_draw (dCons (dVar 0) (dCons (dOp iSub (dBi lenF (dCons (dOp ixD (dVar 2) (dVar 6)) dNil)) (dC (.int 1))) dNil)))) (gN 7))
    (dSeq (dAsg (dBi newListF (dCons (dOp ixD (dVar 2) (dVar 6)) dNil)) (gN 8))
    (dSeq (dAsg (dNeg (dC (.int 1))) (gIx (dVar 8) (dVar 7)))
    (dSeq (dIfS (dTest (dOp eqD (dOp ixD (dOp ixD (dVar 2) (dVar 6)) (dVar 7)) (dNeg (dC (.int 1)))))
    (dAsg (dNeg (dBi min2F (dCons (dC (.int 2)) (dCons (dBi intF (dCons (dVar 3) dNil)) dNil)))) (gIx (dVar 8) (dVar 7)))
    dNext)
    (dSeq (dAsg (dGc (dFrz (dMake 30 fn_Web_init (dBoth aw_Web_2_start (dCons (dOp addD (dOp addD (dSl (dVar 2) dNoP (dPart (dVar 6))) (dLst (dCons (dBi tupleF (dCons (dVar 8) dNil)) dNil))) (dSl (dVar 2) (dPart (dOp addD (dVar 6) (dC (.int 1)))) dNoP)) (dCons (dVar 3) dNil)) (dCons (dVar 4) dNil))))) (gN 5))
    (dSeq (dIfS (dTest (dOp neD (dOp (orD (usrD 30 fn_Web_eq) eqD) (dVar 1) (dVar 5)) (dOp eqD (dBi tupleF (dCons (dVar 8) dNil)) (dOp ixD (dVar 2) (dVar 6)))))
    (dRet (dC (.bl false)))
    dNext)
    (dSeq (dAsg (dOp ixD (dLc (dRange1 (dCons (dC (.int 48)) dNil)) (.nm 10) (dTest (dOp notInD (dVar 10) (dLcA (dVar 2) (.nm 11) dYes (dOp ixD (dVar 11) (dC (.int 0))) [11]))) (dVar 10) [10]) (dCall fn_l_draw (dCons (dVar 0) (dCons (dC (.int 40)) dNil)))) (gN 9))
    (dSeq (dAsg (dOp addD (dTup (dCons (dVar 9) dNil)) (dSl (dOp ixD (dVar 2) (dVar 6)) (dPart (dC (.int 1))) dNoP)) (gN 8))
    (dSeq (dIfS (dTest (dOp (orD (usrD 30 fn_Web_eq) eqD) (dVar 1) (dGc (dFrz (dMake 30 fn_Web_init (dBoth aw_Web_2_start (dCons (dOp addD (dOp addD (dSl (dVar 2) dNoP (dPart (dVar 6))) (dLst (dCons (dVar 8) dNil))) (dSl (dVar 2) (dPart (dOp addD (dVar 6) (dC (.int 1)))) dNoP)) (dCons (dVar 3) dNil)) (dCons (dVar 4) dNil)))))))
    (dRet (dC (.bl false)))
    dNext)
    (dSeq (dAsg (dSl (dOp addD (dOp ixD (dVar 2) (dVar 6)) (dTup (dCons (dNeg (dC (.int 1))) dNil))) dNoP (dPart (dC (.int 4)))) (gN 8))
    (dSeq (dIfS (dTest (dOp eqD (dBi lenF (dCons (dOp ixD (dVar 2) (dVar 6)) dNil)) (dC (.int 4))))
    (dAsg (dSl (dOp ixD (dVar 2) (dVar 6)) dNoP (dPart (dC (.int 3)))) (gN 8))
    dNext)
    (dSeq (dIfS (dTest (dOp (orD (usrD 30 fn_Web_eq) eqD) (dVar 1) (dGc (dFrz (dMake 30 fn_Web_init (dBoth aw_Web_2_start (dCons (dOp addD (dOp addD (dSl (dVar 2) dNoP (dPart (dVar 6))) (dLst (dCons (dVar 8) dNil))) (dSl (dVar 2) (dPart (dOp addD (dVar 6) (dC (.int 1)))) dNoP)) (dCons (dVar 3) dNil)) (dCons (dVar 4) dNil)))))))
    (dRet (dC (.bl false)))
    dNext)
    (dRet (dNotT (dOp (orD (usrD 30 fn_Web_eq) eqD) (dVar 1) (dGc (dFrz (dMake 30 fn_Web_init (dBoth aw_Web_2_start (dCons (dOp addD (dVar 2) (dLst (dCons (dTup (dCons (dVar 9) (dCons (dNeg (dC (.int 1))) (dCons (dNeg (dC (.int 1))) dNil)))) dNil))) (dCons (dVar 3) dNil)) (dCons (dVar 4) dNil)))))))))))))))))))))))))
noncomputable def fn_l_unlike : Fn := gcF (dFn 12 b_l_unlike)
noncomputable def b_l_item : DS :=
    (dTry1 (dRet (dGetK 30 fn_Web_getitem (dVar 0) (dVar 1))) xm_NoNode 2 (fun c ns ws => (dRet (dTup (dCons (dC (.str "no node")) (dCons (dXf [5] "index" c ns ws) dNil))))))
noncomputable def fn_l_item : Fn := gcF (dFn 3 b_l_item)
noncomputable def b_l_same_l0 : DS :=
    (dIfS (dTest (dOp neD (dCall fn_l_item (dCons (dVar 0) (dCons (dVar 4) dNil))) (dOp ixD (dVar 1) (dVar 4))))
    (dRet (dC (.bl false)))
    dNext)
noncomputable def b_l_same_l1 : DS :=
    (dIfS (dTest (dOp neD (dCall fn_l_item (dCons (dVar 0) (dCons (dVar 5) dNil))) (dTup (dCons (dC (.str "no node")) (dCons (dVar 5) dNil)))))
    (dRet (dC (.bl false)))
    dNext)
noncomputable def b_l_same_l2 : DS :=
    (dIfS (dTest (dOp neD (dOp (orD (usrIn false 30 fn_Web_contains) inD) (dVar 6) (dVar 0)) (dChain iLt iLt (dOp iSub (dNeg (dC (.int 1))) (dVar 2)) (dVar 6) (dBi lenF (dCons (dVar 1) dNil)))))
    (dRet (dC (.bl false)))
    dNext)
noncomputable def b_l_same : DS :=
    (dSeq (dIfS (dtOr (dTest (dOp neD (dFld [30] "nodes" (dVar 0)) (dBi tupleF (dCons (dVar 1) dNil)))) (dtOr (dTest (dOp neD (dFld [30] "ends" (dVar 0)) (dVar 2))) (dtOr (dTest (dOp neD (dFld [30] "start" (dVar 0)) (dVar 3))) (dTest (dOp neD (dBi (orF (usrLen 30 fn_Web_len) lenF) (dCons (dVar 0) dNil)) (dBi lenF (dCons (dVar 1) dNil)))))))
    (dRet (dC (.bl false)))
    dNext)
    (dSeq (dFor (dRange1 (dCons (dBi lenF (dCons (dVar 1) dNil)) dNil)) (gN 4)
    b_l_same_l0)
    (dSeq (dFor (dSeqI (dLst (dCons (dNeg (dC (.int 1))) (dCons (dBi lenF (dCons (dVar 1) dNil)) (dCons (dOp addD (dBi lenF (dCons (dVar 1) dNil)) (dC (.int 5))) (dCons (dOp iSub (dNeg (dC (.int 1))) (dVar 2)) (dCons (dOp iPow (dC (.int 10)) (dC (.int 20))) dNil))))))) (gN 5)
    b_l_same_l1)
    (dSeq (dFor (dRange2 (dCons (dOp iSub (dNeg (dC (.int 2))) (dVar 2)) (dCons (dOp addD (dBi lenF (dCons (dVar 1) dNil)) (dC (.int 2))) dNil))) (gN 6)
    b_l_same_l2)
    (dRet (dC (.bl true)))))))
noncomputable def fn_l_same : Fn := gcF (dFn 7 b_l_same)
noncomputable def b_law : DS :=
    (dSeq (dAsg (dCall fn_l_pool (dCons (dVar 0) dNil)) (gN 1))
    (dSeq (dAsg (dCall fn_l_names (dCons (dVar 1) (dCons (dC (.int 7)) dNil))) (gN 2))
    (dSeq (dAsg (dOp addD (dC (.int 1)) (dCall fn_l_draw (dCons (dVar 1) (dCons (dC (.int 5)) dNil)))) (gN 3))
    (dSeq (dAsg (dCall fn_l_nodes (dCons (dVar 1) (dCons (dCall fn_l_draw (dCons (dVar 1) (dCons (dC (.int 9)) dNil))) (dCons (dVar 3) (dCons (dVar 2) (dCons (dC (.bl true)) dNil)))))) (gN 4))
    (dSeq (dAsg (dOp iSub (dCall fn_l_draw (dCons (dVar 1) (dCons (dOp addD (dBi lenF (dCons (dVar 4) dNil)) (dVar 3)) dNil))) (dVar 3)) (gN 5))
    (dSeq (dIfS (dtNot (dTru (dCall fn_l_same (dCons (dGc (dFrz (dMake 30 fn_Web_init (dBoth aw_Web_2_start (dCons (dVar 4) (dCons (dVar 3) dNil)) (dCons (dVar 5) dNil))))) (dCons (dVar 4) (dCons (dVar 3) (dCons (dVar 5) dNil)))))))
    (dRet (dC (.bl false)))
    dNext)
    (dSeq (dAsg (dGc (dFrz (dMake 30 fn_Web_init (dBoth (· ++ ·) (dCons (dBi listF (dCons (dVar 4) dNil)) (dCons (dVar 3) dNil)) (fun _ S => .ok [.non] S))))) (gN 6))
    (dSeq (dAsg (dIf (dTest (dOp neD (dVar 4) (dLst dNil))) (dC (.int 0)) (dNeg (dC (.int 1)))) (gN 7))
    (dSeq (dIfS (dtNot (dTru (dCall fn_l_same (dCons (dVar 6) (dCons (dVar 4) (dCons (dVar 3) (dCons (dVar 7) dNil)))))))
    (dRet (dC (.bl false)))
    dNext)
    (dRet (dCall fn_l_unlike (dCons (dVar 1) (dCons (dGc (dFrz (dMake 30 fn_Web_init (dBoth aw_Web_2_start (dCons (dVar 4) (dCons (dVar 3) dNil)) (dCons (dVar 5) dNil))))) (dCons (dVar 4) (dCons (dVar 3) (dCons (dVar 5) dNil))))))))))))))))
noncomputable def fn_law : Fn := dFn 8 b_law
end U
namespace DD
open PySem L2
/-! ### the first kind of pool: a script, a count, a place, a big cell and a mix -/
noncomputable def drawB1 : DS :=
    (dSeq (dAsg (dOp addD (dOp ixD (dVar 0) (dC (.int 1))) (dC (.int 1))) (gIx (dVar 0) (dC (.int 1))))
    (dSeq (dIfS (dtAnd (dTest (dOp eqD (dOp ixD (dVar 0) (dC (.int 3))) (dC (.int 0)))) (dTest (dOp iLt (dOp ixD (dVar 0) (dC (.int 2))) (dBi lenF (dCons (dOp ixD (dVar 0) (dC (.int 0))) dNil)))))
    (dSeq (dAsg (dBi absF (dCons (dOp ixD (dOp ixD (dVar 0) (dC (.int 0))) (dOp ixD (dVar 0) (dC (.int 2)))) dNil)) (gN 3))
    (dSeq (dAsg (dOp addD (dOp ixD (dVar 0) (dC (.int 2))) (dC (.int 1))) (gIx (dVar 0) (dC (.int 2))))
    (dIfS (dTest (dOp iGe (dVar 3) (dOp iPow (dC (.int 10)) (dC (.int 18)))))
    (dAsg (dVar 3) (gIx (dVar 0) (dC (.int 3))))
    (dAsg (dOp iMod (dBi intF (dCons (dOp (mulD false) (dOp addD (dOp addD (dOp ixD (dVar 0) (dC (.int 4))) (dVar 3)) (dC (.int 1))) (dC (.int 48271))) dNil)) (dC (.int 2147483629))) (gIx (dVar 0) (dC (.int 4)))))))
    dNext)
    (dSeq (dIfS (dTest (dOp iGt (dOp ixD (dVar 0) (dC (.int 3))) (dC (.int 0))))
    (dSeq (dAsg (dOp iMod (dBi intF (dCons (dOp ixD (dVar 0) (dC (.int 3))) dNil)) (dVar 1)) (gN 4))
    (dSeq (dAsg (dOp iDiv (dOp ixD (dVar 0) (dC (.int 3))) (dVar 1)) (gIx (dVar 0) (dC (.int 3))))
    (dRet (dVar 4))))
    dNext)
    (dSeq (dAsg (dOp iMod (dBi intF (dCons (dOp iPow (dOp addD (dOp ixD (dVar 0) (dC (.int 4))) (dOp (mulD false) (dOp ixD (dVar 0) (dC (.int 1))) (dC (.int 7919)))) (dC (.int 3))) dNil)) (dC (.int 2147483647))) (gN 2))
    (dRet (dOp iMod (dBi intF (dCons (dOp iDiv (dVar 2) (dC (.int 16))) dNil)) (dVar 1)))))))
noncomputable def drawF1 : Fn := gcF (dFn 5 drawB1)
/-- at p a drawing list that has been asked at most k times -/
def Pl (S : Sto) (p k : Nat) : Prop := ∃ (ns : List Int) (c i b m : Int), S[p]? = some (.lst [.scr (ns.map W.int), .int c, .int i, .int b, .int m]) ∧ 0 ≤ c ∧ c ≤ k ∧ 0 ≤ i ∧ 0 ≤ b ∧ 0 ≤ m ∧ m < 2147483629
theorem Pl.mono {S : Sto} {p k k' : Nat} (P : Pl S p k) (h : k ≤ k') : Pl S p k' := by
  obtain ⟨ns, c, i, b, m, h1, h2, h3, h4⟩ := P
  exact ⟨ns, c, i, b, m, h1, h2, by omega, h4⟩
theorem Pl.lt {S : Sto} {p k : Nat} (P : Pl S p k) : p < S.length := by
  obtain ⟨ns, c, i, b, m, h1, h2⟩ := P
  exact (List.getElem?_eq_some_iff.mp h1).1
theorem Pl.app {S g : Sto} {p k : Nat} (P : Pl S p k) : Pl (S ++ g) p k := by
  obtain ⟨ns, c, i, b, m, h1, h2⟩ := P
  exact ⟨ns, c, i, b, m, by rw [List.getElem?_append_left (List.getElem?_eq_some_iff.mp h1).1]; exact h1, h2⟩
theorem Pl.set {S : Sto} {p n k : Nat} {o : O} (P : Pl S p k) (h : n ≠ p) : Pl (S.set n o) p k := by
  obtain ⟨ns, c, i, b, m, h1, h2⟩ := P
  exact ⟨ns, c, i, b, m, by rw [List.getElem?_set_ne h]; exact h1, h2⟩
theorem Pl.same {S X : Sto} {p k : Nat} (P : Pl S p k) (h : X[p]? = S[p]?) : Pl X p k := by
  obtain ⟨ns, c, i, b, m, h1, h2⟩ := P
  exact ⟨ns, c, i, b, m, by rw [h]; exact h1, h2⟩
/-- a later store: only the drawing list has turned, and it has been asked at most k times -/
structure Af (p k : Nat) (S S' : Sto) : Prop where
  len : S'.length = S.length
  keep : ∀ i, i ≠ p → S'[i]? = S[i]?
  pool : Pl S' p k
theorem Af.refl {p k : Nat} {S : Sto} (P : Pl S p k) : Af p k S S := ⟨rfl, fun _ _ => rfl, P⟩
theorem Af.trans {p k k' : Nat} {S S1 S2 : Sto} (a : Af p k S S1) (b : Af p k' S1 S2) : Af p k' S S2 := ⟨b.len.trans a.len, fun i h => (b.keep i h).trans (a.keep i h), b.pool⟩
theorem Af.mono {p k k' : Nat} {S S1 : Sto} (a : Af p k S S1) (h : k ≤ k') : Af p k' S S1 := ⟨a.len, a.keep, a.pool.mono h⟩
theorem e_ge18 {x : Int} : (decide ((10 : Int) ^ (18 : Int).toNat ≤ x)) = decide (1000000000000000000 ≤ x) := rfl
theorem draw1_ok {S : Sto} {p k : Nat} {lim : Int} (P : Pl S p k) (hk : k < 1000000000000) (h0 : 0 < lim) (h1 : lim < 100000000000000000000000000000000000000000) : ∃ r S', drawF1 [.ref p, .int lim] S = .ok (.int r) S' ∧ 0 ≤ r ∧ r < lim ∧ Af p (k + 1) S S' := by
  obtain ⟨ns, c, i, b, m, hp, hc, hck, hi, hb, hm, hm1⟩ := id P
  have lp : p < S.length := (List.getElem?_eq_some_iff.mp hp).1
  have hdiv : ∀ S (x : Int), iDiv (.int x) (.int lim) S = .ok (.int (x / lim)) S := fun S x => e_div h0 (by omega)
  have hmod : ∀ S (x : Int), iMod (.int x) (.int lim) S = .ok (.int (x % lim)) S := fun S x => e_mod h0
  have hdv : ∀ S (i : Int), iDiv (.int i) (.int 16) S = .ok (.int (i / 16)) S := fun S i => e_div (by decide) (by decide)
  have hd1 : ∀ S (i : Int), iMod (.int i) (.int 2147483647) S = .ok (.int (i % 2147483647)) S := fun S i => e_mod (by decide)
  have hd2 : ∀ S (i : Int), iMod (.int i) (.int 2147483629) S = .ok (.int (i % 2147483629)) S := fun S i => e_mod (by decide)
  have hm1' : ∀ S (i : Int), mulD false (.int i) (.int 48271) S = .ok (.int (i * 48271)) S := fun S i => e_mulR (by decide)
  have hm2' : ∀ S (i : Int), mulD false (.int i) (.int 7919) S = .ok (.int (i * 7919)) S := fun S i => e_mulR (by decide)
  have hp10 : ∀ S, iPow (.int 10) (.int 18) S = .ok (.int 1000000000000000000) S := fun S => e_pow (by decide)
  have hp3 : ∀ S (x y : Int), 0 ≤ x → x < 2147483629 → 0 ≤ y → y ≤ k + 1 → iPow (.int (x + y * 7919)) (.int 3) S = .ok (.int ((x + y * 7919) ^ 3)) S := fun S x y a0 a1 a2 a3 => e_pow (by
    unfold powOk
    rw [decide_eq_true (show (x + y * 7919).natAbs < 2 ^ 64 by omega)]
    decide)
  have hixn : ∀ j : Int, 0 ≤ j → j < 5 → ixN 5 j = some j.toNat := fun j a0 a1 => ixN_in a0 a1
  have i1 : ixN 5 1 = some 1 := by decide
  have i2 : ixN 5 2 = some 2 := by decide
  have i3 : ixN 5 3 = some 3 := by decide
  have i4 : ixN 5 4 = some 4 := by decide
  -- what a state of the list gives
  have mk : ∀ (S0 : Sto) (c i b m : Int), S0 = S.set p (.lst [.scr (ns.map W.int), .int c, .int i, .int b, .int m]) → 0 ≤ c → c ≤ (k + 1 : Nat) → 0 ≤ i → 0 ≤ b → 0 ≤ m → m < 2147483629 → Af p (k + 1) S S0 := fun S0 c i b m e a0 a1 a2 a3 a4 a5 => by
    subst e
    exact ⟨by simp, fun i h => by rw [List.getElem?_set_ne (Ne.symm h)], ns, c, i, b, m, by rw [List.getElem?_set_self lp], a0, a1, a2, a3, a4, a5⟩
  have at_ : ∀ o, (S.set p o)[p]? = some o := fun o => List.getElem?_set_self lp
  have low : ∀ c i b m : Int, lowO S.length (.lst [.scr (ns.map W.int), .int c, .int i, .int b, .int m]) = true := fun c i b m => by simp [lowO, lowL, lowW, lowL_ints]
  have fin : ∀ (c i b m r : Int), gcR S (.ok (.int r) (S.set p (.lst [.scr (ns.map W.int), .int c, .int i, .int b, .int m]))) = .ok (.int r) (S.set p (.lst [.scr (ns.map W.int), .int c, .int i, .int b, .int m])) := fun c i b m r => gc_set1 (low c i b m) rfl
  have x0 : ∀ (S : Sto) (w0 w1 w2 w3 w4 : W), S[p]? = some (.lst [w0, w1, w2, w3, w4]) → ixD (.ref p) (.int 0) S = .ok w0 S := fun S w0 w1 w2 w3 w4 h => e_ixR h (atI0 _ _)
  have x1 : ∀ (S : Sto) (w0 w1 w2 w3 w4 : W), S[p]? = some (.lst [w0, w1, w2, w3, w4]) → ixD (.ref p) (.int 1) S = .ok w1 S := fun S w0 w1 w2 w3 w4 h => e_ixR h (atI1 _ _ _)
  have x2 : ∀ (S : Sto) (w0 w1 w2 w3 w4 : W), S[p]? = some (.lst [w0, w1, w2, w3, w4]) → ixD (.ref p) (.int 2) S = .ok w2 S := fun S w0 w1 w2 w3 w4 h => e_ixR h (atI2 _ _ _ _)
  have x3 : ∀ (S : Sto) (w0 w1 w2 w3 w4 : W), S[p]? = some (.lst [w0, w1, w2, w3, w4]) → ixD (.ref p) (.int 3) S = .ok w3 S := fun S w0 w1 w2 w3 w4 h => e_ixR h (atI3 _ _ _ _ _)
  have x4 : ∀ (S : Sto) (w0 w1 w2 w3 w4 : W), S[p]? = some (.lst [w0, w1, w2, w3, w4]) → ixD (.ref p) (.int 4) S = .ok w4 S := fun S w0 w1 w2 w3 w4 h => e_ixR h (atI4 _ _ _ _ _ _)
  -- the end of the walk, from a state of the list
  have tail : ∀ (c i b m : Int) (t2 t3 t4 : Option W), 0 ≤ c → c ≤ (k + 1 : Nat) → 0 ≤ i → 0 ≤ b → 0 ≤ m → m < 2147483629 → ∃ r S', ((dSeq (dIfS (dTest (dOp iGt (dOp ixD (dVar 0) (dC (.int 3))) (dC (.int 0))))
    (dSeq (dAsg (dOp iMod (dBi intF (dCons (dOp ixD (dVar 0) (dC (.int 3))) dNil)) (dVar 1)) (gN 4))
    (dSeq (dAsg (dOp iDiv (dOp ixD (dVar 0) (dC (.int 3))) (dVar 1)) (gIx (dVar 0) (dC (.int 3))))
    (dRet (dVar 4))))
    dNext)
    (dSeq (dAsg (dOp iMod (dBi intF (dCons (dOp iPow (dOp addD (dOp ixD (dVar 0) (dC (.int 4))) (dOp (mulD false) (dOp ixD (dVar 0) (dC (.int 1))) (dC (.int 7919)))) (dC (.int 3))) dNil)) (dC (.int 2147483647))) (gN 2))
    (dRet (dOp iMod (dBi intF (dCons (dOp iDiv (dVar 2) (dC (.int 16))) dNil)) (dVar 1))))) [some (.ref p), some (.int lim), t2, t3, t4] (S.set p (.lst [.scr (ns.map W.int), .int c, .int i, .int b, .int m])) = .rt (.int r) S') ∧ gcR S (.ok (.int r) S') = .ok (.int r) S' ∧ 0 ≤ r ∧ r < lim ∧ Af p (k + 1) S S' := by
    intro c i b m t2 t3 t4 a0 a1 a2 a3 a4 a5
    have hS := at_ (.lst [.scr (ns.map W.int), .int c, .int i, .int b, .int m])
    by_cases h : 0 < b
    · refine ⟨b % lim, S.set p (.lst [.scr (ns.map W.int), .int c, .int i, .int (b / lim), .int m]), ?_, fin c i (b / lim) m _, Int.emod_nonneg _ (by omega), Int.emod_lt_of_pos _ h0, mk _ c i (b / lim) m rfl a0 a1 a2 (Int.ediv_nonneg a3 (by omega)) a4 a5⟩
      simp [x3 _ _ _ _ _ _ hS, h, hmod, hdiv, hS, i3]
    · refine ⟨((m + c * 7919) ^ 3 % 2147483647) / 16 % lim, S.set p (.lst [.scr (ns.map W.int), .int c, .int i, .int b, .int m]), ?_, fin c i b m _, Int.emod_nonneg _ (by omega), Int.emod_lt_of_pos _ h0, mk _ c i b m rfl a0 a1 a2 a3 a4 a5⟩
      simp [x3 _ _ _ _ _ _ hS, x1 _ _ _ _ _ _ hS, x4 _ _ _ _ _ _ hS, h, hm2', hp3 _ m c a4 a5 a0 a1, hd1, hdv, hmod]
  have hS := at_ (.lst [.scr (ns.map W.int), .int (c + 1), .int i, .int b, .int m])
  have fold : ∀ (t2 t3 t4 : Option W) (S2 : Sto) (r : Int) (S' : Sto), drawB1 [some (.ref p), some (.int lim), none, none, none] S = .rt (.int r) S' → gcR S (.ok (.int r) S') = .ok (.int r) S' → drawF1 [.ref p, .int lim] S = .ok (.int r) S' := fun t2 t3 t4 S2 r S' e g => by
    unfold drawF1
    rw [gcF_eq, dFn_eq]
    simp [List.replicate_succ, e, g]
  by_cases hbr : b = 0 ∧ i < ns.length
  · obtain ⟨hb0, hil⟩ := hbr
    subst hb0
    obtain ⟨w, hw, hw'⟩ := atI_in (l := ns.map W.int) hi (by simpa using hil)
    obtain ⟨x, _, rfl⟩ : ∃ x, x ∈ ns ∧ W.int x = w := List.mem_map.mp (List.mem_of_getElem? hw')
    have hx0 : (0 : Int) ≤ (if x < 0 then -x else x) := by split <;> omega
    generalize hxa : (if x < 0 then -x else x) = xa at hx0
    have hS1 := at_ (.lst [.scr (ns.map W.int), .int (c + 1), .int (i + 1), .int 0, .int m])
    by_cases hbig : (1000000000000000000 : Int) ≤ xa
    · obtain ⟨r, S', e, g, r0, r1, a⟩ := tail (c + 1) (i + 1) xa m none (some (.int xa)) none (by omega) (by omega) (by omega) hx0 hm hm1
      refine ⟨r, S', fold none none none S r S' ?_ g, r0, r1, a⟩
      unfold drawB1
      rw [e_seq]
      simp only [e_asgIx, e_op, e_var0, e_C, R.bind_ok, x1 _ _ _ _ _ _ hp, e_add, R.toF_ok, hp, i1, List.length_cons, List.length_nil, Nat.reduceAdd, List.set_cons_succ, List.set_cons_zero, e_nx]
      rw [e_seq]
      have : (dIfS (dtAnd (dTest (dOp eqD (dOp ixD (dVar 0) (dC (.int 3))) (dC (.int 0)))) (dTest (dOp iLt (dOp ixD (dVar 0) (dC (.int 2))) (dBi lenF (dCons (dOp ixD (dVar 0) (dC (.int 0))) dNil)))))
    (dSeq (dAsg (dBi absF (dCons (dOp ixD (dOp ixD (dVar 0) (dC (.int 0))) (dOp ixD (dVar 0) (dC (.int 2)))) dNil)) (gN 3))
    (dSeq (dAsg (dOp addD (dOp ixD (dVar 0) (dC (.int 2))) (dC (.int 1))) (gIx (dVar 0) (dC (.int 2))))
    (dIfS (dTest (dOp iGe (dVar 3) (dOp iPow (dC (.int 10)) (dC (.int 18)))))
    (dAsg (dVar 3) (gIx (dVar 0) (dC (.int 3))))
    (dAsg (dOp iMod (dBi intF (dCons (dOp (mulD false) (dOp addD (dOp addD (dOp ixD (dVar 0) (dC (.int 4))) (dVar 3)) (dC (.int 1))) (dC (.int 48271))) dNil)) (dC (.int 2147483629))) (gIx (dVar 0) (dC (.int 4)))))))
    dNext) [some (.ref p), some (.int lim), none, none, none] (S.set p (.lst [.scr (ns.map W.int), .int (c + 1), .int i, .int 0, .int m])) = .nx [some (.ref p), some (.int lim), none, some (.int xa), none] (S.set p (.lst [.scr (ns.map W.int), .int (c + 1), .int (i + 1), .int xa, .int m])) := by
        simp [x0 _ _ _ _ _ _ hS, x2 _ _ _ _ _ _ hS, x3 _ _ _ _ _ _ hS, hil, e_ixC hw, hxa, hS, hS1, hp10, hbig, i2, i3]
      rw [this]
      exact e
    · obtain ⟨r, S', e, g, r0, r1, a⟩ := tail (c + 1) (i + 1) 0 ((m + xa + 1) * 48271 % 2147483629) none (some (.int xa)) none (by omega) (by omega) (by omega) (by omega) (Int.emod_nonneg _ (by omega)) (Int.emod_lt_of_pos _ (by omega))
      refine ⟨r, S', fold none none none S r S' ?_ g, r0, r1, a⟩
      unfold drawB1
      rw [e_seq]
      simp only [e_asgIx, e_op, e_var0, e_C, R.bind_ok, x1 _ _ _ _ _ _ hp, e_add, R.toF_ok, hp, i1, List.length_cons, List.length_nil, Nat.reduceAdd, List.set_cons_succ, List.set_cons_zero, e_nx]
      rw [e_seq]
      have : (dIfS (dtAnd (dTest (dOp eqD (dOp ixD (dVar 0) (dC (.int 3))) (dC (.int 0)))) (dTest (dOp iLt (dOp ixD (dVar 0) (dC (.int 2))) (dBi lenF (dCons (dOp ixD (dVar 0) (dC (.int 0))) dNil)))))
    (dSeq (dAsg (dBi absF (dCons (dOp ixD (dOp ixD (dVar 0) (dC (.int 0))) (dOp ixD (dVar 0) (dC (.int 2)))) dNil)) (gN 3))
    (dSeq (dAsg (dOp addD (dOp ixD (dVar 0) (dC (.int 2))) (dC (.int 1))) (gIx (dVar 0) (dC (.int 2))))
    (dIfS (dTest (dOp iGe (dVar 3) (dOp iPow (dC (.int 10)) (dC (.int 18)))))
    (dAsg (dVar 3) (gIx (dVar 0) (dC (.int 3))))
    (dAsg (dOp iMod (dBi intF (dCons (dOp (mulD false) (dOp addD (dOp addD (dOp ixD (dVar 0) (dC (.int 4))) (dVar 3)) (dC (.int 1))) (dC (.int 48271))) dNil)) (dC (.int 2147483629))) (gIx (dVar 0) (dC (.int 4)))))))
    dNext) [some (.ref p), some (.int lim), none, none, none] (S.set p (.lst [.scr (ns.map W.int), .int (c + 1), .int i, .int 0, .int m])) = .nx [some (.ref p), some (.int lim), none, some (.int xa), none] (S.set p (.lst [.scr (ns.map W.int), .int (c + 1), .int (i + 1), .int 0, .int ((m + xa + 1) * 48271 % 2147483629)])) := by
        simp [x0 _ _ _ _ _ _ hS, x2 _ _ _ _ _ _ hS, x3 _ _ _ _ _ _ hS, x4 _ _ _ _ _ _ hS1, hil, e_ixC hw, hxa, hS, hS1, hp10, hbig, i2, i3, i4, hm1', hd2]
      rw [this]
      exact e
  · obtain ⟨r, S', e, g, r0, r1, a⟩ := tail (c + 1) i b m none none none (by omega) (by omega) (by omega) hb hm hm1
    refine ⟨r, S', fold none none none S r S' ?_ g, r0, r1, a⟩
    unfold drawB1
    rw [e_seq]
    simp only [e_asgIx, e_op, e_var0, e_C, R.bind_ok, x1 _ _ _ _ _ _ hp, e_add, R.toF_ok, hp, i1, List.length_cons, List.length_nil, Nat.reduceAdd, List.set_cons_succ, List.set_cons_zero, e_nx]
    rw [e_seq]
    have : (dIfS (dtAnd (dTest (dOp eqD (dOp ixD (dVar 0) (dC (.int 3))) (dC (.int 0)))) (dTest (dOp iLt (dOp ixD (dVar 0) (dC (.int 2))) (dBi lenF (dCons (dOp ixD (dVar 0) (dC (.int 0))) dNil)))))
    (dSeq (dAsg (dBi absF (dCons (dOp ixD (dOp ixD (dVar 0) (dC (.int 0))) (dOp ixD (dVar 0) (dC (.int 2)))) dNil)) (gN 3))
    (dSeq (dAsg (dOp addD (dOp ixD (dVar 0) (dC (.int 2))) (dC (.int 1))) (gIx (dVar 0) (dC (.int 2))))
    (dIfS (dTest (dOp iGe (dVar 3) (dOp iPow (dC (.int 10)) (dC (.int 18)))))
    (dAsg (dVar 3) (gIx (dVar 0) (dC (.int 3))))
    (dAsg (dOp iMod (dBi intF (dCons (dOp (mulD false) (dOp addD (dOp addD (dOp ixD (dVar 0) (dC (.int 4))) (dVar 3)) (dC (.int 1))) (dC (.int 48271))) dNil)) (dC (.int 2147483629))) (gIx (dVar 0) (dC (.int 4)))))))
    dNext) [some (.ref p), some (.int lim), none, none, none] (S.set p (.lst [.scr (ns.map W.int), .int (c + 1), .int i, .int b, .int m])) = .nx [some (.ref p), some (.int lim), none, none, none] (S.set p (.lst [.scr (ns.map W.int), .int (c + 1), .int i, .int b, .int m])) := by
      by_cases hb0 : b = 0
      · subst hb0
        have hil : ¬ i < ns.length := fun z => hbr ⟨rfl, z⟩
        simp [x0 _ _ _ _ _ _ hS, x2 _ _ _ _ _ _ hS, x3 _ _ _ _ _ _ hS, hil]
      · simp [x0 _ _ _ _ _ _ hS, x2 _ _ _ _ _ _ hS, x3 _ _ _ _ _ _ hS, hb0]
    rw [this]
    exact e
/-- a row of draws in a comprehension -/
theorem draws1 {S : Sto} {p k v : Nat} {g : Tg} {te : DX} {t0 : Lo} {Q : W → Prop} (P : Pl S p k) (d : Nat) (ws : List W) (hz : ws.length ≤ 1000) (hk : k + d * ws.length < 1000000000000)
    (ht : ∀ w ∈ ws, ∀ k' S, Pl S p k' → k' + d ≤ k + d * ws.length → ∃ t1 u S', g.put w t0 = some t1 ∧ te t1 S = .ok u S' ∧ Q u ∧ Af p (k' + d) S S') :
    ∃ (us : List W) (S' : Sto), lcL g dYes te t0 ws [] S = .ok (.lst us) S' ∧ us.length = ws.length ∧ (∀ u ∈ us, Q u) ∧ Af p (k + d * ws.length) S S' := by
  obtain ⟨acc, S', e, ⟨hl, hq, a⟩, _⟩ := lcL_inv (te := te) (g := g) (t0 := t0) ws (fun i acc X => acc.length = i ∧ (∀ u ∈ acc, Q u) ∧ Af p (k + d * i) S X) hz (fun i w acc X hw ⟨hl, hq, a⟩ => by
    have hi : i < ws.length := (List.getElem?_eq_some_iff.mp hw).1
    have hm : d * (i + 1) ≤ d * ws.length := Nat.mul_le_mul (Nat.le_refl d) hi
    have hs : d * (i + 1) = d * i + d := Nat.mul_succ d i
    obtain ⟨t1, u, X', e1, e2, q, a'⟩ := ht w (List.mem_of_getElem? hw) (k + d * i) X a.pool (by omega)
    refine ⟨t1, u, X', e1, e2, by simp [hl], fun z hz => ?_, (a.trans a').mono (by omega)⟩
    rcases List.mem_append.mp hz with hz | hz
    · exact hq z hz
    · simp at hz; exact hz ▸ q) (S := S) ⟨rfl, by simp, Af.refl P⟩
  exact ⟨acc, S', e, hl, hq, a⟩
/-- a list of one's own at the end of the store is thrown away -/
theorem own1 {S X : Sto} {p k : Nat} {w : W} (hp : p < S.length) (hl : S.length ≤ X.length) (A : Pl X p k) (hk : ∀ i, i < S.length → i ≠ p → X[i]? = S[i]?) (lw : lowW S.length w = true) :
    ∃ S', gcR S (.ok w X) = .ok w S' ∧ Af p k S S' := by
  obtain ⟨ns, c, i, b, m, h1, h2⟩ := id A
  have g : GcS S X := ⟨hl, fun j hj => by
    by_cases h : j = p
    · subst h; exact .inr ⟨_, h1, by simp [lowO, lowL, lowW, lowL_ints]⟩
    · exact .inl (hk j hj h)⟩
  refine ⟨X.take S.length, gc_ok g lw, by simp; omega, fun j h => ?_, ns, c, i, b, m, ?_, h2⟩
  · rw [List.getElem?_take]
    split
    · rename_i hj; exact hk j hj h
    · rename_i hj; rw [List.getElem?_eq_none (by omega)]
  · rw [List.getElem?_take, if_pos hp]; exact h1
end DD
namespace SP
/-! a promise, at a call's result -/
theorem aq0 {α : Type} {a d r : α} (hd : a = d) (h : a = r) : d = r := hd ▸ h
theorem aq1 {α β : Type} {a d : α} {f : β → α} (hd : a = d) (h : ∃ x, a = f x) : ∃ x, d = f x := hd ▸ h
theorem aq2 {α β γ : Type} {a d : α} {f : β → γ → α} (hd : a = d) (h : ∃ x y, a = f x y) : ∃ x y, d = f x y := hd ▸ h
theorem at0 {α : Type} {a d r : α} {p : Prop} (hd : a = d) (h : a = r ∧ p) : d = r ∧ p := hd ▸ h
theorem at1 {α β : Type} {a d : α} {f : β → α} {p : β → Prop} (hd : a = d) (h : ∃ x, a = f x ∧ p x) : ∃ x, d = f x ∧ p x := hd ▸ h
theorem at2 {α β γ : Type} {a d : α} {f : β → γ → α} {p : β → γ → Prop} (hd : a = d) (h : ∃ x y, a = f x y ∧ p x y) : ∃ x y, d = f x y ∧ p x y := hd ▸ h
theorem at3 {α β γ δ : Type} {a d : α} {f : β → γ → δ → α} {p : β → γ → δ → Prop} (hd : a = d) (h : ∃ x y z, a = f x y z ∧ p x y z) : ∃ x y z, d = f x y z ∧ p x y z := hd ▸ h
theorem at4 {α β γ δ ε : Type} {a d : α} {f : β → γ → δ → ε → α} {p : β → γ → δ → ε → Prop} (hd : a = d) (h : ∃ x y z u, a = f x y z u ∧ p x y z u) : ∃ x y z u, d = f x y z u ∧ p x y z u := hd ▸ h
theorem at5 {α β γ δ ε ζ : Type} {a d : α} {f : β → γ → δ → ε → ζ → α} {p : β → γ → δ → ε → ζ → Prop} (hd : a = d) (h : ∃ x y z u v, a = f x y z u v ∧ p x y z u v) : ∃ x y z u v, d = f x y z u v ∧ p x y z u v := hd ▸ h
end SP
namespace U
open PySem L2 DD
noncomputable def b_l_draw_2 : DS :=
    (dSeq (dAsg (dOp ixD (dVar 0) (dC (.int 0))) (gN 2))
    (dSeq (dIfS (dtNot (dTru (dVar 2)))
    (dRet (dC (.int 0)))
    dNext)
    (dSeq (dAsg (dOp iMod (dOp ixD (dVar 0) (dC (.int 1))) (dBi lenF (dCons (dVar 2) dNil))) (gN 3))
    (dSeq (dAsg (dOp ixD (dVar 2) (dVar 3)) (gN 4))
    (dSeq (dAsg (dOp addD (dOp ixD (dVar 0) (dC (.int 1))) (dC (.int 1))) (gIx (dVar 0) (dC (.int 1))))
    (dSeq (dIfS (dTest (dOp iGe (dVar 4) (dOp iPow (dC (.int 10)) (dC (.int 18)))))
    (dSeq (dAsg (dOp iDiv (dVar 4) (dVar 1)) (gIx (dVar 2) (dVar 3)))
    (dRet (dOp iMod (dBi intF (dCons (dVar 4) dNil)) (dVar 1))))
    dNext)
    (dSeq (dAsg (dOp iMod (dBi intF (dCons (dOp addD (dOp addD (dOp (mulD false) (dVar 4) (dC (.int 48271))) (dOp (mulD false) (dOp ixD (dVar 0) (dC (.int 1))) (dC (.int 69621)))) (dC (.int 11))) dNil)) (dC (.int 2147483647))) (gN 5))
    (dRet (dOp iMod (dOp iMod (dBi intF (dCons (dOp addD (dOp (mulD false) (dVar 5) (dC (.int 16807))) (dOp (mulD false) (dOp ixD (dVar 0) (dC (.int 1))) (dC (.int 40692)))) dNil)) (dC (.int 2147483629))) (dVar 1))))))))))
noncomputable def fn_l_draw_2 : Fn := gcF (dFn 6 b_l_draw_2)
noncomputable def b_l_moved : DS :=
    (dSeq (dIfS (dTest (dOp eqD (dVar 0) (dVar 1)))
    (dRet (dVar 2))
    dNext)
    (dRet (dVar 0)))
noncomputable def fn_l_moved : Fn := gcF (dFn 3 b_l_moved)
noncomputable def b_l_below : DS :=
    (dSeq (dIfS (dTest (dOp iLt (dVar 1) (dC (.int 0))))
    (dRet (dLst dNil))
    dNext)
    (dRet (dOp ixD (dVar 0) (dVar 1))))
noncomputable def fn_l_below : Fn := gcF (dFn 2 b_l_below)
noncomputable def b_l_skipping_l0 : DS :=
    (dIfS (dTest (dOp eqD (dCall fn_l_draw_2 (dCons (dVar 0) (dCons (dC (.int 2)) dNil))) (dC (.int 1))))
    (dDrop (dMt appendM (dVar 3) (dCons (dOp addD (dOp ixD (dVar 1) (dVar 4)) (dTup (dCons (dOp iSub (dNeg (dC (.int 1))) (dCall fn_l_draw_2 (dCons (dVar 0) (dCons (dVar 2) dNil)))) dNil))) dNil)))
    (dIfS (dTest (dOp eqD (dCall fn_l_draw_2 (dCons (dVar 0) (dCons (dC (.int 2)) dNil))) (dC (.int 1))))
    (dDrop (dMt appendM (dVar 3) (dCons (dOp addD (dOp ixD (dVar 1) (dVar 4)) (dTup (dCons (dOp ixD (dOp ixD (dVar 1) (dVar 4)) (dOp addD (dC (.int 1)) (dCall fn_l_draw_2 (dCons (dVar 0) (dCons (dC (.int 2)) dNil))))) dNil))) dNil)))
    (dDrop (dMt appendM (dVar 3) (dCons (dOp ixD (dVar 1) (dVar 4)) dNil)))))
noncomputable def b_l_skipping : DS :=
    (dSeq (dAsg (dNewL dNil) (gN 3))
    (dSeq (dFor (dRange1 (dCons (dBi lenF (dCons (dVar 1) dNil)) dNil)) (gN 4)
    b_l_skipping_l0)
    (dRet (dFrz (dVar 3)))))
noncomputable def fn_l_skipping : Fn := gcF (dFn 5 b_l_skipping)
noncomputable def b_l_pool_2 : DS :=
    (dSeq (dAsg (dCall fn_l_draw_2 (dCons (dVar 0) (dCons (dC (.int 48)) dNil))) (gN 1))
    (dSeq (dAsg (dOp ixD (dTup (dCons (dC (.int 1)) (dCons (dC (.int 5)) (dCons (dC (.int 7)) (dCons (dC (.int 11)) dNil))))) (dCall fn_l_draw_2 (dCons (dVar 0) (dCons (dC (.int 4)) dNil)))) (gN 2))
    (dRet (dLc (dRange1 (dCons (dOp addD (dC (.int 1)) (dCall fn_l_draw_2 (dCons (dVar 0) (dCons (dC (.int 5)) dNil)))) dNil)) (.nm 3) dYes (dOp iMod (dOp addD (dVar 1) (dOp (mulD false) (dVar 2) (dVar 3))) (dC (.int 48))) [3]))))
noncomputable def fn_l_pool_2 : Fn := gcF (dFn 4 b_l_pool_2)
noncomputable def b_l_target_2 : DS :=
    (dSeq (dAsg (dCall fn_l_draw_2 (dCons (dVar 0) (dCons (dOp addD (dOp iSub (dOp iSub (dVar 2) (dC (.int 1))) (dVar 1)) (dVar 3)) dNil))) (gN 4))
    (dSeq (dIfS (dTest (dOp iLt (dVar 4) (dOp iSub (dOp iSub (dVar 2) (dC (.int 1))) (dVar 1))))
    (dRet (dOp addD (dOp addD (dVar 1) (dC (.int 1))) (dVar 4)))
    dNext)
    (dRet (dOp iSub (dOp iSub (dOp iSub (dVar 2) (dC (.int 2))) (dVar 1)) (dVar 4)))))
noncomputable def fn_l_target_2 : Fn := gcF (dFn 5 b_l_target_2)
noncomputable def b_l_nodes_2_l0 : DS :=
    (dSeq (dAsg (dCall fn_l_target_2 (dCons (dVar 0) (dCons (dVar 7) (dCons (dVar 4) (dCons (dVar 3) dNil))))) (gN 8))
    (dSeq (dAsg (dCall fn_l_target_2 (dCons (dVar 0) (dCons (dVar 7) (dCons (dVar 4) (dCons (dVar 3) dNil))))) (gN 9))
    (dSeq (dAsg (dOp addD (dCall fn_l_below (dCons (dVar 6) (dCons (dVar 8) dNil))) (dCall fn_l_below (dCons (dVar 6) (dCons (dVar 9) dNil)))) (gN 10))
    (dSeq (dAsg (dLcA (dVar 1) (.nm 12) (dTest (dOp notInD (dVar 12) (dVar 10))) (dVar 12) [12]) (gN 11))
    (dSeq (dIfS (dtNot (dTru (dVar 11)))
    (dSeq (dAsg (dOp iSub (dNeg (dC (.int 1))) (dCall fn_l_draw_2 (dCons (dVar 0) (dCons (dVar 3) dNil)))) (gN 8))
    (dSeq (dAsg (dOp iSub (dNeg (dC (.int 1))) (dCall fn_l_draw_2 (dCons (dVar 0) (dCons (dVar 3) dNil)))) (gN 9))
    (dSeq (dAsg (dLst dNil) (gN 10))
    (dAsg (dBi listF (dCons (dVar 1) dNil)) (gN 11)))))
    dNext)
    (dSeq (dAsg (dOp ixD (dVar 11) (dCall fn_l_draw_2 (dCons (dVar 0) (dCons (dBi lenF (dCons (dVar 11) dNil)) dNil)))) (gN 12))
    (dSeq (dAsg (dTup (dCons (dVar 12) (dCons (dVar 8) (dCons (dVar 9) dNil)))) (gIx (dVar 5) (dVar 7)))
    (dAsg (dOp addD (dVar 10) (dLst (dCons (dVar 12) dNil))) (gIx (dVar 6) (dVar 7))))))))))
noncomputable def b_l_nodes_2 : DS :=
    (dSeq (dAsg (dCall fn_l_draw_2 (dCons (dVar 0) (dCons (dOp addD (dVar 2) (dC (.int 1))) dNil))) (gN 4))
    (dSeq (dAsg (dNewLc (dRange1 (dCons (dVar 4) dNil)) (.nm 13) dYes (dC .non) [13]) (gN 5))
    (dSeq (dAsg (dNewLc (dRange1 (dCons (dVar 4) dNil)) (.nm 13) dYes (dLst dNil) [13]) (gN 6))
    (dSeq (dFor (dRangeD (dCons (dOp iSub (dVar 4) (dC (.int 1))) (dCons (dNeg (dC (.int 1))) (dCons (dNeg (dC (.int 1))) dNil)))) (gN 7)
    b_l_nodes_2_l0)
    (dRet (dFrz (dVar 5)))))))
noncomputable def fn_l_nodes_2 : Fn := gcF (dFn 14 b_l_nodes_2)
noncomputable def b_l_one_web : DS :=
    (dSeq (dAsg (dCall fn_l_pool_2 (dCons (dVar 0) dNil)) (gN 2))
    (dSeq (dAsg (dOp addD (dC (.int 1)) (dCall fn_l_draw_2 (dCons (dVar 0) (dCons (dC (.int 5)) dNil)))) (gN 3))
    (dRet (dTup (dCons (dVar 2) (dCons (dCall fn_l_nodes_2 (dCons (dVar 0) (dCons (dVar 2) (dCons (dVar 1) (dCons (dVar 3) dNil))))) (dCons (dVar 3) dNil)))))))
noncomputable def fn_l_one_web : Fn := gcF (dFn 4 b_l_one_web)
noncomputable def b_without_l0 : DS :=
    (dDrop (dMt appendM (dVar 3) (dCons (dTup (dCons (dOp ixD (dVar 4) (dC (.int 0))) (dStar (dLc (dSeqI (dSl (dVar 4) (dPart (dC (.int 1))) dNoP)) (.nm 6) dYes (dIf (dTest (dOp eqD (dVar 6) (dVar 1))) (dVar 2) (dVar 6)) [6]) dNil))) dNil)))
noncomputable def b_without : DS :=
    (dSeq (dAsg (dOp ixD (dGetK 30 fn_Web_getitem (dVar 0) (dVar 1)) (dC (.int 1))) (gN 2))
    (dSeq (dAsg (dNewL dNil) (gN 3))
    (dSeq (dFor (dSeqI (dFld [30] "nodes" (dVar 0))) (gN 4)
    b_without_l0)
    (dSeq (dAsg (dIf (dTest (dOp eqD (dFld [30] "start" (dVar 0)) (dVar 1))) (dVar 2) (dFld [30] "start" (dVar 0))) (gN 5))
    (dRet (dGc (dFrz (dMake 30 fn_Web_init (dBoth aw_Web_2_start (dCons (dVar 3) (dCons (dFld [30] "ends" (dVar 0)) dNil)) (dCons (dVar 5) dNil))))))))))
noncomputable def fn_without : Fn := gcF (dFn 7 b_without)
noncomputable def b_law_2_l0 : DS :=
    (dDrop (dMt appendM (dVar 10) (dCons (dOp addD (dTup (dCons (dOp ixD (dVar 11) (dC (.int 0))) dNil)) (dBi tupleF (dCons (dLc (dSeqI (dSl (dVar 11) (dPart (dC (.int 1))) dNoP)) (.nm 15) dYes (dCall fn_l_moved (dCons (dVar 15) (dCons (dVar 5) (dCons (dVar 9) dNil)))) [15]) dNil))) dNil)))
noncomputable def b_law_2 : DS :=
    (dSeq (dAsg (dNewL (dCons (dBi newListF (dCons (dVar 0) dNil)) (dCons (dC (.int 0)) dNil))) (gN 1))
    (dSeq (dAsg (dCall fn_l_one_web (dCons (dVar 1) (dCons (dC (.int 7)) dNil))) (gTp 3 (gsCons (gN 12) (gsCons (gN 13) (gsCons (gN 14) gsNil)))))
    (dSeq (dAsg (dCall fn_l_skipping (dCons (dVar 1) (dCons (dVar 13) (dCons (dVar 14) dNil)))) (gN 2))
    (dSeq (dAsg (dOp iSub (dCall fn_l_draw_2 (dCons (dVar 1) (dCons (dOp addD (dBi lenF (dCons (dVar 2) dNil)) (dVar 14)) dNil))) (dVar 14)) (gN 3))
    (dSeq (dAsg (dGc (dFrz (dMake 30 fn_Web_init (dBoth aw_Web_2_start (dCons (dVar 2) (dCons (dVar 14) dNil)) (dCons (dVar 3) dNil))))) (gN 4))
    (dSeq (dAsg (dOp iSub (dCall fn_l_draw_2 (dCons (dVar 1) (dCons (dOp addD (dBi lenF (dCons (dVar 2) dNil)) (dC (.int 2))) dNil))) (dC (.int 1))) (gN 5))
    (dSeq (dAsg (dC .non) (gN 6))
    (dSeq (dAsg (dC .non) (gN 7))
    (dSeq (dTry1 (dAsg (dCall fn_without (dCons (dVar 4) (dCons (dVar 5) dNil))) (gN 7)) xm_NoNode 8 (fun c ns ws => (dAsg (dXf [5] "index" c ns ws) (gN 6))))
    (dSeq (dIfS (dtNot (dTest (dChain iLe iLt (dC (.int 0)) (dVar 5) (dBi lenF (dCons (dVar 2) dNil)))))
    (dRet (dOp eqD (dVar 6) (dVar 5)))
    dNext)
    (dSeq (dIfS (dTest (isNone true (dVar 6)))
    (dRet (dC (.bl false)))
    dNext)
    (dSeq (dAsg (dOp ixD (dOp ixD (dVar 2) (dVar 5)) (dC (.int 1))) (gN 9))
    (dSeq (dAsg (dNewL dNil) (gN 10))
    (dSeq (dFor (dSeqI (dVar 2)) (gN 11)
    b_law_2_l0)
    (dSeq (dIfS (dtOr (dTest (dOp neD (dFld [30] "nodes" (dVar 7)) (dBi tupleF (dCons (dVar 10) dNil)))) (dtOr (dTest (dOp neD (dFld [30] "ends" (dVar 7)) (dVar 14))) (dTest (dOp neD (dFld [30] "start" (dVar 7)) (dCall fn_l_moved (dCons (dVar 3) (dCons (dVar 5) (dCons (dVar 9) dNil))))))))
    (dRet (dC (.bl false)))
    dNext)
    (dRet (dAndT (dOp eqD (dFld [30] "nodes" (dVar 4)) (dBi tupleF (dCons (dVar 2) dNil))) (dAndT (dOp eqD (dFld [30] "start" (dVar 4)) (dVar 3)) (dOp eqD (dBi (orF (usrLen 30 fn_Web_len) lenF) (dCons (dVar 7) dNil)) (dBi lenF (dCons (dVar 2) dNil)))))))))))))))))))))
noncomputable def fn_law_2 : Fn := dFn 16 b_law_2
end U
namespace U
open PySem L2 DD
def xm_NoPosition : Nat → Option Bool
  | 1 => some false
  | 2 => some false
  | 3 => some false
  | 4 => some false
  | 6 => some true
  | _ => none
noncomputable def b_l_led_l0 : DS :=
    (dIfS (dTest (dOp inD (dVar 3) (dVar 2)))
    (dAsg (dOp addD (dVar 2) (dLc (dSeqI (dSl (dOp ixD (dVar 0) (dVar 3)) (dPart (dC (.int 1))) (dPart (dC (.int 3))))) (.nm 4) (dTest (dOp notInD (dVar 4) (dVar 2))) (dVar 4) [4])) (gN 2))
    dNext)
noncomputable def b_l_led : DS :=
    (dSeq (dAsg (dLst (dCons (dVar 1) dNil)) (gN 2))
    (dSeq (dFor (dRange1 (dCons (dBi lenF (dCons (dVar 0) dNil)) dNil)) (gN 3)
    b_l_led_l0)
    (dRet (dVar 2))))
noncomputable def fn_l_led : Fn := gcF (dFn 5 b_l_led)
noncomputable def b_Web_asked : DS :=
    (dSeq (dIfS (dTest (dOp (orD (usrIn true 30 fn_Web_contains) notInD) (dVar 1) (dVar 0)))
    (dRaise1 6 "place" (dVar 1))
    dNext)
    (dSeq (dIfS (dTest (dOp iLt (dVar 1) (dC (.int 0))))
    (dRet (dTup dNil))
    dNext)
    (dRet (dOp ixD (dFld [30] "behind" (dVar 0)) (dVar 1)))))
noncomputable def fn_Web_asked : Fn := gcF (dFn 2 b_Web_asked)
noncomputable def b_Web_led_to_l0 : DS :=
    (dIfS (dTest (dDIn true (dVar 5) (dVar 2)))
    (dSeq (dDPut (dVar 2) (dVar 5) (dC (.bl true)))
    (dDrop (dMt appendM (dVar 3) (dCons (dVar 5) dNil))))
    dNext)
noncomputable def b_Web_led_to_w0 : DS :=
    (dSeq (dAsg (dMt popM (dVar 3) dNil) (gN 4))
    (dSeq (dIfS (dTest (dOp iLt (dVar 4) (dC (.int 0))))
    dCont
    dNext)
    (dFor (dSeqI (dSl (dOp ixD (dFld [30] "nodes" (dVar 0)) (dVar 4)) (dPart (dC (.int 1))) (dPart (dC (.int 3))))) (gN 5)
    b_Web_led_to_l0)))
noncomputable def b_Web_led_to : DS :=
    (dSeq (dIfS (dTest (dOp (orD (usrIn true 30 fn_Web_contains) notInD) (dVar 1) (dVar 0)))
    (dRaise1 6 "place" (dVar 1))
    dNext)
    (dSeq (dAsg (dDisp [((dVar 1), (dC (.bl true)))]) (gN 2))
    (dSeq (dAsg (dNewL (dCons (dVar 1) dNil)) (gN 3))
    (dSeq (dWhile (dTru (dVar 3))
    b_Web_led_to_w0)
    (dRet (dBi listDF (dCons (dVar 2) dNil)))))))
noncomputable def fn_Web_led_to : Fn := gcF (dFn 6 b_Web_led_to)
noncomputable def b_l_asked : DS :=
    (dTry1 (dRet (dMeth 30 "asked" fn_Web_asked (dVar 0) (dCons (dVar 1) dNil))) xm_NoPosition 2 (fun c ns ws => (dRet (dTup (dCons (dC (.str "no position")) (dCons (dXf [6] "place" c ns ws) dNil))))))
noncomputable def fn_l_asked : Fn := gcF (dFn 3 b_l_asked)
noncomputable def b_Web_reached : DS :=
    (dSeq (dAsg (dMeth 30 "led_to" fn_Web_led_to (dVar 0) (dCons (dFld [30] "start" (dVar 0)) dNil)) (gN 1))
    (dRet (dBi tupleF (dCons (dLc (dRange1 (dCons (dBi lenF (dCons (dFld [30] "nodes" (dVar 0)) dNil)) dNil)) (.nm 2) (dTest (dOp inD (dVar 2) (dVar 1))) (dVar 2) [2]) dNil))))
noncomputable def fn_Web_reached : Fn := gcF (dFn 3 b_Web_reached)
noncomputable def b_Web_reach : DS :=
    (dSeq (dAsg (dMeth 30 "led_to" fn_Web_led_to (dVar 0) (dCons (dVar 1) dNil)) (gN 2))
    (dRet (dBi tupleF (dCons (dLc (dRange1 (dCons (dFld [30] "ends" (dVar 0)) dNil)) (.nm 3) (dTest (dOp inD (dOp iSub (dNeg (dC (.int 1))) (dVar 3)) (dVar 2))) (dVar 3) [3]) dNil))))
noncomputable def fn_Web_reach : Fn := gcF (dFn 4 b_Web_reach)
noncomputable def b_l_reach : DS :=
    (dTry1 (dRet (dMeth 30 "reach" fn_Web_reach (dVar 0) (dCons (dVar 1) dNil))) xm_NoPosition 2 (fun c ns ws => (dRet (dTup (dCons (dC (.str "no position")) (dCons (dXf [6] "place" c ns ws) dNil))))))
noncomputable def fn_l_reach : Fn := gcF (dFn 3 b_l_reach)
noncomputable def b_law_3_l0 : DS :=
    (dSeq (dAsg (dCall fn_l_led (dCons (dVar 4) (dCons (dVar 7) dNil))) (gN 9))
    (dSeq (dAsg (dLc (dSeqI (dVar 9)) (.nm 11) (dTest (dOp iGe (dVar 11) (dC (.int 0)))) (dOp ixD (dOp ixD (dVar 4) (dVar 11)) (dC (.int 0))) [11]) (gN 10))
    (dSeq (dIfS (dTest (dOp neD (dCall fn_l_asked (dCons (dVar 6) (dCons (dVar 7) dNil))) (dBi tupleF (dCons (dLc (dRange1 (dCons (dC (.int 48)) dNil)) (.nm 13) (dTest (dOp inD (dVar 13) (dVar 10))) (dVar 13) [13]) dNil))))
    (dRet (dC (.bl false)))
    dNext)
    (dIfS (dTest (dOp neD (dCall fn_l_reach (dCons (dVar 6) (dCons (dVar 7) dNil))) (dBi tupleF (dCons (dLc (dRange1 (dCons (dVar 3) dNil)) (.nm 14) (dTest (dOp inD (dOp iSub (dNeg (dC (.int 1))) (dVar 14)) (dVar 9))) (dVar 14) [14]) dNil))))
    (dRet (dC (.bl false)))
    dNext))))
noncomputable def b_law_3_l1 : DS :=
    (dIfS (dtOr (dTest (dOp neD (dCall fn_l_asked (dCons (dVar 6) (dCons (dVar 8) dNil))) (dTup (dCons (dC (.str "no position")) (dCons (dVar 8) dNil))))) (dTest (dOp neD (dCall fn_l_reach (dCons (dVar 6) (dCons (dVar 8) dNil))) (dTup (dCons (dC (.str "no position")) (dCons (dVar 8) dNil))))))
    (dRet (dC (.bl false)))
    dNext)
noncomputable def b_law_3 : DS :=
    (dSeq (dAsg (dCall fn_l_pool (dCons (dVar 0) dNil)) (gN 1))
    (dSeq (dAsg (dCall fn_l_names (dCons (dVar 1) (dCons (dC (.int 7)) dNil))) (gN 2))
    (dSeq (dAsg (dOp addD (dC (.int 1)) (dCall fn_l_draw (dCons (dVar 1) (dCons (dC (.int 5)) dNil)))) (gN 3))
    (dSeq (dAsg (dCall fn_l_nodes (dCons (dVar 1) (dCons (dCall fn_l_draw (dCons (dVar 1) (dCons (dC (.int 11)) dNil))) (dCons (dVar 3) (dCons (dVar 2) (dCons (dC (.bl true)) dNil)))))) (gN 4))
    (dSeq (dAsg (dOp iSub (dCall fn_l_draw (dCons (dVar 1) (dCons (dOp addD (dBi lenF (dCons (dVar 4) dNil)) (dVar 3)) dNil))) (dVar 3)) (gN 5))
    (dSeq (dAsg (dGc (dFrz (dMake 30 fn_Web_init (dBoth aw_Web_2_start (dCons (dVar 4) (dCons (dVar 3) dNil)) (dCons (dVar 5) dNil))))) (gN 6))
    (dSeq (dFor (dRange2 (dCons (dNeg (dVar 3)) (dCons (dBi lenF (dCons (dVar 4) dNil)) dNil))) (gN 7)
    b_law_3_l0)
    (dSeq (dFor (dSeqI (dLst (dCons (dOp iSub (dNeg (dC (.int 1))) (dVar 3)) (dCons (dBi lenF (dCons (dVar 4) dNil)) (dCons (dOp addD (dBi lenF (dCons (dVar 4) dNil)) (dCall fn_l_draw (dCons (dVar 1) (dCons (dOp iPow (dC (.int 10)) (dC (.int 30))) dNil)))) (dCons (dOp iSub (dOp iSub (dNeg (dC (.int 2))) (dVar 3)) (dCall fn_l_draw (dCons (dVar 1) (dCons (dOp iPow (dC (.int 10)) (dC (.int 30))) dNil)))) dNil)))))) (gN 8)
    b_law_3_l1)
    (dSeq (dAsg (dCall fn_l_led (dCons (dVar 4) (dCons (dVar 5) dNil))) (gN 9))
    (dRet (dOp eqD (dMeth 30 "reached" fn_Web_reached (dVar 6) dNil) (dBi tupleF (dCons (dLc (dRange1 (dCons (dBi lenF (dCons (dVar 4) dNil)) dNil)) (.nm 12) (dTest (dOp inD (dVar 12) (dVar 9))) (dVar 12) [12]) dNil)))))))))))))
noncomputable def fn_law_3 : Fn := dFn 15 b_law_3
end U
namespace U
open PySem L2 DD
def xm_ZeroBottom : Nat → Option Bool
  | 16 => some true
  | _ => none
noncomputable def b_l_pool_3 : DS :=
    (dSeq (dAsg (dC (.int 0)) (gN 2))
    (dSeq (dIfS (dTest (dOp iLt (dVar 1) (dBi lenF (dCons (dVar 0) dNil))))
    (dAsg (dOp ixD (dVar 0) (dVar 1)) (gN 2))
    dNext)
    (dSeq (dAsg (dBi max2F (dCons (dBi intF (dCons (dVar 2) dNil)) (dCons (dBi intF (dCons (dOp iSub (dNeg (dC (.int 1))) (dVar 2)) dNil)) dNil))) (gN 3))
    (dSeq (dAsg (dOp iMod (dBi intF (dCons (dOp (mulD false) (dOp addD (dOp addD (dOp addD (dOp iMod (dBi intF (dCons (dVar 3) dNil)) (dC (.int 2147483629))) (dOp (mulD false) (dOp (mulD false) (dC (.int 5303)) (dVar 1)) (dVar 1))) (dOp (mulD false) (dC (.int 43)) (dVar 1))) (dC (.int 19))) (dC (.int 48271))) dNil)) (dC (.int 2147483647))) (gN 4))
    (dRet (dNewL (dCons (dOp (mulD false) (dVar 3) (dBi intF (dCons (dOp iGe (dVar 3) (dOp iPow (dC (.int 10)) (dC (.int 18)))) dNil))) (dCons (dVar 4) dNil))))))))
noncomputable def fn_l_pool_3 : Fn := dFn 5 b_l_pool_3
noncomputable def b_l_divisor_l0 : DS :=
    (dSeq (dIfS (dTest (dOp eqD (dVar 1) (dC (.int 0))))
    dBreak
    dNext)
    (dPar 0 1 (dCons (dVar 1) (dCons (dOp iMod (dBi intF (dCons (dVar 0) dNil)) (dVar 1)) dNil))))
noncomputable def b_l_divisor : DS :=
    (dSeq (dPar 0 1 (dCons (dBi absF (dCons (dVar 0) dNil)) (dCons (dBi absF (dCons (dVar 1) dNil)) dNil)))
    (dSeq (dFor (dRange1 (dCons (dC (.int 2000)) dNil)) (gN 2)
    b_l_divisor_l0)
    (dRet (dVar 0))))
noncomputable def fn_l_divisor : Fn := gcF (dFn 3 b_l_divisor)
noncomputable def b_l_take : DS :=
    (dSeq (dIfS (dTest (dOp iGt (dOp ixD (dVar 0) (dC (.int 0))) (dC (.int 0))))
    (dSeq (dAsg (dOp iMod (dBi intF (dCons (dOp ixD (dVar 0) (dC (.int 0))) dNil)) (dVar 1)) (gN 2))
    (dSeq (dAsg (dOp iDiv (dOp ixD (dVar 0) (dC (.int 0))) (dVar 1)) (gIx (dVar 0) (dC (.int 0))))
    (dRet (dVar 2))))
    dNext)
    (dSeq (dAsg (dOp iMod (dBi intF (dCons (dOp addD (dOp (mulD false) (dOp ixD (dVar 0) (dC (.int 1))) (dC (.int 39373))) (dC (.int 7))) dNil)) (dC (.int 2147483647))) (gIx (dVar 0) (dC (.int 1))))
    (dRet (dOp iMod (dBi intF (dCons (dOp iDiv (dOp iMod (dBi intF (dCons (dOp (mulD false) (dOp ixD (dVar 0) (dC (.int 1))) (dOp ixD (dVar 0) (dC (.int 1)))) dNil)) (dC (.int 2147483629))) (dC (.int 32))) dNil)) (dVar 1)))))
noncomputable def fn_l_take : Fn := gcF (dFn 3 b_l_take)
noncomputable def b_common_divisor_w0 : DS :=
    (dPar 0 1 (dCons (dVar 1) (dCons (dOp iMod (dVar 0) (dVar 1)) dNil)))
noncomputable def b_common_divisor : DS :=
    (dSeq (dPar 0 1 (dCons (dBi absF (dCons (dVar 0) dNil)) (dCons (dBi absF (dCons (dVar 1) dNil)) dNil)))
    (dSeq (dWhile (dTru (dVar 1))
    b_common_divisor_w0)
    (dRet (dVar 0))))
noncomputable def fn_common_divisor : Fn := gcF (dFn 2 b_common_divisor)
noncomputable def b_l_is_ratio_l0 : DS :=
    (dIfS (dtOr (dtNot (dTru (dBi (isiF isiB) (dCons (dVar 3) (dCons (dC (.ty "int")) dNil))))) (dTru (dBi (isiF isiB) (dCons (dVar 3) (dCons (dC (.ty "bool")) dNil)))))
    (dRet (dC (.bl false)))
    dNext)
noncomputable def b_l_is_ratio : DS :=
    (dSeq (dIfS (dtNot (dTru (dBi (isiF (isi1 34)) (dCons (dVar 0) (dCons (dC (.cls 34)) dNil)))))
    (dRet (dC (.bl false)))
    dNext)
    (dSeq (dFor (dSeqI (dLst (dCons (dFld [34] "top" (dVar 0)) (dCons (dFld [34] "bottom" (dVar 0)) dNil)))) (gN 3)
    b_l_is_ratio_l0)
    (dSeq (dIfS (dtOr (dTest (dOp iLt (dFld [34] "bottom" (dVar 0)) (dC (.int 1)))) (dTest (dOp neD (dCall fn_l_divisor (dCons (dFld [34] "top" (dVar 0)) (dCons (dFld [34] "bottom" (dVar 0)) dNil))) (dC (.int 1)))))
    (dRet (dC (.bl false)))
    dNext)
    (dRet (dOp eqD (dOp (mulD false) (dFld [34] "top" (dVar 0)) (dVar 2)) (dOp (mulD false) (dVar 1) (dFld [34] "bottom" (dVar 0))))))))
noncomputable def fn_l_is_ratio : Fn := gcF (dFn 4 b_l_is_ratio)
noncomputable def b_l_number_l0 : DS :=
    (dAsg (dOp addD (dOp (mulD false) (dVar 2) (dOp iPow (dC (.int 2)) (dC (.int 26)))) (dCall fn_l_take (dCons (dVar 0) (dCons (dOp iPow (dC (.int 2)) (dC (.int 26))) dNil)))) (gN 2))
noncomputable def b_l_number : DS :=
    (dSeq (dIfS (dTest (dOp iGt (dCall fn_l_take (dCons (dVar 0) (dCons (dC (.int 4)) dNil))) (dC (.int 0))))
    (dRet (dOp iSub (dCall fn_l_take (dCons (dVar 0) (dCons (dC (.int 7)) dNil))) (dC (.int 3))))
    dNext)
    (dSeq (dAsg (dC (.int 0)) (gN 2))
    (dSeq (dFor (dRange1 (dCons (dC (.int 6)) dNil)) (gN 3)
    b_l_number_l0)
    (dRet (dOp iSub (dOp iMod (dBi intF (dCons (dVar 2) dNil)) (dOp addD (dOp (mulD false) (dC (.int 2)) (dVar 1)) (dC (.int 1)))) (dVar 1))))))
noncomputable def fn_l_number : Fn := gcF (dFn 4 b_l_number)
noncomputable def b_l_quotient_right : DS :=
    (dSeq (dIfS (dTest (dOp eqD (dVar 2) (dC (.int 0))))
    (dRet (dBi (isiF (isi2 34)) (dCons (dVar 0) (dCons (dC (.ty "list")) dNil))))
    dNext)
    (dRet (dCall fn_l_is_ratio (dCons (dVar 0) (dCons (dVar 1) (dCons (dVar 2) dNil))))))
noncomputable def fn_l_quotient_right : Fn := gcF (dFn 3 b_l_quotient_right)
noncomputable def b_Ratio_init : DS :=
    (dSeq (dIfS (dTest (dOp eqD (dVar 2) (dC (.int 0))))
    (dRaise0 16)
    dNext)
    (dSeq (dAsg (dIf (dTest (dOp iGt (dVar 2) (dC (.int 0)))) (dC (.int 1)) (dNeg (dC (.int 1)))) (gN 3))
    (dSeq (dAsg (dOp (mulD false) (dVar 3) (dCall fn_common_divisor (dCons (dVar 1) (dCons (dVar 2) dNil)))) (gN 4))
    (dSeq (dSetF [34] "top" (dVar 0) (dOp iDiv (dVar 1) (dVar 4)))
    (dSetF [34] "bottom" (dVar 0) (dOp iDiv (dVar 2) (dVar 4)))))))
noncomputable def fn_Ratio_init : Fn := gcF (dFn 5 b_Ratio_init)
noncomputable def b_Ratio_radd : DS :=
    (dRet (dGc (dFrz (dMake 34 fn_Ratio_init (dBoth (· ++ ·) (dCons (dOp addD (dOp (mulD false) (dVar 1) (dFld [34] "bottom" (dVar 0))) (dFld [34] "top" (dVar 0))) (dCons (dFld [34] "bottom" (dVar 0)) dNil)) (fun _ S => .ok [] S))))))
noncomputable def fn_Ratio_radd : Fn := gcF (dFn 2 b_Ratio_radd)
noncomputable def b_Ratio_rsub : DS :=
    (dRet (dGc (dFrz (dMake 34 fn_Ratio_init (dBoth (· ++ ·) (dCons (dOp iSub (dOp (mulD false) (dVar 1) (dFld [34] "bottom" (dVar 0))) (dFld [34] "top" (dVar 0))) (dCons (dFld [34] "bottom" (dVar 0)) dNil)) (fun _ S => .ok [] S))))))
noncomputable def fn_Ratio_rsub : Fn := gcF (dFn 2 b_Ratio_rsub)
noncomputable def b_Ratio_rmul : DS :=
    (dRet (dGc (dFrz (dMake 34 fn_Ratio_init (dBoth (· ++ ·) (dCons (dOp (mulD false) (dVar 1) (dFld [34] "top" (dVar 0))) (dCons (dFld [34] "bottom" (dVar 0)) dNil)) (fun _ S => .ok [] S))))))
noncomputable def fn_Ratio_rmul : Fn := gcF (dFn 2 b_Ratio_rmul)
noncomputable def b_Ratio_neg : DS :=
    (dRet (dGc (dFrz (dMake 34 fn_Ratio_init (dBoth (· ++ ·) (dCons (dNeg (dFld [34] "top" (dVar 0))) (dCons (dFld [34] "bottom" (dVar 0)) dNil)) (fun _ S => .ok [] S))))))
noncomputable def fn_Ratio_neg : Fn := gcF (dFn 1 b_Ratio_neg)
noncomputable def b_as_ratio : DS :=
    (dRet (dIf (dTru (dBi (isiF (isi1 34)) (dCons (dVar 0) (dCons (dC (.cls 34)) dNil)))) (dVar 0) (dGc (dFrz (dMake 34 fn_Ratio_init (dBoth (· ++ ·) (dCons (dVar 0) dNil) (fun _ S => .ok [(.int 1)] S)))))))
noncomputable def fn_as_ratio : Fn := gcF (dFn 1 b_as_ratio)
noncomputable def b_Ratio_add : DS :=
    (dSeq (dAsg (dCall fn_as_ratio (dCons (dVar 1) dNil)) (gN 2))
    (dRet (dGc (dFrz (dMake 34 fn_Ratio_init (dBoth (· ++ ·) (dCons (dOp addD (dOp (mulD false) (dFld [34] "top" (dVar 0)) (dFld [34] "bottom" (dVar 2))) (dOp (mulD false) (dFld [34] "top" (dVar 2)) (dFld [34] "bottom" (dVar 0)))) (dCons (dOp (mulD false) (dFld [34] "bottom" (dVar 0)) (dFld [34] "bottom" (dVar 2))) dNil)) (fun _ S => .ok [] S)))))))
noncomputable def fn_Ratio_add : Fn := gcF (dFn 3 b_Ratio_add)
noncomputable def b_Ratio_sub : DS :=
    (dSeq (dAsg (dCall fn_as_ratio (dCons (dVar 1) dNil)) (gN 2))
    (dRet (dGc (dFrz (dMake 34 fn_Ratio_init (dBoth (· ++ ·) (dCons (dOp iSub (dOp (mulD false) (dFld [34] "top" (dVar 0)) (dFld [34] "bottom" (dVar 2))) (dOp (mulD false) (dFld [34] "top" (dVar 2)) (dFld [34] "bottom" (dVar 0)))) (dCons (dOp (mulD false) (dFld [34] "bottom" (dVar 0)) (dFld [34] "bottom" (dVar 2))) dNil)) (fun _ S => .ok [] S)))))))
noncomputable def fn_Ratio_sub : Fn := gcF (dFn 3 b_Ratio_sub)
noncomputable def b_Ratio_mul : DS :=
    (dSeq (dAsg (dCall fn_as_ratio (dCons (dVar 1) dNil)) (gN 2))
    (dRet (dGc (dFrz (dMake 34 fn_Ratio_init (dBoth (· ++ ·) (dCons (dOp (mulD false) (dFld [34] "top" (dVar 0)) (dFld [34] "top" (dVar 2))) (dCons (dOp (mulD false) (dFld [34] "bottom" (dVar 0)) (dFld [34] "bottom" (dVar 2))) dNil)) (fun _ S => .ok [] S)))))))
noncomputable def fn_Ratio_mul : Fn := gcF (dFn 3 b_Ratio_mul)
noncomputable def b_Ratio_over : DS :=
    (dSeq (dAsg (dCall fn_as_ratio (dCons (dVar 1) dNil)) (gN 2))
    (dSeq (dIfS (dTest (dOp eqD (dFld [34] "top" (dVar 2)) (dC (.int 0))))
    (dRaise0 16)
    dNext)
    (dRet (dGc (dFrz (dMake 34 fn_Ratio_init (dBoth (· ++ ·) (dCons (dOp (mulD false) (dFld [34] "top" (dVar 0)) (dFld [34] "bottom" (dVar 2))) (dCons (dOp (mulD false) (dFld [34] "bottom" (dVar 0)) (dFld [34] "top" (dVar 2))) dNil)) (fun _ S => .ok [] S))))))))
noncomputable def fn_Ratio_over : Fn := gcF (dFn 3 b_Ratio_over)
noncomputable def b_l_mixed_right : DS :=
    (dSeq (dIfS (dtOr (dtNot (dTru (dCall fn_l_is_ratio (dCons (dOp (orD (usrD 34 fn_Ratio_add) (orD (usrL 34 fn_Ratio_add) addD)) (dVar 0) (dVar 1)) (dCons (dOp addD (dVar 2) (dOp (mulD false) (dVar 1) (dVar 3))) (dCons (dVar 3) dNil)))))) (dtNot (dTru (dCall fn_l_is_ratio (dCons (dOp (orD (usrR 34 fn_Ratio_radd) addD) (dVar 1) (dVar 0)) (dCons (dOp addD (dVar 2) (dOp (mulD false) (dVar 1) (dVar 3))) (dCons (dVar 3) dNil)))))))
    (dRet (dC (.bl false)))
    dNext)
    (dSeq (dIfS (dtOr (dtNot (dTru (dCall fn_l_is_ratio (dCons (dOp (orD (usrD 34 fn_Ratio_sub) (orD (usrL 34 fn_Ratio_sub) iSub)) (dVar 0) (dVar 1)) (dCons (dOp iSub (dVar 2) (dOp (mulD false) (dVar 1) (dVar 3))) (dCons (dVar 3) dNil)))))) (dtNot (dTru (dCall fn_l_is_ratio (dCons (dOp (orD (usrR 34 fn_Ratio_rsub) iSub) (dVar 1) (dVar 0)) (dCons (dOp iSub (dOp (mulD false) (dVar 1) (dVar 3)) (dVar 2)) (dCons (dVar 3) dNil)))))))
    (dRet (dC (.bl false)))
    dNext)
    (dRet (dAndT (dCall fn_l_is_ratio (dCons (dOp (orD (usrD 34 fn_Ratio_mul) (orD (usrL 34 fn_Ratio_mul) (mulD false))) (dVar 0) (dVar 1)) (dCons (dOp (mulD false) (dVar 2) (dVar 1)) (dCons (dVar 3) dNil)))) (dCall fn_l_is_ratio (dCons (dOp (orD (usrR 34 fn_Ratio_rmul) (mulD false)) (dVar 1) (dVar 0)) (dCons (dOp (mulD false) (dVar 2) (dVar 1)) (dCons (dVar 3) dNil))))))))
noncomputable def fn_l_mixed_right : Fn := gcF (dFn 4 b_l_mixed_right)
noncomputable def b_l_over : DS :=
    (dTry1 (dRet (dMeth 34 "over" fn_Ratio_over (dVar 0) (dCons (dVar 1) dNil))) xm_ZeroBottom 2 (fun c ns ws => (dRet (dLst (dCons (dC (.str "zero")) dNil)))))
noncomputable def fn_l_over : Fn := gcF (dFn 3 b_l_over)
noncomputable def b_l_sums_right : DS :=
    (dSeq (dIfS (dtNot (dTru (dCall fn_l_is_ratio (dCons (dOp (orD (usrD 34 fn_Ratio_add) (orD (usrL 34 fn_Ratio_add) (orD (usrR 34 fn_Ratio_radd) addD))) (dVar 0) (dVar 1)) (dCons (dOp addD (dOp (mulD false) (dVar 2) (dVar 5)) (dOp (mulD false) (dVar 4) (dVar 3))) (dCons (dOp (mulD false) (dVar 3) (dVar 5)) dNil))))))
    (dRet (dC (.bl false)))
    dNext)
    (dSeq (dIfS (dtNot (dTru (dCall fn_l_is_ratio (dCons (dOp (orD (usrD 34 fn_Ratio_sub) (orD (usrL 34 fn_Ratio_sub) (orD (usrR 34 fn_Ratio_rsub) iSub))) (dVar 0) (dVar 1)) (dCons (dOp iSub (dOp (mulD false) (dVar 2) (dVar 5)) (dOp (mulD false) (dVar 4) (dVar 3))) (dCons (dOp (mulD false) (dVar 3) (dVar 5)) dNil))))))
    (dRet (dC (.bl false)))
    dNext)
    (dRet (dAndT (dCall fn_l_is_ratio (dCons (dOp (orD (usrD 34 fn_Ratio_mul) (orD (usrL 34 fn_Ratio_mul) (orD (usrR 34 fn_Ratio_rmul) (mulD false)))) (dVar 0) (dVar 1)) (dCons (dOp (mulD false) (dVar 2) (dVar 4)) (dCons (dOp (mulD false) (dVar 3) (dVar 5)) dNil)))) (dCall fn_l_is_ratio (dCons (dNegU 34 fn_Ratio_neg (dVar 0)) (dCons (dNeg (dVar 2)) (dCons (dVar 3) dNil))))))))
noncomputable def fn_l_sums_right : Fn := gcF (dFn 6 b_l_sums_right)
noncomputable def b_law_4_l0 : DS :=
    (dSeq (dIfS (dtOr (dtNot (dTru (dCall fn_l_sums_right (dCons (dVar 10) (dCons (dVar 11) (dCons (dVar 5) (dCons (dVar 8) (dCons (dVar 6) (dCons (dVar 9) dNil))))))))) (dtNot (dTru (dCall fn_l_sums_right (dCons (dVar 11) (dCons (dVar 10) (dCons (dVar 6) (dCons (dVar 9) (dCons (dVar 5) (dCons (dVar 8) dNil))))))))))
    (dRet (dC (.bl false)))
    dNext)
    (dSeq (dIfS (dtOr (dtNot (dTru (dCall fn_l_mixed_right (dCons (dVar 10) (dCons (dVar 7) (dCons (dVar 5) (dCons (dVar 8) dNil))))))) (dtNot (dTru (dCall fn_l_mixed_right (dCons (dVar 11) (dCons (dNeg (dVar 7)) (dCons (dVar 6) (dCons (dVar 9) dNil))))))))
    (dRet (dC (.bl false)))
    dNext)
    (dSeq (dIfS (dtNot (dTru (dCall fn_l_quotient_right (dCons (dCall fn_l_over (dCons (dVar 10) (dCons (dVar 11) dNil))) (dCons (dOp (mulD false) (dVar 5) (dVar 9)) (dCons (dOp (mulD false) (dVar 8) (dVar 6)) dNil))))))
    (dRet (dC (.bl false)))
    dNext)
    (dIfS (dtNot (dTru (dCall fn_l_quotient_right (dCons (dCall fn_l_over (dCons (dVar 10) (dCons (dVar 7) dNil))) (dCons (dVar 5) (dCons (dOp (mulD false) (dVar 8) (dVar 7)) dNil))))))
    (dRet (dC (.bl false)))
    dNext))))
noncomputable def b_law_4_l1 : DS :=
    (dSeq (dAsg (dCall fn_l_pool_3 (dCons (dVar 0) (dCons (dVar 1) dNil))) (gN 2))
    (dSeq (dAsg (dOp iPow (dC (.int 10)) (dC (.int 18))) (gN 3))
    (dSeq (dPar3 5 6 7 (dCons (dCall fn_l_number (dCons (dVar 2) (dCons (dVar 3) dNil))) (dCons (dCall fn_l_number (dCons (dVar 2) (dCons (dVar 3) dNil))) (dCons (dCall fn_l_number (dCons (dVar 2) (dCons (dVar 3) dNil))) dNil))))
    (dSeq (dPar 8 9 (dCons (dCall fn_l_number (dCons (dVar 2) (dCons (dVar 3) dNil))) (dCons (dCall fn_l_number (dCons (dVar 2) (dCons (dVar 3) dNil))) dNil)))
    (dSeq (dPar 8 9 (dCons (dIf (dTest (dOp neD (dVar 8) (dC (.int 0)))) (dVar 8) (dC (.int 5))) (dCons (dIf (dTest (dOp neD (dVar 9) (dC (.int 0)))) (dVar 9) (dNeg (dC (.int 7)))) dNil)))
    (dSeq (dPar 10 11 (dCons (dGc (dFrz (dMake 34 fn_Ratio_init (dBoth (· ++ ·) (dCons (dVar 5) (dCons (dVar 8) dNil)) (fun _ S => .ok [] S))))) (dCons (dGc (dFrz (dMake 34 fn_Ratio_init (dBoth (· ++ ·) (dCons (dVar 6) (dCons (dVar 9) dNil)) (fun _ S => .ok [] S))))) dNil)))
    (dSeq (dFor (dRange1 (dCons (dC (.int 2)) dNil)) (gN 4)
    b_law_4_l0)
    (dSeq (dIfS (dtOr (dtNot (dTru (dBi (isiF (isi2 34)) (dCons (dCall fn_l_over (dCons (dVar 10) (dCons (dC (.int 0)) dNil))) (dCons (dC (.ty "list")) dNil))))) (dtNot (dTru (dBi (isiF (isi2 34)) (dCons (dCall fn_l_over (dCons (dVar 10) (dCons (dGc (dFrz (dMake 34 fn_Ratio_init (dBoth (· ++ ·) (dCons (dC (.int 0)) (dCons (dVar 8) dNil)) (fun _ S => .ok [] S))))) dNil))) (dCons (dC (.ty "list")) dNil))))))
    (dRet (dC (.bl false)))
    dNext)
    (dSeq (dIfS (dtOr (dtNot (dTru (dCall fn_l_is_ratio (dCons (dOp (orD (usrD 34 fn_Ratio_sub) (orD (usrL 34 fn_Ratio_sub) (orD (usrR 34 fn_Ratio_rsub) iSub))) (dVar 10) (dVar 10)) (dCons (dC (.int 0)) (dCons (dC (.int 1)) dNil)))))) (dtNot (dTru (dCall fn_l_is_ratio (dCons (dOp (orD (usrD 34 fn_Ratio_add) (orD (usrL 34 fn_Ratio_add) (orD (usrR 34 fn_Ratio_radd) addD))) (dVar 10) (dVar 10)) (dCons (dOp (mulD false) (dC (.int 2)) (dVar 5)) (dCons (dVar 8) dNil)))))))
    (dRet (dC (.bl false)))
    dNext)
    (dIfS (dtOr (dtNot (dTru (dCall fn_l_is_ratio (dCons (dVar 10) (dCons (dVar 5) (dCons (dVar 8) dNil)))))) (dtNot (dTru (dCall fn_l_is_ratio (dCons (dVar 11) (dCons (dVar 6) (dCons (dVar 9) dNil)))))))
    (dRet (dC (.bl false)))
    dNext))))))))))
noncomputable def b_law_4 : DS :=
    (dSeq (dFor (dRange1 (dCons (dBi max2F (dCons (dC (.int 1)) (dCons (dBi min2F (dCons (dC (.int 40)) (dCons (dBi lenF (dCons (dVar 0) dNil)) dNil))) dNil))) dNil)) (gN 1)
    b_law_4_l1)
    (dRet (dC (.bl true))))
noncomputable def fn_law_4 : Fn := dFn 12 b_law_4
end U
namespace SP
open PySem L2 DD U
/-! ### the pool -/
/-- a drawing list that has been asked at most k times -/
def Pol (k : Nat) (P : O) : Prop := ∃ (ns : List Int) (c i b m : Int), P = .lst [.scr (ns.map W.int), .int c, .int i, .int b, .int m] ∧ 0 ≤ c ∧ c ≤ k ∧ 0 ≤ i ∧ 0 ≤ b ∧ 0 ≤ m ∧ m < 2147483629
theorem Pol.mono {P : O} {k k' : Nat} (h : Pol k P) (le : k ≤ k') : Pol k' P := by
  obtain ⟨ns, c, i, b, m, h1, h2, h3, h4⟩ := h
  exact ⟨ns, c, i, b, m, h1, h2, by omega, h4⟩
theorem Pol.low {P : O} {k n : Nat} (h : Pol k P) : lowO n P = true := by
  obtain ⟨ns, c, i, b, m, rfl, _⟩ := h
  simp [lowO, lowL, lowW, lowL_ints]
theorem draw_ok {P : O} {S : Sto} {k : Nat} {lim : Int} (h : Pol k P) (hk : k < 1000000000000) (h0 : 0 < lim) (h1 : lim < 100000000000000000000000000000000000000000) :
    ∃ r P', U.fn_l_draw [.ref 0, .int lim] (P :: S) = .ok (.int r) (P' :: S) ∧ 0 ≤ r ∧ r < lim ∧ Pol (k + 1) P' := by
  obtain ⟨ns, c, i, b, m, h1', h2, h3, h4⟩ := h
  have hp : Pl (P :: S) 0 k := ⟨ns, c, i, b, m, by simp [h1'], h2, h3, h4⟩
  obtain ⟨r, S', e, r0, r1, af⟩ := draw1_ok (lim := lim) hp hk h0 h1
  obtain ⟨ns', c', i', b', m', g1, g2⟩ := af.pool
  have hS : S' = .lst [.scr (ns'.map W.int), .int c', .int i', .int b', .int m'] :: S := by
    refine List.ext_getElem? fun j => ?_
    cases j with
    | zero => simpa using g1
    | succ j => rw [af.keep (j + 1) (by omega)]; simp
  subst hS
  exact ⟨r, _, e, r0, r1, ns', c', i', b', m', rfl, g2⟩
theorem pool_ok {ns : List Int} {S : Sto} : U.fn_l_pool [.scr (ns.map W.int)] S = .ok (.ref S.length) (S ++ [.lst [.scr (ns.map W.int), .int 0, .int 0, .int 0, .int 7]]) := by
  unfold U.fn_l_pool
  rw [dFn_eq]
  simp [U.b_l_pool, List.replicate_succ, sizeLine_eq]
theorem pol0 (ns : List Int) : Pol 0 (.lst [.scr (ns.map W.int), .int 0, .int 0, .int 0, .int 7]) := ⟨ns, 0, 0, 0, 7, rfl, by decide, by decide, by decide, by decide, by decide, by decide⟩
/-- the end of a def that has the pool: what was made behind it is let go -/
theorem gc_pool {P P' : O} {S g : Sto} {w : W} {k : Nat} (h : Pol k P') (l : lowW (S.length + 1) w = true) : gcR (P :: S) (.ok w (P' :: (S ++ g))) = .ok w (P' :: S) := by
  rw [gc_ok]
  · simp
  · refine ⟨by simp, fun i hi => ?_⟩
    cases i with
    | zero => exact .inr ⟨P', rfl, h.low⟩
    | succ i =>
      left
      simp only [List.length_cons] at hi
      simp [List.getElem?_append_left (show i < S.length by omega)]
  · simpa using l
theorem gc_pool0 {P P' : O} {S : Sto} {w : W} {k : Nat} (h : Pol k P') (l : lowW (S.length + 1) w = true) : gcR (P :: S) (.ok w (P' :: S)) = .ok w (P' :: S) := by
  have := gc_pool (P := P) (P' := P') (S := S) (g := []) h l
  simpa using this
theorem rng_bound {j : Int} (h0 : 0 ≤ j) (h1 : j < 1000000) : -(2 ^ 62) ≤ j ∧ j < 2 ^ 62 := by omega
end SP
namespace SP
open PySem L2 DD U
theorem app_get {S : Sto} {o : O} {g : Sto} : (S ++ o :: g)[S.length]? = some o := by simp
theorem app_set {S : Sto} {o u : O} {g : Sto} : (S ++ o :: g).set S.length u = S ++ u :: g := by simp
theorem app_get1 {S : Sto} {o p : O} {g : Sto} : (S ++ o :: p :: g)[S.length + 1]? = some p := by
  rw [List.getElem?_append_right (by omega)]; simp
theorem app_set1 {S : Sto} {o p u : O} {g : Sto} : (S ++ o :: p :: g).set (S.length + 1) u = S ++ o :: u :: g := by
  rw [List.set_append_right _ _ (by omega)]; simp
abbrev nW (n : List Int) : W := .tup (wl n)
abbrev lW (n : List Int) : W := .lst (wl n)
theorem atI_get {α : Type} {l : List α} {i : Int} {x : α} (h0 : 0 ≤ i) (h : l[i.toNat]? = some x) : atI l i = some x := by
  have := L2.atI_nat h
  rwa [Int.toNat_of_nonneg h0] at this
theorem e_catL {S : Sto} {a b : List Int} (h : a.length + b.length ≤ 16777216) : addD (lW a) (lW b) S = .ok (lW (a ++ b)) S := by
  simp [addD, orD, iAdd, intD, catD, sizeLine_eq, h, lW, wl]
theorem e_catLW {S : Sto} {a b : List W} (h : a.length + b.length ≤ 16777216) : addD (.lst a) (.lst b) S = .ok (.lst (a ++ b)) S := by
  simp [addD, orD, iAdd, intD, catD, sizeLine_eq, h]
theorem e_catTW {S : Sto} {a b : List W} (h : a.length + b.length ≤ 16777216) : addD (.tup a) (.tup b) S = .ok (.tup (a ++ b)) S := by
  simp [addD, orD, iAdd, intD, catD, catS, catT, sizeLine_eq, h]
theorem intsFrom_mem {lo : Int} {n i : Nat} {w : W} (h : (intsFrom lo n)[i]? = some w) : i < n ∧ w = .int (lo + i) := intsFrom_get n lo i w h
theorem rgI {j : Int} (h0 : -1000000 ≤ j) (h1 : j < 1000000) : -4611686018427387904 ≤ j ∧ j < 4611686018427387904 := by omega
theorem names_ok {P : O} {S : Sto} {k : Nat} {most : Int} (h : Pol k P) (hk : k < 100000000000) (h0 : 0 < most) (h1 : most ≤ 100) :
    ∃ (l : List Int) (P' : O), U.fn_l_names [.ref 0, .int most] (P :: S) = .ok (.lst (wl l)) (P' :: S) ∧ l ≠ [] ∧ l.Nodup ∧ (∀ z ∈ l, 0 ≤ z ∧ z < 48) ∧ (l.length : Int) ≤ most ∧ Pol (k + 200) P' := by
  generalize hx : U.fn_l_names _ _ = x
  unfold U.fn_l_names at hx
  rw [gcF_eq, dFn_eq] at hx
  simp [U.b_l_names, List.replicate_succ, sizeLine_eq] at hx
  generalize hd__ : U.fn_l_draw _ _ = d__ at hx
  have hs__ := SP.at2 hd__ ((draw_ok h) (by first | omega | with_reducible assumption | (simp; done) | (simp; omega) | rfl) (by first | omega | with_reducible assumption | (simp; done) | (simp; omega) | rfl) (by first | omega | with_reducible assumption | (simp; done) | (simp; omega) | rfl))
  obtain ⟨r, P1, e, r0, r1, hP1⟩ := hs__
  subst e
  simp [rgI (show -1000000 ≤ 1 + r by omega) (by omega)] at hx
  obtain ⟨t', X, e2, l, P2, x3, x4, rfl, rfl, hP2, hn, hl, hb, hz⟩ := forL_inv (g := gN 3) (b := b_l_names_l0) (intsFrom 0 (1 + r).toNat)
    (fun i t X => ∃ (l : List Int) (P2 : O) (x3 x4 : Option W), t = [some (.ref 0), some (.int most), some (.ref (S.length + 1)), x3, x4] ∧ X = P2 :: (S ++ [.lst (wl l)]) ∧ Pol (k + 1 + i) P2 ∧ l.Nodup ∧ (∀ z ∈ l, 0 ≤ z ∧ z < 48) ∧ l.length ≤ i ∧ (0 < i → l ≠ []))
    (fun i w t X hw ⟨l, P2, x3, x4, ht, hX, hP2, hn, hl, hb, hz⟩ => by
      subst ht hX
      obtain ⟨hi, rfl⟩ := intsFrom_mem hw
      generalize hx : turn _ _ _ _ _ = x
      simp [turn, b_l_names_l0, gN] at hx
      generalize hd__ : U.fn_l_draw _ _ = d__ at hx
      have hs__ := SP.at2 hd__ ((draw_ok hP2) (by first | omega | with_reducible assumption | (simp; done) | (simp; omega) | rfl) (by first | omega | with_reducible assumption | (simp; done) | (simp; omega) | rfl) (by first | omega | with_reducible assumption | (simp; done) | (simp; omega) | rfl))
      obtain ⟨q, P3, e3, q0, q1, hP3⟩ := hs__
      subst e3
      have hni : notInD (.int q) (.ref (S.length + 1)) (P3 :: (S ++ [.lst (wl l)])) = .ok (.bl (!decide (q ∈ l))) (P3 :: (S ++ [.lst (wl l)])) := by
        have := e_notInLI (S := P3 :: (S ++ [.lst (wl l)])) (z := q) (l := l)
        simpa [notInD, lookS] using this
      simp [hni] at hx
      by_cases hq : q ∈ l
      · simp [hq] at hx
        subst hx
        exact ⟨_, _, .inl rfl, l, P3, _, _, rfl, rfl, hP3.mono (by omega), hn, hl, by omega, fun _ => List.ne_nil_of_mem hq⟩
      · simp [hq, seqL, appendM, sizeLine_eq, show l.length < 16777216 by omega] at hx
        subst hx
        refine ⟨_, _, .inl rfl, l ++ [q], P3, _, _, rfl, by simp [wl], hP3.mono (by omega), ?_, ?_, by simp; omega, by simp⟩
        · rw [List.nodup_append]
          refine ⟨hn, by simp, fun a ha b hb => ?_⟩
          simp at hb
          subst hb
          exact fun z => hq (z ▸ ha)
        · intro z hz
          rcases List.mem_append.mp hz with hz | hz
          · exact hl z hz
          · simp at hz; omega)
    (t := [some (.ref 0), some (.int most), some (.ref (S.length + 1)), none, none]) (S := P1 :: (S ++ [.lst []])) ⟨[], P1, none, none, rfl, rfl, hP1, List.nodup_nil, by simp, by simp, by simp⟩
  rw [e2] at hx
  simp [dFrz] at hx
  rw [intsFrom_length] at hP2 hb hz
  rw [gc_pool hP2 (by simp [lowW, lowL_ints])] at hx
  exact ⟨l, P2, hx.symm, hz (by omega), hn, hl, by omega, hP2.mono (by omega)⟩
end SP
namespace SP
open PySem L2 DD U
/-- a target that a node with this index may have -/
def gt (t i n e : Int) : Bool := if t < 0 then decide (-1 - t < e) else decide (i < t) && decide (t < n)
theorem gt_neg {t i n e : Int} (h : t < 0) (h1 : -1 - t < e) : gt t i n e = true := by unfold gt; rw [if_pos h]; simpa using h1
theorem gt_pos {t i n e : Int} (h : 0 ≤ t) (h1 : i < t) (h2 : t < n) : gt t i n e = true := by unfold gt; rw [if_neg (by omega)]; simp [h1, h2]
theorem target_ok {P : O} {S : Sto} {k : Nat} {i n e : Int} (h : Pol k P) (hk : k < 100000000000) (h0 : 0 ≤ i) (h1 : i < n) (h2 : n ≤ 1000) (h3 : 0 < e) (h4 : e ≤ 1000) :
    ∃ (t : Int) (P' : O), U.fn_l_target [.ref 0, .int i, .int n, .int e] (P :: S) = .ok (.int t) (P' :: S) ∧ gt t i n e = true ∧ Pol (k + 4) P' := by
  generalize hx : U.fn_l_target _ _ = x
  unfold U.fn_l_target at hx
  rw [gcF_eq, dFn_eq] at hx
  simp [U.b_l_target, List.replicate_succ] at hx
  by_cases hin : i + 1 < n
  · simp [hin] at hx
    generalize hd__ : U.fn_l_draw _ _ = d__ at hx
    have hs__ := SP.at2 hd__ ((draw_ok h) (by first | omega | with_reducible assumption | (simp; done) | (simp; omega) | rfl) (by first | omega | with_reducible assumption | (simp; done) | (simp; omega) | rfl) (by first | omega | with_reducible assumption | (simp; done) | (simp; omega) | rfl))
    obtain ⟨r, P1, e1, r0, r1, hP1⟩ := hs__
    subst e1
    simp at hx
    by_cases hr : 0 < r
    · simp [hr] at hx
      generalize hd__ : U.fn_l_draw _ _ = d__ at hx
      have hs__ := SP.at2 hd__ ((draw_ok hP1) (by first | omega | with_reducible assumption | (simp; done) | (simp; omega) | rfl) (by first | omega | with_reducible assumption | (simp; done) | (simp; omega) | rfl) (by first | omega | with_reducible assumption | (simp; done) | (simp; omega) | rfl))
      obtain ⟨q, P2, e1, q0, q1, hP2⟩ := hs__
      subst e1
      simp at hx
      by_cases hq : 0 < q
      · simp [hq] at hx
        generalize hd__ : U.fn_l_draw _ _ = d__ at hx
        have hs__ := SP.at2 hd__ ((draw_ok hP2) (by first | omega | with_reducible assumption | (simp; done) | (simp; omega) | rfl) (by first | omega | with_reducible assumption | (simp; done) | (simp; omega) | rfl) (by first | omega | with_reducible assumption | (simp; done) | (simp; omega) | rfl))
        obtain ⟨u, P3, e1, u0, u1, hP3⟩ := hs__
        subst e1
        · simp at hx
          rw [gc_pool0 hP3 rfl] at hx
          refine ⟨_, P3, hx.symm, ?_, hP3.mono (by omega)⟩
          exact gt_pos (by omega) (by omega) (by split at u1 <;> omega)
      · simp [hq] at hx
        generalize hd__ : U.fn_l_draw _ _ = d__ at hx
        have hs__ := SP.at2 hd__ ((draw_ok hP2) (by first | omega | with_reducible assumption | (simp; done) | (simp; omega) | rfl) (by first | omega | with_reducible assumption | (simp; done) | (simp; omega) | rfl) (by first | omega | with_reducible assumption | (simp; done) | (simp; omega) | rfl))
        obtain ⟨u, P3, e1, u0, u1, hP3⟩ := hs__
        subst e1
        simp at hx
        rw [gc_pool0 hP3 rfl] at hx
        refine ⟨_, P3, hx.symm, ?_, hP3.mono (by omega)⟩
        exact gt_pos (by omega) (by omega) (by omega)
    · simp [hr] at hx
      generalize hd__ : U.fn_l_draw _ _ = d__ at hx
      have hs__ := SP.at2 hd__ ((draw_ok hP1) (by first | omega | with_reducible assumption | (simp; done) | (simp; omega) | rfl) (by first | omega | with_reducible assumption | (simp; done) | (simp; omega) | rfl) (by first | omega | with_reducible assumption | (simp; done) | (simp; omega) | rfl))
      obtain ⟨r, P2, e1, r0, r1, hP2⟩ := hs__
      subst e1
      simp at hx
      rw [gc_pool0 hP2 rfl] at hx
      exact ⟨_, P2, hx.symm, gt_neg (by omega) (by omega), hP2.mono (by omega)⟩
  · simp [hin] at hx
    generalize hd__ : U.fn_l_draw _ _ = d__ at hx
    have hs__ := SP.at2 hd__ ((draw_ok h) (by first | omega | with_reducible assumption | (simp; done) | (simp; omega) | rfl) (by first | omega | with_reducible assumption | (simp; done) | (simp; omega) | rfl) (by first | omega | with_reducible assumption | (simp; done) | (simp; omega) | rfl))
    obtain ⟨r, P2, e1, r0, r1, hP2⟩ := hs__
    subst e1
    simp at hx
    rw [gc_pool0 hP2 rfl] at hx
    exact ⟨_, P2, hx.symm, gt_neg (by omega) (by omega), hP2.mono (by omega)⟩
/-- a comprehension of numbers drawn -/
theorem lc_draws {te : DX} {t0 : Lo} {S : Sto} {v : Nat} (ws : List W) (Φ : Int → Prop) (c K : Nat) (hz : ws.length ≤ 1000)
    (h : ∀ w ∈ ws, ∀ (k' : Nat) (P : O), Pol k' P → k' ≤ K → ∃ z P', te (t0.set v (some w)) (P :: S) = .ok (.int z) (P' :: S) ∧ Φ z ∧ Pol (k' + c) P')
    {k : Nat} {P : O} (hP : Pol k P) (hk : k + c * ws.length ≤ K) : ∃ (l : List Int) (P' : O), lcL (.nm v) dYes te t0 ws [] (P :: S) = .ok (.lst (wl l)) (P' :: S) ∧ l.length = ws.length ∧ (∀ z ∈ l, Φ z) ∧ Pol (k + c * ws.length) P' := by
  obtain ⟨acc, S', e, ⟨l, P', rfl, rfl, hl, hP'⟩, hlen⟩ := lcL_inv (g := .nm v) (te := te) (t0 := t0) ws (fun i acc X => ∃ (l : List Int) (P' : O), acc = wl l ∧ X = P' :: S ∧ (∀ z ∈ l, Φ z) ∧ Pol (k + c * i) P') hz
    (fun i w acc X hw ⟨l, P', ha, hX, hl, hP'⟩ => by
      subst ha hX
      have hi : i < ws.length := (List.getElem?_eq_some_iff.mp hw).1
      have hm : c * i ≤ c * ws.length := Nat.mul_le_mul_left c (by omega)
      obtain ⟨z, P2, e, hz, hP2⟩ := h w (List.mem_of_getElem? hw) _ P' hP' (by omega)
      refine ⟨_, _, _, rfl, e, l ++ [z], P2, by simp [wl], rfl, fun x hx => ?_, hP2.mono (by rw [Nat.mul_succ]; omega)⟩
      rcases List.mem_append.mp hx with hx | hx
      · exact hl x hx
      · simp at hx; subst hx; exact hz)
    (S := P :: S) ⟨[], P, rfl, rfl, by simp, by simpa using hP⟩
  exact ⟨l, P', e, by simpa [wl] using hlen, hl, hP'⟩
/-- what the targets of a node lead to, by the lists below it -/
def usedOf (i : Int) (bs : List (List Int)) (ts : List Int) : List Int := ts.flatMap fun t => if 0 ≤ t then bs.getD (t - i - 1).toNat [] else []
structure NdOk (n e : Int) (names : List Int) (sk : Bool) (i : Int) (bs : List (List Int)) (node b : List Int) : Prop where
  ex : ∃ q ts, node = q :: ts ∧ (ts.length = 2 ∨ ts.length = 3 ∧ sk = true) ∧ (∀ t ∈ ts, gt t i n e = true) ∧ q ∈ names ∧ q ∉ usedOf i bs ts ∧ b = usedOf i bs ts ++ [q]
/-- nodes from the index i on, and what is asked from each on -/
inductive Nds (n e : Int) (names : List Int) (sk : Bool) : Int → List (List Int) → List (List Int) → Prop
  | nil : Nds n e names sk n [] []
  | cons {i : Int} {nodes bs : List (List Int)} {node b : List Int} : 0 ≤ i → Nds n e names sk (i + 1) nodes bs → NdOk n e names sk i bs node b → Nds n e names sk i (node :: nodes) (b :: bs)
theorem Nds.len {n e : Int} {names : List Int} {sk : Bool} {i : Int} {nodes bs : List (List Int)} (h : Nds n e names sk i nodes bs) : (nodes.length : Int) = n - i ∧ bs.length = nodes.length := by
  induction h with
  | nil => simp
  | cons h0 h1 h2 ih => simp; omega
theorem gt_lt {t i n e : Int} (h : gt t i n e = true) (h0 : 0 ≤ t) : i < t ∧ t < n := by
  unfold gt at h; rw [if_neg (by omega)] at h; simpa using h
theorem usedOf_len {i : Int} {bs : List (List Int)} {M : Nat} (h : ∀ b ∈ bs, 2 * b.length + 1 ≤ M) (h1 : 1 ≤ M) : ∀ ts : List Int, 2 * (usedOf i bs ts).length ≤ ts.length * (M - 1)
  | [] => by simp [usedOf]
  | t :: ts => by
    have ih := usedOf_len (i := i) h h1 ts
    have : 2 * (if 0 ≤ t then bs.getD (t - i - 1).toNat [] else []).length ≤ M - 1 := by
      split
      · rw [List.getD_eq_getElem?_getD]
        cases e : bs[(t - i - 1).toNat]? with
        | none => simp
        | some b =>
          have := h b (List.mem_of_getElem? e)
          simp; omega
      · simp
    simp only [usedOf, List.flatMap_cons, List.length_append, List.length_cons] at ih ⊢
    rw [Nat.add_mul]
    omega
theorem Nds.short {n e : Int} {names : List Int} {sk : Bool} {i : Int} {nodes bs : List (List Int)} (h : Nds n e names sk i nodes bs) : ∀ b ∈ bs, 2 * b.length + 1 ≤ 3 ^ bs.length := by
  induction h with
  | nil => simp
  | @cons i nodes bs node b h0 h1 h2 ih =>
    have hp : 1 ≤ 3 ^ bs.length := Nat.pow_pos (by decide)
    intro c hc
    rcases List.mem_cons.mp hc with rfl | hc
    · obtain ⟨q, ts, _, hl, _, _, _, rfl⟩ := h2.ex
      have := usedOf_len (i := i) ih hp ts
      have hl' : ts.length * (3 ^ bs.length - 1) ≤ 3 * (3 ^ bs.length - 1) := Nat.mul_le_mul_right _ (by omega)
      simp only [List.length_append, List.length_cons, List.length_nil, Nat.pow_succ]
      omega
    · have := ih c hc
      simp only [List.length_cons, Nat.pow_succ]
      omega
theorem ndloop {n e : Int} {i : Int} {bs : List (List Int)} {S : Sto} {P : O} {x : O} {g : Sto} {M : Nat} (hi : 0 ≤ i) (hb : (bs.length : Int) = n - (i + 1)) (hM : ∀ b ∈ bs, b.length ≤ M) (w1 w2 w3 w4 w5 w7 w9 w10 : Option W) (w13 w14 w15 w16 : Option W) :
    ∀ (ts : List Int), (∀ t ∈ ts, gt t i n e = true) → ∀ (acc : List Int) (w12 : Option W), acc.length + ts.length * M ≤ 16777216 → ∃ w12', forL (gN 12) b_l_nodes_l0 (wl ts) [some (.ref 0), w1, w2, w3, w4, w5, some (.ref (S.length + 2)), w7, some (.int i), w9, w10, some (lW acc), w12, w13, w14, w15, w16] (P :: (S ++ x :: .lst (bs.map lW) :: g)) = .nx [some (.ref 0), w1, w2, w3, w4, w5, some (.ref (S.length + 2)), w7, some (.int i), w9, w10, some (lW (acc ++ usedOf i bs ts)), w12', w13, w14, w15, w16] (P :: (S ++ x :: .lst (bs.map lW) :: g))
  | [], _, acc, w12, _ => ⟨w12, by simp [usedOf]⟩
  | t :: ts, hg, acc, w12, hz => by
    have hu : usedOf i bs (t :: ts) = (if 0 ≤ t then bs.getD (t - i - 1).toNat [] else []) ++ usedOf i bs ts := rfl
    rw [hu]
    rw [List.length_cons, Nat.add_mul] at hz
    rw [show wl (t :: ts) = W.int t :: wl ts from rfl, forL_cons]
    generalize hx : turn _ _ _ _ _ = y
    simp [turn, b_l_nodes_l0, gN] at hx
    by_cases ht : 0 ≤ t
    · have h1 := gt_lt (hg t (List.mem_cons_self ..)) ht
      obtain ⟨b, hbe⟩ : ∃ b, bs[(t - i - 1).toNat]? = some b := ⟨bs[(t - i - 1).toNat]'(by omega), List.getElem?_eq_getElem _⟩
      have hbl := hM b (List.mem_of_getElem? hbe)
      have hix : ixD (.ref (S.length + 2)) (.int (t - i - 1)) (P :: (S ++ x :: .lst (bs.map lW) :: g)) = .ok (lW b) (P :: (S ++ x :: .lst (bs.map lW) :: g)) := by
        refine e_ixR (ws := bs.map lW) ?_ ?_
        · show (S ++ x :: .lst (bs.map lW) :: g)[S.length + 1]? = _
          exact app_get1
        · exact atI_get (by omega) (by rw [List.getElem?_map, hbe]; rfl)
      simp [ht, hix, e_catL (show acc.length + b.length ≤ 16777216 by omega)] at hx
      subst hx
      simp only []
      obtain ⟨w12', e⟩ := ndloop hi hb hM w1 w2 w3 w4 w5 w7 w9 w10 w13 w14 w15 w16 ts (fun z hz => hg z (List.mem_cons_of_mem _ hz)) (acc ++ b) (some (.int t)) (by simp; omega)
      refine ⟨w12', ?_⟩
      rw [if_pos ht, List.getD_eq_getElem?_getD, hbe, ← List.append_assoc]
      exact e
    · simp [ht] at hx
      subst hx
      simp only []
      obtain ⟨w12', e⟩ := ndloop hi hb hM w1 w2 w3 w4 w5 w7 w9 w10 w13 w14 w15 w16 ts (fun z hz => hg z (List.mem_cons_of_mem _ hz)) acc (some (.int t)) (by omega)
      refine ⟨w12', ?_⟩
      rw [if_neg ht]
      exact e
theorem e_eqL0 {S : Sto} {a : List Int} : eqD (lW a) (.lst []) S = .ok (.bl (decide (a = []))) S := e_eqLI (b := [])
theorem low_nodes {m : Nat} {l : List (List Int)} : lowW m (.lst (l.map nW)) = true := lowL_all fun w hw => by
  obtain ⟨a, _, rfl⟩ := List.mem_map.mp hw
  simp [lowW, lowL_ints]
theorem pow3 {m : Nat} (h : m ≤ 12) : 3 ^ m ≤ 531441 := Nat.le_trans (Nat.pow_le_pow_right (by decide) h) (by decide)
theorem nodes_ok {P : O} {S : Sto} {k : Nat} {n e : Int} {names : List Int} {sk : Bool} (h : Pol k P) (hk : k < 10000000000) (h0 : 0 ≤ n) (h1 : n ≤ 12) (h2 : 0 < e) (h3 : e ≤ 100) (hn : names ≠ []) (hl : names.length ≤ 100) :
    ∃ (nodes bs : List (List Int)) (P' : O), U.fn_l_nodes [.ref 0, .int n, .int e, lW names, .bl sk] (P :: S) = .ok (.lst (nodes.map nW)) (P' :: S) ∧ Nds n e names sk 0 nodes bs ∧ Pol (k + 1000) P' := by
  generalize hx : U.fn_l_nodes _ _ = x
  unfold U.fn_l_nodes at hx
  rw [gcF_eq, dFn_eq] at hx
  simp [U.b_l_nodes, List.replicate_succ, sizeLine_eq, rgI (show -1000000 ≤ n by omega) (by omega)] at hx
  obtain ⟨t', X, e2, nodes, bs, P2, w7, w8, w9, w10, w11, w12, w13, w14, w15, w16, rfl, rfl, hP2, hN⟩ := forL_inv (g := gN 7) (b := b_l_nodes_l1) (intsFrom 0 n.toNat)
    (fun i t X => ∃ (nodes bs : List (List Int)) (P2 : O) (w7 w8 w9 w10 w11 w12 w13 w14 w15 w16 : Option W), t = [some (.ref 0), some (.int n), some (.int e), some (lW names), some (.bl sk), some (.ref (S.length + 1)), some (.ref (S.length + 2)), w7, w8, w9, w10, w11, w12, w13, w14, w15, w16] ∧ X = P2 :: (S ++ [.lst (nodes.map nW), .lst (bs.map lW)]) ∧ Pol (k + 50 * i) P2 ∧ Nds n e names sk (n - i) nodes bs)
    (fun i w t X hw ⟨nodes, bs, P2, w7, w8, w9, w10, w11, w12, w13, w14, w15, w16, ht, hX, hP2, hN⟩ => by
      subst ht hX
      obtain ⟨hi, rfl⟩ := intsFrom_mem hw
      have hlen := hN.len
      have hsh := hN.short
      have hp3 : 3 ^ bs.length ≤ 531441 := pow3 (by omega)
      generalize hx : turn _ _ _ _ _ = x
      simp [turn, b_l_nodes_l1, gN] at hx
      generalize htl : dSeq (dAsg (dLc _ _ _ _ _) (gN 10)) _ = tl at hx
      have key : ∀ (wd : Int) (P3 : O), (wd = 2 ∨ wd = 3 ∧ sk = true) → Pol (k + 50 * i + 1) P3 → tl [some (W.ref 0), some (W.int n), some (W.int e), some (lW names), some (W.bl sk), some (W.ref (S.length + 1)), some (W.ref (S.length + 2)), some (W.int i), some (W.int (n - 1 - i)), some (.int wd), w10, w11, w12, w13, w14, w15, w16] (P3 :: (S ++ [O.lst (nodes.map nW), O.lst (bs.map lW)])) = x → ∃ t' S', (x = F.nx t' S' ∨ x = F.ct t' S') ∧ ∃ (nodes bs : List (List Int)) (P2 : O) (w7 w8 w9 w10 w11 w12 w13 w14 w15 w16 : Option W), t' = [some (.ref 0), some (.int n), some (.int e), some (lW names), some (.bl sk), some (.ref (S.length + 1)), some (.ref (S.length + 2)), w7, w8, w9, w10, w11, w12, w13, w14, w15, w16] ∧ S' = P2 :: (S ++ [.lst (nodes.map nW), .lst (bs.map lW)]) ∧ Pol (k + 50 * (i + 1)) P2 ∧ Nds n e names sk (n - (i + 1 : Nat)) nodes bs := by
        intro wd P3 hwd hP3 hx
        subst htl
        have hwd3 : 2 ≤ wd ∧ wd ≤ 3 := by rcases hwd with h | h <;> omega
        simp [rgI (show -1000000 ≤ wd by omega) (by omega)] at hx
        generalize hd__ : DD.lcL _ _ _ _ _ _ _ = d__ at hx
        have hs__ := SP.at2 hd__ ((lc_draws (Φ := fun t => gt t (n - 1 - i) n e = true) (c := 4) (K := 90000000000) (P := P3) (k := k + 50 * i + 1)) _ ?_ ?_ (by first | omega | with_reducible assumption | (simp; done) | (simp; omega) | rfl) ?_)
        obtain ⟨ts, P4, e4, hts, hgt, hP4⟩ := hs__
        subst e4
        · have hlt : ts.length = wd.toNat := by rw [hts, intsFrom_length]
          rw [intsFrom_length] at hP4
          simp [sizeLine_eq] at hx
          generalize hd__ : DD.forL _ _ _ _ _ = d__ at hx
          have hs__ := SP.aq1 hd__ (((ndloop (n := n) (e := e) (bs := bs) (i := n - 1 - i) (M := 265720) (by omega) (by omega) (fun b hb => by have := hsh b hb; omega) _ _ _ _ _ _ _ _ _ _ _ _ ts hgt [])) _ (by first | omega | with_reducible assumption | (simp; done) | (simp; omega) | rfl))
          obtain ⟨w12', e5⟩ := hs__
          subst e5
          · simp [dLcA] at hx
            generalize hd__ : DD.lcL _ _ _ _ _ _ _ = d__ at hx
            have hs__ := SP.aq0 hd__ ((lc_filterI (fun z => !decide (z ∈ usedOf (n - 1 - i) bs ts))) _ (by first | omega | with_reducible assumption | (simp; done) | (simp; omega) | rfl) ?_)
            subst hs__
            · have hul := usedOf_len (i := n - 1 - i) hsh (Nat.pow_pos (by decide)) ts
              have hul2 : ts.length * (3 ^ bs.length - 1) ≤ 3 * 531441 := Nat.mul_le_mul (by omega) (by omega)
              simp [e_eqL0, sizeLine_eq] at hx
              generalize htl : dSeq (dAsg (dOp ixD (dVar 13) _) (gN 14)) _ = tl at hx
              have key2 : ∀ (ts used free : List Int) (P5 : O) (w15 w16 : Option W), ts.length = wd.toNat → (∀ t ∈ ts, gt t (n - 1 - i) n e = true) → used = usedOf (n - 1 - i) bs ts → used.length ≤ 1000000 → free ≠ [] → free.length ≤ 100 → (∀ q ∈ free, q ∈ names ∧ q ∉ used) → Pol (k + 50 * i + 40) P5 →
                  tl [some (W.ref 0), some (W.int n), some (W.int e), some (lW names), some (W.bl sk), some (W.ref (S.length + 1)), some (W.ref (S.length + 2)), some (W.int i), some (W.int (n - 1 - i)), some (.int wd), some (lW ts), some (lW used), w12', some (lW free), w14, w15, w16] (P5 :: (S ++ [O.lst (nodes.map nW), O.lst (bs.map lW)])) = x → ∃ t' S', (x = F.nx t' S' ∨ x = F.ct t' S') ∧ ∃ (nodes bs : List (List Int)) (P2 : O) (w7 w8 w9 w10 w11 w12 w13 w14 w15 w16 : Option W), t' = [some (.ref 0), some (.int n), some (.int e), some (lW names), some (.bl sk), some (.ref (S.length + 1)), some (.ref (S.length + 2)), w7, w8, w9, w10, w11, w12, w13, w14, w15, w16] ∧ S' = P2 :: (S ++ [.lst (nodes.map nW), .lst (bs.map lW)]) ∧ Pol (k + 50 * (i + 1)) P2 ∧ Nds n e names sk (n - (i + 1 : Nat)) nodes bs := by
                intro ts used free P5 w15 w16 hlt hgt hus hul hfe hfl hfr hP5 hx
                subst htl
                have hfp : 0 < free.length := List.length_pos_iff.mpr hfe
                simp at hx
                generalize hd__ : U.fn_l_draw _ _ = d__ at hx
                have hs__ := SP.at2 hd__ ((draw_ok hP5) (by first | omega | with_reducible assumption | (simp; done) | (simp; omega) | rfl) (by first | omega | with_reducible assumption | (simp; done) | (simp; omega) | rfl) (by first | omega | with_reducible assumption | (simp; done) | (simp; omega) | rfl))
                obtain ⟨r, P6, e7, r0, r1, hP6⟩ := hs__
                subst e7
                obtain ⟨q, hq⟩ : ∃ q, free[r.toNat]? = some q := ⟨free[r.toNat]'(by omega), List.getElem?_eq_getElem _⟩
                have hqm := hfr q (List.mem_of_getElem? hq)
                have c1 : ∀ S, addD (.lst [.int q]) (lW ts) S = .ok (lW (q :: ts)) S := fun S => e_catL (a := [q]) (by simp; omega)
                have c2 : ∀ S, addD (lW used) (.lst [.int q]) S = .ok (lW (used ++ [q])) S := fun S => e_catL (b := [q]) (by simp; omega)
                simp [e_ixL (show atI (wl free) r = some (.int q) from atI_get r0 (by rw [List.getElem?_map, hq]; rfl)), seqL, sizeLine_eq, c1, c2, insertM, show nodes.length < 16777216 by omega, show bs.length < 16777216 by omega, app_get1, app_set1] at hx
                subst hx
                refine ⟨_, _, .inl rfl, (q :: ts) :: nodes, (used ++ [q]) :: bs, P6, _, _, _, _, _, _, _, _, _, _, rfl, by simp, hP6.mono (by omega), ?_⟩
                rw [show n - ((i + 1 : Nat) : Int) = n - 1 - i by omega]
                refine .cons (by omega) (by rw [show n - 1 - (i : Int) + 1 = n - i by omega]; exact hN) ⟨q, ts, rfl, ?_, hgt, hqm.1, hus ▸ hqm.2, by rw [hus]⟩
                rcases hwd with h | h
                · left; omega
                · right; exact ⟨by omega, h.2⟩
              by_cases hfr : names.filter (fun z => !decide (z ∈ usedOf (n - 1 - i) bs ts)) = []
              · have hfr' : ∀ (a : Int), a ∈ names → a ∈ usedOf (n - 1 - i) bs ts := fun a ha => by simpa using List.filter_eq_nil_iff.mp hfr a ha
                rw [if_pos (by simpa using hfr')] at hx
                simp [rgI (show -1000000 ≤ wd by omega) (by omega)] at hx
                generalize hd__ : DD.lcL _ _ _ _ _ _ _ = d__ at hx
                have hs__ := SP.at2 hd__ ((lc_draws (Φ := fun t => t < 0 ∧ -1 - t < e) (c := 1) (K := 90000000000) (P := P4) (k := k + 50 * i + 1 + 4 * wd.toNat)) _ (by first | omega | with_reducible assumption | (simp; done) | (simp; omega) | rfl) ?_ (by first | omega | with_reducible assumption | (simp; done) | (simp; omega) | rfl) (by first | omega | with_reducible assumption | (simp; done) | (simp; omega) | rfl))
                obtain ⟨ts2, P5, e8, hts2, hgt2, hP5⟩ := hs__
                subst e8
                · rw [intsFrom_length] at hP5 hts2
                  simp [sizeLine_eq] at hx
                  have hu0 : usedOf (n - 1 - i) bs ts2 = [] := by
                    unfold usedOf
                    rw [List.flatMap_eq_nil_iff]
                    intro t ht
                    rw [if_neg (by have := hgt2 t ht; omega)]
                  exact key2 ts2 [] names P5 _ _ hts2 (fun t ht => gt_neg (hgt2 t ht).1 (hgt2 t ht).2) hu0.symm (by simp) hn hl (fun q hq => ⟨hq, by simp⟩) (hP5.mono (by omega)) hx
                · intro w hw k' P' hP' hk'
                  generalize hy : dOp _ _ _ _ _ = y
                  simp at hy
                  generalize hd__ : U.fn_l_draw _ _ = d__ at hy
                  have hs__ := SP.at2 hd__ ((draw_ok hP') (by first | omega | with_reducible assumption | (simp; done) | (simp; omega) | rfl) (by first | omega | with_reducible assumption | (simp; done) | (simp; omega) | rfl) (by first | omega | with_reducible assumption | (simp; done) | (simp; omega) | rfl))
                  obtain ⟨r, P6, e7, r0, r1, hP6⟩ := hs__
                  subst e7
                  simp at hy
                  exact ⟨_, P6, hy.symm, by omega, hP6⟩
              · have hfr' : ¬ ∀ (a : Int), a ∈ names → a ∈ usedOf (n - 1 - i) bs ts := fun z => hfr (List.filter_eq_nil_iff.mpr fun a ha => by simp [z a ha])
                simp [hfr'] at hx
                exact key2 ts (usedOf (n - 1 - i) bs ts) _ P4 _ _ hlt hgt rfl (by omega) hfr (Nat.le_trans (List.length_filter_le ..) hl) (fun q hq => by
                  have := List.mem_filter.mp hq
                  exact ⟨this.1, by simpa using this.2⟩) (hP4.mono (by omega)) hx
            · intro z hz
              exact ⟨_, rfl, by simp [e_notInLI], by simp⟩
        · rw [intsFrom_length]; omega
        · intro w hw k' P' hP' hk'
          simp
          exact target_ok hP' (by omega) (by omega) (by omega) (by omega) (by omega) (by omega)
        · rw [intsFrom_length]; omega
      cases sk with
      | false =>
        simp [truW] at hx
        exact key 2 P2 (.inl rfl) (hP2.mono (by omega)) hx
      | true =>
        simp [truW] at hx
        generalize hd__ : U.fn_l_draw _ _ = d__ at hx
        have hs__ := SP.at2 hd__ ((draw_ok hP2) (by first | omega | with_reducible assumption | (simp; done) | (simp; omega) | rfl) (by first | omega | with_reducible assumption | (simp; done) | (simp; omega) | rfl) (by first | omega | with_reducible assumption | (simp; done) | (simp; omega) | rfl))
        obtain ⟨r, P3, e3, r0, r1, hP3⟩ := hs__
        subst e3
        simp at hx
        by_cases hr : r = 0
        · simp [hr] at hx
          exact key 3 P3 (.inr ⟨rfl, rfl⟩) hP3 hx
        · simp [hr] at hx
          exact key 2 P3 (.inl rfl) hP3 hx)
    (t := [some (.ref 0), some (.int n), some (.int e), some (lW names), some (.bl sk), some (.ref (S.length + 1)), some (.ref (S.length + 2)), none, none, none, none, none, none, none, none, none, none]) (S := P :: (S ++ [.lst [], .lst []]))
    ⟨[], [], P, none, none, none, none, none, none, none, none, none, none, rfl, rfl, h, by simpa using Nds.nil⟩
  rw [e2] at hx
  simp [dFrz] at hx
  rw [intsFrom_length] at hP2 hN
  rw [gc_pool hP2 low_nodes] at hx
  rw [show n - (n.toNat : Int) = 0 by omega] at hN
  exact ⟨nodes, bs, P2, hx.symm, hN, hP2.mono (by omega)⟩
end SP
namespace SP
open PySem L2 DD U
/-! ### bits -/
theorem bitOr_nat (a b : Nat) : Builtin.bitOr (a : Int) (b : Int) = ((a ||| b : Nat) : Int) := by
  unfold Builtin.bitOr Builtin.bitAnd Builtin.bitNot
  have h1 : ¬ (0 : Int) ≤ -(a : Int) - 1 := by omega
  have h2 : ¬ (0 : Int) ≤ -(b : Int) - 1 := by omega
  simp only [h1, h2, decide_false]
  have e1 : (-(-(a : Int) - 1) - 1).toNat = a := by omega
  have e2 : (-(-(b : Int) - 1) - 1).toNat = b := by omega
  rw [e1, e2]
  omega
theorem e_or {S : Sto} (a b : Nat) : iOr (.int a) (.int b) S = .ok (.int ((a ||| b : Nat) : Int)) S := by
  show (if yes2 a b = true then R.ok (W.int (Builtin.bitOr a b)) S else .no) = _
  rw [if_pos (show yes2 a b = true from rfl), bitOr_nat]
theorem e_shl1 {S : Sto} {q : Int} (h0 : 0 ≤ q) (h1 : q < 1000) : iShl (.int 1) (.int q) S = .ok (.int (2 ^ q.toNat)) S := by
  show (if powOk 1 q = true then R.ok (W.int (1 * 2 ^ q.toNat)) S else .no) = _
  rw [if_pos (by unfold powOk; simp; omega), Int.one_mul]
theorem e_orP {S : Sto} {a k : Nat} : iOr (.int a) (.int (2 ^ k)) S = .ok (.int ((a ||| 2 ^ k : Nat) : Int)) S := by
  have := e_or (S := S) a (2 ^ k)
  rwa [show ((2 ^ k : Nat) : Int) = (2 : Int) ^ k by simp] at this
theorem e_bit {S : Sto} {q a : Int} (h0 : 0 ≤ q) : iShr (.int a) (.int q) S = .ok (.int (a / 2 ^ q.toNat)) S := by
  show (if decide (0 ≤ q) = true then R.ok (W.int ((a : Int) / 2 ^ q.toNat)) S else .no) = _
  rw [if_pos (by simpa using h0)]
theorem e_and1 {S : Sto} {a : Int} : iAnd (.int a) (.int 1) S = .ok (.int (a % 2)) S := by
  show (if yes2 a 1 = true then R.ok (W.int (Builtin.bitAnd a 1)) S else .no) = _
  rw [if_pos (show yes2 a 1 = true from rfl), PyProof.Rows.bitAnd_m1]
/-! ### a node -/
def gn (node : List Int) (i n e : Int) : Bool := (node.length == 3 || node.length == 4) && decide (0 ≤ node.headD 0) && decide (node.headD 0 < 48) && node.tail.all fun t => gt t i n e
theorem good_target_eq {t i n e : Int} {S : Sto} : U.fn_good_target [.int t, .int i, .int n, .int e] S = .ok (.bl (gt t i n e)) S := by
  unfold U.fn_good_target
  rw [gcF_eq, dFn_eq]
  simp [U.b_good_target, gt]
  by_cases h : t < 0
  · simp [h]; exact gc_same rfl
  · simp [h]
    by_cases h1 : i < t
    · simp [h1]; exact gc_same rfl
    · simp [h1]; exact gc_same rfl
theorem cut_lo {xs : List W} {a : Int} (h : 0 ≤ a) : cutW xs (some a) none = xs.drop a.toNat := by
  unfold cutW HT.sIx
  simp only []
  rw [if_neg (by omega)]
  by_cases hl : a.toNat ≤ xs.length
  · rw [Nat.min_eq_left hl, List.take_of_length_le (by simp)]
  · rw [Nat.min_eq_right (by omega), List.drop_eq_nil_of_le (by omega : xs.length ≤ a.toNat)]; simp
theorem cut_hi {xs : List W} {b : Int} (h : 0 ≤ b) : cutW xs none (some b) = xs.take b.toNat := by
  unfold cutW HT.sIx
  simp only [List.drop_zero, Nat.sub_zero]
  rw [if_neg (by omega)]
  by_cases hl : b.toNat ≤ xs.length
  · rw [Nat.min_eq_left hl]
  · rw [Nat.min_eq_right (by omega), List.take_of_length_le (Nat.le_refl _), List.take_of_length_le (by omega)]
theorem cut_lohi {xs : List W} {a b : Int} (h : 0 ≤ a) (h1 : 0 ≤ b) : cutW xs (some a) (some b) = (xs.drop a.toNat).take (b.toNat - a.toNat) := by
  unfold cutW HT.sIx
  simp only []
  rw [if_neg (by omega), if_neg (by omega)]
  by_cases hl : a.toNat ≤ xs.length
  · rw [Nat.min_eq_left hl]
    by_cases hb : b.toNat ≤ xs.length
    · rw [Nat.min_eq_left hb]
    · rw [Nat.min_eq_right (by omega), List.take_of_length_le (by simp), List.take_of_length_le (by simp; omega)]
  · rw [Nat.min_eq_right (show xs.length ≤ a.toNat by omega), List.drop_eq_nil_of_le (by omega : xs.length ≤ a.toNat), List.drop_length]; simp
@[simp] theorem e_sl {d : DX} {lo hi : DO} {t : Lo} {S : Sto} : dSl d lo hi t S = (d t S).bind fun w S1 => (lo t S1).bind fun a S2 => (hi t S2).bind fun b S3 => match slW w a b S3 with
  | .ok x S4 => .ok x S4
  | _ => .no := rfl
@[simp] theorem e_part {d : DX} {t : Lo} {S : Sto} : dPart d t S = (d t S).bind fun w S1 => match w with
  | .int i => .ok (some i) S1
  | _ => .no := rfl
@[simp] theorem e_noP {t : Lo} {S : Sto} : dNoP t S = .ok none S := rfl
@[simp] theorem e_slT {ws : List W} {a b : Option Int} {S : Sto} : slW (.tup ws) a b S = .ok (.tup (cutW ws a b)) S := rfl
@[simp] theorem e_slL {ws : List W} {a b : Option Int} {S : Sto} : slW (.lst ws) a b S = .ok (.lst (cutW ws a b)) S := rfl
@[simp] theorem e_ixN0 {q : Int} {ts : List Int} {S : Sto} : ixD (nW (q :: ts)) (.int 0) S = .ok (.int q) S := e_ixT (atI0 _ _)
theorem good_node_eq {node : List Int} {i n e : Int} {S : Sto} : U.fn_good_node [nW node, .int i, .int n, .int e] S = .ok (.bl (gn node i n e)) S := by
  generalize hx : U.fn_good_node _ _ = x
  unfold U.fn_good_node at hx
  rw [gcF_eq, dFn_eq] at hx
  simp [U.b_good_node, sizeLine_eq] at hx
  have hn : ∀ S, notInD (.int node.length) (.tup [.int 3, .int 4]) S = .ok (.bl (!decide ((node.length : Int) ∈ [3, 4]))) S := fun S => e_notInTI (l := [3, 4])
  simp [hn] at hx
  by_cases h : node.length = 3 ∨ node.length = 4
  · have h' : (node.length : Int) = 3 ∨ (node.length : Int) = 4 := by omega
    obtain ⟨q, ts, rfl⟩ : ∃ q ts, node = q :: ts := by
      cases node with
      | nil => simp at h
      | cons q ts => exact ⟨q, ts, rfl⟩
    have hg : gn (q :: ts) i n e = (decide (0 ≤ q) && decide (q < 48) && ts.all fun t => gt t i n e) := by
      unfold gn
      simp only [List.length_cons] at h
      rcases h with h | h <;> simp [h]
    rw [hg]
    simp only [List.length_cons] at h h'
    have h3 : ¬ (¬ (ts.length : Int) + 1 = 3 ∧ ¬ (ts.length : Int) + 1 = 4) := by omega
    simp [h3, cut_lo] at hx
    by_cases hq : 0 ≤ q ∧ q < 48
    · simp [hq, cut_lo] at hx
      generalize hd__ : DD.lcL _ _ _ _ _ _ _ = d__ at hx
      have hs__ := SP.aq0 hd__ ((lcL_map (fun w => match w with | .int t => .bl (gt t i n e) | _ => .non)) _ (by first | omega | with_reducible assumption | (simp; done) | (simp; omega) | rfl) ?_)
      subst hs__
      · rw [List.map_map] at hx
        simp [Function.comp_def, e_all (blsOf_map (fun t => gt t i n e) ts)] at hx
        rw [gc_same rfl] at hx
        rw [← hx]; simp [hq]
      · intro w hw
        obtain ⟨t, _, rfl⟩ := List.mem_map.mp hw
        exact ⟨_, rfl, by simp [good_target_eq]⟩
    · have : ¬ 0 ≤ q ∨ ¬ q < 48 := by omega
      by_cases h0 : 0 ≤ q
      · have : ¬ q < 48 := by omega
        simp [h0, this] at hx ⊢
        rw [gc_same rfl] at hx
        exact hx.symm
      · simp [h0] at hx ⊢
        rw [gc_same rfl] at hx
        exact hx.symm
  · have h' : ¬ ((node.length : Int) = 3 ∨ (node.length : Int) = 4) := by omega
    have h1 : node.length ≠ 3 := by omega
    have h2 : node.length ≠ 4 := by omega
    have h1' : ¬ (node.length : Int) = 3 := by omega
    have h2' : ¬ (node.length : Int) = 4 := by omega
    simp [h1', h2'] at hx
    rw [gc_same rfl] at hx
    rw [← hx]; simp [gn, h1, h2]
/-! ### what is asked behind a node -/
abbrev nl (l : List Nat) : List W := l.map fun (m : Nat) => W.int (m : Int)
def bh (off : Nat) (ms : List Nat) (b : Nat) (ts : List Int) : Nat := ts.foldl (fun b t => if 0 ≤ t then b ||| ms.getD (t.toNat - off - 1) 0 else b) b
/-- the masks of the nodes from off on, all targets counted -/
def mk (off : Nat) : List (List Int) → List Nat
  | [] => []
  | node :: rest => (bh off (mk (off + 1) rest) 0 node.tail ||| 2 ^ (node.headD 0).toNat) :: mk (off + 1) rest
/-- the least node whose question comes again behind it -/
def rp (off : Nat) : List (List Int) → Option Nat
  | [] => none
  | node :: rest => if (bh off (mk (off + 1) rest) 0 node.tail).testBit (node.headD 0).toNat = true then some off else rp (off + 1) rest
/-- the masks without skips -/
def mka (off : Nat) : List (List Int) → List Nat
  | [] => []
  | node :: rest => bh off (mka (off + 1) rest) (2 ^ (node.headD 0).toNat) (node.tail.take 2) :: mka (off + 1) rest
theorem mk_len {off : Nat} : ∀ {l : List (List Int)}, (mk off l).length = l.length
  | [] => rfl
  | _ :: l => by simp [mk, mk_len (off := off + 1) (l := l)]
theorem mka_len {off : Nat} : ∀ {l : List (List Int)}, (mka off l).length = l.length
  | [] => rfl
  | _ :: l => by simp [mka, mka_len (off := off + 1) (l := l)]
def oW : Option Nat → W
  | none => .non
  | some i => .int i
theorem low_oW {n : Nat} {o : Option Nat} : lowW n (oW o) = true := by cases o <;> rfl
/-- all nodes are good -/
def Gns (nodes : List (List Int)) (e : Int) : Prop := ∀ (i : Nat) (node : List Int), nodes[i]? = some node → gn node i nodes.length e = true
theorem gn_cons {node : List Int} {i n e : Int} (h : gn node i n e = true) : ∃ q ts, node = q :: ts ∧ (ts.length = 2 ∨ ts.length = 3) ∧ 0 ≤ q ∧ q < 48 ∧ ∀ t ∈ ts, gt t i n e = true := by
  cases node with
  | nil => simp [gn] at h
  | cons q ts =>
    simp [gn] at h
    exact ⟨q, ts, rfl, by omega, h.1.1.2, h.1.2, h.2⟩
theorem intsDown_mem {hi : Int} {n i : Nat} {w : W} (h : (intsDown hi n)[i]? = some w) : i < n ∧ w = .int (hi - i) := by
  obtain ⟨h1, h2⟩ := intsDown_get n hi i w h
  exact ⟨h1, by rw [h2]; congr 1; omega⟩
theorem nl_get {l : List Nat} {i : Nat} {m : Nat} (h : l[i]? = some m) : (nl l)[i]? = some (.int m) := by simp [h]
/-- the loop over the targets -/
theorem rploop {n e : Int} {i : Nat} {M ms : List Nat} {S : Sto} {g : Sto} (hM : ∀ t : Nat, i < t → (t : Int) < n → M[t]? = some (ms.getD (t - i - 1) 0)) (w0 w2 w3 w6 w7 : Option W) :
    ∀ (ts : List Int), (∀ t ∈ ts, gt t i n e = true) → ∀ (b : Nat) (w5 : Option W), ∃ w5', forL (gN 5) b_repeats_l0 (wl ts) [w0, some (.ref S.length), w2, w3, some (.int b), w5, w6, w7] (S ++ .lst (nl M) :: g) = .nx [w0, some (.ref S.length), w2, w3, some (.int (bh i ms b ts : Nat)), w5', w6, w7] (S ++ .lst (nl M) :: g)
  | [], _, b, w5 => ⟨w5, by simp [bh]⟩
  | t :: ts, hg, b, w5 => by
    rw [show wl (t :: ts) = W.int t :: wl ts from rfl, forL_cons]
    generalize hx : turn _ _ _ _ _ = y
    simp only [turn, b_repeats_l0, gN] at hx
    by_cases ht : 0 ≤ t
    · have h1 := gt_lt (hg t (List.mem_cons_self ..)) ht
      have hix : ixD (.ref S.length) (.int t) (S ++ .lst (nl M) :: g) = .ok (.int (ms.getD (t.toNat - i - 1) 0 : Nat)) (S ++ .lst (nl M) :: g) :=
        e_ixR (ws := nl M) app_get (atI_get ht (nl_get (hM t.toNat (by omega) (by omega))))
      simp [ht, dAug, hix, e_or, -List.getD_eq_getElem?_getD] at hx
      subst hx
      obtain ⟨w5', e⟩ := rploop (S := S) (g := g) hM w0 w2 w3 w6 w7 ts (fun z hz => hg z (List.mem_cons_of_mem _ hz)) (b ||| ms.getD (t.toNat - i - 1) 0) (some (.int t))
      refine ⟨w5', ?_⟩
      have : bh i ms b (t :: ts) = bh i ms (b ||| ms.getD (t.toNat - i - 1) 0) ts := by simp [bh, ht]
      rw [this]
      exact e
    · simp [ht] at hx
      subst hx
      obtain ⟨w5', e⟩ := rploop (S := S) (g := g) hM w0 w2 w3 w6 w7 ts (fun z hz => hg z (List.mem_cons_of_mem _ hz)) b (some (.int t))
      refine ⟨w5', ?_⟩
      have : bh i ms b (t :: ts) = bh i ms b ts := by simp [bh, ht]
      rw [this]
      exact e
/-- the loop over the targets, in asked_behind -/
theorem abloop {n e : Int} {i : Nat} {M ms : List Nat} {S : Sto} {g : Sto} (hM : ∀ t : Nat, i < t → (t : Int) < n → M[t]? = some (ms.getD (t - i - 1) 0)) (w0 w2 : Option W) :
    ∀ (ts : List Int), (∀ t ∈ ts, gt t i n e = true) → ∀ (b : Nat) (w5 : Option W), ∃ w5', forL (gN 4) b_asked_behind_l0 (wl ts) [w0, some (.ref S.length), w2, some (.int b), w5] (S ++ .lst (nl M) :: g) = .nx [w0, some (.ref S.length), w2, some (.int (bh i ms b ts : Nat)), w5'] (S ++ .lst (nl M) :: g)
  | [], _, b, w5 => ⟨w5, by simp [bh]⟩
  | t :: ts, hg, b, w5 => by
    rw [show wl (t :: ts) = W.int t :: wl ts from rfl, forL_cons]
    generalize hx : turn _ _ _ _ _ = y
    simp only [turn, b_asked_behind_l0, gN] at hx
    by_cases ht : 0 ≤ t
    · have h1 := gt_lt (hg t (List.mem_cons_self ..)) ht
      have hix : ixD (.ref S.length) (.int t) (S ++ .lst (nl M) :: g) = .ok (.int (ms.getD (t.toNat - i - 1) 0 : Nat)) (S ++ .lst (nl M) :: g) :=
        e_ixR (ws := nl M) app_get (atI_get ht (nl_get (hM t.toNat (by omega) (by omega))))
      simp [ht, dAug, hix, e_or, -List.getD_eq_getElem?_getD] at hx
      subst hx
      obtain ⟨w5', e⟩ := abloop (S := S) (g := g) hM w0 w2 ts (fun z hz => hg z (List.mem_cons_of_mem _ hz)) (b ||| ms.getD (t.toNat - i - 1) 0) (some (.int t))
      refine ⟨w5', ?_⟩
      have : bh i ms b (t :: ts) = bh i ms (b ||| ms.getD (t.toNat - i - 1) 0) ts := by simp [bh, ht]
      rw [this]
      exact e
    · simp [ht] at hx
      subst hx
      obtain ⟨w5', e⟩ := abloop (S := S) (g := g) hM w0 w2 ts (fun z hz => hg z (List.mem_cons_of_mem _ hz)) b (some (.int t))
      refine ⟨w5', ?_⟩
      have : bh i ms b (t :: ts) = bh i ms b ts := by simp [bh, ht]
      rw [this]
      exact e
theorem tstBit {a q : Nat} : ((a : Int) / 2 ^ q % 2 = 1) ↔ a.testBit q = true := by
  rw [Nat.testBit_eq_decide_div_mod_eq, decide_eq_true_iff]
  have : (a : Int) / 2 ^ q % 2 = ((a / 2 ^ q % 2 : Nat) : Int) := by simp
  rw [this]
  omega
theorem orD_no {f g : D2} {a b : W} {S : Sto} (h : f a b S = .no) : orD f g a b S = g a b S := by unfold orD; rw [h]
theorem repD_ok {new : Bool} {xs : List W} {k : Int} {S : Sto} (h : -(2 ^ 63) ≤ k ∧ k < 2 ^ 63 ∧ xs.length * k.toNat ≤ sizeLine) : repD new (.lst xs) (.int k) S = (if new = true then .ok (.ref S.length) (S ++ [.lst (List.replicate k.toNat xs).flatten]) else .ok (.lst (List.replicate k.toNat xs).flatten) S) := if_pos h
theorem rep_c {n : Nat} (h : n ≤ 1000) : -(2 ^ 63) ≤ (n : Int) ∧ (n : Int) < 2 ^ 63 := by omega
theorem rep_d {n : Nat} {w : W} (h : n ≤ 1000) : [w].length * (n : Int).toNat ≤ sizeLine := by
  rw [sizeLine_eq, Int.toNat_natCast, List.length_singleton]; omega
theorem iMul_lst {l : List W} {a : W} {S : Sto} : iMul (.lst l) a S = .no := by cases a <;> rfl
theorem e_rep0 {n : Nat} {S : Sto} {w : W} (h : n ≤ 1000) : mulD true (.lst [w]) (.int n) S = .ok (.ref S.length) (S ++ [.lst (List.replicate n w)]) := by
  have e2 := repD_ok (new := true) (S := S) ⟨(rep_c h).1, (rep_c h).2, rep_d (w := w) h⟩
  rw [if_pos rfl, Int.toNat_natCast, List.flatten_replicate_singleton] at e2
  exact (orD_no iMul_lst).trans e2
@[simp] theorem e_asgStar {d : DX} {n : Nat} {gs : DGs} {t : Lo} {S : Sto} : dAsg d (gStar n gs) t S = (d t S).toF t fun w S1 => match gStar n gs w t S1 with
  | .ok t' S2 => .nx t' S2
  | _ => .no := rfl
theorem rngD {n : Nat} (h : n ≤ 1000) : -(2 ^ 62) ≤ (n : Int) - 1 ∧ (n : Int) - 1 < 2 ^ 62 ∧ -(2 ^ 62) ≤ (-1 : Int) ∧ (-1 : Int) < 2 ^ 62 := by omega
theorem e_down {d : DA} {t : Lo} {S S1 : Sto} {n : Nat} (h : d t S = .ok [.int ((n : Int) - 1), .int (-1), .int (-1)] S1) (hn : n ≤ 1000) : dRangeD d t S = .ok (intsDown ((n : Int) - 1) n) S1 := by
  unfold dRangeD
  rw [h, R.bind_ok]
  unfold threeI
  dsimp only
  rw [if_pos ⟨rfl, rngD hn⟩]
  congr 2
  omega
theorem drop_cons {α : Type} {l : List α} {i : Nat} {x : α} (h : l[i]? = some x) : l.drop i = x :: l.drop (i + 1) := by
  obtain ⟨hi, rfl⟩ := List.getElem?_eq_some_iff.mp h
  exact List.drop_eq_getElem_cons hi
theorem mask_get {n i : Nat} {ms : List Nat} (hi : i < n) (hms : ms.length = n - (i + 1)) : ∀ t : Nat, i < t → (t : Int) < n → (List.replicate (i + 1) 0 ++ ms)[t]? = some (ms.getD (t - i - 1) 0) := fun t h1 h2 => by
  have h3 : t - i - 1 < ms.length := by omega
  rw [List.getElem?_append_right (by simp; omega), List.length_replicate, show t - (i + 1) = t - i - 1 by omega, List.getD_eq_getElem?_getD, List.getElem?_eq_getElem h3]
  rfl
theorem mask_set {i : Nat} {ms : List Nat} {m : Nat} : (List.replicate (i + 1) 0 ++ ms).set i m = List.replicate i 0 ++ m :: ms := by
  rw [show List.replicate (i + 1) 0 ++ ms = List.replicate i 0 ++ 0 :: ms by rw [List.replicate_succ', List.append_assoc]; rfl]
  rw [List.set_append_right _ _ (by simp)]
  simp
theorem repeats_eq {nodes : List (List Int)} {e : Int} {S : Sto} (hg : Gns nodes e) (hl : nodes.length ≤ 1000) : U.fn_repeats [.tup (nodes.map nW)] S = .ok (oW (rp 0 nodes)) S := by
  generalize hx : U.fn_repeats _ _ = x
  unfold U.fn_repeats at hx
  rw [gcF_eq, dFn_eq] at hx
  generalize hy : U.b_repeats _ _ = y at hx
  simp -implicitDefEqProofs [U.b_repeats, sizeLine_eq, e_rep0 hl] at hy
  rw [e_down (n := nodes.length) (S1 := S ++ [.lst (List.replicate nodes.length (.int 0))]) (by simp) hl] at hy
  simp -implicitDefEqProofs at hy
  obtain ⟨t', X, e2, w3, w4, w5, w6, w7, rfl, rfl⟩ := forL_inv (g := gN 3) (b := b_repeats_l1) (intsDown ((nodes.length : Int) - 1) nodes.length)
    (fun j t X => ∃ (w3 w4 w5 w6 w7 : Option W), t = [some (.tup (nodes.map nW)), some (.ref S.length), some (oW (rp (nodes.length - j) (nodes.drop (nodes.length - j)))), w3, w4, w5, w6, w7] ∧ X = S ++ [.lst (nl (List.replicate (nodes.length - j) 0 ++ mk (nodes.length - j) (nodes.drop (nodes.length - j))))])
    (fun j w t X hw ⟨w3, w4, w5, w6, w7, ht, hX⟩ => by
      subst ht hX
      obtain ⟨hj, rfl⟩ := intsDown_mem hw
      obtain ⟨i, hi⟩ : ∃ i, nodes.length - j = i + 1 := ⟨nodes.length - j - 1, by omega⟩
      have hi2 : nodes.length - (j + 1) = i := by omega
      have hi3 : (nodes.length : Int) - 1 - j = i := by omega
      rw [hi, hi2, hi3]
      obtain ⟨node, hn⟩ : ∃ node, nodes[i]? = some node := ⟨nodes[i]'(by omega), List.getElem?_eq_getElem _⟩
      obtain ⟨q, ts, rfl, hts, q0, q1, hgt⟩ := gn_cons (hg i node hn)
      rw [drop_cons hn]
      generalize hms : mk (i + 1) (nodes.drop (i + 1)) = ms
      generalize hrp : rp (i + 1) (nodes.drop (i + 1)) = r
      have hmsl : ms.length = nodes.length - (i + 1) := by rw [← hms, mk_len]; simp
      have hMg := mask_get (n := nodes.length) (i := i) (by omega) hmsl
      have hMs := mask_set (i := i) (ms := ms) (m := bh i ms 0 ts ||| 2 ^ q.toNat)
      generalize hM : List.replicate (i + 1) 0 ++ ms = M at hMg hMs
      have hMl : M.length = nodes.length := by rw [← hM]; simp; omega
      generalize hx : turn _ _ _ _ _ = x
      have hixn : ∀ S, ixD (.tup (nodes.map nW)) (.int i) S = .ok (nW (q :: ts)) S := fun S => e_ixT (atI_get (by omega) (by rw [List.getElem?_map]; simp [hn]))
      simp -implicitDefEqProofs [turn, b_repeats_l1, gN, hixn, gStar, gsCons, gsNil] at hx
      generalize hd__ : DD.forL _ _ _ _ _ = d__ at hx
      have hs__ := SP.aq1 hd__ (((rploop (n := nodes.length) (e := e) (i := i) (M := M) (ms := ms) (S := S) (g := []) hMg _ _ _ _ _ ts hgt 0)) _)
      obtain ⟨w5', e5⟩ := hs__
      subst e5
      simp -implicitDefEqProofs [e_bit q0, e_and1, e_shl1 q0 (show q < 1000 by omega), e_or, tstBit, ixN_in, hMl, show i < nodes.length by omega] at hx
      have sh : ∀ S, iShl (.int 1) (.int q) S = .ok (.int (2 ^ q.toNat)) S := fun S => e_shl1 q0 (by omega)
      have ix : ixN nodes.length i = some i := ixN_in (by omega) (by omega)
      have fin : x = .nx [some (.tup (nodes.map nW)), some (.ref S.length), some (oW (if (bh i ms 0 ts).testBit q.toNat = true then some i else r)), some (.int i), some (.int (bh i ms 0 ts : Nat)), w5', some (.int q), some (lW ts)] (S ++ [.lst (nl (M.set i (bh i ms 0 ts ||| 2 ^ q.toNat)))]) := by
        by_cases ht : (bh i ms 0 ts).testBit q.toNat = true
        · simp -implicitDefEqProofs [tstBit, ht, sh, e_orP, hMl, ix] at hx
          rw [← hx]; simp [ht, oW, List.map_set]
        · simp -implicitDefEqProofs [tstBit, ht, sh, e_orP, hMl, ix] at hx
          rw [← hx]; simp [ht, oW, List.map_set]
      subst fin
      rw [hMs]
      refine ⟨_, _, .inl rfl, some (.int i), some (.int (bh i ms 0 ts : Nat)), w5', some (.int q), some (lW ts), ?_, ?_⟩
      · simp [rp, hms, hrp]
      · simp [mk, hms])
    (t := [some (.tup (nodes.map nW)), some (.ref S.length), some .non, none, none, none, none, none]) (S := S ++ [.lst (List.replicate nodes.length (.int 0))])
    ⟨none, none, none, none, none, by simp [rp, oW], by simp [mk]⟩
  rw [e2, intsDown_length, Nat.sub_self] at hy
  simp -implicitDefEqProofs at hy
  subst hy
  exact hx.symm.trans (gc_app low_oW)
/-! ### questions_of, asked_behind -/
def qs48 : List Int := (List.range 48).map fun (i : Nat) => (i : Int)
def qsOf (m : Nat) : List Int := qs48.filter fun z => m.testBit z.toNat
theorem mem_qs48 {z : Int} : z ∈ qs48 ↔ 0 ≤ z ∧ z < 48 := by
  simp only [qs48, List.mem_map, List.mem_range]
  exact ⟨fun ⟨i, h, e⟩ => by omega, fun h => ⟨z.toNat, by omega, by omega⟩⟩
theorem rng48 : intsFrom 0 48 = wl qs48 := rng_wl 48
theorem questions_eq {m : Nat} {S : Sto} : U.fn_questions_of [.int m] S = .ok (nW (qsOf m)) S := by
  generalize hx : U.fn_questions_of _ _ = x
  unfold U.fn_questions_of at hx
  rw [DD.gcF_eq, DD.dFn_eq] at hx
  generalize hy : U.b_questions_of _ _ = y at hx
  unfold U.b_questions_of at hy
  simp -implicitDefEqProofs [rng48] at hy
  generalize hd__ : DD.lcL _ _ _ _ _ _ _ = d__ at hy
  have hs__ := SP.aq0 hd__ ((lc_filterI (fun z => m.testBit z.toNat)) _ ?_ ?_)
  subst hs__
  · simp -implicitDefEqProofs at hy
    subst hy
    exact hx.symm.trans (gc_same (by simp [lowW, lowL_ints]))
  · simp [qs48]
  · intro z hz
    have hz' := mem_qs48.mp hz
    refine ⟨_, rfl, ?_, by simp⟩
    simp [e_bit hz'.1, e_and1]
    rw [Bool.eq_iff_iff, decide_eq_true_iff, tstBit]
theorem lcLR_mapN {te : DX} {t0 : Lo} {S : Sto} {v p : Nat} {M : List Nat} {f : Nat → W} (hp : S[p]? = some (.lst (nl M))) (hz : M.length ≤ 1000) (h : ∀ m ∈ M, te (t0.set v (some (.int (m : Nat)))) S = .ok (f m) S) : lcLR (.nm v) dYes te t0 p (nl M) (nl M) [] S = .ok (.lst (M.map f)) S := by
  have := lcLR_map (g := .nm v) (te := te) (t0 := t0) hp (fun w => match w with | .int z => f z.toNat | _ => .non) (nl M) (by simpa using Nat.le_trans hz (by decide)) (fun w hw => by
    obtain ⟨m, hm, rfl⟩ := List.mem_map.mp hw
    exact ⟨_, rfl, by rw [h m hm]; simp⟩)
  rw [this, List.map_map]
  simp [Function.comp_def]
/-- the questions behind each node -/
def behindOf (nodes : List (List Int)) : List (List Int) := (mka 0 nodes).map qsOf
theorem asked_eq {nodes : List (List Int)} {e : Int} {S : Sto} (hg : Gns nodes e) (hl : nodes.length ≤ 1000) : U.fn_asked_behind [.tup (nodes.map nW)] S = .ok (.lst ((behindOf nodes).map nW)) S := by
  generalize hx : U.fn_asked_behind _ _ = x
  unfold U.fn_asked_behind at hx
  rw [DD.gcF_eq, DD.dFn_eq] at hx
  generalize hy : U.b_asked_behind _ _ = y at hx
  unfold U.b_asked_behind at hy
  simp -implicitDefEqProofs [sizeLine_eq, e_rep0 hl] at hy
  rw [e_down (n := nodes.length) (S1 := S ++ [.lst (List.replicate nodes.length (.int 0))]) (by simp) hl] at hy
  simp -implicitDefEqProofs at hy
  obtain ⟨t', X, e2, w2, w3, w4, rfl, rfl⟩ := forL_inv (g := gN 2) (b := b_asked_behind_l1) (intsDown ((nodes.length : Int) - 1) nodes.length)
    (fun j t X => ∃ (w2 w3 w4 : Option W), t = [some (.tup (nodes.map nW)), some (.ref S.length), w2, w3, w4] ∧ X = S ++ [.lst (nl (List.replicate (nodes.length - j) 0 ++ mka (nodes.length - j) (nodes.drop (nodes.length - j))))])
    (fun j w t X hw ⟨w2, w3, w4, ht, hX⟩ => by
      subst ht hX
      obtain ⟨hj, rfl⟩ := intsDown_mem hw
      obtain ⟨i, hi⟩ : ∃ i, nodes.length - j = i + 1 := ⟨nodes.length - j - 1, by omega⟩
      have hi2 : nodes.length - (j + 1) = i := by omega
      have hi3 : (nodes.length : Int) - 1 - j = i := by omega
      rw [hi, hi2, hi3]
      obtain ⟨node, hn⟩ : ∃ node, nodes[i]? = some node := ⟨nodes[i]'(by omega), List.getElem?_eq_getElem _⟩
      obtain ⟨q, ts, rfl, hts, q0, q1, hgt⟩ := gn_cons (hg i node hn)
      rw [drop_cons hn]
      generalize hms : mka (i + 1) (nodes.drop (i + 1)) = ms
      have hmsl : ms.length = nodes.length - (i + 1) := by rw [← hms, mka_len]; simp
      have hMg := mask_get (n := nodes.length) (i := i) (by omega) hmsl
      have hMs := mask_set (i := i) (ms := ms) (m := bh i ms (2 ^ q.toNat) (ts.take 2))
      generalize hM : List.replicate (i + 1) 0 ++ ms = M at hMg hMs
      have hMl : M.length = nodes.length := by rw [← hM]; simp; omega
      generalize hx : turn _ _ _ _ _ = x
      have hixn : ∀ S, ixD (.tup (nodes.map nW)) (.int i) S = .ok (nW (q :: ts)) S := fun S => e_ixT (atI_get (by omega) (by rw [List.getElem?_map]; simp [hn]))
      have sh : ∀ S, iShl (.int 1) (.int q) S = .ok (.int (2 ^ q.toNat)) S := fun S => e_shl1 q0 (by omega)
      have ix : ixN nodes.length i = some i := ixN_in (by omega) (by omega)
      have cut : cutW (W.int q :: List.map W.int ts) (some 1) (some 3) = wl (ts.take 2) := by rw [cut_lohi (by decide) (by decide)]; simp [wl, List.map_take]
      simp -implicitDefEqProofs [turn, b_asked_behind_l1, gN, hixn, sh] at hx
      rw [cut, show (2 : Int) ^ q.toNat = ((2 ^ q.toNat : Nat) : Int) by simp] at hx
      generalize hd__ : DD.forL _ _ _ _ _ = d__ at hx
      have hs__ := SP.aq1 hd__ (((abloop (n := nodes.length) (e := e) (i := i) (M := M) (ms := ms) (S := S) (g := []) hMg _ _ (ts.take 2) (fun t ht => hgt t (List.mem_of_mem_take ht)))) _ _)
      obtain ⟨w5', e5⟩ := hs__
      subst e5
      simp -implicitDefEqProofs [hMl, ix] at hx
      subst hx
      refine ⟨_, _, .inl rfl, some (.int i), some (.int (bh i ms (2 ^ q.toNat) (ts.take 2) : Nat)), w5', by simp, ?_⟩
      have : mka i ((q :: ts) :: nodes.drop (i + 1)) = bh i ms (2 ^ q.toNat) (ts.take 2) :: ms := by simp [mka, hms]
      rw [this, ← hMs]
      simp [List.map_set])
    (t := [some (.tup (nodes.map nW)), some (.ref S.length), none, none, none]) (S := S ++ [.lst (List.replicate nodes.length (.int 0))])
    ⟨none, none, none, by simp, by simp [mka]⟩
  rw [e2, intsDown_length, Nat.sub_self] at hy
  simp -implicitDefEqProofs at hy
  generalize hd__ : DD.lcLR _ _ _ _ _ _ _ _ _ = d__ at hy
  have hs__ := SP.aq0 hd__ (((lcLR_mapN (f := fun m => nW (qsOf m)) app_get)) ?_ ?_)
  subst hs__
  · simp -implicitDefEqProofs at hy
    subst hy
    have e3 : ((mka 0 nodes).map fun m => nW (qsOf m)) = (behindOf nodes).map nW := by simp [behindOf, List.map_map, Function.comp_def]
    rw [e3] at hx
    exact hx.symm.trans (gc_app low_nodes)
  · rw [mka_len]; exact hl
  · intro m hm
    simp [questions_eq]
end SP
namespace SP
open PySem L2 DD U
/-- lists or tuples of numbers -/
inductive NV : List W → List (List Int) → Prop
  | nil : NV [] []
  | cons {w : W} {ws : List W} {n : List Int} {ns : List (List Int)} : (w = nW n ∨ w = lW n) → NV ws ns → NV (w :: ws) (n :: ns)
theorem NV.len {ws : List W} {ns : List (List Int)} (h : NV ws ns) : ws.length = ns.length := by induction h with
  | nil => rfl
  | cons _ _ ih => simp [ih]
theorem NV.mem {ws : List W} {ns : List (List Int)} (h : NV ws ns) : ∀ w ∈ ws, ∃ n, w = nW n ∨ w = lW n := by induction h with
  | nil => intro w hw; cases hw
  | cons a _ ih =>
    intro w hw
    rcases List.mem_cons.mp hw with rfl | hw
    · exact ⟨_, a⟩
    · exact ih w hw
theorem NV.tups : ∀ ns : List (List Int), NV (ns.map nW) ns
  | [] => .nil
  | _ :: ns => .cons (.inl rfl) (NV.tups ns)
theorem NV.lsts : ∀ ns : List (List Int), NV (ns.map lW) ns
  | [] => .nil
  | _ :: ns => .cons (.inr rfl) (NV.lsts ns)
theorem NV.app {ws us : List W} {ns ms : List (List Int)} (h : NV ws ns) (h' : NV us ms) : NV (ws ++ us) (ns ++ ms) := by induction h with
  | nil => exact h'
  | cons a _ ih => exact .cons a ih
/-- tuple(node) for each node -/
theorem lc_tup {te : DX} {t0 : Lo} {S : Sto} {v : Nat} (h : ∀ w n, (w = nW n ∨ w = lW n) → te (t0.set v (some w)) S = .ok (nW n) S) : ∀ {ws : List W} {ns : List (List Int)}, NV ws ns → ∀ acc : List (List Int), acc.length + ns.length ≤ 100000 → lcL (.nm v) dYes te t0 ws (acc.map nW) S = .ok (.lst ((acc ++ ns).map nW)) S := by
  intro ws ns hv
  induction hv with
  | nil => intro acc _; simp [lcL]
  | @cons w ws n ns a _ ih =>
    intro acc hz
    rw [List.length_cons] at hz
    have hs : acc.length < sizeLine := by rw [sizeLine_eq]; omega
    rw [lcL]
    simp only [e_putN, e_yes, h w n a, List.length_map, if_pos hs]
    have := ih (acc ++ [n]) (by simp; omega)
    simpa using this
def webO (nodes : List (List Int)) (ends st : Int) : W := .obj 30 ["nodes", "ends", "start", "behind"] [.tup (nodes.map nW), .int ends, .int st, .lst ((behindOf nodes).map nW)]
theorem enum_mem {n : Int} {ws : List W} {i : Nat} {x : W} (h : (enumFrom n ws)[i]? = some x) : ∃ w, ws[i]? = some w ∧ x = .tup [.int (n + i), w] := enumFrom_get h
theorem web_init_ok {S : Sto} {nodes : List (List Int)} {ws : List W} {w : W} {ends st : Int} {stW : W} (hv : NV ws nodes) (hw : w = .lst ws ∨ w = .tup ws ∨ ∃ p, w = .ref p ∧ S[p]? = some (.lst ws)) (h1 : 1 ≤ ends) (h2 : ends ≤ 60) (hG : Gns nodes ends)
    (hst : stW = .int st ∨ stW = .non ∧ st = if nodes = [] then -1 else 0) (hs1 : -1 - ends < st) (hs2 : st < nodes.length) (hr : rp 0 nodes = none) (hl : nodes.length ≤ 1000) :
    U.fn_Web_init [.ref S.length, w, .int ends, stW] (S ++ [.ins 30 [] []]) = .ok .non (S ++ [.ins 30 ["nodes", "ends", "start", "behind"] [.tup (nodes.map nW), .int ends, .int st, .lst ((behindOf nodes).map nW)]]) := by
  generalize hx : U.fn_Web_init _ _ = x
  unfold U.fn_Web_init at hx
  rw [gcF_eq, dFn_eq] at hx
  generalize hy : U.b_Web_init _ _ = y at hx
  unfold U.b_Web_init at hy
  have hlc : ∀ (t : Lo) (te : DX), (∀ w n, (w = nW n ∨ w = lW n) → te (t.set 7 (some w)) (S ++ [.ins 30 [] []]) = .ok (nW n) (S ++ [.ins 30 [] []])) → lcL (.nm 7) dYes te t ws [] (S ++ [.ins 30 [] []]) = .ok (.lst (nodes.map nW)) (S ++ [.ins 30 [] []]) := fun t te h => by
    have := lc_tup h hv [] (by simp; omega)
    simpa using this
  have hk : dLcA (dVar 1) (.nm 7) dYes (dBi tupleF (dCons (dVar 7) dNil)) [7] [some (.ref S.length), some w, some (.int ends), some stW, none, none, none, none] (S ++ [.ins 30 [] []]) = .ok (.lst (nodes.map nW)) (S ++ [.ins 30 [] []]) := by
    have hte : ∀ w' n, (w' = nW n ∨ w' = lW n) → (dBi tupleF (dCons (dVar 7) dNil)) ([some (.ref S.length), some w, some (.int ends), some stW, none, none, none, none].set 7 (some w')) (S ++ [.ins 30 [] []]) = .ok (nW n) (S ++ [.ins 30 [] []]) := by
      rintro w' n (rfl | rfl) <;> simp
    rcases hw with rfl | rfl | ⟨p, rfl, hp⟩
    · simp [dLcA]
      exact hlc _ _ hte
    · simp [dLcA]
      exact hlc _ _ hte
    · have hp' : (S ++ [O.ins 30 [] []])[p]? = some (.lst ws) := by
        rw [List.getElem?_append_left (List.getElem?_eq_some_iff.mp hp).1]; exact hp
      simp [dLcA, hp']
      rw [lcLR_same hp' ws [] (fun w hw => ?_)]
      · exact hlc _ _ hte
      · obtain ⟨n, hn⟩ := hv.mem w hw
        exact ⟨_, rfl, .inl ⟨_, rfl, hte w n hn⟩⟩
  simp -implicitDefEqProofs [hk, h1, h2, dEnumA, dEnumT] at hy
  obtain ⟨t', X, e2, w6, w7, rfl, rfl⟩ := forL_inv (g := gTp 2 (gsCons (gN 6) (gsCons (gN 7) gsNil))) (b := b_Web_init_l0) (enumFrom 0 (nodes.map nW))
    (fun j t X => ∃ (w6 w7 : Option W), t = [some (.ref S.length), some w, some (.int ends), some stW, some (.tup (nodes.map nW)), none, w6, w7] ∧ X = S ++ [.ins 30 [] []])
    (fun j w' t X hw' ⟨w6, w7, ht, hX⟩ => by
      subst ht hX
      obtain ⟨w2, hw2, rfl⟩ := enum_mem hw'
      rw [List.getElem?_map] at hw2
      obtain ⟨node, hn, rfl⟩ := Option.map_eq_some_iff.mp hw2
      have hgn := hG j node hn
      generalize hx : turn _ _ _ _ _ = x
      simp -implicitDefEqProofs [turn, b_Web_init_l0, gTp, gsCons, gsNil, gN, good_node_eq, hgn, truW] at hx
      subst hx
      exact ⟨_, _, .inl rfl, _, _, rfl, rfl⟩)
    (t := [some (.ref S.length), some w, some (.int ends), some stW, some (.tup (nodes.map nW)), none, none, none]) (S := S ++ [.ins 30 [] []]) ⟨none, none, rfl, rfl⟩
  rw [e2] at hy
  generalize htl : dSeq (dIfS (dtNot (dTest (dChain iLt iLt _ _ _))) _ _) _ = tl at hy
  have key : tl [some (.ref S.length), some w, some (.int ends), some (.int st), some (.tup (nodes.map nW)), none, w6, w7] (S ++ [.ins 30 [] []]) = y := by
    rcases hst with rfl | ⟨rfl, rfl⟩
    · simp -implicitDefEqProofs [isNone] at hy
      exact hy
    · by_cases hne : nodes = []
      · subst hne
        simp -implicitDefEqProofs [isNone, truW] at hy
        exact hy
      · simp -implicitDefEqProofs [isNone, truW, hne] at hy
        simpa [hne] using hy
  clear hy
  subst htl
  simp -implicitDefEqProofs [hs1, hs2, repeats_eq hG hl, hr, oW, isNone] at key
  have d1 : ¬ ((Str.ofString "nodes" : Str) = Str.ofString "ends") := by decide
  have d2 : ¬ ((Str.ofString "nodes" : Str) = Str.ofString "start") := by decide
  have d3 : ¬ ((Str.ofString "nodes" : Str) = Str.ofString "behind") := by decide
  have d4 : ¬ ((Str.ofString "ends" : Str) = Str.ofString "start") := by decide
  have d5 : ¬ ((Str.ofString "ends" : Str) = Str.ofString "behind") := by decide
  have d6 : ¬ ((Str.ofString "start" : Str) = Str.ofString "behind") := by decide
  simp -implicitDefEqProofs [dSetF, fput, asked_eq hG hl, d1, d2, d3, d4, d5, d6] at key
  subst key
  rw [← hx]
  refine gc_set (by simp) (fun i hi => ?_) rfl
  by_cases h : i < S.length
  · left; rw [List.getElem?_append_left h, List.getElem?_append_left h]
  · have : i = S.length := by simp at hi; omega
    subst this
    refine .inr ⟨_, app_get, ?_⟩
    simp only [lowO, lowL, Bool.and_eq_true]
    exact ⟨lowL_all fun w hw => (by obtain ⟨a, _, rfl⟩ := List.mem_map.mp hw; simp [lowW, lowL_ints]), (by first | rfl | trivial), (by first | rfl | trivial), low_nodes, (by first | rfl | trivial)⟩
/-- a web is made -/
theorem mkweb_ok {S : Sto} {t : Lo} {da dk : DA} {aW : List W → List W → List W} {nodes : List (List Int)} {ws : List W} {w : W} {ends st : Int} {stW : W} (hd : da t S = .ok [w, .int ends] S) (hk : dk t S = .ok [stW] S) (hv : NV ws nodes) (hw : w = .lst ws ∨ w = .tup ws ∨ ∃ p, w = .ref p ∧ S[p]? = some (.lst ws)) (h1 : 1 ≤ ends) (h2 : ends ≤ 60) (hG : Gns nodes ends)
    (hst : stW = .int st ∨ stW = .non ∧ st = if nodes = [] then -1 else 0) (hs1 : -1 - ends < st) (hs2 : st < nodes.length) (hr : rp 0 nodes = none) (hl : nodes.length ≤ 1000) (ha : aW [w, .int ends] [stW] = [w, .int ends, stW]) :
    dGc (dFrz (dMake 30 U.fn_Web_init (dBoth aW da dk))) t S = .ok (webO nodes ends st) S := by
  have e1 := web_init_ok (S := S) hv hw h1 h2 hG hst hs1 hs2 hr hl
  have e2 : dFrz (dMake 30 U.fn_Web_init (dBoth aW da dk)) t S = .ok (webO nodes ends st) (S ++ [.dead]) := by
    simp [dFrz, dMake, dBoth, hd, hk, ha, e1, webO]
  unfold dGc
  rw [e2]
  refine gc_app ?_
  simp only [webO, lowW, lowL, Bool.and_eq_true]
  exact ⟨lowL_all fun w hw => (by obtain ⟨a, _, rfl⟩ := List.mem_map.mp hw; simp [lowW, lowL_ints]), (by first | rfl | trivial), (by first | rfl | trivial), low_nodes, (by first | rfl | trivial)⟩
end SP
namespace SP
open PySem L2 DD U
/-! ### where nodes lead -/
def qAt (nodes : List (List Int)) (i : Nat) : Int := (nodes.getD i []).headD 0
/-- j is led to from i; f tells which targets count -/
inductive Lead (f : List Int → List Int) (nodes : List (List Int)) : Nat → Nat → Prop
  | refl {i : Nat} : i < nodes.length → Lead f nodes i i
  | step {i : Nat} {node : List Int} {t : Int} {j : Nat} : nodes[i]? = some node → t ∈ f node → 0 ≤ t → Lead f nodes t.toNat j → Lead f nodes i j
/-- targets lead forth -/
def Fwd (f : List Int → List Int) (nodes : List (List Int)) : Prop := ∀ (i : Nat) (node : List Int), nodes[i]? = some node → ∀ t ∈ f node, 0 ≤ t → (i : Int) < t ∧ t < nodes.length
theorem Gns.fwd {nodes : List (List Int)} {e : Int} (h : Gns nodes e) : Fwd List.tail nodes := fun i node hn t ht h0 => by
  obtain ⟨q, ts, rfl, _, _, _, hgt⟩ := gn_cons (h i node hn)
  exact gt_lt (hgt t ht) h0
def f2 (node : List Int) : List Int := node.tail.take 2
theorem Fwd.two {nodes : List (List Int)} (h : Fwd List.tail nodes) : Fwd f2 nodes := fun i node hn t ht h0 => h i node hn t (List.mem_of_mem_take ht) h0
theorem bh_bit {off : Nat} {ms : List Nat} {q : Nat} : ∀ (ts : List Int) (b : Nat), (bh off ms b ts).testBit q = true ↔ b.testBit q = true ∨ ∃ t ∈ ts, 0 ≤ t ∧ (ms.getD (t.toNat - off - 1) 0).testBit q = true
  | [], b => by simp [bh]
  | t :: ts, b => by
    have e : bh off ms b (t :: ts) = bh off ms (if 0 ≤ t then b ||| ms.getD (t.toNat - off - 1) 0 else b) ts := rfl
    rw [e, bh_bit ts]
    by_cases h : 0 ≤ t
    · rw [if_pos h, Nat.testBit_or, Bool.or_eq_true]
      constructor
      · rintro ((h1 | h1) | ⟨x, h1, h2, h3⟩)
        · exact .inl h1
        · exact .inr ⟨t, List.mem_cons_self .., h, h1⟩
        · exact .inr ⟨x, List.mem_cons_of_mem _ h1, h2, h3⟩
      · rintro (h1 | ⟨x, h1, h2, h3⟩)
        · exact .inl (.inl h1)
        · rcases List.mem_cons.mp h1 with rfl | h1
          · exact .inl (.inr h3)
          · exact .inr ⟨x, h1, h2, h3⟩
    · rw [if_neg h]
      constructor
      · rintro (h1 | ⟨x, h1, h2, h3⟩)
        · exact .inl h1
        · exact .inr ⟨x, List.mem_cons_of_mem _ h1, h2, h3⟩
      · rintro (h1 | ⟨x, h1, h2, h3⟩)
        · exact .inl h1
        · rcases List.mem_cons.mp h1 with rfl | h1
          · exact absurd h2 h
          · exact .inr ⟨x, h1, h2, h3⟩
/-- masks as a list over a suffix -/
theorem mk_get : ∀ {l : List (List Int)} {off j : Nat}, j < l.length → (mk off l)[j]? = (mk (off + j) (l.drop j))[0]?
  | [], _, _, h => by simp at h
  | node :: l, off, 0, _ => by simp
  | node :: l, off, j + 1, h => by
    simp only [List.length_cons] at h
    have := mk_get (l := l) (off := off + 1) (j := j) (by omega)
    simp only [mk, List.getElem?_cons_succ, List.drop_succ_cons]
    rw [this, show off + 1 + j = off + (j + 1) by omega]
theorem mka_get : ∀ {l : List (List Int)} {off j : Nat}, j < l.length → (mka off l)[j]? = (mka (off + j) (l.drop j))[0]?
  | [], _, _, h => by simp at h
  | node :: l, off, 0, _ => by simp
  | node :: l, off, j + 1, h => by
    simp only [List.length_cons] at h
    have := mka_get (l := l) (off := off + 1) (j := j) (by omega)
    simp only [mka, List.getElem?_cons_succ, List.drop_succ_cons]
    rw [this, show off + 1 + j = off + (j + 1) by omega]
def mkAt (nodes : List (List Int)) (i : Nat) : Nat := (mk i (nodes.drop i)).getD 0 0
def mkaAt (nodes : List (List Int)) (i : Nat) : Nat := (mka i (nodes.drop i)).getD 0 0
theorem mkAt_rest {nodes : List (List Int)} {i t : Nat} (h : i < t) (h1 : t < nodes.length) : (mk (i + 1) (nodes.drop (i + 1))).getD (t - i - 1) 0 = mkAt nodes t := by
  unfold mkAt
  rw [List.getD_eq_getElem?_getD, List.getD_eq_getElem?_getD, mk_get (by simp; omega), List.drop_drop]
  rw [show i + 1 + (t - i - 1) = t by omega]
theorem mkaAt_rest {nodes : List (List Int)} {i t : Nat} (h : i < t) (h1 : t < nodes.length) : (mka (i + 1) (nodes.drop (i + 1))).getD (t - i - 1) 0 = mkaAt nodes t := by
  unfold mkaAt
  rw [List.getD_eq_getElem?_getD, List.getD_eq_getElem?_getD, mka_get (by simp; omega), List.drop_drop]
  rw [show i + 1 + (t - i - 1) = t by omega]
theorem qAt_eq {nodes : List (List Int)} {i : Nat} {node : List Int} (h : nodes[i]? = some node) : qAt nodes i = node.headD 0 := by
  unfold qAt; rw [List.getD_eq_getElem?_getD, h]; rfl
/-- behind a node, its own question left out -/
theorem bh_lead {nodes : List (List Int)} {i q : Nat} {node : List Int} (hf : Fwd List.tail nodes) (hn : nodes[i]? = some node) (ih : ∀ t, i < t → t < nodes.length → ((mkAt nodes t).testBit q = true ↔ ∃ j, Lead List.tail nodes t j ∧ (qAt nodes j).toNat = q)) :
    (bh i (mk (i + 1) (nodes.drop (i + 1))) 0 node.tail).testBit q = true ↔ ∃ t ∈ node.tail, 0 ≤ t ∧ ∃ j, Lead List.tail nodes t.toNat j ∧ (qAt nodes j).toNat = q := by
  rw [bh_bit]
  simp only [Nat.zero_testBit, Bool.false_eq_true, false_or]
  constructor
  · rintro ⟨t, h1, h2, h3⟩
    have h4 := hf i node hn t h1 h2
    rw [mkAt_rest (by omega) (by omega), ih _ (by omega) (by omega)] at h3
    exact ⟨t, h1, h2, h3⟩
  · rintro ⟨t, h1, h2, h3⟩
    have h4 := hf i node hn t h1 h2
    refine ⟨t, h1, h2, ?_⟩
    rw [mkAt_rest (by omega) (by omega), ih _ (by omega) (by omega)]
    exact h3
theorem mkAt_bit {nodes : List (List Int)} (hf : Fwd List.tail nodes) {q : Nat} : ∀ (d i : Nat), nodes.length - i = d → i < nodes.length → ((mkAt nodes i).testBit q = true ↔ ∃ j, Lead List.tail nodes i j ∧ (qAt nodes j).toNat = q) := by
  intro d
  induction d using Nat.strongRecOn with
  | _ d ih =>
    intro i hd hi
    obtain ⟨node, hn⟩ : ∃ node, nodes[i]? = some node := ⟨nodes[i], List.getElem?_eq_getElem hi⟩
    have e : mkAt nodes i = bh i (mk (i + 1) (nodes.drop (i + 1))) 0 node.tail ||| 2 ^ (node.headD 0).toNat := by
      unfold mkAt; rw [drop_cons hn]; rfl
    rw [e, Nat.testBit_or, Bool.or_eq_true, bh_lead hf hn fun t h1 h2 => ih (nodes.length - t) (by omega) t rfl h2, Nat.testBit_two_pow, decide_eq_true_iff]
    constructor
    · rintro (⟨t, h1, h2, j, h3, h4⟩ | h)
      · exact ⟨j, .step hn h1 h2 h3, h4⟩
      · exact ⟨i, .refl hi, by rw [qAt_eq hn]; exact h⟩
    · rintro ⟨j, h1, h2⟩
      cases h1 with
      | refl _ => right; rw [qAt_eq hn] at h2; exact h2
      | @step _ node' t _ a b c d =>
        rw [hn] at a; cases a
        exact .inl ⟨t, b, c, j, d, h2⟩
theorem rp_none : ∀ {l : List (List Int)} {off : Nat}, rp off l = none ↔ ∀ (j : Nat) (node : List Int), l[j]? = some node → (bh (off + j) (mk (off + j + 1) (l.drop (j + 1))) 0 node.tail).testBit (node.headD 0).toNat = false
  | [], off => by simp [rp]
  | node :: l, off => by
    have ih := rp_none (l := l) (off := off + 1)
    constructor
    · intro h j n hn
      simp only [rp] at h
      split at h
      · cases h
      · rename_i hb
        cases j with
        | zero =>
          simp at hn; subst hn
          simpa using hb
        | succ j =>
          have := ih.mp h j n (by simpa using hn)
          rw [show off + (j + 1) = off + 1 + j by omega]
          simpa using this
    · intro h
      have h0 := h 0 node (by simp)
      simp only [rp]
      rw [if_neg (by simpa using h0), ih]
      intro j n hn
      have := h (j + 1) n (by simpa using hn)
      rw [show off + (j + 1) = off + 1 + j by omega] at this
      simpa using this
/-- no question comes again -/
def NoRep (nodes : List (List Int)) : Prop := ∀ (i : Nat) (node : List Int), nodes[i]? = some node → ∀ t ∈ node.tail, 0 ≤ t → ∀ j, Lead List.tail nodes t.toNat j → (qAt nodes j).toNat ≠ (node.headD 0).toNat
theorem rp_none_iff {nodes : List (List Int)} (hf : Fwd List.tail nodes) : rp 0 nodes = none ↔ NoRep nodes := by
  rw [rp_none]
  constructor
  · intro h i node hn t ht h0 j hj e
    have := h i node hn
    rw [Nat.zero_add, Bool.eq_false_iff] at this
    exact this ((bh_lead hf hn fun t h1 h2 => mkAt_bit hf _ t rfl h2).mpr ⟨t, ht, h0, j, hj, e⟩)
  · intro h j node hn
    rw [Nat.zero_add, Bool.eq_false_iff]
    intro z
    obtain ⟨t, h1, h2, j', h3, h4⟩ := (bh_lead hf hn fun t h1 h2 => mkAt_bit hf _ t rfl h2).mp z
    exact h j node hn t h1 h2 j' h3 h4
end SP
namespace SP
open PySem L2 DD U
variable {n e : Int} {names : List Int} {sk : Bool}
theorem Nds.get {off : Int} {nodes bs : List (List Int)} (h : Nds n e names sk off nodes bs) : ∀ (j : Nat) (node : List Int), nodes[j]? = some node → ∃ b, bs[j]? = some b ∧ NdOk n e names sk (off + j) (bs.drop (j + 1)) node b := by
  induction h with
  | nil => intro j node hn; simp at hn
  | @cons i nodes bs node b h0 h1 h2 ih =>
    intro j nd hn
    cases j with
    | zero =>
      simp at hn; subst hn
      exact ⟨b, by simp, by simpa using h2⟩
    | succ j =>
      obtain ⟨b', h3, h4⟩ := ih j nd (by simpa using hn)
      refine ⟨b', by simpa using h3, ?_⟩
      rw [show i + ((j + 1 : Nat) : Int) = i + 1 + j by omega]
      simpa using h4
structure Law1 (nodes bs : List (List Int)) (e : Int) (names : List Int) (sk : Bool) : Prop where
  nds : Nds nodes.length e names sk 0 nodes bs
  nm : ∀ z ∈ names, 0 ≤ z ∧ z < 48
theorem Law1.of {nodes bs : List (List Int)} (h : Nds n e names sk 0 nodes bs) (nm : ∀ z ∈ names, 0 ≤ z ∧ z < 48) : Law1 nodes bs e names sk := by
  have := h.len.1
  rw [Int.sub_zero] at this
  rw [← this] at h
  exact ⟨h, nm⟩
theorem Law1.node {nodes bs : List (List Int)} (h : Law1 nodes bs e names sk) {i : Nat} {node : List Int} (hn : nodes[i]? = some node) : ∃ q ts, node = q :: ts ∧ (ts.length = 2 ∨ ts.length = 3 ∧ sk = true) ∧ (∀ t ∈ ts, gt t i nodes.length e = true) ∧ q ∈ names ∧ 0 ≤ q ∧ q < 48 := by
  obtain ⟨b, _, hb⟩ := h.nds.get i node hn
  obtain ⟨q, ts, h1, h2, h3, h4, _⟩ := hb.ex
  rw [Int.zero_add] at h3
  exact ⟨q, ts, h1, h2, h3, h4, h.nm q h4⟩
theorem gn_of {q : Int} {ts : List Int} {i n e : Int} (hl : ts.length = 2 ∨ ts.length = 3) (h0 : 0 ≤ q) (h1 : q < 48) (hg : ∀ t ∈ ts, gt t i n e = true) : gn (q :: ts) i n e = true := by
  simp only [gn, List.length_cons, List.headD_cons, List.tail_cons, Bool.and_eq_true, List.all_eq_true, decide_eq_true_eq]
  exact ⟨⟨⟨by rcases hl with h | h <;> simp [h], decide_eq_true h0⟩, decide_eq_true h1⟩, hg⟩
theorem Law1.gns {nodes bs : List (List Int)} (h : Law1 nodes bs e names sk) : Gns nodes e := fun i node hn => by
  obtain ⟨q, ts, rfl, h2, h3, h4, h5, h6⟩ := h.node hn
  exact gn_of (by omega) h5 h6 h3
theorem Lead.lt {f : List Int → List Int} {nodes : List (List Int)} {i j : Nat} (l : Lead f nodes i j) : j < nodes.length := by
  induction l with
  | refl h => exact h
  | step _ _ _ _ ih => exact ih
theorem Law1.asked {nodes bs : List (List Int)} (h : Law1 nodes bs e names sk) {i j : Nat} (l : Lead List.tail nodes i j) : ∃ b, bs[i]? = some b ∧ qAt nodes j ∈ b := by
  induction l with
  | @refl i hi =>
    obtain ⟨node, hn⟩ : ∃ node, nodes[i]? = some node := ⟨nodes[i], List.getElem?_eq_getElem hi⟩
    obtain ⟨b, hb, ho⟩ := h.nds.get i node hn
    obtain ⟨q, ts, rfl, _, _, _, _, rfl⟩ := ho.ex
    exact ⟨_, hb, by rw [qAt_eq hn]; simp⟩
  | @step i node t j hn ht h0 l ih =>
    obtain ⟨b, hb, ho⟩ := h.nds.get i node hn
    obtain ⟨q, ts, rfl, _, hg, _, _, rfl⟩ := ho.ex
    obtain ⟨b', hb', hm⟩ := ih
    refine ⟨_, hb, List.mem_append_left _ ?_⟩
    have := gt_lt (hg t ht) h0
    unfold usedOf
    rw [List.mem_flatMap]
    refine ⟨t, ht, ?_⟩
    rw [if_pos h0, List.getD_eq_getElem?_getD, List.getElem?_drop, show i + 1 + (t - (0 + (i : Int)) - 1).toNat = t.toNat by omega, hb']
    exact hm
theorem Law1.noRep {nodes bs : List (List Int)} (h : Law1 nodes bs e names sk) : NoRep nodes := by
  intro i node hn t ht h0 j l ne
  obtain ⟨b, hb, ho⟩ := h.nds.get i node hn
  obtain ⟨q, ts, rfl, _, hg, hq, hnu, rfl⟩ := ho.ex
  obtain ⟨b', hb', hm⟩ := h.asked l
  have hlt := gt_lt (hg t ht) h0
  have hj : j < nodes.length := l.lt
  obtain ⟨nj, hnj⟩ : ∃ node, nodes[j]? = some node := ⟨nodes[j], List.getElem?_eq_getElem hj⟩
  obtain ⟨qj, tj, rfl, _, _, hqj, h5, _⟩ := h.node hnj
  have hq0 := h.nm q hq
  rw [qAt_eq hnj] at hm ne
  simp only [List.headD_cons] at hm ne
  have : qj = q := by omega
  subst this
  refine hnu ?_
  unfold usedOf
  rw [List.mem_flatMap]
  refine ⟨t, ht, ?_⟩
  rw [if_pos h0, List.getD_eq_getElem?_getD, List.getElem?_drop, show i + 1 + (t - (0 + (i : Int)) - 1).toNat = t.toNat by omega, hb']
  exact hm
theorem Law1.rp {nodes bs : List (List Int)} (h : Law1 nodes bs e names sk) : rp 0 nodes = none := (rp_none_iff h.gns.fwd).mpr h.noRep
/-- more ends are no harm -/
theorem Gns.ends {nodes : List (List Int)} {e e' : Int} (h : Gns nodes e) (le : e ≤ e') : Gns nodes e' := fun i node hn => by
  obtain ⟨q, ts, rfl, h1, h2, h3, hg⟩ := gn_cons (h i node hn)
  refine gn_of h1 h2 h3 fun t ht => ?_
  have := hg t ht
  unfold gt at this ⊢
  split
  · rename_i hn
    rw [if_pos hn] at this
    simp at this ⊢; omega
  · rename_i hn
    rw [if_neg hn] at this
    exact this
/-- fewer targets lead to fewer nodes -/
theorem Lead.sub {nodes nodes' : List (List Int)} (hl : nodes'.length = nodes.length) (hs : ∀ (i : Nat) (node' : List Int), nodes'[i]? = some node' → ∃ node, nodes[i]? = some node ∧ ∀ t ∈ node'.tail, 0 ≤ t → t ∈ node.tail) {i j : Nat} (l : Lead List.tail nodes' i j) : Lead List.tail nodes i j := by
  induction l with
  | refl h => exact .refl (hl ▸ h)
  | step hn ht h0 _ ih =>
    obtain ⟨node, h1, h2⟩ := hs _ _ hn
    exact .step h1 (h2 _ ht h0) h0 ih
end SP
namespace SP
open PySem L2 DD U
variable {nodes : List (List Int)} {e st : Int} {S : Sto}
/-! ### a web's own -/
@[simp] theorem fld_nodes : fieldOf [30] "nodes" (webO nodes e st) S = some (.tup (nodes.map nW)) := rfl
@[simp] theorem fld_ends : fieldOf [30] "ends" (webO nodes e st) S = some (.int e) := rfl
@[simp] theorem fld_start : fieldOf [30] "start" (webO nodes e st) S = some (.int st) := rfl
@[simp] theorem fld_behind : fieldOf [30] "behind" (webO nodes e st) S = some (.lst ((behindOf nodes).map nW)) := rfl
@[simp] theorem isOf_web : isOf 30 (webO nodes e st) S = true := rfl
@[simp] theorem e_fld {cs : List Nat} {f : Str} {d : DX} {t : Lo} {S : Sto} : dFld cs f d t S = (d t S).bind fun w S1 => match fieldOf cs f w S1 with
  | some x => .ok x S1
  | none => .no := rfl
theorem web_len : U.fn_Web_len [webO nodes e st] S = .ok (.int nodes.length) S := by
  generalize hx : U.fn_Web_len _ _ = x
  unfold U.fn_Web_len at hx
  rw [DD.gcF_eq, DD.dFn_eq] at hx
  generalize hy : U.b_Web_len _ _ = y at hx
  unfold U.b_Web_len at hy
  simp -implicitDefEqProofs [] at hy
  subst hy
  exact hx.symm.trans (gc_same rfl)
theorem web_contains {i : Int} : U.fn_Web_contains [webO nodes e st, .int i] S = .ok (.bl (decide (-1 - e < i) && decide (i < nodes.length))) S := by
  generalize hx : U.fn_Web_contains _ _ = x
  unfold U.fn_Web_contains at hx
  rw [DD.gcF_eq, DD.dFn_eq] at hx
  generalize hy : U.b_Web_contains _ _ = y at hx
  unfold U.b_Web_contains at hy
  by_cases h : -1 - e < i
  · simp -implicitDefEqProofs [h] at hy
    subst hy
    rw [← hx]; simp [h]; exact gc_same rfl
  · simp -implicitDefEqProofs [h] at hy
    subst hy
    rw [← hx]; simp [h]; exact gc_same rfl
theorem low_nW {m : Nat} {l : List Int} : lowW m (nW l) = true := by simp [lowW, lowL_ints]
theorem low_lW {m : Nat} {l : List Int} : lowW m (lW l) = true := by simp [lowW, lowL_ints]
theorem ix_nodes {i : Int} {node : List Int} (h0 : 0 ≤ i) (h : nodes[i.toNat]? = some node) : ixD (.tup (nodes.map nW)) (.int i) S = .ok (nW node) S := e_ixT (atI_get h0 (by rw [List.getElem?_map, h]; rfl))
theorem ix_nodesL {i : Int} {node : List Int} (h0 : 0 ≤ i) (h : nodes[i.toNat]? = some node) : ixD (.lst (nodes.map nW)) (.int i) S = .ok (nW node) S := e_ixL (atI_get h0 (by rw [List.getElem?_map, h]; rfl))
theorem get_in {i : Int} (h0 : 0 ≤ i) (h1 : i < nodes.length) : ∃ node, nodes[i.toNat]? = some node := ⟨nodes[i.toNat]'(by omega), List.getElem?_eq_getElem _⟩
theorem web_getitem_ok {i : Int} {node : List Int} (h0 : 0 ≤ i) (h : nodes[i.toNat]? = some node) : U.fn_Web_getitem [webO nodes e st, .int i] S = .ok (nW node) S := by
  generalize hx : U.fn_Web_getitem _ _ = x
  have h1 : i < nodes.length := by have := (List.getElem?_eq_some_iff.mp h).1; omega
  unfold U.fn_Web_getitem at hx
  rw [DD.gcF_eq, DD.dFn_eq] at hx
  generalize hy : U.b_Web_getitem _ _ = y at hx
  unfold U.b_Web_getitem at hy
  simp -implicitDefEqProofs [h0, h1, ix_nodes h0 h] at hy
  subst hy
  exact hx.symm.trans (gc_same low_nW)
theorem web_getitem_er {i : Int} (h : ¬ (0 ≤ i ∧ i < nodes.length)) : U.fn_Web_getitem [webO nodes e st, .int i] S = .er 5 ["index"] [.int i] S := by
  generalize hx : U.fn_Web_getitem _ _ = x
  unfold U.fn_Web_getitem at hx
  rw [DD.gcF_eq, DD.dFn_eq] at hx
  generalize hy : U.b_Web_getitem _ _ = y at hx
  unfold U.b_Web_getitem at hy
  have hy' : y = .er 5 ["index"] [.int i] [some (webO nodes e st), some (.int i)] S := by
    by_cases h0 : 0 ≤ i
    · have h1 : ¬ i < nodes.length := fun z => h ⟨h0, z⟩
      simp -implicitDefEqProofs [h0, h1, dRaise1] at hy
      exact hy.symm
    · simp -implicitDefEqProofs [h0, dRaise1] at hy
      exact hy.symm
  subst hy'
  rw [← hx]
  simp
  rw [gc_er (gcs_same S) rfl, List.take_length]
theorem dat_node {m : Nat} (l : List Int) : dat (m + 1) (nW l) = true := by simp only [dat]; exact dat_ints l
theorem dat_nodesL {m : Nat} (l : List (List Int)) : (l.map nW).all (dat (m + 1)) = true := List.all_eq_true.mpr fun w hw => by
  obtain ⟨a, _, rfl⟩ := List.mem_map.mp hw
  exact dat_node a
theorem eqWs_nodes : ∀ (a b : List (List Int)), eqWs (a.map nW) (b.map nW) = decide (a = b)
  | [], [] => by simp [eqWs]
  | [], _ :: _ => by simp [eqWs]
  | _ :: _, [] => by simp [eqWs]
  | x :: a, y :: b => by
    simp only [List.map_cons, eqWs, eqW, eqWs_ints, eqWs_nodes a b]
    rw [Bool.eq_iff_iff]; simp
theorem e_eqNodes {a b : List (List Int)} : eqD (.tup (a.map nW)) (.tup (b.map nW)) S = .ok (.bl (decide (a = b))) S := by
  rw [e_eq (by exact dat_nodesL (m := 14) a) (by exact dat_nodesL (m := 14) b)]
  simp [eqW, eqWs_nodes]
theorem e_neNodes {a b : List (List Int)} : neD (.tup (a.map nW)) (.tup (b.map nW)) S = .ok (.bl (!decide (a = b))) S := by
  rw [e_ne (by exact dat_nodesL (m := 14) a) (by exact dat_nodesL (m := 14) b)]
  simp [eqW, eqWs_nodes]
theorem e_eqNodesL {a b : List (List Int)} : eqD (.lst (a.map nW)) (.lst (b.map nW)) S = .ok (.bl (decide (a = b))) S := by
  rw [e_eq (by exact dat_nodesL (m := 14) a) (by exact dat_nodesL (m := 14) b)]
  simp [eqW, eqWs_nodes]
theorem e_neNodesL {a b : List (List Int)} : neD (.lst (a.map nW)) (.lst (b.map nW)) S = .ok (.bl (!decide (a = b))) S := by
  rw [e_ne (by exact dat_nodesL (m := 14) a) (by exact dat_nodesL (m := 14) b)]
  simp [eqW, eqWs_nodes]
theorem web_eq {nodes' : List (List Int)} {e' st' : Int} : U.fn_Web_eq [webO nodes e st, webO nodes' e' st'] S = .ok (.bl (decide (nodes = nodes') && (decide (e = e') && decide (st = st')))) S := by
  generalize hx : U.fn_Web_eq _ _ = x
  unfold U.fn_Web_eq at hx
  rw [DD.gcF_eq, DD.dFn_eq] at hx
  generalize hy : U.b_Web_eq _ _ = y at hx
  unfold U.b_Web_eq at hy
  have hi : ∀ S, isiF (isi1 30) [webO nodes' e' st', .cls 30] S = .ok (.bl true) S := fun S => rfl
  have hy' : y = .rt (.bl (decide (nodes = nodes') && (decide (e = e') && decide (st = st')))) S := by
    by_cases h1 : nodes = nodes'
    · by_cases h2 : e = e'
      · simp -implicitDefEqProofs [hi, truW, e_eqNodes, h1, h2] at hy
        rw [← hy]; simp [h1, h2]
      · simp -implicitDefEqProofs [hi, truW, e_eqNodes, h1, h2] at hy
        rw [← hy]; simp [h1, h2]
    · simp -implicitDefEqProofs [hi, truW, e_eqNodes, h1] at hy
      rw [← hy]; simp [h1]
  subst hy'
  exact hx.symm.trans (gc_same rfl)
end SP
namespace SP
open PySem L2 DD U
variable {nodes : List (List Int)} {e st : Int} {S : Sto}
theorem Lead.le {f : List Int → List Int} (hf : Fwd f nodes) {i j : Nat} (l : Lead f nodes i j) : i ≤ j := by
  induction l with
  | refl h => exact Nat.le_refl _
  | step hn ht h0 _ ih =>
    have := hf _ _ hn _ ht h0
    omega
theorem Gns.q {i : Nat} {node : List Int} (h : Gns nodes e) (hn : nodes[i]? = some node) : 0 ≤ node.headD 0 ∧ node.headD 0 < 48 := by
  obtain ⟨q, ts, rfl, _, h0, h1, _⟩ := gn_cons (h i node hn)
  exact ⟨h0, h1⟩
theorem set_get {k i : Nat} {node' x : List Int} (hk : k < nodes.length) (h : (nodes.set k node')[i]? = some x) : i = k ∧ x = node' ∨ i ≠ k ∧ nodes[i]? = some x := by
  by_cases hi : i = k
  · subst hi
    rw [List.getElem?_set_self hk] at h
    exact .inl ⟨rfl, (Option.some.inj h).symm⟩
  · rw [List.getElem?_set_ne (Ne.symm hi)] at h
    exact .inr ⟨hi, h⟩
/-- a node exchanged -/
theorem mod_set {k : Nat} {q q' : Int} {ts ts' : List Int} (hG : Gns nodes e) (hN : NoRep nodes) (hk : nodes[k]? = some (q :: ts)) (hl : ts'.length = 2 ∨ ts'.length = 3) (h0 : 0 ≤ q') (h1 : q' < 48) (hg : ∀ t ∈ ts', gt t k nodes.length e = true)
    (hs : ∀ t ∈ ts', 0 ≤ t → t ∈ ts) (hq : q' = q ∨ ∀ (i : Nat) (node : List Int), nodes[i]? = some node → node.headD 0 ≠ q') : Gns (nodes.set k (q' :: ts')) e ∧ rp 0 (nodes.set k (q' :: ts')) = none := by
  have hkl : k < nodes.length := (List.getElem?_eq_some_iff.mp hk).1
  have hG' : Gns (nodes.set k (q' :: ts')) e := fun i node hn => by
    rw [List.length_set]
    rcases set_get hkl hn with ⟨rfl, rfl⟩ | ⟨_, hn⟩
    · exact gn_of hl h0 h1 hg
    · exact hG i node hn
  refine ⟨hG', (rp_none_iff hG'.fwd).mpr fun i node hn t ht ht0 j l ne => ?_⟩
  have hsub : ∀ {a b : Nat}, Lead List.tail (nodes.set k (q' :: ts')) a b → Lead List.tail nodes a b := fun l => l.sub (by simp) fun i nd hnd => by
    rcases set_get hkl hnd with ⟨rfl, rfl⟩ | ⟨_, hnd⟩
    · exact ⟨_, hk, hs⟩
    · exact ⟨nd, hnd, fun t ht _ => ht⟩
  have l' := hsub l
  have hfw := hG'.fwd i node hn t ht ht0
  have hle := l'.le hG.fwd
  obtain ⟨nj, hnj⟩ : ∃ nd, nodes[j]? = some nd := ⟨nodes[j]'l'.lt, List.getElem?_eq_getElem _⟩
  obtain ⟨ni, hni⟩ : ∃ nd, nodes[i]? = some nd := by
    rw [List.length_set] at hfw
    exact ⟨nodes[i]'(by omega), List.getElem?_eq_getElem _⟩
  have htn : t ∈ ni.tail := by
    rcases set_get hkl hn with ⟨rfl, rfl⟩ | ⟨_, h⟩
    · rw [hk] at hni; cases hni; exact hs t ht ht0
    · rw [hni] at h; cases h; exact ht
  have hne := hN i ni hni t htn ht0 j l'
  rw [qAt_eq hnj] at hne
  have qj := hG.q hnj
  have qi := hG.q hni
  by_cases hik : i = k
  · subst hik
    have hji : j ≠ i := by omega
    have e1 : qAt (nodes.set i (q' :: ts')) j = nj.headD 0 := by
      rw [qAt_eq (node := nj)]
      rw [List.getElem?_set_ne (Ne.symm hji)]; exact hnj
    rw [List.getElem?_set_self hkl] at hn
    cases hn
    rw [hk] at hni; cases hni
    rw [e1] at ne
    simp only [List.headD_cons] at ne hne qi
    rcases hq with rfl | hq
    · exact hne ne
    · have := hq j nj hnj
      omega
  · rw [List.getElem?_set_ne (Ne.symm hik), hni] at hn
    cases hn
    by_cases hjk : j = k
    · subst hjk
      have e1 : qAt (nodes.set j (q' :: ts')) j = q' := by
        rw [qAt_eq (List.getElem?_set_self hkl)]; rfl
      rw [e1] at ne
      rw [hk] at hnj; cases hnj
      rcases hq with rfl | hq
      · exact hne ne
      · have := hq i _ hni
        omega
    · have e1 : qAt (nodes.set k (q' :: ts')) j = nj.headD 0 := by
        rw [qAt_eq (node := nj)]
        rw [List.getElem?_set_ne (Ne.symm hjk)]; exact hnj
      rw [e1] at ne
      exact hne ne
theorem app_get' {x node : List Int} {i : Nat} (h : (nodes ++ [x])[i]? = some node) : i < nodes.length ∧ nodes[i]? = some node ∨ i = nodes.length ∧ node = x := by
  by_cases hi : i < nodes.length
  · rw [List.getElem?_append_left hi] at h; exact .inl ⟨hi, h⟩
  · have := (List.getElem?_eq_some_iff.mp h).1
    simp at this
    have hi' : i = nodes.length := by omega
    subst hi'
    simp at h
    exact .inr ⟨rfl, h.symm⟩
/-- a node more, that nothing leads to -/
theorem mod_app {q a b : Int} (hG : Gns nodes e) (hN : NoRep nodes) (h0 : 0 ≤ q) (h1 : q < 48) (ha : a < 0) (ha' : -1 - a < e) (hb : b < 0) (hb' : -1 - b < e) : Gns (nodes ++ [[q, a, b]]) e ∧ rp 0 (nodes ++ [[q, a, b]]) = none := by
  have hG' : Gns (nodes ++ [[q, a, b]]) e := fun i node hn => by
    rw [List.length_append, List.length_singleton]
    rcases app_get' hn with ⟨hi, hn⟩ | ⟨rfl, rfl⟩
    · obtain ⟨q, ts, rfl, hl, h0, h1, hg⟩ := gn_cons (hG i node hn)
      refine gn_of hl h0 h1 fun t ht => ?_
      have := hg t ht
      by_cases hn : t < 0
      · unfold gt at this ⊢; rw [if_pos hn] at this ⊢; exact this
      · have := gt_lt this (by omega)
        exact gt_pos (by omega) (by omega) (by omega)
    · refine gn_of (by simp) h0 h1 fun t ht => ?_
      simp at ht
      rcases ht with rfl | rfl
      · exact gt_neg ha ha'
      · exact gt_neg hb hb'
  refine ⟨hG', (rp_none_iff hG'.fwd).mpr fun i node hn t ht ht0 j l ne => ?_⟩
  have key : ∀ {i j : Nat}, Lead List.tail (nodes ++ [[q, a, b]]) i j → i < nodes.length → Lead List.tail nodes i j := fun {i j} l => by
    induction l with
    | refl h => exact fun hi => .refl hi
    | @step i node t j hn ht h0 l ih =>
      intro hi
      rcases app_get' hn with ⟨_, hn⟩ | ⟨h, _⟩
      · exact .step hn ht h0 (ih (by have := hG.fwd i node hn t ht h0; omega))
      · omega
  rcases app_get' hn with ⟨hi, hn⟩ | ⟨rfl, rfl⟩
  · have hf := hG.fwd i node hn t ht ht0
    have l' := key l (by omega)
    refine hN i node hn t ht ht0 j l' ?_
    rw [← ne]
    unfold qAt
    rw [List.getD_eq_getElem?_getD, List.getD_eq_getElem?_getD, List.getElem?_append_left l'.lt]
  · simp at ht
    omega
end SP
namespace SP
open PySem L2 DD U
/-- a while: an invariant and a measure that falls -/
theorem while_inv {c : DT} {b : DS} (I : Nat → Lo → Sto → Prop) (Q : Lo → Sto → Prop)
    (h : ∀ m t S, I m t S → (∃ S1, c t S = .ok false S1 ∧ Q t S1) ∨ (∃ S1, c t S = .ok true S1 ∧ ∃ t2 S2 m', (b t S1 = .nx t2 S2 ∨ b t S1 = .ct t2 S2) ∧ m' < m ∧ I m' t2 S2)) {m : Nat} {t : Lo} {S : Sto} (h0 : I m t S) : ∃ t' S', dWhile c b t S = .nx t' S' ∧ Q t' S' := by
  have key : ∀ (m : Nat) (t : Lo) (S : Sto), I m t S → ∃ n t' S', wh c b n t S = .nx t' S' ∧ Q t' S' := by
    intro m
    induction m using Nat.strongRecOn with
    | _ m ih =>
      intro t S hI
      rcases h m t S hI with ⟨S1, e, q⟩ | ⟨S1, e, t2, S2, m', hb, hm, hI2⟩
      · exact ⟨1, t, S1, by simp [wh, e], q⟩
      · obtain ⟨n, t', S', e2, q⟩ := ih m' hm t2 S2 hI2
        refine ⟨n + 1, t', S', ?_, q⟩
        rcases hb with hb | hb <;> simp [wh, e, hb, e2]
  obtain ⟨n, t', S', e, q⟩ := key m t S h0
  exact ⟨t', S', dWhile_eq e (by simp), q⟩
/-- a position that leads to another by right and wrong targets -/
inductive Ld (nodes : List (List Int)) : Int → Int → Prop
  | refl {p : Int} : Ld nodes p p
  | step {p t x : Int} {node : List Int} : 0 ≤ p → nodes[p.toNat]? = some node → t ∈ f2 node → Ld nodes t x → Ld nodes p x
variable {nodes : List (List Int)} {e st : Int} {S : Sto}
theorem Ld.snoc {p x t : Int} {node : List Int} (l : Ld nodes p x) (h0 : 0 ≤ x) (hn : nodes[x.toNat]? = some node) (ht : t ∈ f2 node) : Ld nodes p t := by
  induction l with
  | refl => exact .step h0 hn ht .refl
  | step a b c _ ih => exact .step a b c (ih h0 hn)
/-- a list that holds p and all targets of what it holds, holds what p leads to -/
theorem Ld.closed {p x : Int} {M : List Int} (hp : p ∈ M) (hc : ∀ y ∈ M, 0 ≤ y → ∀ node, nodes[y.toNat]? = some node → ∀ t ∈ f2 node, t ∈ M) (l : Ld nodes p x) : x ∈ M := by
  induction l with
  | refl => exact hp
  | step h0 hn ht _ ih => exact ih (hc _ hp h0 _ hn _ ht)
theorem f2_node {q : Int} {ts : List Int} : f2 (q :: ts) = ts.take 2 := rfl
abbrev kI (l : List Int) : List Key := l.map Sum.inl
def tru (M : List Int) : List W := M.map fun _ => W.bl true
theorem tru_len {M : List Int} : (tru M).length = M.length := by simp [tru]
theorem tru_app {M : List Int} {x : Int} : tru M ++ [.bl true] = tru (M ++ [x]) := by simp [tru]
theorem dget_kI {x : Int} : ∀ {M : List Int}, dGetW (kI M) (tru M) (.inl x) = if x ∈ M then some (.bl true) else none
  | [] => by simp [dGetW]
  | y :: M => by
    have ih := dget_kI (x := x) (M := M)
    simp only [kI, tru, List.map_cons, dGetW] at ih ⊢
    by_cases hy : y = x
    · subst hy; simp
    · have hy' : ¬ (Sum.inl y : Key) = Sum.inl x := fun z => hy (by cases z; rfl)
      rw [if_neg hy', ih]
      simp [Ne.symm hy]
theorem dput_kI {x : Int} {w : W} : ∀ {M : List Int} {ws : List W}, ws.length = M.length → x ∉ M → dPutW (kI M) ws (.inl x) w = (kI (M ++ [x]), ws ++ [w])
  | [], [], _, _ => rfl
  | [], _ :: _, h, _ => by simp at h
  | y :: M, [], h, _ => by simp at h
  | y :: M, u :: ws, h, hx => by
    simp only [List.mem_cons, not_or] at hx
    have ih := dput_kI (x := x) (w := w) (M := M) (ws := ws) (by simpa using h) hx.2
    have hy' : ¬ (Sum.inl y : Key) = Sum.inl x := fun z => hx.1 (by cases z; rfl)
    simp only [List.map_cons, dPutW, if_neg hy', ih, List.cons_append]
theorem nodup_kI {M : List Int} (h : M.Nodup) : (kI M).Nodup := by
  rw [List.nodup_iff_pairwise_ne] at h ⊢
  exact List.pairwise_map.mpr (h.imp fun hne z => hne (by cases z; rfl))
theorem filter_ne_len (x : Int) : ∀ l : List Int, l.Nodup → l.length ≤ (l.filter fun z => !decide (z = x)).length + 1
  | [], _ => by simp
  | y :: l, hn => by
    rw [List.nodup_cons] at hn
    by_cases h : y = x
    · subst h
      have : (l.filter fun z => !decide (z = y)) = l := List.filter_eq_self.mpr fun z hz => by
        have : z ≠ y := fun e => hn.1 (e ▸ hz)
        simp [this]
      simp [this]
    · have := filter_ne_len x l hn.2
      simp [h]
      simpa using this
/-- how many numbers from lo on fit -/
theorem nodup_len {lo : Int} : ∀ {n : Nat} {M : List Int}, M.Nodup → (∀ x ∈ M, lo ≤ x ∧ x < lo + n) → M.length ≤ n
  | 0, M, h, hM => by
    cases M with
    | nil => simp
    | cons x M => have := hM x (List.mem_cons_self ..); omega
  | n + 1, M, h, hM => by
    have h1 := filter_ne_len (lo + n) M h
    have h2 := nodup_len (n := n) (lo := lo) (M := M.filter fun z => !decide (z = lo + n)) (h.filter _) (fun x hx => by
      have := List.mem_filter.mp hx
      have h3 := hM x this.1
      have h4 : x ≠ lo + n := by simpa using this.2
      omega)
    omega
@[simp] theorem e_dDIn {neg : Bool} {k d : DX} {t : Lo} {S : Sto} : dDIn neg k d t S = (k t S).bind fun y S1 => (d t S1).bind fun w S2 => match dicOf S2 w, keyW y with
  | some p, some k => .ok (.bl (neg != (dGetW p.1 p.2 k).isSome)) S2
  | _, _ => .no := rfl
@[simp] theorem e_dDPut {d k v : DX} {t : Lo} {S : Sto} : dDPut d k v t S = (v t S).toF t fun x S1 => (d t S1).toF t fun w S2 => (k t S2).toF t fun y S3 => match w with
  | .ref i => match S3[i]?, keyW y with
    | some (.dic ks ws), some k => if ks.Nodup ∧ ks.length < 1000000 then .nx t (S3.set i (.dic (dPutW ks ws k x).1 (dPutW ks ws k x).2)) else .no
    | _, _ => .no
  | _ => .no := rfl
/-- positions of a web -/
def Ps (n : Nat) (e : Int) (x : Int) : Prop := -1 - e < x ∧ x < n
/-- the loop over the targets of a place -/
theorem ledloop {n : Nat} {g : Sto} (w0 w1 w4 : Option W) : ∀ (ts : List Int) (M T : List Int) (w5 : Option W), M.Nodup → M.length + ts.length ≤ 1000 → T.length + ts.length ≤ 2000 →
    ∃ (M' A : List Int) (w5' : Option W), forL (gN 5) b_Web_led_to_l0 (wl ts) [w0, w1, some (.ref S.length), some (.ref (S.length + 1)), w4, w5] (S ++ .dic (kI M) (tru M) :: .lst (wl T) :: g) = .nx [w0, w1, some (.ref S.length), some (.ref (S.length + 1)), w4, w5'] (S ++ .dic (kI M') (tru M') :: .lst (wl (T ++ A)) :: g) ∧ M' = M ++ A ∧ M'.Nodup ∧ (∀ t ∈ ts, t ∈ M') ∧ (∀ x ∈ A, x ∈ ts)
  | [], M, T, w5, hn, _, _ => ⟨M, [], w5, by simp, by simp, hn, by simp, by simp⟩
  | t :: ts, M, T, w5, hn, h1, h2 => by
    simp only [List.length_cons] at h1 h2
    rw [show wl (t :: ts) = W.int t :: wl ts from rfl, forL_cons]
    generalize hx : turn _ _ _ _ _ = y
    have hd : ∀ (D : O) (L : O), dicOf (S ++ D :: L :: g) (.ref S.length) = match D with | .dic ks ws => some (ks, ws) | _ => none := fun D L => by simp [dicOf]; cases D <;> rfl
    by_cases ht : t ∈ M
    · simp -implicitDefEqProofs [turn, b_Web_led_to_l0, gN, hd, keyW, dget_kI, ht] at hx
      subst hx
      obtain ⟨M', A, w5', e1, e2, e3, e4, e5⟩ := ledloop (n := n) (g := g) w0 w1 w4 ts M T (some (.int t)) hn (by omega) (by omega)
      refine ⟨M', A, w5', e1, e2, e3, fun x hx => ?_, fun x hx => List.mem_cons_of_mem _ (e5 x hx)⟩
      rcases List.mem_cons.mp hx with rfl | hx
      · rw [e2]; exact List.mem_append_left _ ht
      · exact e4 x hx
    · have hnd : (M ++ [t]).Nodup := by
        rw [List.nodup_append]
        exact ⟨hn, by simp, fun a ha b hb => by simp at hb; subst hb; exact fun z => ht (z ▸ ha)⟩
      simp -implicitDefEqProofs [turn, b_Web_led_to_l0, gN, hd, keyW, dget_kI, ht, nodup_kI hn, show M.length < 1000000 by omega, dput_kI tru_len ht, seqL, appendM, sizeLine_eq, show T.length < 16777216 by omega, app_get1, app_set1] at hx
      subst hx
      obtain ⟨M', A, w5', e1, e2, e3, e4, e5⟩ := ledloop (n := n) (g := g) w0 w1 w4 ts (M ++ [t]) (T ++ [t]) (some (.int t)) hnd (by simp; omega) (by simp; omega)
      refine ⟨M', t :: A, w5', ?_, by rw [e2]; simp, e3, fun x hx => ?_, fun x hx => ?_⟩
      · rw [show T ++ t :: A = T ++ [t] ++ A by simp]
        rw [← e1, tru_app (x := t)]
        simp [wl]
      · rcases List.mem_cons.mp hx with rfl | hx
        · rw [e2]; simp
        · exact e4 x hx
      · rcases List.mem_cons.mp hx with rfl | hx
        · exact List.mem_cons_self ..
        · exact List.mem_cons_of_mem _ (e5 x hx)
theorem ps_target {i : Nat} {node : List Int} (hG : Gns nodes e) (h1 : 1 ≤ e) (hn : nodes[i]? = some node) : ∀ t ∈ f2 node, Ps nodes.length e t := fun t ht => by
  obtain ⟨q, ts, rfl, _, _, _, hg⟩ := gn_cons (hG i node hn)
  have := hg t (List.mem_of_mem_take ht)
  by_cases h : 0 ≤ t
  · have h2 := gt_lt this h
    exact ⟨by omega, h2.2⟩
  · unfold gt at this
    rw [if_pos (by omega)] at this
    have h2 : -1 - t < e := by simpa using this
    exact ⟨by omega, by omega⟩
theorem led_ok {p : Int} (hG : Gns nodes e) (hl : nodes.length ≤ 100) (h1 : 1 ≤ e) (h2 : e ≤ 60) (hp : Ps nodes.length e p) : ∃ L : List Int, U.fn_Web_led_to [webO nodes e st, .int p] S = .ok (lW L) S ∧ (∀ x, x ∈ L ↔ Ld nodes p x) := by
  generalize hx : U.fn_Web_led_to _ _ = x
  unfold U.fn_Web_led_to at hx
  rw [DD.gcF_eq, DD.dFn_eq] at hx
  generalize hy : U.b_Web_led_to _ _ = y at hx
  unfold U.b_Web_led_to at hy
  have hin : orD (usrIn true 30 fn_Web_contains) notInD (.int p) (webO nodes e st) S = .ok (.bl false) S := by
    simp [orD, usrIn, web_contains, hp.1, hp.2]
  simp -implicitDefEqProofs [hin, dDisp, dPs, keyW, mergeW, dPutW, sizeLine_eq] at hy
  have hN : ∀ M : List Int, M.Nodup → (∀ x ∈ M, Ps nodes.length e x) → M.length ≤ nodes.length + e.toNat := fun M hn hM => nodup_len (lo := -e) hn fun x hx => by
    have := hM x hx
    unfold Ps at this
    omega
  obtain ⟨t', X, e2, M, w4, w5, rfl, rfl, hM⟩ := while_inv (c := dTru (dVar 3)) (b := b_Web_led_to_w0)
    (fun m t X => ∃ (M T : List Int) (w4 w5 : Option W), t = [some (webO nodes e st), some (.int p), some (.ref S.length), some (.ref (S.length + 1)), w4, w5] ∧ X = S ++ [O.dic (kI M) (tru M), O.lst (wl T)] ∧ M.Nodup ∧ p ∈ M ∧ (∀ x ∈ T, x ∈ M) ∧ (∀ x ∈ M, Ld nodes p x ∧ Ps nodes.length e x) ∧ (∀ y ∈ M, y ∈ T ∨ (0 ≤ y → ∀ node, nodes[y.toNat]? = some node → ∀ t ∈ f2 node, t ∈ M)) ∧ T.length ≤ M.length ∧ m = 2 * (nodes.length + e.toNat - M.length) + T.length)
    (fun t X => ∃ (M : List Int) (w4 w5 : Option W), t = [some (webO nodes e st), some (.int p), some (.ref S.length), some (.ref (S.length + 1)), w4, w5] ∧ X = S ++ [O.dic (kI M) (tru M), O.lst []] ∧ ∀ x, x ∈ M ↔ Ld nodes p x)
    (fun m t X ⟨M, T, w4, w5, ht, hX, hnd, hpM, hTM, hML, hcl, hTl, hm⟩ => by
      subst ht hX
      have hMN := hN M hnd fun x hx => (hML x hx).2
      by_cases hT : T = []
      · left
        subst hT
        refine ⟨_, by simp [truW, app_get1], M, w4, w5, rfl, rfl, fun x => ⟨fun hx => (hML x hx).1, fun l => l.closed hpM fun y hy => ?_⟩⟩
        rcases hcl y hy with h | h
        · cases h
        · exact h
      · right
        obtain ⟨T', y, rfl⟩ : ∃ T' y, T = T' ++ [y] := ⟨T.dropLast, T.getLast hT, (List.dropLast_concat_getLast hT).symm⟩
        have hyM := hTM y (by simp)
        have hyP := (hML y hyM).2
        simp only [List.length_append, List.length_singleton] at hTl hm
        refine ⟨S ++ [O.dic (kI M) (tru M), O.lst (wl (T' ++ [y]))], by simp [truW, app_get1], ?_⟩
        generalize hx : b_Web_led_to_w0 _ _ = x
        have hpop : popM (.ref (S.length + 1)) [] (S ++ [O.dic (kI M) (tru M), O.lst (wl (T' ++ [y]))]) = .ok (.int y) (S ++ [O.dic (kI M) (tru M), O.lst (wl T')]) := by
          simp [popM, app_get1, app_set1, wl]
        have hpush : ∀ L : List Int, (S ++ [O.dic (kI M) (tru M), O.lst (wl L)])[S.length + 1]? = some (.lst (wl L)) := fun L => app_get1
        generalize hTL : wl (T' ++ [y]) = TL at hx hpop
        have hsq : ∀ TL, seqL (S ++ [O.dic (kI M) (tru M), O.lst TL]) (.ref (S.length + 1)) = some TL := fun TL => by simp [seqL, app_get1]
        by_cases hy0 : y < 0
        · simp -implicitDefEqProofs [b_Web_led_to_w0, hsq, hpop, hy0] at hx
          subst hx
          refine ⟨_, _, _, .inr rfl, ?_, M, T', _, _, rfl, rfl, hnd, hpM, fun x hx => hTM x (List.mem_append_left _ hx), hML, fun z hz => ?_, by omega, rfl⟩
          · omega
          · rcases hcl z hz with h | h
            · rcases List.mem_append.mp h with h | h
              · exact .inl h
              · simp at h; subst h; exact .inr fun h0 => by omega
            · exact .inr h
        · obtain ⟨node, hn⟩ := get_in (nodes := nodes) (i := y) (by omega) hyP.2
          obtain ⟨q, ts, rfl, hts, _⟩ := gn_cons (hG _ node hn)
          have cut : cutW (W.int q :: List.map W.int ts) (some 1) (some 3) = wl (ts.take 2) := by rw [cut_lohi (by decide) (by decide)]; simp [wl, List.map_take]
          simp -implicitDefEqProofs [b_Web_led_to_w0, hsq, hpop, hy0, ix_nodes (nodes := nodes) (show 0 ≤ y by omega) hn] at hx
          rw [cut] at hx
          have hl2 : (ts.take 2).length ≤ 2 := by simp; omega
          generalize hd__ : DD.forL _ _ _ _ _ = d__ at hx
          have hs__ := SP.at3 hd__ (((ledloop (n := nodes.length) (S := S) (g := []) _ _ _ (ts.take 2) M T')) _ (by first | omega | with_reducible assumption | (simp; done) | (simp; omega) | rfl) (by first | omega | with_reducible assumption | (simp; done) | (simp; omega) | rfl) (by first | omega | with_reducible assumption | (simp; done) | (simp; omega) | rfl))
          obtain ⟨M', A, w5', e3, hM', hnd', hts', hA⟩ := hs__
          subst e3
          subst hx
          have hM2 : ∀ x ∈ M', Ld nodes p x ∧ Ps nodes.length e x := fun x hx => by
            rw [hM'] at hx
            rcases List.mem_append.mp hx with hx | hx
            · exact hML x hx
            · have := hA x hx
              exact ⟨(hML y hyM).1.snoc (by omega) hn this, ps_target hG h1 hn x this⟩
          have hMl' := hN M' hnd' fun x hx => (hM2 x hx).2
          have hMlen : M'.length = M.length + A.length := by rw [hM']; simp
          refine ⟨_, _, _, .inl rfl, ?_, M', T' ++ A, _, _, rfl, rfl, hnd', by rw [hM']; exact List.mem_append_left _ hpM, fun x hx => ?_, hM2, fun z hz => ?_, by simp; omega, rfl⟩
          · simp only [List.length_append]; omega
          · rw [hM']
            rcases List.mem_append.mp hx with hx | hx
            · exact List.mem_append_left _ (hTM x (List.mem_append_left _ hx))
            · exact List.mem_append_right _ hx
          · rw [hM'] at hz
            rcases List.mem_append.mp hz with hz | hz
            · rcases hcl z hz with h | h
              · rcases List.mem_append.mp h with h | h
                · exact .inl (List.mem_append_left _ h)
                · simp at h
                  subst h
                  right
                  intro _ node hn2 t ht
                  rw [hn] at hn2
                  cases hn2
                  exact hts' t ht
              · right
                intro h0 node hn2 t ht
                rw [hM']
                exact List.mem_append_left _ (h h0 node hn2 t ht)
            · exact .inl (List.mem_append_right _ hz))
    (t := [some (webO nodes e st), some (.int p), some (.ref S.length), some (.ref (S.length + 1)), none, none]) (S := S ++ [O.dic [.inl p] [.bl true], O.lst [.int p]])
    ⟨[p], [p], none, none, rfl, rfl, by simp, by simp, by simp, fun x hx => by simp at hx; subst hx; exact ⟨.refl, hp⟩, fun y hy => .inl hy, by simp, rfl⟩
  rw [e2] at hy
  have hdc : dicOf (S ++ [O.dic (kI M) (tru M), O.lst []]) (.ref S.length) = some (kI M, tru M) := by simp [dicOf]
  simp -implicitDefEqProofs [listDF, hdc] at hy
  subst hy
  have hk : M.map (kW ∘ Sum.inl) = wl M := List.map_congr_left fun _ _ => rfl
  rw [hk] at hx
  exact ⟨M, hx.symm.trans (gc_app low_lW), hM⟩
theorem led_er {p : Int} (hp : ¬ Ps nodes.length e p) : U.fn_Web_led_to [webO nodes e st, .int p] S = .er 6 ["place"] [.int p] S := by
  generalize hx : U.fn_Web_led_to _ _ = x
  unfold U.fn_Web_led_to at hx
  rw [DD.gcF_eq, DD.dFn_eq] at hx
  generalize hy : U.b_Web_led_to _ _ = y at hx
  unfold U.b_Web_led_to at hy
  have hc : (decide (-1 - e < p) && decide (p < nodes.length)) = false := by
    rw [Bool.and_eq_false_iff]
    by_cases h : -1 - e < p
    · right; exact decide_eq_false fun z => hp ⟨h, z⟩
    · left; exact decide_eq_false h
  have hin : orD (usrIn true 30 fn_Web_contains) notInD (.int p) (webO nodes e st) S = .ok (.bl true) S := by
    simp only [orD, usrIn, isOf_web, web_contains, hc, if_true]
    rfl
  simp -implicitDefEqProofs [hin, dRaise1] at hy
  subst hy
  exact hx.symm.trans (by rw [gc_er (gcs_same S) rfl, List.take_length])
end SP
namespace SP
open PySem L2 DD U
/-! ### sizes -/
def Bz (n : Nat) (i : Int) : Prop := i.natAbs < 2 ^ n
theorem Bz.mono {n m : Nat} {i : Int} (h : Bz n i) (le : n ≤ m) : Bz m i := Nat.lt_of_lt_of_le h (Nat.pow_le_pow_right (by decide) le)
theorem Bz.mul {n m : Nat} {i j : Int} (h : Bz n i) (g : Bz m j) : Bz (n + m) (i * j) := by
  unfold Bz at *
  rw [Int.natAbs_mul, Nat.pow_add]
  exact Nat.mul_lt_mul'' h g
theorem Bz.add {n m : Nat} {i j : Int} (h : Bz n i) (g : Bz m j) : Bz (max n m + 1) (i + j) := by
  have h' := h.mono (Nat.le_max_left n m)
  have g' := g.mono (Nat.le_max_right n m)
  unfold Bz at *
  rw [Nat.pow_succ]
  omega
theorem Bz.neg {n : Nat} {i : Int} (h : Bz n i) : Bz n (-i) := by unfold Bz at *; rwa [Int.natAbs_neg]
theorem Bz.sub {n m : Nat} {i j : Int} (h : Bz n i) (g : Bz m j) : Bz (max n m + 1) (i - j) := by
  rw [Int.sub_eq_add_neg]; exact h.add g.neg
theorem e_mulZ {S : Sto} {b : Bool} {i j : Int} {n m : Nat} (h1 : Bz n i) (h2 : Bz m j) (h : n + m ≤ 900000) : mulD b (.int i) (.int j) S = .ok (.int (i * j)) S := by
  have l1 : i.natAbs.log2 < n + 1 := log2_le (Nat.lt_of_lt_of_le h1 (Nat.pow_le_pow_right (by decide) (by omega))) (by omega)
  have l2 : j.natAbs.log2 < m + 1 := log2_le (Nat.lt_of_lt_of_le h2 (Nat.pow_le_pow_right (by decide) (by omega))) (by omega)
  have : mulOk i j = true := by
    unfold mulOk
    rw [show decide (i.natAbs.log2 + j.natAbs.log2 < 1000000) = true from decide_eq_true (by omega)]
    simp
  show (match (if mulOk i j = true then R.ok (W.int (i * j)) S else .no) with
    | .no => _
    | x => x) = _
  rw [if_pos this]
theorem e_divE {S : Sto} {j k : Int} {n : Nat} (h : j ≠ 0) (hb : Bz n j) (hn : n ≤ 8000) : iDiv (.int (k * j)) (.int j) S = .ok (.int k) S := by
  have l2 : j.natAbs.log2 < n + 1 := log2_le (Nat.lt_of_lt_of_le hb (Nat.pow_le_pow_right (by decide) (by omega))) (by omega)
  have : divOk (k * j) j = true := by
    unfold divOk
    rw [decide_eq_true h, show decide (j.natAbs.log2 < 9000) = true from decide_eq_true (by omega)]; rfl
  show (if divOk (k * j) j = true then R.ok (W.int (fdiv (k * j) j)) S else .no) = _
  rw [if_pos this]
  congr 2
  unfold fdiv
  split
  · exact Int.mul_ediv_cancel _ h
  · exact Int.mul_fdiv_cancel _ h
/-! ### fractions -/
theorem num_of {a b : Int} {g : Nat} (hb : b ≠ 0) (hg : g = a.gcd b) (s : Int) (hs : s = if 0 < b then 1 else -1) : a = (Rat.divInt a b).num * (s * g) ∧ b = ((Rat.divInt a b).den : Int) * (s * g) := by
  have hg0 : (g : Int) ≠ 0 := by
    have : a.gcd b ≠ 0 := fun z => hb (Int.gcd_eq_zero_iff.mp z).2
    omega
  have h1 := Rat.num_divInt a b
  have h2 := Rat.den_divInt a b
  rw [if_neg hb] at h2
  rw [Int.gcd_comm, ← hg] at h1 h2
  obtain ⟨a', ha⟩ : (g : Int) ∣ a := by rw [hg]; exact Int.gcd_dvd_left ..
  obtain ⟨b', hb'⟩ : (g : Int) ∣ b := by rw [hg]; exact Int.gcd_dvd_right ..
  have hs' : b.sign = s := by
    rw [hs]
    by_cases h : 0 < b
    · rw [if_pos h]; exact Int.sign_eq_one_of_pos h
    · rw [if_neg h]; exact Int.sign_eq_neg_one_of_neg (by omega)
  have hss : s * s = 1 := by rw [hs]; split <;> rfl
  constructor
  · rw [h1, hs']
    have : s * a / (g : Int) = s * a' := by
      rw [ha, show s * ((g : Int) * a') = (s * a') * g by grind]
      exact Int.mul_ediv_cancel _ hg0
    rw [this]
    grind
  · rw [h2]
    have h3 : ((b.natAbs / g : Nat) : Int) = s * b' := by
      have : b.natAbs = (s * b').natAbs * g := by
        rw [hb', Int.natAbs_mul, Int.natAbs_mul]
        have : s.natAbs = 1 := by rw [hs]; split <;> rfl
        rw [this]; simp [Nat.mul_comm]
      rw [this, Nat.mul_div_cancel _ (by omega)]
      have : 0 ≤ s * b' := by
        have hgp : (0:Int) < g := by omega
        by_cases h : 0 < b
        · rw [if_pos h] at hs; subst hs
          rw [hb'] at h
          have := Int.pos_of_mul_pos_right h hgp
          omega
        · rw [if_neg h] at hs; subst hs
          have : b' ≤ 0 := by
            apply Int.not_lt.mp
            intro hlt
            exact h (by rw [hb']; exact Int.mul_pos hgp hlt)
          omega
      omega
    rw [h3]; grind
/-- a ratio -/
abbrev rW (q : Rat) : W := .obj 34 ["top", "bottom"] [.int q.num, .int q.den]
def Rz (n : Nat) (q : Rat) : Prop := Bz n q.num ∧ Bz n q.den
theorem Rz.mono {n m : Nat} {q : Rat} (h : Rz n q) (le : n ≤ m) : Rz m q := ⟨h.1.mono le, h.2.mono le⟩
theorem natAbs_mul_le {a k : Int} (h : k ≠ 0) : a.natAbs ≤ (a * k).natAbs := by
  rw [Int.natAbs_mul]
  exact Nat.le_mul_of_pos_right _ (by omega)
theorem rz_div {n : Nat} {a b : Int} (hb : b ≠ 0) (h1 : Bz n a) (h2 : Bz n b) : Rz n (Rat.divInt a b) := by
  obtain ⟨e1, e2⟩ := num_of (a := a) hb rfl _ rfl
  have hk : (if 0 < b then 1 else -1) * ((a.gcd b : Nat) : Int) ≠ 0 := fun z => hb (by rw [e2, z, Int.mul_zero])
  unfold Bz at h1 h2
  rw [e1] at h1
  rw [e2] at h2
  exact ⟨Nat.lt_of_le_of_lt (natAbs_mul_le hk) h1, Nat.lt_of_le_of_lt (natAbs_mul_le hk) h2⟩
theorem rz_int {n : Nat} {i : Int} (h : Bz n i) (h0 : 0 < n) : Rz n (i : Rat) := ⟨by simpa using h, by
  unfold Bz
  have : (1 : Nat) < 2 ^ n := Nat.one_lt_two_pow (by omega)
  simpa using this⟩
theorem lowW_rW {n : Nat} {q : Rat} : lowW n (rW q) = true := by simp [lowW, lowL]
theorem den_ne (q : Rat) : (q.den : Int) ≠ 0 := by have := q.den_nz; omega
theorem rat_self (q : Rat) : Rat.divInt q.num q.den = q := Rat.num_divInt_den q
theorem radd_eq (p q : Rat) : Rat.divInt (p.num * q.den + q.num * p.den) (p.den * q.den) = p + q := by
  rw [← Rat.divInt_add_divInt _ _ (den_ne p) (den_ne q), rat_self, rat_self]
theorem rsub_eq (p q : Rat) : Rat.divInt (p.num * q.den - q.num * p.den) (p.den * q.den) = p - q := by
  rw [← Rat.divInt_sub_divInt _ _ (den_ne p) (den_ne q), rat_self, rat_self]
theorem rmul_eq (p q : Rat) : Rat.divInt (p.num * q.num) (p.den * q.den) = p * q := by
  rw [← Rat.divInt_mul_divInt, rat_self, rat_self]
theorem rz_add {n m : Nat} {p q : Rat} (h : Rz n p) (g : Rz m q) : Rz (n + m + 1) (p + q) := by
  rw [← radd_eq]
  refine rz_div (Int.mul_ne_zero (den_ne p) (den_ne q)) ?_ ((h.2.mul g.2).mono (by omega))
  have := (h.1.mul g.2).add (g.1.mul h.2)
  rw [Nat.add_comm m n, Nat.max_self] at this
  exact this
theorem rz_sub {n m : Nat} {p q : Rat} (h : Rz n p) (g : Rz m q) : Rz (n + m + 1) (p - q) := by
  rw [← rsub_eq]
  refine rz_div (Int.mul_ne_zero (den_ne p) (den_ne q)) ?_ ((h.2.mul g.2).mono (by omega))
  have := (h.1.mul g.2).sub (g.1.mul h.2)
  rw [Nat.add_comm m n, Nat.max_self] at this
  exact this
theorem rz_mul {n m : Nat} {p q : Rat} (h : Rz n p) (g : Rz m q) : Rz (n + m) (p * q) := by
  rw [← rmul_eq]
  exact rz_div (Int.mul_ne_zero (den_ne p) (den_ne q)) (h.1.mul g.1) (h.2.mul g.2)
theorem rz_neg {n : Nat} {p : Rat} (h : Rz n p) : Rz n (-p) := ⟨by rw [Rat.neg_num]; exact h.1.neg, by rw [Rat.neg_den]; exact h.2⟩
/-- the greatest common divisor -/
theorem gcd_ok {S : Sto} {a b : Int} : U.fn_common_divisor [.int a, .int b] S = .ok (.int (a.gcd b)) S := by
  generalize hx : U.fn_common_divisor _ _ = x
  unfold U.fn_common_divisor at hx
  rw [DD.gcF_eq, DD.dFn_eq] at hx
  generalize hy : U.b_common_divisor _ _ = y at hx
  unfold U.b_common_divisor at hy
  simp -implicitDefEqProofs [] at hy
  obtain ⟨t', S', e, rfl, rfl⟩ := while_inv (c := dTru (dVar 1)) (b := b_common_divisor_w0) (fun m t X => ∃ u v : Nat, t = [some (.int u), some (.int v)] ∧ S = X ∧ Nat.gcd u v = a.gcd b ∧ v = m) (fun t X => t = [some (.int (a.gcd b)), some (.int 0)] ∧ X = S)
    (fun m t X ⟨u, v, ht, hX, hg, hm⟩ => by
      subst ht hX hm
      by_cases hv : v = 0
      · subst hv
        left
        rw [Nat.gcd_zero_right] at hg
        subst hg
        exact ⟨S, by simp [truW], rfl, rfl⟩
      · right
        refine ⟨S, by simp [truW]; omega, ?_⟩
        have h1 : (0 : Int) < v := by omega
        refine ⟨[some (.int v), some (.int ((u % v : Nat) : Int))], S, u % v, .inl ?_, Nat.mod_lt _ (by omega), v, u % v, rfl, rfl, ?_, rfl⟩
        · simp [b_common_divisor_w0, e_mod h1]
        · rw [← hg, Nat.gcd_comm u v, Nat.gcd_rec v u, Nat.gcd_comm])
    (m := b.natAbs) (t := [some (.int (if a < 0 then -a else a)), some (.int (if b < 0 then -b else b))]) (S := S) ⟨a.natAbs, b.natAbs, by
      congr 2
      · congr 2; split <;> omega
      · congr 2; congr 1; split <;> omega, rfl, rfl, rfl⟩
  rw [e] at hy
  simp -implicitDefEqProofs [] at hy
  subst hy
  exact hx.symm.trans (gc_same rfl)
theorem d_tb : ¬ ((Str.ofString "top" : Str) = Str.ofString "bottom") := by decide
theorem rinit_ok {S : Sto} {a b : Int} {n : Nat} (hb : b ≠ 0) (h : Bz n b) (hn : n ≤ 8000) : U.fn_Ratio_init [.ref S.length, .int a, .int b] (S ++ [.ins 34 [] []]) = .ok .non (S ++ [.ins 34 ["top", "bottom"] [.int (Rat.divInt a b).num, .int (Rat.divInt a b).den]]) := by
  generalize hx : U.fn_Ratio_init _ _ = x
  unfold U.fn_Ratio_init at hx
  rw [DD.gcF_eq, DD.dFn_eq] at hx
  generalize hy : U.b_Ratio_init _ _ = y at hx
  unfold U.b_Ratio_init at hy
  obtain ⟨s, hs⟩ : ∃ s : Int, s = if 0 < b then 1 else -1 := ⟨_, rfl⟩
  obtain ⟨e1, e2⟩ := num_of (a := a) hb rfl s hs
  have hm : ∀ S, mulD false (.int s) (.int (a.gcd b)) S = .ok (.int (s * (a.gcd b : Nat))) S := fun S => e_mulL (by rw [hs]; split <;> omega)
  have hk : s * ((a.gcd b : Nat) : Int) ≠ 0 := fun z => hb (by rw [e2, z, Int.mul_zero])
  have hkz : Bz n (s * ((a.gcd b : Nat) : Int)) := by
    unfold Bz at h ⊢
    refine Nat.lt_of_le_of_lt ?_ h
    conv => rhs; rw [e2, Int.mul_comm]
    exact natAbs_mul_le (den_ne _)
  have d1 : ∀ S, iDiv (.int a) (.int (s * ((a.gcd b : Nat) : Int))) S = .ok (.int (Rat.divInt a b).num) S := fun S => by
    conv => lhs; arg 1; rw [e1]
    exact e_divE hk hkz hn
  have d2 : ∀ S, iDiv (.int b) (.int (s * ((a.gcd b : Nat) : Int))) S = .ok (.int (Rat.divInt a b).den) S := fun S => by
    conv => lhs; arg 1; rw [e2]
    exact e_divE hk hkz hn
  have ht : (if 0 < b then (R.ok (W.int 1) (S ++ [.ins 34 [] []]) : R W) else .ok (.int (-1)) (S ++ [.ins 34 [] []])) = .ok (.int s) (S ++ [.ins 34 [] []]) := by rw [hs]; split <;> rfl
  simp -implicitDefEqProofs [hb, ht, gcd_ok, hm, d1, d2, dSetF, fput, d_tb] at hy
  subst hy
  rw [← hx]
  refine gc_set (by simp) (fun i hi => ?_) rfl
  by_cases h : i < S.length
  · left; rw [List.getElem?_append_left h, List.getElem?_append_left h]
  · have : i = S.length := by simp at hi; omega
    subst this
    exact .inr ⟨_, app_get, by simp [lowO, lowL, lowW]⟩
theorem rinit_er {S : Sto} {a : Int} : U.fn_Ratio_init [.ref S.length, .int a, .int 0] (S ++ [.ins 34 [] []]) = .er 16 [] [] (S ++ [.ins 34 [] []]) := by
  generalize hx : U.fn_Ratio_init _ _ = x
  unfold U.fn_Ratio_init at hx
  rw [DD.gcF_eq, DD.dFn_eq] at hx
  generalize hy : U.b_Ratio_init _ _ = y at hx
  unfold U.b_Ratio_init at hy
  simp -implicitDefEqProofs [dRaise0] at hy
  subst hy
  exact hx.symm.trans (by rw [gc_er (gcs_same _) rfl, List.take_length])
/-- Ratio(a, b) -/
theorem mkr_ok {S : Sto} {t : Lo} {da dk : DA} {ws zs : List W} {a b : Int} {n : Nat} {q : Rat} (hd : da t S = .ok ws S) (hk : dk t S = .ok zs S) (hw : ws ++ zs = [.int a, .int b]) (hb : b ≠ 0) (h : Bz n b) (hn : n ≤ 8000) (hq : Rat.divInt a b = q) :
    dGc (dFrz (dMake 34 U.fn_Ratio_init (dBoth (· ++ ·) da dk))) t S = .ok (rW q) S := by
  subst hq
  have e2 : dFrz (dMake 34 U.fn_Ratio_init (dBoth (· ++ ·) da dk)) t S = .ok (rW (Rat.divInt a b)) (S ++ [.dead]) := by
    simp [dFrz, dMake, dBoth, hd, hk, hw, rinit_ok hb h hn]
  unfold dGc
  rw [e2]
  exact gc_app lowW_rW
theorem mkr_er {S : Sto} {t : Lo} {da dk : DA} {ws zs : List W} {a : Int} (hd : da t S = .ok ws S) (hk : dk t S = .ok zs S) (hw : ws ++ zs = [.int a, .int 0]) :
    dGc (dFrz (dMake 34 U.fn_Ratio_init (dBoth (· ++ ·) da dk))) t S = .er 16 [] [] S := by
  have e2 : dFrz (dMake 34 U.fn_Ratio_init (dBoth (· ++ ·) da dk)) t S = .er 16 [] [] (S ++ [.ins 34 [] []]) := by
    simp [dFrz, dMake, dBoth, hd, hk, hw, rinit_er]
  unfold dGc
  rw [e2, gc_er (gcs_app _ _) rfl]
  simp
/-- a number: a ratio or an int -/
def Nm (w : W) (q : Rat) : Prop := w = rW q ∨ ∃ i : Int, w = .int i ∧ q = i
theorem Nm.r {q : Rat} : Nm (rW q) q := .inl rfl
theorem Nm.i {i : Int} : Nm (.int i) i := .inr ⟨i, rfl, rfl⟩
theorem isi_rW {S : Sto} {q : Rat} : isiF (isi1 34) [rW q, .cls 34] S = .ok (.bl true) S := by simp [isiF, isi1, kiW, kiC]
theorem isi_int {S : Sto} {i : Int} : isiF (isi1 34) [.int i, .cls 34] S = .ok (.bl false) S := by simp [isiF, isi1, kiW, kiC]
theorem asr_ok {S : Sto} {w : W} {q : Rat} (h : Nm w q) : U.fn_as_ratio [w] S = .ok (rW q) S := by
  generalize hx : U.fn_as_ratio _ _ = x
  unfold U.fn_as_ratio at hx
  rw [DD.gcF_eq, DD.dFn_eq] at hx
  generalize hy : U.b_as_ratio _ _ = y at hx
  unfold U.b_as_ratio at hy
  rcases h with rfl | ⟨i, rfl, rfl⟩
  · simp -implicitDefEqProofs [isi_rW, truW] at hy
    subst hy
    exact hx.symm.trans (gc_same lowW_rW)
  · have := fun t => mkr_ok (S := S) (t := some (.int i) :: t) (da := dCons (dVar 0) dNil) (dk := fun _ S => .ok [(.int 1)] S) (a := i) (b := 1) (n := 8) (by simp; rfl) rfl rfl (by decide) (show (1:Int).natAbs < 2 ^ 8 by decide) (by decide) (q := i) (by have := rat_self (i : Rat); simpa using this)
    simp -implicitDefEqProofs [isi_int, truW, this] at hy
    subst hy
    exact hx.symm.trans (gc_same lowW_rW)
end SP
namespace SP
open PySem L2 DD U
mutual
theorem lowW_mono {n m : Nat} (le : n ≤ m) : ∀ {w : W}, lowW n w = true → lowW m w = true
  | .ref i, h => by simp only [lowW, decide_eq_true_eq] at h ⊢; omega
  | .tup l, h => by simp only [lowW] at h ⊢; exact lowL_mono le h
  | .lst l, h => by simp only [lowW] at h ⊢; exact lowL_mono le h
  | .scr l, h => by simp only [lowW] at h ⊢; exact lowL_mono le h
  | .dic ks l, h => by simp only [lowW] at h ⊢; exact lowL_mono le h
  | .obj c ns l, h => by simp only [lowW] at h ⊢; exact lowL_mono le h
  | .non, h => rfl
  | .bl _, h => rfl
  | .int _, h => rfl
  | .str _, h => rfl
  | .cls _, h => rfl
  | .ty _, h => rfl
theorem lowL_mono {n m : Nat} (le : n ≤ m) : ∀ {l : List W}, lowL n l = true → lowL m l = true
  | [], h => rfl
  | w :: l, h => by
    simp only [lowL, Bool.and_eq_true] at h ⊢
    exact ⟨lowW_mono le h.1, lowL_mono le h.2⟩
end
/-! ### the third pool: [a large number, a mixed number], at the store's end -/
def Po3 (P : O) : Prop := ∃ b m : Int, P = .lst [.int b, .int m] ∧ 0 ≤ b ∧ 0 ≤ m ∧ m < 2147483647
theorem Po3.low {P : O} {n : Nat} (h : Po3 P) : lowO n P = true := by
  obtain ⟨b, m, rfl, _⟩ := h
  simp [lowO, lowL, lowW]
/-- the end of a def that has the pool -/
theorem gc_po3 {P P' : O} {S g B : Sto} {w : W} (h : Po3 P') (l : lowW (S.length + 1) w = true) : gcR (S ++ P :: B) (.ok w (S ++ P' :: (B ++ g))) = .ok w (S ++ P' :: B) := by
  rw [gc_ok]
  · congr 1
    rw [show S ++ P' :: (B ++ g) = (S ++ P' :: B) ++ g by simp]
    exact List.take_left' (by simp)
  · refine ⟨by simp, fun i hi => ?_⟩
    by_cases h' : i < S.length
    · left; rw [List.getElem?_append_left h', List.getElem?_append_left h']
    · by_cases h2 : i = S.length
      · subst h2
        exact .inr ⟨P', app_get, h.low⟩
      · left
        obtain ⟨j, rfl⟩ : ∃ j, i = S.length + 1 + j := ⟨i - (S.length + 1), by omega⟩
        simp at hi
        rw [List.getElem?_append_right (by omega), List.getElem?_append_right (by omega), show S.length + 1 + j - S.length = j + 1 by omega, List.getElem?_cons_succ, List.getElem?_cons_succ, List.getElem?_append_left (by omega)]
  · exact lowW_mono (by simp) l
theorem gc_po30 {P P' : O} {S B : Sto} {w : W} (h : Po3 P') (l : lowW (S.length + 1) w = true) : gcR (S ++ P :: B) (.ok w (S ++ P' :: B)) = .ok w (S ++ P' :: B) := by
  have := gc_po3 (P := P) (S := S) (B := B) (g := []) h l
  rwa [List.append_nil] at this
theorem take3_ok {P : O} {S B : Sto} {lim : Int} (h : Po3 P) (h0 : 0 < lim) (h1 : lim < 2 ^ 64) :
    ∃ r P', U.fn_l_take [.ref S.length, .int lim] (S ++ P :: B) = .ok (.int r) (S ++ P' :: B) ∧ 0 ≤ r ∧ r < lim ∧ Po3 P' := by
  obtain ⟨b, m, rfl, b0, m0, m1⟩ := h
  generalize hx : U.fn_l_take _ _ = x
  unfold U.fn_l_take at hx
  rw [DD.gcF_eq, DD.dFn_eq] at hx
  generalize hy : U.b_l_take _ _ = y at hx
  unfold U.b_l_take at hy
  have hi0 : ∀ b m, ixD (.ref S.length) (.int 0) (S ++ .lst [.int b, .int m] :: B) = .ok (.int b) (S ++ .lst [.int b, .int m] :: B) := fun b m => e_ixR app_get (atI0 ..)
  have hi1 : ∀ b m, ixD (.ref S.length) (.int 1) (S ++ .lst [.int b, .int m] :: B) = .ok (.int m) (S ++ .lst [.int b, .int m] :: B) := fun b m => e_ixR app_get (atI1 ..)
  have hl : lim < 2 ^ 8000 := Int.lt_trans h1 (by decide)
  by_cases hb : 0 < b
  · simp -implicitDefEqProofs [hi0, hb, e_mod h0, e_div h0 hl, ixN_in (n := 2) (i := 0) (by decide) (by decide)] at hy
    subst hy
    refine ⟨b % lim, .lst [.int (b / lim), .int m], hx.symm.trans (gc_po30 ⟨_, _, rfl, Int.ediv_nonneg b0 (by omega), m0, m1⟩ rfl), Int.emod_nonneg _ (by omega), Int.emod_lt_of_pos _ h0, _, _, rfl, Int.ediv_nonneg b0 (by omega), m0, m1⟩
  · have hm' : ∀ S, mulD false (.int m) (.int 39373) S = .ok (.int (m * 39373)) S := fun S => e_mulR (by decide)
    simp -implicitDefEqProofs [hi0, hi1, hb, hm', e_mod (show (0:Int) < 2147483647 by decide), ixN_in (n := 2) (i := 1) (by decide) (by decide)] at hy
    have n0 := Int.emod_nonneg (m * 39373 + 7) (show (2147483647:Int) ≠ 0 by decide)
    have n1 := Int.emod_lt_of_pos (m * 39373 + 7) (show (0:Int) < 2147483647 by decide)
    generalize (m * 39373 + 7) % 2147483647 = m' at hy n0 n1
    have hm2 : ∀ S, mulD false (.int m') (.int m') S = .ok (.int (m' * m')) S := fun S => e_mulR (by omega)
    simp -implicitDefEqProofs [hi0, hi1, hm2, e_mod (show (0:Int) < 2147483629 by decide), e_div (show (0:Int) < 32 by decide) (show (32:Int) < 2 ^ 8000 by decide), e_mod h0] at hy
    subst hy
    exact ⟨_, .lst [.int b, .int m'], hx.symm.trans (gc_po30 ⟨_, _, rfl, b0, n0, n1⟩ rfl), Int.emod_nonneg _ (by omega), Int.emod_lt_of_pos _ h0, _, _, rfl, b0, n0, n1⟩
theorem pool3_ok {ns : List Int} {k : Int} {S : Sto} (hk : 0 ≤ k) (hk1 : k < 100) : ∃ P, U.fn_l_pool_3 [.scr (ns.map W.int), .int k] S = .ok (.ref S.length) (S ++ [P]) ∧ Po3 P := by
  generalize hx : U.fn_l_pool_3 _ _ = x
  unfold U.fn_l_pool_3 at hx
  rw [dFn_eq] at hx
  generalize hy : U.b_l_pool_3 _ _ = y at hx
  unfold U.b_l_pool_3 at hy
  generalize htl : dSeq (dAsg (dBi max2F _) _) _ = tl at hy
  obtain ⟨c, hc⟩ : ∃ c : Int, tl [some (.scr (ns.map W.int)), some (.int k), some (.int c), none, none] S = y := by
    by_cases h : k < ns.length
    · obtain ⟨x, h1, h2⟩ := atI_in (l := ns.map W.int) hk (by simpa using h)
      rw [List.getElem?_map] at h2
      obtain ⟨c, _, rfl⟩ := Option.map_eq_some_iff.mp h2
      refine ⟨c, ?_⟩
      simp -implicitDefEqProofs [h, e_ixC h1] at hy
      exact hy
    · refine ⟨0, ?_⟩
      simp -implicitDefEqProofs [h] at hy
      exact hy
  clear hy
  subst htl
  obtain ⟨b, hb⟩ : ∃ b : Int, b = if -1 - c > c then -1 - c else c := ⟨_, rfl⟩
  have b0 : 0 ≤ b := by rw [hb]; split <;> omega
  have m1 : ∀ S, mulD false (.int 5303) (.int k) S = .ok (.int (5303 * k)) S := fun S => e_mulL (by decide)
  have m2 : ∀ S, mulD false (.int (5303 * k)) (.int k) S = .ok (.int (5303 * k * k)) S := fun S => e_mulR (by omega)
  have m3 : ∀ S, mulD false (.int 43) (.int k) S = .ok (.int (43 * k)) S := fun S => e_mulL (by decide)
  have m4 : ∀ S (i : Int), mulD false (.int i) (.int 48271) S = .ok (.int (i * 48271)) S := fun S i => e_mulR (by decide)
  have m5 : ∀ S, iPow (.int 10) (.int 18) S = .ok (.int 1000000000000000000) S := fun S => by
    rw [e_pow (by decide)]
    have : (10 : Int) ^ (18 : Int).toNat = 1000000000000000000 := by decide
    rw [this]
  have m6 : ∀ S, mulD false (.int b) (.int (if 1000000000000000000 ≤ b then 1 else 0)) S = .ok (.int (b * if 1000000000000000000 ≤ b then 1 else 0)) S := fun S => e_mulR (by split <;> decide)
  simp -implicitDefEqProofs [← hb, m1, m2, m3, m4, m5, m6, e_mod (show (0:Int) < 2147483629 by decide), e_mod (show (0:Int) < 2147483647 by decide), sizeLine_eq] at hc
  subst hc
  refine ⟨_, hx.symm, _, _, rfl, ?_, Int.emod_nonneg _ (by decide), Int.emod_lt_of_pos _ (by decide)⟩
  split
  · omega
  · omega
end SP
namespace SP
open PySem L2 DD U
/-! ### a ratio's operators -/
theorem fld_top {S : Sto} {q : Rat} : fieldOf [34] "top" (rW q) S = some (.int q.num) := rfl
theorem fld_bot {S : Sto} {q : Rat} : fieldOf [34] "bottom" (rW q) S = some (.int q.den) := rfl
theorem isOf_rW {S : Sto} {q : Rat} : isOf 34 (rW q) S = true := rfl
theorem instOf_rW {S : Sto} {q : Rat} {m : Str} (h : (["top", "bottom"] : List Str).contains m = false) : instOf 34 m (rW q) S = true := by
  unfold instOf rW
  simp only [decide_true, h]
  rfl
theorem Nm.sz {w : W} {q : Rat} (h : Nm w q) : True := trivial
section
variable {S : Sto} {p q : Rat} {w : W} {n m : Nat}
theorem ratio_add (h : Nm w q) (hp : Rz n p) (hq : Rz m q) (hn : n + m ≤ 8000) : U.fn_Ratio_add [rW p, w] S = .ok (rW (p + q)) S := by
  generalize hx : U.fn_Ratio_add _ _ = x
  unfold U.fn_Ratio_add at hx
  rw [DD.gcF_eq, DD.dFn_eq] at hx
  generalize hy : U.b_Ratio_add _ _ = y at hx
  unfold U.b_Ratio_add at hy
  simp -implicitDefEqProofs [asr_ok h] at hy
  have m1 : ∀ S, mulD false (.int p.num) (.int q.den) S = .ok (.int (p.num * q.den)) S := fun S => e_mulZ hp.1 hq.2 (by omega)
  have m2 : ∀ S, mulD false (.int q.num) (.int p.den) S = .ok (.int (q.num * p.den)) S := fun S => e_mulZ hq.1 hp.2 (by omega)
  have m3 : ∀ S, mulD false (.int p.den) (.int q.den) S = .ok (.int (p.den * q.den)) S := fun S => e_mulZ hp.2 hq.2 (by omega)
  generalize hd__ : DD.dGc _ _ _ = d__ at hy
  have hs__ := SP.aq0 hd__ (((mkr_ok (S := S) (ws := [.int (p.num * q.den + q.num * p.den), .int (p.den * q.den)]) (zs := []) (a := p.num * q.den + q.num * p.den) (b := p.den * q.den) (hk := rfl) (hw := rfl) (hb := Int.mul_ne_zero (den_ne p) (den_ne q)) (h := hp.2.mul hq.2) (hn := hn) (hq := radd_eq p q))) ?_)
  subst hs__
  · simp -implicitDefEqProofs [] at hy
    subst hy
    exact hx.symm.trans (gc_same lowW_rW)
  · simp -implicitDefEqProofs [fld_top, fld_bot, m1, m2, m3]
theorem ratio_sub (h : Nm w q) (hp : Rz n p) (hq : Rz m q) (hn : n + m ≤ 8000) : U.fn_Ratio_sub [rW p, w] S = .ok (rW (p - q)) S := by
  generalize hx : U.fn_Ratio_sub _ _ = x
  unfold U.fn_Ratio_sub at hx
  rw [DD.gcF_eq, DD.dFn_eq] at hx
  generalize hy : U.b_Ratio_sub _ _ = y at hx
  unfold U.b_Ratio_sub at hy
  simp -implicitDefEqProofs [asr_ok h] at hy
  have m1 : ∀ S, mulD false (.int p.num) (.int q.den) S = .ok (.int (p.num * q.den)) S := fun S => e_mulZ hp.1 hq.2 (by omega)
  have m2 : ∀ S, mulD false (.int q.num) (.int p.den) S = .ok (.int (q.num * p.den)) S := fun S => e_mulZ hq.1 hp.2 (by omega)
  have m3 : ∀ S, mulD false (.int p.den) (.int q.den) S = .ok (.int (p.den * q.den)) S := fun S => e_mulZ hp.2 hq.2 (by omega)
  generalize hd__ : DD.dGc _ _ _ = d__ at hy
  have hs__ := SP.aq0 hd__ (((mkr_ok (S := S) (ws := [.int (p.num * q.den - q.num * p.den), .int (p.den * q.den)]) (zs := []) (a := p.num * q.den - q.num * p.den) (b := p.den * q.den) (hk := rfl) (hw := rfl) (hb := Int.mul_ne_zero (den_ne p) (den_ne q)) (h := hp.2.mul hq.2) (hn := hn) (hq := rsub_eq p q))) ?_)
  subst hs__
  · simp -implicitDefEqProofs [] at hy
    subst hy
    exact hx.symm.trans (gc_same lowW_rW)
  · simp -implicitDefEqProofs [fld_top, fld_bot, m1, m2, m3]
theorem ratio_mul (h : Nm w q) (hp : Rz n p) (hq : Rz m q) (hn : n + m ≤ 8000) : U.fn_Ratio_mul [rW p, w] S = .ok (rW (p * q)) S := by
  generalize hx : U.fn_Ratio_mul _ _ = x
  unfold U.fn_Ratio_mul at hx
  rw [DD.gcF_eq, DD.dFn_eq] at hx
  generalize hy : U.b_Ratio_mul _ _ = y at hx
  unfold U.b_Ratio_mul at hy
  simp -implicitDefEqProofs [asr_ok h] at hy
  have m1 : ∀ S, mulD false (.int p.num) (.int q.num) S = .ok (.int (p.num * q.num)) S := fun S => e_mulZ hp.1 hq.1 (by omega)
  have m3 : ∀ S, mulD false (.int p.den) (.int q.den) S = .ok (.int (p.den * q.den)) S := fun S => e_mulZ hp.2 hq.2 (by omega)
  generalize hd__ : DD.dGc _ _ _ = d__ at hy
  have hs__ := SP.aq0 hd__ (((mkr_ok (S := S) (ws := [.int (p.num * q.num), .int (p.den * q.den)]) (zs := []) (a := p.num * q.num) (b := p.den * q.den) (hk := rfl) (hw := rfl) (hb := Int.mul_ne_zero (den_ne p) (den_ne q)) (h := hp.2.mul hq.2) (hn := hn) (hq := rmul_eq p q))) ?_)
  subst hs__
  · simp -implicitDefEqProofs [] at hy
    subst hy
    exact hx.symm.trans (gc_same lowW_rW)
  · simp -implicitDefEqProofs [fld_top, fld_bot, m1, m3]
theorem ratio_over (h : Nm w q) (h0 : q ≠ 0) (hp : Rz n p) (hq : Rz m q) (hn : n + m ≤ 8000) : U.fn_Ratio_over [rW p, w] S = .ok (rW (p / q)) S := by
  generalize hx : U.fn_Ratio_over _ _ = x
  unfold U.fn_Ratio_over at hx
  rw [DD.gcF_eq, DD.dFn_eq] at hx
  generalize hy : U.b_Ratio_over _ _ = y at hx
  unfold U.b_Ratio_over at hy
  have hz : q.num ≠ 0 := fun z => h0 (Rat.num_eq_zero.mp z)
  simp -implicitDefEqProofs [asr_ok h, fld_top, hz] at hy
  have m1 : ∀ S, mulD false (.int p.num) (.int q.den) S = .ok (.int (p.num * q.den)) S := fun S => e_mulZ hp.1 hq.2 (by omega)
  have m3 : ∀ S, mulD false (.int p.den) (.int q.num) S = .ok (.int (p.den * q.num)) S := fun S => e_mulZ hp.2 hq.1 (by omega)
  have : Rat.divInt (p.num * q.den) (p.den * q.num) = p / q := by
    rw [← Rat.divInt_mul_divInt, rat_self, Rat.div_def]
    congr 1
    rw [← Rat.inv_divInt, rat_self]
  generalize hd__ : DD.dGc _ _ _ = d__ at hy
  have hs__ := SP.aq0 hd__ (((mkr_ok (S := S) (ws := [.int (p.num * q.den), .int (p.den * q.num)]) (zs := []) (a := p.num * q.den) (b := p.den * q.num) (hk := rfl) (hw := rfl) (hb := Int.mul_ne_zero (den_ne p) hz) (h := hp.2.mul hq.1) (hn := hn) (hq := this))) ?_)
  subst hs__
  · simp -implicitDefEqProofs [] at hy
    subst hy
    exact hx.symm.trans (gc_same lowW_rW)
  · simp -implicitDefEqProofs [fld_top, fld_bot, m1, m3]
theorem ratio_over0 (h : Nm w 0) : U.fn_Ratio_over [rW p, w] S = .er 16 [] [] S := by
  generalize hx : U.fn_Ratio_over _ _ = x
  unfold U.fn_Ratio_over at hx
  rw [DD.gcF_eq, DD.dFn_eq] at hx
  generalize hy : U.b_Ratio_over _ _ = y at hx
  unfold U.b_Ratio_over at hy
  simp -implicitDefEqProofs [asr_ok h, fld_top, dRaise0] at hy
  subst hy
  exact hx.symm.trans (by rw [gc_er (gcs_same _) rfl, List.take_length])
theorem ratio_neg (hp : Rz n p) (hn : n ≤ 8000) : U.fn_Ratio_neg [rW p] S = .ok (rW (-p)) S := by
  generalize hx : U.fn_Ratio_neg _ _ = x
  unfold U.fn_Ratio_neg at hx
  rw [DD.gcF_eq, DD.dFn_eq] at hx
  generalize hy : U.b_Ratio_neg _ _ = y at hx
  unfold U.b_Ratio_neg at hy
  simp -implicitDefEqProofs [] at hy
  generalize hd__ : DD.dGc _ _ _ = d__ at hy
  have hs__ := SP.aq0 hd__ (((mkr_ok (S := S) (ws := [.int (-p.num), .int p.den]) (zs := []) (a := -p.num) (b := p.den) (hk := rfl) (hw := rfl) (hb := den_ne p) (h := hp.2) (hn := hn) (hq := show Rat.divInt (-p.num) p.den = -p by rw [← Rat.neg_divInt, rat_self]))) (by first | omega | with_reducible assumption | (simp; done) | (simp; omega) | rfl))
  subst hs__
  · simp -implicitDefEqProofs [] at hy
    subst hy
    exact hx.symm.trans (gc_same lowW_rW)
theorem ratio_radd {i : Int} (hp : Rz n p) (hi : Bz m i) (hn : n + m ≤ 8000) : U.fn_Ratio_radd [rW p, .int i] S = .ok (rW (i + p)) S := by
  generalize hx : U.fn_Ratio_radd _ _ = x
  unfold U.fn_Ratio_radd at hx
  rw [DD.gcF_eq, DD.dFn_eq] at hx
  generalize hy : U.b_Ratio_radd _ _ = y at hx
  unfold U.b_Ratio_radd at hy
  have m1 : ∀ S, mulD false (.int i) (.int p.den) S = .ok (.int (i * p.den)) S := fun S => e_mulZ hi hp.2 (by omega)
  simp -implicitDefEqProofs [] at hy
  generalize hd__ : DD.dGc _ _ _ = d__ at hy
  have hs__ := SP.aq0 hd__ (((mkr_ok (S := S) (ws := [.int (i * p.den + p.num), .int p.den]) (zs := []) (a := i * p.den + p.num) (b := p.den) (hk := rfl) (hw := rfl) (hb := den_ne p) (h := hp.2) (hn := by omega) (hq := show Rat.divInt (i * p.den + p.num) p.den = i + p by have := radd_eq (i : Rat) p; simpa using this))) ?_)
  subst hs__
  · simp -implicitDefEqProofs [] at hy
    subst hy
    exact hx.symm.trans (gc_same lowW_rW)
  · simp -implicitDefEqProofs [fld_top, fld_bot, m1]
theorem ratio_rsub {i : Int} (hp : Rz n p) (hi : Bz m i) (hn : n + m ≤ 8000) : U.fn_Ratio_rsub [rW p, .int i] S = .ok (rW (i - p)) S := by
  generalize hx : U.fn_Ratio_rsub _ _ = x
  unfold U.fn_Ratio_rsub at hx
  rw [DD.gcF_eq, DD.dFn_eq] at hx
  generalize hy : U.b_Ratio_rsub _ _ = y at hx
  unfold U.b_Ratio_rsub at hy
  have m1 : ∀ S, mulD false (.int i) (.int p.den) S = .ok (.int (i * p.den)) S := fun S => e_mulZ hi hp.2 (by omega)
  simp -implicitDefEqProofs [] at hy
  generalize hd__ : DD.dGc _ _ _ = d__ at hy
  have hs__ := SP.aq0 hd__ (((mkr_ok (S := S) (ws := [.int (i * p.den - p.num), .int p.den]) (zs := []) (a := i * p.den - p.num) (b := p.den) (hk := rfl) (hw := rfl) (hb := den_ne p) (h := hp.2) (hn := by omega) (hq := show Rat.divInt (i * p.den - p.num) p.den = i - p by have := rsub_eq (i : Rat) p; simpa using this))) ?_)
  subst hs__
  · simp -implicitDefEqProofs [] at hy
    subst hy
    exact hx.symm.trans (gc_same lowW_rW)
  · simp -implicitDefEqProofs [fld_top, fld_bot, m1]
theorem ratio_rmul {i : Int} (hp : Rz n p) (hi : Bz m i) (hn : n + m ≤ 8000) : U.fn_Ratio_rmul [rW p, .int i] S = .ok (rW (i * p)) S := by
  generalize hx : U.fn_Ratio_rmul _ _ = x
  unfold U.fn_Ratio_rmul at hx
  rw [DD.gcF_eq, DD.dFn_eq] at hx
  generalize hy : U.b_Ratio_rmul _ _ = y at hx
  unfold U.b_Ratio_rmul at hy
  have m1 : ∀ S, mulD false (.int i) (.int p.num) S = .ok (.int (i * p.num)) S := fun S => e_mulZ hi hp.1 (by omega)
  simp -implicitDefEqProofs [] at hy
  generalize hd__ : DD.dGc _ _ _ = d__ at hy
  have hs__ := SP.aq0 hd__ (((mkr_ok (S := S) (ws := [.int (i * p.num), .int p.den]) (zs := []) (a := i * p.num) (b := p.den) (hk := rfl) (hw := rfl) (hb := den_ne p) (h := hp.2) (hn := by omega) (hq := show Rat.divInt (i * p.num) p.den = i * p by have := rmul_eq (i : Rat) p; simpa using this))) ?_)
  subst hs__
  · simp -implicitDefEqProofs [] at hy
    subst hy
    exact hx.symm.trans (gc_same lowW_rW)
  · simp -implicitDefEqProofs [fld_top, fld_bot, m1]
end
end SP
namespace SP
open PySem L2 DD U
/-! ### the law's own gcd and look at a ratio -/
theorem l_div_ok {S : Sto} {a b : Int} (h1 : Bz 900 a) (h2 : Bz 900 b) : U.fn_l_divisor [.int a, .int b] S = .ok (.int (a.gcd b)) S := by
  generalize hx : U.fn_l_divisor _ _ = x
  unfold U.fn_l_divisor at hx
  rw [DD.gcF_eq, DD.dFn_eq] at hx
  generalize hy : U.b_l_divisor _ _ = y at hx
  unfold U.b_l_divisor at hy
  have ea : (if a < 0 then -a else a) = (a.natAbs : Int) := by split <;> omega
  have eb : (if b < 0 then -b else b) = (b.natAbs : Int) := by split <;> omega
  simp -implicitDefEqProofs [ea, eb] at hy
  have key := forL_ret (g := gN 2) (b := b_l_divisor_l0) (intsFrom 0 2000)
    (fun i t X => ∃ (u v : Nat) (x2 : Option W), t = [some (.int u), some (.int v), x2] ∧ X = S ∧ Nat.gcd u v = a.gcd b ∧ (i = 0 → u * v < 2 ^ 1800) ∧ (0 < i → v ≤ u ∧ u * v * 2 ^ (i - 1) < 2 ^ 1800))
    (fun f => ∃ x1 x2, f = .nx [some (.int (a.gcd b)), x1, x2] S)
    (fun i w t X hw ⟨u, v, x2, ht, hX, hg, hi0, hi1⟩ => by
      subst ht hX
      obtain ⟨hi, rfl⟩ := intsFrom_mem hw
      by_cases hv : v = 0
      · subst hv
        right; right; left
        rw [Nat.gcd_zero_right] at hg
        subst hg
        generalize hz : turn _ _ _ _ _ = z
        simp -implicitDefEqProofs [turn, b_l_divisor_l0, gN] at hz
        subst hz
        exact ⟨_, _, rfl, _, _, rfl⟩
      · left
        have hv' : ¬ ((v : Int) = 0) := by omega
        generalize hz : turn _ _ _ _ _ = z
        simp -implicitDefEqProofs [turn, b_l_divisor_l0, gN, hv', hv, e_mod (show (0 : Int) < v by omega)] at hz
        subst hz
        refine ⟨_, _, .inl rfl, v, u % v, _, rfl, rfl, ?_, by omega, fun _ => ?_⟩
        · rw [← hg, Nat.gcd_comm u v, Nat.gcd_rec v u, Nat.gcd_comm]
        · have hm := Nat.mod_lt u (show 0 < v by omega)
          refine ⟨by omega, ?_⟩
          rcases Nat.eq_zero_or_pos i with rfl | hp
          · have := hi0 rfl
            simp only [Nat.zero_add, Nat.sub_self, Nat.pow_zero, Nat.mul_one]
            have h3 : v * (u % v) ≤ v * u := Nat.mul_le_mul_left _ (Nat.mod_le _ _)
            rw [Nat.mul_comm v u] at h3
            omega
          · obtain ⟨h3, h4⟩ := hi1 hp
            have h5 : 2 * (u % v) ≤ u := by
              have := Nat.div_add_mod u v
              have h6 : 1 ≤ u / v := (Nat.one_le_div_iff (by omega)).mpr h3
              have h7 : v * 1 ≤ v * (u / v) := Nat.mul_le_mul_left _ h6
              omega
            obtain ⟨j, rfl⟩ : ∃ j, i = j + 1 := ⟨i - 1, by omega⟩
            simp only [Nat.add_sub_cancel] at h4 ⊢
            have h8 : v * (u % v) * 2 ^ (j + 1) = v * (2 * (u % v)) * 2 ^ j := by rw [Nat.pow_succ]; grind
            rw [h8]
            have h9 : v * (2 * (u % v)) * 2 ^ j ≤ v * u * 2 ^ j := Nat.mul_le_mul_right _ (Nat.mul_le_mul_left _ h5)
            rw [Nat.mul_comm v u] at h9
            omega)
    (fun t X ⟨u, v, x2, ht, hX, hg, hi0, hi1⟩ => by
      subst ht hX
      rw [intsFrom_length] at hi1
      obtain ⟨h3, h4⟩ := hi1 (by decide)
      have : v = 0 := by
        by_cases hv : v = 0
        · exact hv
        · have h5 : 1 ≤ u * v := Nat.mul_pos (by omega) (by omega)
          have h6 : 1 * 2 ^ (2000 - 1) ≤ u * v * 2 ^ (2000 - 1) := Nat.mul_le_mul_right _ h5
          have h7 : 1 * 2 ^ (2000 - 1) < 2 ^ 1800 := Nat.lt_of_le_of_lt h6 h4
          rw [Nat.one_mul] at h7
          exact absurd h7 (Nat.not_lt.mpr (Nat.pow_le_pow_right (by decide) (by decide)))
      subst this
      rw [Nat.gcd_zero_right] at hg
      subst hg
      exact ⟨_, _, rfl⟩)
    (t := [some (.int (a.natAbs : Int)), some (.int (b.natAbs : Int)), none]) (S := S) ⟨a.natAbs, b.natAbs, none, rfl, rfl, rfl, fun _ => by
      have := h1.mul h2
      unfold Bz at this
      rw [Int.natAbs_mul] at this
      exact this, by omega⟩
  obtain ⟨x1, x2, e⟩ := key
  simp -implicitDefEqProofs [e] at hy
  subst hy
  exact hx.symm.trans (gc_same rfl)
theorem l_isr_ok {S : Sto} {q : Rat} {a b : Int} {n : Nat} (hq : Rz 900 q) (ha : Bz n a) (hb : Bz n b) (hn : n ≤ 8000) : U.fn_l_is_ratio [rW q, .int a, .int b] S = .ok (.bl (decide (q.num * b = a * q.den))) S := by
  generalize hx : U.fn_l_is_ratio _ _ = x
  unfold U.fn_l_is_ratio at hx
  rw [DD.gcF_eq, DD.dFn_eq] at hx
  generalize hy : U.b_l_is_ratio _ _ = y at hx
  unfold U.b_l_is_ratio at hy
  have hr : q.num.gcd q.den = 1 := by
    have := q.reduced
    unfold Nat.Coprime at this
    simpa [Int.gcd] using this
  have hd : 1 ≤ (q.den : Int) := by have := q.den_pos; omega
  have m1 : ∀ S, mulD false (.int q.num) (.int b) S = .ok (.int (q.num * b)) S := fun S => e_mulZ hq.1 hb (by omega)
  have m2 : ∀ S, mulD false (.int a) (.int q.den) S = .ok (.int (a * q.den)) S := fun S => e_mulZ ha hq.2 (by omega)
  have hI : ∀ (S : Sto) (i : Int), isiF isiB [.int i, .ty "int"] S = .ok (.bl true) S := fun S i => rfl
  have hB : ∀ (S : Sto) (i : Int), isiF isiB [.int i, .ty "bool"] S = .ok (.bl false) S := fun S i => rfl
  simp -implicitDefEqProofs [isi_rW, truW, fld_top, fld_bot, sizeLine_eq, dSeqI, forL_cons, turn, gN, b_l_is_ratio_l0, hI, hB, l_div_ok hq.1 hq.2, hr, show ¬ ((q.den : Int) < 1) by omega, m1, m2] at hy
  subst hy
  exact hx.symm.trans (gc_same rfl)
/-- the ratio of two numbers, looked at -/
theorem isr_div {a b c d : Int} (hb : b ≠ 0) (h : a * d = c * b) : decide ((Rat.divInt a b).num * d = c * (Rat.divInt a b).den) = true := by
  rw [decide_eq_true_iff]
  obtain ⟨e1, e2⟩ := num_of (a := a) hb rfl _ rfl
  generalize (if 0 < b then 1 else -1) * ((a.gcd b : Nat) : Int) = k at e1 e2
  have hk : k ≠ 0 := fun z => hb (by rw [e2, z, Int.mul_zero])
  have : ((Rat.divInt a b).num * d) * k = (c * (Rat.divInt a b).den) * k := by grind
  exact Int.eq_of_mul_eq_mul_right hk this
end SP
namespace SP
open PySem L2 DD U
theorem e_p26 (S : Sto) : iPow (.int 2) (.int 26) S = .ok (.int 67108864) S := by
  rw [e_pow (by decide)]
  have : (2 : Int) ^ (26 : Int).toNat = 67108864 := by decide
  rw [this]
/-- a drawn number -/
theorem number_ok {P : O} {S B : Sto} {most : Int} (h : Po3 P) (h0 : 3 ≤ most) (h1 : most < 2 ^ 200) :
    ∃ r P', U.fn_l_number [.ref S.length, .int most] (S ++ P :: B) = .ok (.int r) (S ++ P' :: B) ∧ -most ≤ r ∧ r ≤ most ∧ Po3 P' := by
  generalize hx : U.fn_l_number _ _ = x
  unfold U.fn_l_number at hx
  rw [DD.gcF_eq, DD.dFn_eq] at hx
  generalize hy : U.b_l_number _ _ = y at hx
  unfold U.b_l_number at hy
  simp -implicitDefEqProofs [] at hy
  generalize hd__ : U.fn_l_take _ _ = d__ at hy
  have hs__ := SP.at2 hd__ ((take3_ok h) (by first | omega | with_reducible assumption | (simp; done) | (simp; omega) | rfl) (by first | omega | with_reducible assumption | (simp; done) | (simp; omega) | rfl))
  obtain ⟨r, P1, e, r0, r1, hP1⟩ := hs__
  subst e
  by_cases hr : 0 < r
  · simp -implicitDefEqProofs [hr] at hy
    generalize hd__ : U.fn_l_take _ _ = d__ at hy
    have hs__ := SP.at2 hd__ ((take3_ok hP1) (by first | omega | with_reducible assumption | (simp; done) | (simp; omega) | rfl) (by first | omega | with_reducible assumption | (simp; done) | (simp; omega) | rfl))
    obtain ⟨r', P2, e, r0', r1', hP2⟩ := hs__
    subst e
    simp -implicitDefEqProofs [] at hy
    subst hy
    exact ⟨_, P2, hx.symm.trans (gc_po30 hP2 rfl), by omega, by omega, hP2⟩
  · simp -implicitDefEqProofs [hr] at hy
    obtain ⟨t', X, e2, v, P2, x3, rfl, rfl, v0, hP2⟩ := forL_inv (g := gN 3) (b := b_l_number_l0) (intsFrom 0 6)
      (fun i t X => ∃ (v : Int) (P2 : O) (x3 : Option W), t = [some (.ref S.length), some (.int most), some (.int v), x3] ∧ X = S ++ P2 :: B ∧ 0 ≤ v ∧ Po3 P2)
      (fun i w t X hw ⟨v, P2, x3, ht, hX, v0, hP2⟩ => by
        subst ht hX
        obtain ⟨hi, rfl⟩ := intsFrom_mem hw
        generalize hz : turn _ _ _ _ _ = z
        have m1 : ∀ S, mulD false (.int v) (.int 67108864) S = .ok (.int (v * 67108864)) S := fun S => e_mulR (by decide)
        simp -implicitDefEqProofs [turn, b_l_number_l0, gN, e_p26, m1] at hz
        generalize hd__ : U.fn_l_take _ _ = d__ at hz
        have hs__ := SP.at2 hd__ ((take3_ok hP2) (by first | omega | with_reducible assumption | (simp; done) | (simp; omega) | rfl) (by first | omega | with_reducible assumption | (simp; done) | (simp; omega) | rfl))
        obtain ⟨r', P3, e, r0', r1', hP3⟩ := hs__
        subst e
        simp -implicitDefEqProofs [] at hz
        subst hz
        exact ⟨_, _, .inl rfl, _, P3, _, rfl, rfl, by omega, hP3⟩)
      (t := [some (.ref S.length), some (.int most), some (.int 0), none]) (S := S ++ P1 :: B) ⟨0, P1, none, rfl, rfl, by decide, hP1⟩
    rw [e2] at hy
    have m1 : ∀ S, mulD false (.int 2) (.int most) S = .ok (.int (2 * most)) S := fun S => e_mulL (by decide)
    simp -implicitDefEqProofs [m1, e_mod (show 0 < 2 * most + 1 by omega)] at hy
    subst hy
    have h2 := Int.emod_nonneg v (show 2 * most + 1 ≠ 0 by omega)
    have h3 := Int.emod_lt_of_pos v (show 0 < 2 * most + 1 by omega)
    exact ⟨_, P2, hx.symm.trans (gc_po30 hP2 rfl), by omega, by omega, hP2⟩
theorem bz_of {n : Nat} {r : Int} {most : Int} (h1 : -most ≤ r) (h2 : r ≤ most) (h : most.natAbs < 2 ^ n) : Bz n r := by
  unfold Bz; omega
/-! ### operators, as they stand in an expression -/
section
variable {S : Sto} {p q : Rat} {w : W} {n m : Nat} {i : Int} {f : D2}
theorem o_rr {fn : Fn} {x : W} (h : fn [rW p, rW q] S = .ok x S) : orD (usrD 34 fn) f (rW p) (rW q) S = .ok x S := by
  simp [orD, usrD, isOf, h]
theorem o_ri {fn : Fn} {x : W} (h : fn [rW p, .int i] S = .ok x S) : orD (usrD 34 fn) (orD (usrL 34 fn) f) (rW p) (.int i) S = .ok x S := by
  simp [orD, usrD, usrL, isOf, h]
theorem o_ir {fn : Fn} {x : W} (h : fn [rW p, .int i] S = .ok x S) : orD (usrR 34 fn) f (.int i) (rW p) S = .ok x S := by
  simp [orD, usrR, isOf, h]
theorem o_add_rr (hp : Rz n p) (hq : Rz m q) (hn : n + m ≤ 8000) : orD (usrD 34 fn_Ratio_add) f (rW p) (rW q) S = .ok (rW (p + q)) S := o_rr (ratio_add .r hp hq hn)
theorem o_sub_rr (hp : Rz n p) (hq : Rz m q) (hn : n + m ≤ 8000) : orD (usrD 34 fn_Ratio_sub) f (rW p) (rW q) S = .ok (rW (p - q)) S := o_rr (ratio_sub .r hp hq hn)
theorem o_mul_rr (hp : Rz n p) (hq : Rz m q) (hn : n + m ≤ 8000) : orD (usrD 34 fn_Ratio_mul) f (rW p) (rW q) S = .ok (rW (p * q)) S := o_rr (ratio_mul .r hp hq hn)
theorem o_add_ri (hp : Rz n p) (hq : Rz m (i : Rat)) (hn : n + m ≤ 8000) : orD (usrD 34 fn_Ratio_add) (orD (usrL 34 fn_Ratio_add) f) (rW p) (.int i) S = .ok (rW (p + i)) S := o_ri (ratio_add .i hp hq hn)
theorem o_sub_ri (hp : Rz n p) (hq : Rz m (i : Rat)) (hn : n + m ≤ 8000) : orD (usrD 34 fn_Ratio_sub) (orD (usrL 34 fn_Ratio_sub) f) (rW p) (.int i) S = .ok (rW (p - i)) S := o_ri (ratio_sub .i hp hq hn)
theorem o_mul_ri (hp : Rz n p) (hq : Rz m (i : Rat)) (hn : n + m ≤ 8000) : orD (usrD 34 fn_Ratio_mul) (orD (usrL 34 fn_Ratio_mul) f) (rW p) (.int i) S = .ok (rW (p * i)) S := o_ri (ratio_mul .i hp hq hn)
theorem o_add_ir (hp : Rz n p) (hq : Bz m i) (hn : n + m ≤ 8000) : orD (usrR 34 fn_Ratio_radd) f (.int i) (rW p) S = .ok (rW (i + p)) S := o_ir (ratio_radd hp hq hn)
theorem o_sub_ir (hp : Rz n p) (hq : Bz m i) (hn : n + m ≤ 8000) : orD (usrR 34 fn_Ratio_rsub) f (.int i) (rW p) S = .ok (rW (i - p)) S := o_ir (ratio_rsub hp hq hn)
theorem o_mul_ir (hp : Rz n p) (hq : Bz m i) (hn : n + m ≤ 8000) : orD (usrR 34 fn_Ratio_rmul) f (.int i) (rW p) S = .ok (rW (i * p)) S := o_ir (ratio_rmul hp hq hn)
theorem e_negU {t : Lo} {d : DX} (hd : d t S = .ok (rW p) S) (hp : Rz n p) (hn : n ≤ 8000) : dNegU 34 fn_Ratio_neg d t S = .ok (rW (-p)) S := by
  simp [dNegU, hd, isOf, ratio_neg hp hn]
/-- over, tried -/
theorem l_over_ok (h : Nm w q) (h0 : q ≠ 0) (hp : Rz n p) (hq : Rz m q) (hn : n + m ≤ 8000) : U.fn_l_over [rW p, w] S = .ok (rW (p / q)) S := by
  generalize hx : U.fn_l_over _ _ = x
  unfold U.fn_l_over at hx
  rw [DD.gcF_eq, DD.dFn_eq] at hx
  generalize hy : U.b_l_over _ _ = y at hx
  unfold U.b_l_over at hy
  simp -implicitDefEqProofs [dTry1, dMeth, instOf_rW (q := p) (m := "over") (by decide +kernel), ratio_over h h0 hp hq hn] at hy
  subst hy
  exact hx.symm.trans (gc_same lowW_rW)
theorem l_over_er (h : Nm w 0) : U.fn_l_over [rW p, w] S = .ok (.lst [.str "zero"]) S := by
  generalize hx : U.fn_l_over _ _ = x
  unfold U.fn_l_over at hx
  rw [DD.gcF_eq, DD.dFn_eq] at hx
  generalize hy : U.b_l_over _ _ = y at hx
  unfold U.b_l_over at hy
  simp -implicitDefEqProofs [dTry1, dMeth, instOf_rW (q := p) (m := "over") (by decide +kernel), ratio_over0 h, xm_ZeroBottom, sizeLine_eq] at hy
  subst hy
  exact hx.symm.trans (gc_same rfl)
end
theorem isr_of {q : Rat} {a b : Int} (hb : b ≠ 0) (h : q = Rat.divInt a b) : decide (q.num * b = a * q.den) = true := by
  subst h; exact isr_div hb rfl
/-- a look at a ratio that is what it should be -/
theorem isr_t {S : Sto} {q : Rat} {a b : Int} {n k : Nat} (hb0 : b ≠ 0) (h : q = (a : Rat) / (b : Rat)) (hq : Rz k q) (hk : k ≤ 900) (ha : Bz n a) (hb : Bz n b) (hn : n ≤ 8000) : U.fn_l_is_ratio [rW q, .int a, .int b] S = .ok (.bl true) S := by
  rw [l_isr_ok (hq.mono hk) ha hb hn, isr_of hb0 (by rw [Rat.divInt_eq_div]; exact h)]
end SP
namespace DD
open PySem PySem.Spec PyProof.Rows L2
variable {G : Gx} {xv : Nat → Value} {Wx : WX} {X : Cx} {H H' : Hp} {S S' : Sto} {r r' : Rh}
/-- (a, b, ..) = a tuple or a list of that length -/
def gSq (n : Nat) (gs : DGs) : DG := fun w t S => match w with
  | .tup ws => if ws.length = n then gs ws t S else .no
  | w => match seqL S w with
    | some ws => if ws.length = n then gs ws t S else .no
    | none => .no
theorem PG.either {e : Expr} {t t' : TG} (h : PG X e t) (h' : PG X e t') : PG X e (fun v s H Q => t v s H Q ∨ t' v s H Q) := ⟨fun pins s σ H v u Q I rv q => by
  rcases q with q | q
  · exact h.run pins s σ H v u Q I rv q
  · exact h'.run pins s σ H v u Q I rv q⟩
theorem dg_sq {es : List Expr} {k : Nat} {gs : DGs} {n : Nat} {pos : Pos} (c : Cok G X Wx) (h : PGs X es (toGs G xv gs)) (hn : (assignEach es X.env).length = n := by rfl) (hst : (assignEach es X.env).findIdx? (·.1) = none := by rfl) : PG X (.Tuple es k pos) (toG G xv (gSq n gs)) :=
  PGi (PG.either (pg_tup c.calm h hn hst) (pg_unl c.calm h hn hst)) fun v s H Q ⟨r, t, S, w, l, rl, q, o⟩ => by
    by_cases hw : ∃ ws, w = .tup ws
    · obtain ⟨ws, rfl⟩ := hw
      left
      cases q with
      | @tup a _ vs ta q =>
        simp only [gSq] at o
        by_cases hl : ws.length = n
        · rw [if_pos hl] at o
          exact ⟨a, vs, rfl, by rw [c.kk]; exact ta.sq, by rw [← q.length]; exact hl, r, t, S, ws, l, rl, q, o⟩
        · rw [if_neg hl] at o; exact o.elim
    · right
      have e1 : gSq n gs w t S = match seqL S w with
        | some ws => if ws.length = n then gs ws t S else .no
        | none => .no := by
        cases w <;> first | rfl | exact absurd ⟨_, rfl⟩ hw
      rw [e1] at o
      cases e : seqL S w with
      | none => rw [e] at o; exact o.elim
      | some ws =>
        rw [e] at o
        simp only [] at o
        obtain ⟨a, vs, h1, h2, h3⟩ := seqL_ok rl q e
        by_cases hl : ws.length = n
        · rw [if_pos hl] at o
          exact ⟨a, vs, h1, by rw [c.kk]; exact h2, by rw [← h3.length]; exact hl, r, t, S, ws, l, rl, h3, o⟩
        · rw [if_neg hl] at o; exact o.elim
@[simp] theorem e_asgSq {d : DX} {n : Nat} {gs : DGs} {t : Lo} {S : Sto} : dAsg d (gSq n gs) t S = (d t S).toF t fun w S1 => match gSq n gs w t S1 with
  | .ok t' S2 => .nx t' S2
  | _ => .no := rfl
end DD
namespace DD
open PySem PySem.Spec PyProof.Rows L2
variable {G : Gx} {xv : Nat → Value} {Wx : WX} {X : Cx} {H H' : Hp} {S S' : Sto} {r r' : Rh}
/-- list.count of bools -/
def countM : W → List W → Sto → R W := fun w ws S => match seqL S w, ws with
  | some xs, [.bl k] => match blsOf xs with
    | some bs => .ok (.int ((bs.count k : Nat) : Int)) S
    | none => .no
  | _, _ => .no
def eqb (k : Bool) (v : Value) : Bool := match v with
  | .bool b => b == k
  | _ => false
theorem eqb_at {A : Around} {s : Shared} {k : Bool} : ∀ {bs : List Bool} {us : List Value}, Vals (bs.map V.bl) us → (∀ y ∈ us, SeqAt.EqAt A s y (.bool k) (eqb k y)) ∧ us.countP (eqb k) = bs.count k
  | [], _, .nil => ⟨fun y hy => (by cases hy), rfl⟩
  | b :: bs, _, .cons h t => by
    obtain ⟨h1, h2⟩ := eqb_at (A := A) (s := s) (k := k) t
    cases h
    refine ⟨fun y hy => ?_, ?_⟩
    · rcases List.mem_cons.mp hy with rfl | hy
      · exact SeqAt.EqAt.bool_bool b k
      · exact h1 y hy
    · rw [List.countP_cons, List.count_cons, h2]
      rfl
theorem m_count (hk : X.K = G.K) : MtR X "list.count" (toM G xv countM) := by
  intro pins s σ H x xs v us Q I rx rv ⟨r, S, w, ws, rl, qw, q, o⟩
  unfold countM at o
  split at o
  case h_2 => exact o.elim
  rename_i zs k e
  cases q with
  | cons a q =>
    cases q with
    | nil =>
      cases a
      cases eb : blsOf zs with
      | none => rw [eb] at o; exact o.elim
      | some bs =>
        rw [eb] at o
        obtain ⟨p, vs, rfl, hs, qs⟩ := seqL_ok rl qw e
        have hv := blsOf_ok qs eb
        subst hv
        cases rx
        obtain ⟨u, rfl, ru⟩ := rv.one
        cases ru
        obtain ⟨its, rv', ⟨⟨cls, dd, data, sl⟩, n, ho, hc, hdn, hd⟩, hlen⟩ := I.list (by rw [hk]; exact hs)
        simp only at hc hd
        subst hc hd
        have ec := (eqb_at (A := X.A) (s := s) (k := k) rv').2
        refine call_meets PySem.F.slot_list_count ⟨_, ho, rfl⟩ PySem.F.entry_list_count (PySem.F.args_list_count_2 _ _)
          (SeqAt.list_countAt p its.toArray n dd sl (.bool k) (eqb k)) ⟨ho, fun y hy => (eqb_at rv').1 y (by simpa using hy), ?_⟩
        refine ⟨.int (bs.count k : Nat), H, I.tok _, ⟨s.toks, ?_⟩, o r H _ .refl rl (.int _)⟩
        show Value.int ((its.toArray.toList.countP (eqb k) : Nat) : Int) s.toks = Value.int ((bs.count k : Nat) : Int) s.toks
        rw [show its.toArray.toList = its from rfl, ec]
end DD
namespace U
open PySem L2 DD
noncomputable def b_l_drawn : DS :=
    (dSeq (dPar 1 2 (dCons (dCall fn_l_number (dCons (dVar 0) (dCons (dOp iPow (dC (.int 10)) (dC (.int 6))) dNil))) (dCons (dCall fn_l_number (dCons (dVar 0) (dCons (dOp iPow (dC (.int 10)) (dC (.int 6))) dNil))) dNil)))
    (dRet (dLst (dCons (dVar 1) (dCons (dIf (dTest (dOp neD (dVar 2) (dC (.int 0)))) (dVar 2) (dC (.int 4))) dNil)))))
noncomputable def fn_l_drawn : Fn := gcF (dFn 3 b_l_drawn)
noncomputable def b_l_after : DS :=
    (dSeq (dAsg (dCall fn_l_drawn (dCons (dVar 0) dNil)) (gSq 2 (gsCons (gN 5) (gsCons (gN 6) gsNil))))
    (dSeq (dPar 7 8 (dCons (dCall fn_l_take (dCons (dVar 0) (dCons (dC (.int 6)) dNil))) (dCons (dGc (dFrz (dMake 34 fn_Ratio_init (dBoth (· ++ ·) (dCons (dVar 5) (dCons (dVar 6) dNil)) (fun _ S => .ok [] S))))) dNil)))
    (dSeq (dIfS (dTest (dOp eqD (dVar 7) (dC (.int 0))))
    (dRet (dLst (dCons (dOp (orD (usrD 34 fn_Ratio_add) (orD (usrL 34 fn_Ratio_add) (orD (usrR 34 fn_Ratio_radd) addD))) (dVar 1) (dVar 8)) (dCons (dOp addD (dOp (mulD false) (dVar 2) (dVar 6)) (dOp (mulD false) (dVar 5) (dVar 3))) (dCons (dOp (mulD false) (dVar 3) (dVar 6)) (dCons (dOp (orD (usrD 34 fn_Ratio_sub) (orD (usrL 34 fn_Ratio_sub) (orD (usrR 34 fn_Ratio_rsub) iSub))) (dOp (orD (usrD 34 fn_Ratio_add) (orD (usrL 34 fn_Ratio_add) (orD (usrR 34 fn_Ratio_radd) addD))) (dVar 1) (dVar 8)) (dVar 8)) dNil))))))
    dNext)
    (dSeq (dIfS (dTest (dOp eqD (dVar 7) (dC (.int 1))))
    (dRet (dLst (dCons (dOp (orD (usrD 34 fn_Ratio_sub) (orD (usrL 34 fn_Ratio_sub) (orD (usrR 34 fn_Ratio_rsub) iSub))) (dVar 1) (dVar 8)) (dCons (dOp iSub (dOp (mulD false) (dVar 2) (dVar 6)) (dOp (mulD false) (dVar 5) (dVar 3))) (dCons (dOp (mulD false) (dVar 3) (dVar 6)) (dCons (dOp (orD (usrD 34 fn_Ratio_add) (orD (usrL 34 fn_Ratio_add) (orD (usrR 34 fn_Ratio_radd) addD))) (dVar 8) (dOp (orD (usrD 34 fn_Ratio_sub) (orD (usrL 34 fn_Ratio_sub) (orD (usrR 34 fn_Ratio_rsub) iSub))) (dVar 1) (dVar 8))) dNil))))))
    dNext)
    (dSeq (dIfS (dTest (dOp eqD (dVar 7) (dC (.int 2))))
    (dRet (dLst (dCons (dOp (orD (usrD 34 fn_Ratio_sub) (orD (usrL 34 fn_Ratio_sub) (orD (usrR 34 fn_Ratio_rsub) iSub))) (dVar 8) (dVar 1)) (dCons (dOp iSub (dOp (mulD false) (dVar 5) (dVar 3)) (dOp (mulD false) (dVar 2) (dVar 6))) (dCons (dOp (mulD false) (dVar 3) (dVar 6)) (dCons (dOp (orD (usrD 34 fn_Ratio_sub) (orD (usrL 34 fn_Ratio_sub) (orD (usrR 34 fn_Ratio_rsub) iSub))) (dVar 8) (dOp (orD (usrD 34 fn_Ratio_sub) (orD (usrL 34 fn_Ratio_sub) (orD (usrR 34 fn_Ratio_rsub) iSub))) (dVar 8) (dVar 1))) dNil))))))
    dNext)
    (dSeq (dIfS (dTest (dOp eqD (dVar 7) (dC (.int 3))))
    (dRet (dLst (dCons (dOp (orD (usrD 34 fn_Ratio_mul) (orD (usrL 34 fn_Ratio_mul) (orD (usrR 34 fn_Ratio_rmul) (mulD false)))) (dVar 1) (dVar 8)) (dCons (dOp (mulD false) (dVar 2) (dVar 5)) (dCons (dOp (mulD false) (dVar 3) (dVar 6)) (dCons (dIf (dTest (dOp neD (dVar 5) (dC (.int 0)))) (dCall fn_l_over (dCons (dOp (orD (usrD 34 fn_Ratio_mul) (orD (usrL 34 fn_Ratio_mul) (orD (usrR 34 fn_Ratio_rmul) (mulD false)))) (dVar 1) (dVar 8)) (dCons (dVar 8) dNil))) (dVar 1)) dNil))))))
    dNext)
    (dSeq (dIfS (dTest (dOp eqD (dVar 7) (dC (.int 4))))
    (dRet (dLst (dCons (dOp (orD (usrR 34 fn_Ratio_rsub) iSub) (dVar 5) (dVar 1)) (dCons (dOp iSub (dOp (mulD false) (dVar 5) (dVar 3)) (dVar 2)) (dCons (dVar 3) (dCons (dOp (orD (usrR 34 fn_Ratio_rsub) iSub) (dVar 5) (dOp (orD (usrR 34 fn_Ratio_rsub) iSub) (dVar 5) (dVar 1))) dNil))))))
    dNext)
    (dSeq (dAsg (dCall fn_l_over (dCons (dVar 1) (dCons (dVar 8) dNil))) (gN 4))
    (dSeq (dIfS (dTest (dOp eqD (dVar 5) (dC (.int 0))))
    (dRet (dLst (dCons (dVar 1) (dCons (dVar 2) (dCons (dVar 3) (dCons (dIf (dTru (dBi (isiF (isi2 34)) (dCons (dVar 4) (dCons (dC (.ty "list")) dNil)))) (dVar 1) (dC .non)) dNil))))))
    dNext)
    (dRet (dLst (dCons (dVar 4) (dCons (dOp (mulD false) (dVar 2) (dVar 6)) (dCons (dOp (mulD false) (dVar 3) (dVar 5)) (dCons (dOp (orD (usrD 34 fn_Ratio_mul) (orD (usrL 34 fn_Ratio_mul) (orD (usrR 34 fn_Ratio_rmul) (mulD false)))) (dVar 4) (dVar 8)) dNil)))))))))))))))
noncomputable def fn_l_after : Fn := gcF (dFn 9 b_l_after)
noncomputable def b_law_5_l0 : DS :=
    (dSeq (dIfS (dTest (dOp iGt (dVar 2) (dC (.int 0))))
    (dAsg (dCall fn_l_pool_3 (dCons (dVar 0) (dCons (dVar 2) dNil))) (gN 1))
    dNext)
    (dSeq (dAsg (dLst (dCons (dVar 5) (dCons (dVar 3) (dCons (dVar 4) dNil)))) (gN 7))
    (dSeq (dDrop (dMt appendM (dVar 6) (dCons (dVar 7) dNil)))
    (dSeq (dAsg (dCall fn_l_after (dCons (dVar 1) (dCons (dVar 5) (dCons (dVar 3) (dCons (dVar 4) dNil))))) (gSq 4 (gsCons (gN 5) (gsCons (gN 3) (gsCons (gN 4) (gsCons (gN 9) gsNil))))))
    (dSeq (dIfS (dtOr (dtNot (dTru (dCall fn_l_is_ratio (dCons (dVar 5) (dCons (dVar 3) (dCons (dVar 4) dNil)))))) (dtNot (dTru (dCall fn_l_is_ratio (dCons (dVar 9) (dCons (dOp ixD (dVar 7) (dC (.int 1))) (dCons (dOp ixD (dVar 7) (dC (.int 2))) dNil)))))))
    (dRet (dC (.bl false)))
    dNext)
    (dSeq (dAsg (dCall fn_l_divisor (dCons (dVar 3) (dCons (dVar 4) dNil))) (gN 8))
    (dSeq (dPar 3 4 (dCons (dOp iDiv (dVar 3) (dVar 8)) (dCons (dOp iDiv (dVar 4) (dVar 8)) dNil)))
    (dIfS (dtOr (dTest (dOp iGt (dBi absF (dCons (dVar 3) dNil)) (dOp iPow (dC (.int 10)) (dC (.int 30))))) (dTest (dOp iGt (dBi absF (dCons (dVar 4) dNil)) (dOp iPow (dC (.int 10)) (dC (.int 30))))))
    (dSeq (dAsg (dCall fn_l_drawn (dCons (dVar 1) dNil)) (gSq 2 (gsCons (gN 3) (gsCons (gN 4) gsNil))))
    (dAsg (dGc (dFrz (dMake 34 fn_Ratio_init (dBoth (· ++ ·) (dCons (dVar 3) (dCons (dVar 4) dNil)) (fun _ S => .ok [] S))))) (gN 5)))
    dNext))))))))
noncomputable def b_law_5 : DS :=
    (dSeq (dAsg (dCall fn_l_pool_3 (dCons (dVar 0) (dCons (dC (.int 0)) dNil))) (gN 1))
    (dSeq (dAsg (dCall fn_l_drawn (dCons (dVar 1) dNil)) (gSq 2 (gsCons (gN 3) (gsCons (gN 4) gsNil))))
    (dSeq (dPar 5 6 (dCons (dGc (dFrz (dMake 34 fn_Ratio_init (dBoth (· ++ ·) (dCons (dVar 3) (dCons (dVar 4) dNil)) (fun _ S => .ok [] S))))) (dCons (dNewL dNil) dNil)))
    (dSeq (dFor (dRange1 (dCons (dBi max2F (dCons (dC (.int 1)) (dCons (dBi min2F (dCons (dC (.int 63)) (dCons (dBi lenF (dCons (dVar 0) dNil)) dNil))) dNil))) dNil)) (gN 2)
    b_law_5_l0)
    (dRet (dOp eqD (dLcR (dSeqR (dVar 6)) (.nm 10) (dtNot (dTru (dCall fn_l_is_ratio (dCons (dOp ixD (dVar 10) (dC (.int 0))) (dCons (dOp ixD (dVar 10) (dC (.int 1))) (dCons (dOp ixD (dVar 10) (dC (.int 2))) dNil)))))) (dVar 10) [10]) (dLst dNil)))))))
noncomputable def fn_law_5 : Fn := dFn 11 b_law_5
end U
namespace U
open PySem L2 DD
noncomputable def b_l_due : DS :=
    (dRet (dLst (dCons (dOp iLt (dVar 0) (dVar 1)) (dCons (dOp iLe (dVar 0) (dVar 1)) (dCons (dOp eqD (dVar 0) (dVar 1)) (dCons (dOp iGe (dVar 0) (dVar 1)) (dCons (dOp iGt (dVar 0) (dVar 1)) dNil)))))))
noncomputable def fn_l_due : Fn := gcF (dFn 2 b_l_due)
noncomputable def b_Ratio_eq : DS :=
    (dSeq (dIfS (dTru (dBi (isiF (isi1 34)) (dCons (dVar 1) (dCons (dC (.cls 34)) dNil))))
    (dRet (dAndT (dOp eqD (dFld [34] "top" (dVar 0)) (dFld [34] "top" (dVar 1))) (dOp eqD (dFld [34] "bottom" (dVar 0)) (dFld [34] "bottom" (dVar 1)))))
    dNext)
    (dRet (dAndT (dBi (isiF (isi2 34)) (dCons (dVar 1) (dCons (dC (.ty "int")) dNil))) (dAndT (dOp eqD (dFld [34] "bottom" (dVar 0)) (dC (.int 1))) (dOp eqD (dFld [34] "top" (dVar 0)) (dVar 1))))))
noncomputable def fn_Ratio_eq : Fn := gcF (dFn 2 b_Ratio_eq)
noncomputable def b_less : DS :=
    (dRet (dOp iLt (dOp (mulD false) (dFld [34] "top" (dVar 0)) (dFld [34] "bottom" (dVar 1))) (dOp (mulD false) (dFld [34] "top" (dVar 1)) (dFld [34] "bottom" (dVar 0)))))
noncomputable def fn_less : Fn := gcF (dFn 2 b_less)
noncomputable def b_Ratio_ge : DS :=
    (dRet (dNotT (dCall fn_less (dCons (dVar 0) (dCons (dCall fn_as_ratio (dCons (dVar 1) dNil)) dNil)))))
noncomputable def fn_Ratio_ge : Fn := gcF (dFn 2 b_Ratio_ge)
noncomputable def b_Ratio_gt : DS :=
    (dRet (dCall fn_less (dCons (dCall fn_as_ratio (dCons (dVar 1) dNil)) (dCons (dVar 0) dNil))))
noncomputable def fn_Ratio_gt : Fn := gcF (dFn 2 b_Ratio_gt)
noncomputable def b_Ratio_le : DS :=
    (dRet (dNotT (dCall fn_less (dCons (dCall fn_as_ratio (dCons (dVar 1) dNil)) (dCons (dVar 0) dNil)))))
noncomputable def fn_Ratio_le : Fn := gcF (dFn 2 b_Ratio_le)
noncomputable def b_Ratio_lt : DS :=
    (dRet (dCall fn_less (dCons (dVar 0) (dCons (dCall fn_as_ratio (dCons (dVar 1) dNil)) dNil))))
noncomputable def fn_Ratio_lt : Fn := gcF (dFn 2 b_Ratio_lt)
noncomputable def b_l_page : DS :=
    (dRet (dLst (dCons (dOp (orD (usrD 34 fn_Ratio_lt) (orD (usrL 34 fn_Ratio_lt) (orD (usrR 34 fn_Ratio_gt) iLt))) (dVar 0) (dVar 1)) (dCons (dOp (orD (usrD 34 fn_Ratio_le) (orD (usrL 34 fn_Ratio_le) (orD (usrR 34 fn_Ratio_ge) iLe))) (dVar 0) (dVar 1)) (dCons (dOp (orD (usrD 34 fn_Ratio_eq) (orD (usrL 34 fn_Ratio_eq) (orD (usrR 34 fn_Ratio_eq) eqD))) (dVar 0) (dVar 1)) (dCons (dOp (orD (usrD 34 fn_Ratio_ge) (orD (usrL 34 fn_Ratio_ge) (orD (usrR 34 fn_Ratio_le) iGe))) (dVar 0) (dVar 1)) (dCons (dOp (orD (usrD 34 fn_Ratio_gt) (orD (usrL 34 fn_Ratio_gt) (orD (usrR 34 fn_Ratio_lt) iGt))) (dVar 0) (dVar 1)) dNil)))))))
noncomputable def fn_l_page : Fn := gcF (dFn 2 b_l_page)
noncomputable def b_law_6_l0 : DS :=
    (dSeq (dAsg (dCall fn_l_number (dCons (dVar 2) (dCons (dOp iPow (dC (.int 10)) (dC (.int 18))) dNil))) (gN 9))
    (dSeq (dDrop (dMt appendM (dVar 8) (dCons (dOp addD (dBi absF (dCons (dVar 9) dNil)) (dBi intF (dCons (dOp eqD (dVar 9) (dC (.int 0))) dNil))) dNil)))
    (dDrop (dMt appendM (dVar 7) (dCons (dCall fn_l_number (dCons (dVar 2) (dCons (dOp iPow (dC (.int 10)) (dC (.int 18))) dNil))) dNil)))))
noncomputable def b_law_6_l1 : DS :=
    (dSeq (dAsg (dCall fn_l_due (dCons (dOp (mulD false) (dOp ixD (dVar 7) (dVar 6)) (dOp ixD (dVar 8) (dVar 11))) (dCons (dOp (mulD false) (dOp ixD (dVar 7) (dVar 11)) (dOp ixD (dVar 8) (dVar 6))) dNil))) (gN 12))
    (dSeq (dIfS (dtOr (dTest (dOp neD (dCall fn_l_page (dCons (dOp ixD (dVar 5) (dVar 6)) (dCons (dOp ixD (dVar 5) (dVar 11)) dNil))) (dVar 12))) (dTest (dOp notInD (dMt countM (dVar 12) (dCons (dC (.bl true)) dNil)) (dLst (dCons (dC (.int 2)) (dCons (dC (.int 3)) dNil))))))
    (dRet (dC (.bl false)))
    dNext)
    (dSeq (dIfS (dTest (dOp neD (dCall fn_l_page (dCons (dOp (orD (usrD 34 fn_Ratio_add) (orD (usrL 34 fn_Ratio_add) (orD (usrR 34 fn_Ratio_radd) addD))) (dOp ixD (dVar 5) (dVar 6)) (dOp ixD (dVar 5) (dC (.int 2)))) (dCons (dOp (orD (usrD 34 fn_Ratio_add) (orD (usrL 34 fn_Ratio_add) (orD (usrR 34 fn_Ratio_radd) addD))) (dOp ixD (dVar 5) (dVar 11)) (dOp ixD (dVar 5) (dC (.int 2)))) dNil))) (dVar 12)))
    (dRet (dC (.bl false)))
    dNext)
    (dIfS (dTest (dOp neD (dCall fn_l_page (dCons (dNegU 34 fn_Ratio_neg (dOp ixD (dVar 5) (dVar 11))) (dCons (dNegU 34 fn_Ratio_neg (dOp ixD (dVar 5) (dVar 6))) dNil))) (dVar 12)))
    (dRet (dC (.bl false)))
    dNext))))
noncomputable def b_law_6_l2 : DS :=
    (dSeq (dFor (dRange1 (dCons (dC (.int 3)) dNil)) (gN 11)
    b_law_6_l1)
    (dSeq (dAsg (dCall fn_l_due (dCons (dOp ixD (dVar 7) (dVar 6)) (dCons (dOp (mulD false) (dVar 4) (dOp ixD (dVar 8) (dVar 6))) dNil))) (gN 12))
    (dSeq (dIfS (dtOr (dTest (dOp neD (dCall fn_l_page (dCons (dOp ixD (dVar 5) (dVar 6)) (dCons (dVar 4) dNil))) (dVar 12))) (dTest (dOp neD (dCall fn_l_page (dCons (dGc (dFrz (dMake 34 fn_Ratio_init (dBoth (· ++ ·) (dCons (dVar 4) dNil) (fun _ S => .ok [(.int 1)] S))))) (dCons (dOp ixD (dVar 5) (dVar 6)) dNil))) (dRevL (dVar 12)))))
    (dRet (dC (.bl false)))
    dNext)
    (dIfS (dTest (dOp neD (dCall fn_l_page (dCons (dVar 4) (dCons (dOp ixD (dVar 5) (dVar 6)) dNil))) (dRevL (dVar 12))))
    (dRet (dC (.bl false)))
    dNext))))
noncomputable def b_law_6_l3 : DS :=
    (dSeq (dAsg (dCall fn_l_pool_3 (dCons (dVar 0) (dCons (dVar 1) dNil))) (gN 2))
    (dSeq (dAsg (dTup (dCons (dNewL dNil) (dCons (dNewL dNil) dNil))) (gTp 2 (gsCons (gN 7) (gsCons (gN 8) gsNil))))
    (dSeq (dFor (dRange1 (dCons (dC (.int 3)) dNil)) (gN 3)
    b_law_6_l0)
    (dSeq (dIfS (dTest (dOp eqD (dCall fn_l_take (dCons (dVar 2) (dCons (dC (.int 2)) dNil))) (dC (.int 0))))
    (dSeq (dAsg (dOp addD (dC (.int 1)) (dCall fn_l_take (dCons (dVar 2) (dCons (dC (.int 3)) dNil)))) (gN 10))
    (dAsg (dTup (dCons (dOp iSub (dOp addD (dOp (mulD false) (dOp ixD (dVar 7) (dC (.int 0))) (dVar 10)) (dCall fn_l_take (dCons (dVar 2) (dCons (dC (.int 3)) dNil)))) (dC (.int 1))) (dCons (dOp (mulD false) (dOp ixD (dVar 8) (dC (.int 0))) (dVar 10)) dNil))) (gTp 2 (gsCons (gIx (dVar 7) (dC (.int 1))) (gsCons (gIx (dVar 8) (dC (.int 1))) gsNil)))))
    dNext)
    (dSeq (dAsg (dCall fn_l_number (dCons (dVar 2) (dCons (dOp iPow (dC (.int 10)) (dC (.int 18))) dNil))) (gN 4))
    (dSeq (dIfS (dTest (dOp eqD (dCall fn_l_take (dCons (dVar 2) (dCons (dC (.int 3)) dNil))) (dC (.int 0))))
    (dAsg (dOp iDiv (dOp ixD (dVar 7) (dC (.int 0))) (dOp ixD (dVar 8) (dC (.int 0)))) (gN 4))
    dNext)
    (dSeq (dAsg (dLc (dRange1 (dCons (dC (.int 3)) dNil)) (.nm 13) dYes (dGc (dFrz (dMake 34 fn_Ratio_init (dBoth (· ++ ·) (dCons (dOp ixD (dVar 7) (dVar 13)) (dCons (dOp ixD (dVar 8) (dVar 13)) dNil)) (fun _ S => .ok [] S))))) [13]) (gN 5))
    (dFor (dRange1 (dCons (dC (.int 3)) dNil)) (gN 6)
    b_law_6_l2))))))))
noncomputable def b_law_6 : DS :=
    (dSeq (dFor (dRange1 (dCons (dBi max2F (dCons (dC (.int 1)) (dCons (dBi min2F (dCons (dC (.int 30)) (dCons (dBi lenF (dCons (dVar 0) dNil)) dNil))) dNil))) dNil)) (gN 1)
    b_law_6_l3)
    (dRet (dC (.bl true))))
noncomputable def fn_law_6 : Fn := dFn 14 b_law_6
end U
namespace SP
open PySem L2 DD U
/-! ### a ratio's order -/
section
variable {S : Sto} {p q : Rat} {w : W} {n m : Nat} {i : Int}
theorem less_ok (hp : Rz n p) (hq : Rz m q) (hn : n + m ≤ 8000) : U.fn_less [rW p, rW q] S = .ok (.bl (decide (p < q))) S := by
  generalize hx : U.fn_less _ _ = x
  unfold U.fn_less at hx
  rw [DD.gcF_eq, DD.dFn_eq] at hx
  generalize hy : U.b_less _ _ = y at hx
  unfold U.b_less at hy
  have m1 : ∀ S, mulD false (.int p.num) (.int q.den) S = .ok (.int (p.num * q.den)) S := fun S => e_mulZ hp.1 hq.2 (by omega)
  have m2 : ∀ S, mulD false (.int q.num) (.int p.den) S = .ok (.int (q.num * p.den)) S := fun S => e_mulZ hq.1 hp.2 (by omega)
  simp -implicitDefEqProofs [fld_top, fld_bot, m1, m2] at hy
  subst hy
  rw [show decide (p < q) = decide (p.num * q.den < q.num * p.den) from decide_eq_decide.mpr (Rat.lt_iff p q)]
  exact hx.symm.trans (gc_same rfl)
theorem ratio_lt (h : Nm w q) (hp : Rz n p) (hq : Rz m q) (hn : n + m ≤ 8000) : U.fn_Ratio_lt [rW p, w] S = .ok (.bl (decide (p < q))) S := by
  generalize hx : U.fn_Ratio_lt _ _ = x
  unfold U.fn_Ratio_lt at hx
  rw [DD.gcF_eq, DD.dFn_eq] at hx
  generalize hy : U.b_Ratio_lt _ _ = y at hx
  unfold U.b_Ratio_lt at hy
  simp -implicitDefEqProofs [asr_ok h, less_ok hp hq hn] at hy
  subst hy
  exact hx.symm.trans (gc_same rfl)
theorem ratio_gt (h : Nm w q) (hp : Rz n p) (hq : Rz m q) (hn : n + m ≤ 8000) : U.fn_Ratio_gt [rW p, w] S = .ok (.bl (decide (q < p))) S := by
  generalize hx : U.fn_Ratio_gt _ _ = x
  unfold U.fn_Ratio_gt at hx
  rw [DD.gcF_eq, DD.dFn_eq] at hx
  generalize hy : U.b_Ratio_gt _ _ = y at hx
  unfold U.b_Ratio_gt at hy
  simp -implicitDefEqProofs [asr_ok h, less_ok hq hp (by omega)] at hy
  subst hy
  exact hx.symm.trans (gc_same rfl)
theorem dec_le (p q : Rat) : decide (p ≤ q) = !decide (q < p) := by
  rw [Bool.eq_iff_iff]
  simp [Rat.not_lt]
theorem ratio_le (h : Nm w q) (hp : Rz n p) (hq : Rz m q) (hn : n + m ≤ 8000) : U.fn_Ratio_le [rW p, w] S = .ok (.bl (decide (p ≤ q))) S := by
  generalize hx : U.fn_Ratio_le _ _ = x
  unfold U.fn_Ratio_le at hx
  rw [DD.gcF_eq, DD.dFn_eq] at hx
  generalize hy : U.b_Ratio_le _ _ = y at hx
  unfold U.b_Ratio_le at hy
  rw [dec_le]
  simp -implicitDefEqProofs [asr_ok h, less_ok hq hp (by omega), dNotT, truW] at hy
  subst hy
  exact hx.symm.trans (gc_same rfl)
theorem ratio_ge (h : Nm w q) (hp : Rz n p) (hq : Rz m q) (hn : n + m ≤ 8000) : U.fn_Ratio_ge [rW p, w] S = .ok (.bl (decide (q ≤ p))) S := by
  generalize hx : U.fn_Ratio_ge _ _ = x
  unfold U.fn_Ratio_ge at hx
  rw [DD.gcF_eq, DD.dFn_eq] at hx
  generalize hy : U.b_Ratio_ge _ _ = y at hx
  unfold U.b_Ratio_ge at hy
  rw [dec_le]
  simp -implicitDefEqProofs [asr_ok h, less_ok hp hq (by omega), dNotT, truW] at hy
  subst hy
  exact hx.symm.trans (gc_same rfl)
theorem rat_eq_iff (p q : Rat) : p = q ↔ p.num = q.num ∧ p.den = q.den := ⟨fun h => h ▸ ⟨rfl, rfl⟩, fun h => Rat.ext h.1 h.2⟩
theorem ratio_eq (h : Nm w q) : U.fn_Ratio_eq [rW p, w] S = .ok (.bl (decide (p = q))) S := by
  generalize hx : U.fn_Ratio_eq _ _ = x
  unfold U.fn_Ratio_eq at hx
  rw [DD.gcF_eq, DD.dFn_eq] at hx
  generalize hy : U.b_Ratio_eq _ _ = y at hx
  unfold U.b_Ratio_eq at hy
  rcases h with rfl | ⟨i, rfl, rfl⟩
  · by_cases h1 : p.num = q.num
    · have h2 : decide ((p.den : Int) = q.den) = decide (p = q) := decide_eq_decide.mpr (by rw [rat_eq_iff]; constructor <;> intro z <;> omega)
      simp -implicitDefEqProofs [isi_rW, truW, fld_top, fld_bot, dAndT, h1, h2] at hy
      subst hy
      exact hx.symm.trans (gc_same rfl)
    · have h2 : ¬ p = q := fun z => h1 (z ▸ rfl)
      simp -implicitDefEqProofs [isi_rW, truW, fld_top, fld_bot, dAndT, h1] at hy
      subst hy
      rw [show decide (p = q) = false from decide_eq_false h2]
      exact hx.symm.trans (gc_same rfl)
  · have hI : isiF (isi2 34) [.int i, .ty "int"] S = .ok (.bl true) S := rfl
    by_cases h1 : p.den = 1
    · simp -implicitDefEqProofs [isi_int, truW, fld_top, fld_bot, dAndT, h1, hI] at hy
      have : (p.num = i) = (p = (i : Rat)) := propext (by rw [rat_eq_iff]; simp [h1])
      simp only [this] at hy
      subst hy
      exact hx.symm.trans (gc_same rfl)
    · have h2 : ¬ p = (i : Rat) := fun z => h1 (by rw [z]; rfl)
      have h3 : ¬ ((p.den : Int) = 1) := by omega
      simp -implicitDefEqProofs [isi_int, truW, fld_top, fld_bot, dAndT, h1, h3, hI] at hy
      subst hy
      rw [show decide (p = (i : Rat)) = false from decide_eq_false h2]
      exact hx.symm.trans (gc_same rfl)
end
/-- how two numbers stand -/
def cmpW (x y : Rat) : W := .lst [.bl (decide (x < y)), .bl (decide (x ≤ y)), .bl (decide (x = y)), .bl (decide (y ≤ x)), .bl (decide (y < x))]
theorem cmp_of {x y x' y' : Rat} (h1 : x < y ↔ x' < y') (h2 : y < x ↔ y' < x') : cmpW x y = cmpW x' y' := by
  have h3 : x = y ↔ x' = y' := by
    have := @Rat.lt_iff_le_and_not_ge x y; have := @Rat.lt_iff_le_and_not_ge x' y'
    constructor <;> intro h <;> grind
  unfold cmpW
  rw [dec_le, dec_le, dec_le, dec_le]
  simp only [h1, h2, h3]
theorem cmp_mul {x y k : Rat} (h : 0 < k) : cmpW (x * k) (y * k) = cmpW x y :=
  cmp_of (Rat.mul_lt_mul_right h) (Rat.mul_lt_mul_right h)
theorem cmp_add {x y z : Rat} : cmpW (x + z) (y + z) = cmpW x y := cmp_of (by constructor <;> intro h <;> grind) (by constructor <;> intro h <;> grind)
theorem cmp_neg {x y : Rat} : cmpW (-y) (-x) = cmpW x y := cmp_of (by constructor <;> intro h <;> grind) (by constructor <;> intro h <;> grind)
theorem cmp_int {a b : Int} : cmpW (a : Rat) (b : Rat) = .lst [.bl (decide (a < b)), .bl (decide (a ≤ b)), .bl (decide (a = b)), .bl (decide (b ≤ a)), .bl (decide (b < a))] := by
  unfold cmpW
  simp [Rat.intCast_lt_intCast, Rat.intCast_le_intCast]
theorem cmp_rev {x y : Rat} : ∀ l, cmpW x y = .lst l → cmpW y x = .lst l.reverse := by
  intro l h
  cases h
  unfold cmpW
  simp [eq_comm]
theorem cmp_dat {x y : Rat} : dat dDep (cmpW x y) = true := by simp [cmpW, dDep, dat]
theorem due_ok {S : Sto} {a b : Int} : U.fn_l_due [.int a, .int b] S = .ok (cmpW a b) S := by
  generalize hx : U.fn_l_due _ _ = x
  unfold U.fn_l_due at hx
  rw [DD.gcF_eq, DD.dFn_eq] at hx
  generalize hy : U.b_l_due _ _ = y at hx
  unfold U.b_l_due at hy
  simp -implicitDefEqProofs [sizeLine_eq] at hy
  subst hy
  rw [cmp_int]
  exact hx.symm.trans (gc_same (by simp [lowW, lowL]))
theorem low_cmp {n : Nat} {x y : Rat} : lowW n (cmpW x y) = true := by simp [cmpW, lowW, lowL]
section
variable {S : Sto} {p q : Rat} {n m : Nat} {i : Int} {f : D2}
theorem oc_rr {fn : Fn} {x : W} (h : fn [rW p, rW q] S = .ok x S) : orD (usrD 34 fn) f (rW p) (rW q) S = .ok x S := by simp [orD, usrD, isOf, h]
theorem oc_ri {fn : Fn} {x : W} (h : fn [rW p, .int i] S = .ok x S) : orD (usrD 34 fn) (orD (usrL 34 fn) f) (rW p) (.int i) S = .ok x S := by simp [orD, usrD, usrL, isOf, h]
theorem oc_ir {fn gn : Fn} {x : W} (h : gn [rW p, .int i] S = .ok x S) : orD (usrD 34 fn) (orD (usrL 34 fn) (orD (usrR 34 gn) f)) (.int i) (rW p) S = .ok x S := by simp [orD, usrD, usrL, usrR, isOf, h]
theorem page_rr (hp : Rz n p) (hq : Rz m q) (hn : n + m ≤ 8000) : U.fn_l_page [rW p, rW q] S = .ok (cmpW p q) S := by
  generalize hx : U.fn_l_page _ _ = x
  unfold U.fn_l_page at hx
  rw [DD.gcF_eq, DD.dFn_eq] at hx
  generalize hy : U.b_l_page _ _ = y at hx
  unfold U.b_l_page at hy
  simp -implicitDefEqProofs [oc_rr (ratio_lt (S := S) .r hp hq hn), oc_rr (ratio_le (S := S) .r hp hq hn), oc_rr (ratio_eq (S := S) (p := p) (q := q) .r), oc_rr (ratio_ge (S := S) .r hp hq hn), oc_rr (ratio_gt (S := S) .r hp hq hn), sizeLine_eq] at hy
  subst hy
  exact hx.symm.trans (gc_same (by simp [lowW, lowL]))
theorem page_ri (hp : Rz n p) (hq : Rz m (i : Rat)) (hn : n + m ≤ 8000) : U.fn_l_page [rW p, .int i] S = .ok (cmpW p i) S := by
  generalize hx : U.fn_l_page _ _ = x
  unfold U.fn_l_page at hx
  rw [DD.gcF_eq, DD.dFn_eq] at hx
  generalize hy : U.b_l_page _ _ = y at hx
  unfold U.b_l_page at hy
  simp -implicitDefEqProofs [oc_ri (ratio_lt (S := S) .i hp hq hn), oc_ri (ratio_le (S := S) .i hp hq hn), oc_ri (ratio_eq (S := S) (p := p) (q := i) .i), oc_ri (ratio_ge (S := S) .i hp hq hn), oc_ri (ratio_gt (S := S) .i hp hq hn), sizeLine_eq] at hy
  subst hy
  exact hx.symm.trans (gc_same (by simp [lowW, lowL]))
theorem page_ir (hp : Rz n p) (hq : Rz m (i : Rat)) (hn : n + m ≤ 8000) : U.fn_l_page [.int i, rW p] S = .ok (cmpW i p) S := by
  generalize hx : U.fn_l_page _ _ = x
  unfold U.fn_l_page at hx
  rw [DD.gcF_eq, DD.dFn_eq] at hx
  generalize hy : U.b_l_page _ _ = y at hx
  unfold U.b_l_page at hy
  simp -implicitDefEqProofs [oc_ir (ratio_gt (S := S) .i hp hq hn), oc_ir (ratio_ge (S := S) .i hp hq hn), oc_ir (ratio_eq (S := S) (p := p) (q := i) .i), oc_ir (ratio_le (S := S) .i hp hq hn), oc_ir (ratio_lt (S := S) .i hp hq hn), sizeLine_eq] at hy
  subst hy
  have : cmpW (i : Rat) p = .lst [.bl (decide ((i : Rat) < p)), .bl (decide ((i : Rat) ≤ p)), .bl (decide (p = (i : Rat))), .bl (decide (p ≤ (i : Rat))), .bl (decide (p < (i : Rat)))] := by
    unfold cmpW
    rw [show decide ((i : Rat) = p) = decide (p = (i : Rat)) from decide_eq_decide.mpr eq_comm]
  rw [this]
  exact hx.symm.trans (gc_same (by simp [lowW, lowL]))
end
theorem ne_same {S : Sto} {x y : Rat} {w : W} (h : w = cmpW x y) : neD w (cmpW x y) S = .ok (.bl false) S := by
  subst h
  rw [e_ne cmp_dat cmp_dat, eqW_refl cmp_dat]; rfl
theorem cmp_cnt {x y : Rat} {S : Sto} : ∃ k : Int, countM (cmpW x y) [.bl true] S = .ok (.int k) S ∧ (k = 2 ∨ k = 3) := by
  refine ⟨_, rfl, ?_⟩
  by_cases h1 : x < y
  · have h2 : ¬ y < x := by grind
    have h3 : ¬ x = y := by grind
    rw [dec_le, dec_le]
    simp [h1, h2, h3]
  · by_cases h2 : y < x
    · have h3 : ¬ x = y := by grind
      rw [dec_le, dec_le]
      simp [h1, h2, h3]
    · have h3 : x = y := by grind
      rw [dec_le, dec_le]
      simp [h1, h2, h3]
end SP
namespace Zk45
open PySem PySem.Spec PyProof.Rows L2 DD U
def topS (i : Nat) : Stmt := PySem.Challenge.pw_steppedtests_k45_whole_order_of_ratios.main.body.getD i (.Pass ⟨0, 0, 0, 0⟩)
abbrev s_l_due : Stmt := topS 14
abbrev s_l_pool : Stmt := topS 10
abbrev s_l_take : Stmt := topS 11
abbrev s_Ratio_eq : Stmt := inClass (topS 6) 8
abbrev s_common_divisor : Stmt := topS 5
abbrev s_less : Stmt := topS 8
abbrev s_l_number : Stmt := topS 12
abbrev s_Ratio_init : Stmt := inClass (topS 6) 0
abbrev s_Ratio_neg : Stmt := inClass (topS 6) 7
abbrev s_Ratio_radd : Stmt := inClass (topS 6) 2
abbrev s_as_ratio : Stmt := topS 7
abbrev s_Ratio_add : Stmt := inClass (topS 6) 1
abbrev s_Ratio_ge : Stmt := inClass (topS 6) 12
abbrev s_Ratio_gt : Stmt := inClass (topS 6) 11
abbrev s_Ratio_le : Stmt := inClass (topS 6) 10
abbrev s_Ratio_lt : Stmt := inClass (topS 6) 9
abbrev s_l_page : Stmt := topS 13
abbrev s_law : Stmt := topS 15
def dd_l_due : He.DefD := ⟨("_law_due", none), "_law_due", "_law_due", defArgs s_l_due, defBody s_l_due, defScope s_l_due, [], []⟩
def dd_l_pool : He.DefD := ⟨("_law_pool", none), "_law_pool", "_law_pool", defArgs s_l_pool, defBody s_l_pool, defScope s_l_pool, [], []⟩
def dd_l_take : He.DefD := ⟨("_law_take", none), "_law_take", "_law_take", defArgs s_l_take, defBody s_l_take, defScope s_l_take, [], []⟩
def dd_Ratio_eq : He.DefD := ⟨("Ratio", some "__eq__"), "__eq__", "Ratio.__eq__", defArgs s_Ratio_eq, defBody s_Ratio_eq, defScope s_Ratio_eq, [], []⟩
def dd_common_divisor : He.DefD := ⟨("common_divisor", none), "common_divisor", "common_divisor", defArgs s_common_divisor, defBody s_common_divisor, defScope s_common_divisor, [], []⟩
def dd_less : He.DefD := ⟨("less", none), "less", "less", defArgs s_less, defBody s_less, defScope s_less, [], []⟩
def dd_l_number : He.DefD := ⟨("_law_number", none), "_law_number", "_law_number", defArgs s_l_number, defBody s_l_number, defScope s_l_number, [], []⟩
def dd_Ratio_init : He.DefD := ⟨("Ratio", some "__init__"), "__init__", "Ratio.__init__", defArgs s_Ratio_init, defBody s_Ratio_init, defScope s_Ratio_init, [(.int 1)], []⟩
def dd_Ratio_neg : He.DefD := ⟨("Ratio", some "__neg__"), "__neg__", "Ratio.__neg__", defArgs s_Ratio_neg, defBody s_Ratio_neg, defScope s_Ratio_neg, [], []⟩
def dd_Ratio_radd : He.DefD := ⟨("Ratio", some "__radd__"), "__radd__", "Ratio.__radd__", defArgs s_Ratio_radd, defBody s_Ratio_radd, defScope s_Ratio_radd, [], []⟩
def dd_as_ratio : He.DefD := ⟨("as_ratio", none), "as_ratio", "as_ratio", defArgs s_as_ratio, defBody s_as_ratio, defScope s_as_ratio, [], []⟩
def dd_Ratio_add : He.DefD := ⟨("Ratio", some "__add__"), "__add__", "Ratio.__add__", defArgs s_Ratio_add, defBody s_Ratio_add, defScope s_Ratio_add, [], []⟩
def dd_Ratio_ge : He.DefD := ⟨("Ratio", some "__ge__"), "__ge__", "Ratio.__ge__", defArgs s_Ratio_ge, defBody s_Ratio_ge, defScope s_Ratio_ge, [], []⟩
def dd_Ratio_gt : He.DefD := ⟨("Ratio", some "__gt__"), "__gt__", "Ratio.__gt__", defArgs s_Ratio_gt, defBody s_Ratio_gt, defScope s_Ratio_gt, [], []⟩
def dd_Ratio_le : He.DefD := ⟨("Ratio", some "__le__"), "__le__", "Ratio.__le__", defArgs s_Ratio_le, defBody s_Ratio_le, defScope s_Ratio_le, [], []⟩
def dd_Ratio_lt : He.DefD := ⟨("Ratio", some "__lt__"), "__lt__", "Ratio.__lt__", defArgs s_Ratio_lt, defBody s_Ratio_lt, defScope s_Ratio_lt, [], []⟩
def dd_l_page : He.DefD := ⟨("_law_page", none), "_law_page", "_law_page", defArgs s_l_page, defBody s_l_page, defScope s_l_page, [], []⟩
def dd_law : He.DefD := ⟨("law", none), "law", "law", defArgs s_law, defBody s_law, defScope s_law, [], []⟩
def fn : List He.DefD := [dd_l_due, dd_l_pool, dd_l_take, dd_Ratio_eq, dd_common_divisor, dd_less, dd_l_number, dd_Ratio_init, dd_Ratio_neg, dd_Ratio_radd, dd_as_ratio, dd_Ratio_add, dd_Ratio_ge, dd_Ratio_gt, dd_Ratio_le, dd_Ratio_lt, dd_l_page, dd_law]
def fa : List He.Fa := [.free "abs", .free "int", .free "isinstance", .free "len", .free "max", .free "min", .free "range", .glo "_law_due", .glo "_law_pool", .glo "_law_take", .glo "common_divisor", .glo "less", .glo "_law_number", .glo "as_ratio", .glo "_law_page", .glo "law", .glo "Ratio", .glo "ZeroBottom", .cls "Ratio", .noat "Ratio" "bottom", .noat "Ratio" "top", .meth "Ratio" "__add__", .meth "Ratio" "__eq__", .meth "Ratio" "__ge__", .meth "Ratio" "__gt__", .meth "Ratio" "__le__", .meth "Ratio" "__lt__", .meth "Ratio" "__neg__", .meth "Ratio" "__radd__", .mkr "Ratio"]
def cm (K : PySem.W.Frag) : Nat → Addr
  | 0 => He.ga K "TestError"
  | 16 => He.ga K "ZeroBottom"
  | 34 => He.ga K "Ratio"
  | _ => 0
def xv (K : PySem.W.Frag) : Nat → Value := fun i => .ref (cm K i)
def exK (K : PySem.W.Frag) : Bool := decide (PySem.W.kitOne K (.type "NoneType") (.ref (cm K 34)) = some false) && decide (PySem.W.kitOne K (.type "bool") (.ref (cm K 34)) = some false) && decide (PySem.W.kitOne K (.type "int") (.ref (cm K 34)) = some false) && decide (PySem.W.kitOne K (.type "str") (.ref (cm K 34)) = some false) && decide (PySem.W.kitOne K (.type "tuple") (.ref (cm K 34)) = some false) && decide (PySem.W.kitOne K (.type "list") (.ref (cm K 34)) = some false) && decide (PySem.W.kitOne K (.type "dict") (.ref (cm K 34)) = some false) && decide (PySem.W.kitOne K (.ref (cm K 34)) (.ref (cm K 34)) = some true) && decide (PySem.W.findIn K (.ref (cm K 34)) "__class__" = some (some (.builtin "object.__class__"))) && decide (PySem.W.mroIn K (cm K 34) (.type "object") = some true) && decide (PySem.W.specialIn K (.builtin "object.__class__") "__get__" = some (some (.builtin "getset_descriptor.__get__"))) && decide (PySem.W.takesIn K (.builtin "object.__class__") = some true) && decide (PySem.W.excIn K (cm K 16) [.type "ValueError", .type "Exception", .type "BaseException", .type "object"] "ValueError.__new__" = true) && decide (PySem.W.keepIn K (.ref (cm K 16)) = true) && decide (PySem.W.subIn K (.ref (cm K 16)) (.type "BaseException") = some true) && decide (PySem.W.typeIn K (.ref (cm K 16)) = some (.type "type")) && decide (PySem.W.kitOne K (.ref (cm K 34)) (.type "bool") = some false) && decide (PySem.W.kitOne K (.ref (cm K 34)) (.type "int") = some false) && decide (PySem.W.kitOne K (.ref (cm K 34)) (.type "str") = some false) && decide (PySem.W.kitOne K (.ref (cm K 34)) (.type "tuple") = some false) && decide (PySem.W.kitOne K (.ref (cm K 34)) (.type "list") = some false) && decide (PySem.W.kitOne K (.ref (cm K 34)) (.type "dict") = some false) && decide (PySem.W.subIn K (.type "int") (.ref (cm K 34)) = some false) && decide (PySem.W.subIn K (.ref (cm K 34)) (.type "int") = some false) && decide ((PySem.W.findIn K (.type "int") "__add__").isSome = true) && decide ((PySem.W.findIn K (.type "int") "__radd__").isSome = true) && decide (PySem.W.selfFirst K (cm K 34) = true)
structure Tx (K : PySem.W.Frag) (mg : Str → Option Value) : Prop where
  b_abs : mg "abs" = none
  b_int : mg "int" = none
  b_isinstance : mg "isinstance" = none
  b_len : mg "len" = none
  b_max : mg "max" = none
  b_min : mg "min" = none
  b_range : mg "range" = none
  g_l_due : mg "_law_due" = some (.ref (He.fAd K ("_law_due", none)))
  g_l_pool : mg "_law_pool" = some (.ref (He.fAd K ("_law_pool", none)))
  g_l_take : mg "_law_take" = some (.ref (He.fAd K ("_law_take", none)))
  g_common_divisor : mg "common_divisor" = some (.ref (He.fAd K ("common_divisor", none)))
  g_less : mg "less" = some (.ref (He.fAd K ("less", none)))
  g_l_number : mg "_law_number" = some (.ref (He.fAd K ("_law_number", none)))
  g_as_ratio : mg "as_ratio" = some (.ref (He.fAd K ("as_ratio", none)))
  g_l_page : mg "_law_page" = some (.ref (He.fAd K ("_law_page", none)))
  g_law : mg "law" = some (.ref (He.fAd K ("law", none)))
  g_Ratio : mg "Ratio" = some (.ref (cm K 34))
  g_ZeroBottom : mg "ZeroBottom" = some (.ref (cm K 16))
  c_Ratio : Cls K (cm K 34)
  n_Ratio_bottom : NoAttr K (cm K 34) "bottom"
  n_Ratio_top : NoAttr K (cm K 34) "top"
  m_Ratio_add : Meth K (cm K 34) "__add__" (He.fAd K ("Ratio", some "__add__"))
  m_Ratio_eq : Meth K (cm K 34) "__eq__" (He.fAd K ("Ratio", some "__eq__"))
  m_Ratio_ge : Meth K (cm K 34) "__ge__" (He.fAd K ("Ratio", some "__ge__"))
  m_Ratio_gt : Meth K (cm K 34) "__gt__" (He.fAd K ("Ratio", some "__gt__"))
  m_Ratio_le : Meth K (cm K 34) "__le__" (He.fAd K ("Ratio", some "__le__"))
  m_Ratio_lt : Meth K (cm K 34) "__lt__" (He.fAd K ("Ratio", some "__lt__"))
  m_Ratio_neg : Meth K (cm K 34) "__neg__" (He.fAd K ("Ratio", some "__neg__"))
  m_Ratio_radd : Meth K (cm K 34) "__radd__" (He.fAd K ("Ratio", some "__radd__"))
  mk_Ratio : Mk K (cm K 34) (He.fAd K ("Ratio", some "__init__"))
  f_l_due : ∃ fd, FunD K "_law_due" "_law_due" (defArgs s_l_due) (defBody s_l_due) (defScope s_l_due) [] [] (He.fAd K ("_law_due", none)) fd
  f_l_pool : ∃ fd, FunD K "_law_pool" "_law_pool" (defArgs s_l_pool) (defBody s_l_pool) (defScope s_l_pool) [] [] (He.fAd K ("_law_pool", none)) fd
  f_l_take : ∃ fd, FunD K "_law_take" "_law_take" (defArgs s_l_take) (defBody s_l_take) (defScope s_l_take) [] [] (He.fAd K ("_law_take", none)) fd
  f_Ratio_eq : ∃ fd, FunD K "__eq__" "Ratio.__eq__" (defArgs s_Ratio_eq) (defBody s_Ratio_eq) (defScope s_Ratio_eq) [] [] (He.fAd K ("Ratio", some "__eq__")) fd
  f_common_divisor : ∃ fd, FunD K "common_divisor" "common_divisor" (defArgs s_common_divisor) (defBody s_common_divisor) (defScope s_common_divisor) [] [] (He.fAd K ("common_divisor", none)) fd
  f_less : ∃ fd, FunD K "less" "less" (defArgs s_less) (defBody s_less) (defScope s_less) [] [] (He.fAd K ("less", none)) fd
  f_l_number : ∃ fd, FunD K "_law_number" "_law_number" (defArgs s_l_number) (defBody s_l_number) (defScope s_l_number) [] [] (He.fAd K ("_law_number", none)) fd
  f_Ratio_init : ∃ fd, FunD K "__init__" "Ratio.__init__" (defArgs s_Ratio_init) (defBody s_Ratio_init) (defScope s_Ratio_init) [(.int 1)] [] (He.fAd K ("Ratio", some "__init__")) fd
  f_Ratio_neg : ∃ fd, FunD K "__neg__" "Ratio.__neg__" (defArgs s_Ratio_neg) (defBody s_Ratio_neg) (defScope s_Ratio_neg) [] [] (He.fAd K ("Ratio", some "__neg__")) fd
  f_Ratio_radd : ∃ fd, FunD K "__radd__" "Ratio.__radd__" (defArgs s_Ratio_radd) (defBody s_Ratio_radd) (defScope s_Ratio_radd) [] [] (He.fAd K ("Ratio", some "__radd__")) fd
  f_as_ratio : ∃ fd, FunD K "as_ratio" "as_ratio" (defArgs s_as_ratio) (defBody s_as_ratio) (defScope s_as_ratio) [] [] (He.fAd K ("as_ratio", none)) fd
  f_Ratio_add : ∃ fd, FunD K "__add__" "Ratio.__add__" (defArgs s_Ratio_add) (defBody s_Ratio_add) (defScope s_Ratio_add) [] [] (He.fAd K ("Ratio", some "__add__")) fd
  f_Ratio_ge : ∃ fd, FunD K "__ge__" "Ratio.__ge__" (defArgs s_Ratio_ge) (defBody s_Ratio_ge) (defScope s_Ratio_ge) [] [] (He.fAd K ("Ratio", some "__ge__")) fd
  f_Ratio_gt : ∃ fd, FunD K "__gt__" "Ratio.__gt__" (defArgs s_Ratio_gt) (defBody s_Ratio_gt) (defScope s_Ratio_gt) [] [] (He.fAd K ("Ratio", some "__gt__")) fd
  f_Ratio_le : ∃ fd, FunD K "__le__" "Ratio.__le__" (defArgs s_Ratio_le) (defBody s_Ratio_le) (defScope s_Ratio_le) [] [] (He.fAd K ("Ratio", some "__le__")) fd
  f_Ratio_lt : ∃ fd, FunD K "__lt__" "Ratio.__lt__" (defArgs s_Ratio_lt) (defBody s_Ratio_lt) (defScope s_Ratio_lt) [] [] (He.fAd K ("Ratio", some "__lt__")) fd
  f_l_page : ∃ fd, FunD K "_law_page" "_law_page" (defArgs s_l_page) (defBody s_l_page) (defScope s_l_page) [] [] (He.fAd K ("_law_page", none)) fd
  f_law : ∃ fd, FunD K "law" "law" (defArgs s_law) (defBody s_law) (defScope s_law) [] [] (He.fAd K ("law", none)) fd
  kb_Ratio_NoneType : PySem.W.kitOne K (.type "NoneType") (.ref (cm K 34)) = some false
  kb_Ratio_bool : PySem.W.kitOne K (.type "bool") (.ref (cm K 34)) = some false
  kb_Ratio_int : PySem.W.kitOne K (.type "int") (.ref (cm K 34)) = some false
  kb_Ratio_str : PySem.W.kitOne K (.type "str") (.ref (cm K 34)) = some false
  kb_Ratio_tuple : PySem.W.kitOne K (.type "tuple") (.ref (cm K 34)) = some false
  kb_Ratio_list : PySem.W.kitOne K (.type "list") (.ref (cm K 34)) = some false
  kb_Ratio_dict : PySem.W.kitOne K (.type "dict") (.ref (cm K 34)) = some false
  kc_Ratio : PySem.W.kitOne K (.ref (cm K 34)) (.ref (cm K 34)) = some true
  ia_Ratio : PySem.W.findIn K (.ref (cm K 34)) "__class__" = some (some (.builtin "object.__class__"))
  im_Ratio : PySem.W.mroIn K (cm K 34) (.type "object") = some true
  ig : PySem.W.specialIn K (.builtin "object.__class__") "__get__" = some (some (.builtin "getset_descriptor.__get__"))
  it : PySem.W.takesIn K (.builtin "object.__class__") = some true
  yq_ZeroBottom : PySem.W.excIn K (cm K 16) [.type "ValueError", .type "Exception", .type "BaseException", .type "object"] "ValueError.__new__" = true
  yk_ZeroBottom : PySem.W.keepIn K (.ref (cm K 16)) = true
  ys_ZeroBottom : PySem.W.subIn K (.ref (cm K 16)) (.type "BaseException") = some true
  yt_ZeroBottom : PySem.W.typeIn K (.ref (cm K 16)) = some (.type "type")
  kd_Ratio_bool : PySem.W.kitOne K (.ref (cm K 34)) (.type "bool") = some false
  kd_Ratio_int : PySem.W.kitOne K (.ref (cm K 34)) (.type "int") = some false
  kd_Ratio_str : PySem.W.kitOne K (.ref (cm K 34)) (.type "str") = some false
  kd_Ratio_tuple : PySem.W.kitOne K (.ref (cm K 34)) (.type "tuple") = some false
  kd_Ratio_list : PySem.W.kitOne K (.ref (cm K 34)) (.type "list") = some false
  kd_Ratio_dict : PySem.W.kitOne K (.ref (cm K 34)) (.type "dict") = some false
  s1_Ratio : PySem.W.subIn K (.type "int") (.ref (cm K 34)) = some false
  s2_Ratio : PySem.W.subIn K (.ref (cm K 34)) (.type "int") = some false
  i1_Ratio_add : (PySem.W.findIn K (.type "int") "__add__").isSome = true
  i2_Ratio_add : (PySem.W.findIn K (.type "int") "__radd__").isSome = true
  sf_Ratio : PySem.W.selfFirst K (cm K 34) = true
theorem tx_of {K : PySem.W.Frag} {h : Heap} {mg : Str → Option Value} (X : K.In h) (G : h.Ns mainGlobals mg) (c : He.SaysD fa fn K) (ex : exK K = true) : Tx K mg where
  b_abs := He.free_ok X G (c.fact 0 (f := .free "abs") rfl)
  b_int := He.free_ok X G (c.fact 1 (f := .free "int") rfl)
  b_isinstance := He.free_ok X G (c.fact 2 (f := .free "isinstance") rfl)
  b_len := He.free_ok X G (c.fact 3 (f := .free "len") rfl)
  b_max := He.free_ok X G (c.fact 4 (f := .free "max") rfl)
  b_min := He.free_ok X G (c.fact 5 (f := .free "min") rfl)
  b_range := He.free_ok X G (c.fact 6 (f := .free "range") rfl)
  g_l_due := He.glo_ok X G (c.fact 7 (f := .glo "_law_due") rfl)
  g_l_pool := He.glo_ok X G (c.fact 8 (f := .glo "_law_pool") rfl)
  g_l_take := He.glo_ok X G (c.fact 9 (f := .glo "_law_take") rfl)
  g_common_divisor := He.glo_ok X G (c.fact 10 (f := .glo "common_divisor") rfl)
  g_less := He.glo_ok X G (c.fact 11 (f := .glo "less") rfl)
  g_l_number := He.glo_ok X G (c.fact 12 (f := .glo "_law_number") rfl)
  g_as_ratio := He.glo_ok X G (c.fact 13 (f := .glo "as_ratio") rfl)
  g_l_page := He.glo_ok X G (c.fact 14 (f := .glo "_law_page") rfl)
  g_law := He.glo_ok X G (c.fact 15 (f := .glo "law") rfl)
  g_Ratio := He.glo_ok X G (c.fact 16 (f := .glo "Ratio") rfl)
  g_ZeroBottom := He.glo_ok X G (c.fact 17 (f := .glo "ZeroBottom") rfl)
  c_Ratio := He.cls_ok (c.fact 18 (f := .cls "Ratio") rfl)
  n_Ratio_bottom := He.noat_ok (c.fact 19 (f := .noat "Ratio" "bottom") rfl)
  n_Ratio_top := He.noat_ok (c.fact 20 (f := .noat "Ratio" "top") rfl)
  m_Ratio_add := He.meth_ok (c.fact 21 (f := .meth "Ratio" "__add__") rfl)
  m_Ratio_eq := He.meth_ok (c.fact 22 (f := .meth "Ratio" "__eq__") rfl)
  m_Ratio_ge := He.meth_ok (c.fact 23 (f := .meth "Ratio" "__ge__") rfl)
  m_Ratio_gt := He.meth_ok (c.fact 24 (f := .meth "Ratio" "__gt__") rfl)
  m_Ratio_le := He.meth_ok (c.fact 25 (f := .meth "Ratio" "__le__") rfl)
  m_Ratio_lt := He.meth_ok (c.fact 26 (f := .meth "Ratio" "__lt__") rfl)
  m_Ratio_neg := He.meth_ok (c.fact 27 (f := .meth "Ratio" "__neg__") rfl)
  m_Ratio_radd := He.meth_ok (c.fact 28 (f := .meth "Ratio" "__radd__") rfl)
  mk_Ratio := He.mkr_ok (c.fact 29 (f := .mkr "Ratio") rfl)
  f_l_due := c.def_ 0 (d := dd_l_due) rfl
  f_l_pool := c.def_ 1 (d := dd_l_pool) rfl
  f_l_take := c.def_ 2 (d := dd_l_take) rfl
  f_Ratio_eq := c.def_ 3 (d := dd_Ratio_eq) rfl
  f_common_divisor := c.def_ 4 (d := dd_common_divisor) rfl
  f_less := c.def_ 5 (d := dd_less) rfl
  f_l_number := c.def_ 6 (d := dd_l_number) rfl
  f_Ratio_init := c.def_ 7 (d := dd_Ratio_init) rfl
  f_Ratio_neg := c.def_ 8 (d := dd_Ratio_neg) rfl
  f_Ratio_radd := c.def_ 9 (d := dd_Ratio_radd) rfl
  f_as_ratio := c.def_ 10 (d := dd_as_ratio) rfl
  f_Ratio_add := c.def_ 11 (d := dd_Ratio_add) rfl
  f_Ratio_ge := c.def_ 12 (d := dd_Ratio_ge) rfl
  f_Ratio_gt := c.def_ 13 (d := dd_Ratio_gt) rfl
  f_Ratio_le := c.def_ 14 (d := dd_Ratio_le) rfl
  f_Ratio_lt := c.def_ 15 (d := dd_Ratio_lt) rfl
  f_l_page := c.def_ 16 (d := dd_l_page) rfl
  f_law := c.def_ 17 (d := dd_law) rfl
  kb_Ratio_NoneType := of_decide_eq_true (He.ba (He.ba (He.ba (He.ba (He.ba (He.ba (He.ba (He.ba (He.ba (He.ba (He.ba (He.ba (He.ba (He.ba (He.ba (He.ba (He.ba (He.ba (He.ba (He.ba (He.ba (He.ba (He.ba (He.ba (He.ba (He.ba ex).1).1).1).1).1).1).1).1).1).1).1).1).1).1).1).1).1).1).1).1).1).1).1).1).1).1
  kb_Ratio_bool := of_decide_eq_true (He.ba (He.ba (He.ba (He.ba (He.ba (He.ba (He.ba (He.ba (He.ba (He.ba (He.ba (He.ba (He.ba (He.ba (He.ba (He.ba (He.ba (He.ba (He.ba (He.ba (He.ba (He.ba (He.ba (He.ba (He.ba (He.ba ex).1).1).1).1).1).1).1).1).1).1).1).1).1).1).1).1).1).1).1).1).1).1).1).1).1).2
  kb_Ratio_int := of_decide_eq_true (He.ba (He.ba (He.ba (He.ba (He.ba (He.ba (He.ba (He.ba (He.ba (He.ba (He.ba (He.ba (He.ba (He.ba (He.ba (He.ba (He.ba (He.ba (He.ba (He.ba (He.ba (He.ba (He.ba (He.ba (He.ba ex).1).1).1).1).1).1).1).1).1).1).1).1).1).1).1).1).1).1).1).1).1).1).1).1).2
  kb_Ratio_str := of_decide_eq_true (He.ba (He.ba (He.ba (He.ba (He.ba (He.ba (He.ba (He.ba (He.ba (He.ba (He.ba (He.ba (He.ba (He.ba (He.ba (He.ba (He.ba (He.ba (He.ba (He.ba (He.ba (He.ba (He.ba (He.ba ex).1).1).1).1).1).1).1).1).1).1).1).1).1).1).1).1).1).1).1).1).1).1).1).2
  kb_Ratio_tuple := of_decide_eq_true (He.ba (He.ba (He.ba (He.ba (He.ba (He.ba (He.ba (He.ba (He.ba (He.ba (He.ba (He.ba (He.ba (He.ba (He.ba (He.ba (He.ba (He.ba (He.ba (He.ba (He.ba (He.ba (He.ba ex).1).1).1).1).1).1).1).1).1).1).1).1).1).1).1).1).1).1).1).1).1).1).2
  kb_Ratio_list := of_decide_eq_true (He.ba (He.ba (He.ba (He.ba (He.ba (He.ba (He.ba (He.ba (He.ba (He.ba (He.ba (He.ba (He.ba (He.ba (He.ba (He.ba (He.ba (He.ba (He.ba (He.ba (He.ba (He.ba ex).1).1).1).1).1).1).1).1).1).1).1).1).1).1).1).1).1).1).1).1).1).2
  kb_Ratio_dict := of_decide_eq_true (He.ba (He.ba (He.ba (He.ba (He.ba (He.ba (He.ba (He.ba (He.ba (He.ba (He.ba (He.ba (He.ba (He.ba (He.ba (He.ba (He.ba (He.ba (He.ba (He.ba (He.ba ex).1).1).1).1).1).1).1).1).1).1).1).1).1).1).1).1).1).1).1).1).2
  kc_Ratio := of_decide_eq_true (He.ba (He.ba (He.ba (He.ba (He.ba (He.ba (He.ba (He.ba (He.ba (He.ba (He.ba (He.ba (He.ba (He.ba (He.ba (He.ba (He.ba (He.ba (He.ba (He.ba ex).1).1).1).1).1).1).1).1).1).1).1).1).1).1).1).1).1).1).1).2
  ia_Ratio := of_decide_eq_true (He.ba (He.ba (He.ba (He.ba (He.ba (He.ba (He.ba (He.ba (He.ba (He.ba (He.ba (He.ba (He.ba (He.ba (He.ba (He.ba (He.ba (He.ba (He.ba ex).1).1).1).1).1).1).1).1).1).1).1).1).1).1).1).1).1).1).2
  im_Ratio := of_decide_eq_true (He.ba (He.ba (He.ba (He.ba (He.ba (He.ba (He.ba (He.ba (He.ba (He.ba (He.ba (He.ba (He.ba (He.ba (He.ba (He.ba (He.ba (He.ba ex).1).1).1).1).1).1).1).1).1).1).1).1).1).1).1).1).1).2
  ig := of_decide_eq_true (He.ba (He.ba (He.ba (He.ba (He.ba (He.ba (He.ba (He.ba (He.ba (He.ba (He.ba (He.ba (He.ba (He.ba (He.ba (He.ba (He.ba ex).1).1).1).1).1).1).1).1).1).1).1).1).1).1).1).1).2
  it := of_decide_eq_true (He.ba (He.ba (He.ba (He.ba (He.ba (He.ba (He.ba (He.ba (He.ba (He.ba (He.ba (He.ba (He.ba (He.ba (He.ba (He.ba ex).1).1).1).1).1).1).1).1).1).1).1).1).1).1).1).2
  yq_ZeroBottom := of_decide_eq_true (He.ba (He.ba (He.ba (He.ba (He.ba (He.ba (He.ba (He.ba (He.ba (He.ba (He.ba (He.ba (He.ba (He.ba (He.ba ex).1).1).1).1).1).1).1).1).1).1).1).1).1).1).2
  yk_ZeroBottom := of_decide_eq_true (He.ba (He.ba (He.ba (He.ba (He.ba (He.ba (He.ba (He.ba (He.ba (He.ba (He.ba (He.ba (He.ba (He.ba ex).1).1).1).1).1).1).1).1).1).1).1).1).1).2
  ys_ZeroBottom := of_decide_eq_true (He.ba (He.ba (He.ba (He.ba (He.ba (He.ba (He.ba (He.ba (He.ba (He.ba (He.ba (He.ba (He.ba ex).1).1).1).1).1).1).1).1).1).1).1).1).2
  yt_ZeroBottom := of_decide_eq_true (He.ba (He.ba (He.ba (He.ba (He.ba (He.ba (He.ba (He.ba (He.ba (He.ba (He.ba (He.ba ex).1).1).1).1).1).1).1).1).1).1).1).2
  kd_Ratio_bool := of_decide_eq_true (He.ba (He.ba (He.ba (He.ba (He.ba (He.ba (He.ba (He.ba (He.ba (He.ba (He.ba ex).1).1).1).1).1).1).1).1).1).1).2
  kd_Ratio_int := of_decide_eq_true (He.ba (He.ba (He.ba (He.ba (He.ba (He.ba (He.ba (He.ba (He.ba (He.ba ex).1).1).1).1).1).1).1).1).1).2
  kd_Ratio_str := of_decide_eq_true (He.ba (He.ba (He.ba (He.ba (He.ba (He.ba (He.ba (He.ba (He.ba ex).1).1).1).1).1).1).1).1).2
  kd_Ratio_tuple := of_decide_eq_true (He.ba (He.ba (He.ba (He.ba (He.ba (He.ba (He.ba (He.ba ex).1).1).1).1).1).1).1).2
  kd_Ratio_list := of_decide_eq_true (He.ba (He.ba (He.ba (He.ba (He.ba (He.ba (He.ba ex).1).1).1).1).1).1).2
  kd_Ratio_dict := of_decide_eq_true (He.ba (He.ba (He.ba (He.ba (He.ba (He.ba ex).1).1).1).1).1).2
  s1_Ratio := of_decide_eq_true (He.ba (He.ba (He.ba (He.ba (He.ba ex).1).1).1).1).2
  s2_Ratio := of_decide_eq_true (He.ba (He.ba (He.ba (He.ba ex).1).1).1).2
  i1_Ratio_add := of_decide_eq_true (He.ba (He.ba (He.ba ex).1).1).2
  i2_Ratio_add := of_decide_eq_true (He.ba (He.ba ex).1).2
  sf_Ratio := of_decide_eq_true (He.ba ex).2
theorem io_Ratio_add {K : PySem.W.Frag} {mg : Str → Option Value} (T : Tx K mg) : IntOp K (cm K 34) .Add := ⟨T.i1_Ratio_add, T.i2_Ratio_add, T.s1_Ratio, T.s2_Ratio⟩
theorem isi_Ratio {K : PySem.W.Frag} {mg : Str → Option Value} (T : Tx K mg) : ∀ a b k, isi1 34 a b = some k → PySem.W.kitOne K (a.v (cm K)) (b.v (cm K)) = some k ∧ ∀ c, a = .c c → InsK K (cm K c) :=
  isi1_ok T.kb_Ratio_NoneType T.kb_Ratio_bool T.kb_Ratio_int T.kb_Ratio_str T.kb_Ratio_tuple T.kb_Ratio_list T.kb_Ratio_dict T.kc_Ratio ⟨T.c_Ratio, T.ia_Ratio, T.ig, T.it, T.im_Ratio⟩
theorem isj_Ratio {K : PySem.W.Frag} {mg : Str → Option Value} (T : Tx K mg) : ∀ a b k, isi2 34 a b = some k → PySem.W.kitOne K (a.v (cm K)) (b.v (cm K)) = some k ∧ ∀ c, a = .c c → InsK K (cm K c) :=
  isi2_ok (isi_Ratio T) ⟨T.c_Ratio, T.ia_Ratio, T.ig, T.it, T.im_Ratio⟩ T.kd_Ratio_bool T.kd_Ratio_int T.kd_Ratio_str T.kd_Ratio_tuple T.kd_Ratio_list T.kd_Ratio_dict
theorem sc_l_due : FnScope ["_law_left", "_law_right"] ["_law_left", "_law_right"] (defScope s_l_due) := ⟨rfl, rfl, rfl, by decide +kernel, rfl, by decide +kernel, by decide +kernel⟩
theorem sc_l_pool : FnScope ["_law_script", "_law_k", "_law_cell", "_law_big", "_law_mixed"] ["_law_script", "_law_k"] (defScope s_l_pool) := ⟨rfl, rfl, rfl, by decide +kernel, rfl, by decide +kernel, by decide +kernel⟩
theorem sc_l_take : FnScope ["_law_pool_here", "_law_bound", "_law_result"] ["_law_pool_here", "_law_bound"] (defScope s_l_take) := ⟨rfl, rfl, rfl, by decide +kernel, rfl, by decide +kernel, by decide +kernel⟩
theorem sc_Ratio_eq : FnScope ["self", "other"] ["self", "other"] (defScope s_Ratio_eq) := ⟨rfl, rfl, rfl, by decide +kernel, rfl, by decide +kernel, by decide +kernel⟩
theorem sc_common_divisor : FnScope ["one", "two"] ["one", "two"] (defScope s_common_divisor) := ⟨rfl, rfl, rfl, by decide +kernel, rfl, by decide +kernel, by decide +kernel⟩
theorem sc_less : FnScope ["one", "two"] ["one", "two"] (defScope s_less) := ⟨rfl, rfl, rfl, by decide +kernel, rfl, by decide +kernel, by decide +kernel⟩
theorem sc_l_number : FnScope ["_law_pool_here", "_law_most", "_law_number_here", "_law_turn"] ["_law_pool_here", "_law_most"] (defScope s_l_number) := ⟨rfl, rfl, rfl, by decide +kernel, rfl, by decide +kernel, by decide +kernel⟩
theorem sc_Ratio_init : FnScope ["self", "top", "bottom", "turn", "divisor"] ["self", "top", "bottom"] (defScope s_Ratio_init) := ⟨rfl, rfl, rfl, by decide +kernel, rfl, by decide +kernel, by decide +kernel⟩
theorem sc_Ratio_neg : FnScope ["self"] ["self"] (defScope s_Ratio_neg) := ⟨rfl, rfl, rfl, by decide +kernel, rfl, by decide +kernel, by decide +kernel⟩
theorem sc_Ratio_radd : FnScope ["self", "other"] ["self", "other"] (defScope s_Ratio_radd) := ⟨rfl, rfl, rfl, by decide +kernel, rfl, by decide +kernel, by decide +kernel⟩
theorem sc_as_ratio : FnScope ["number"] ["number"] (defScope s_as_ratio) := ⟨rfl, rfl, rfl, by decide +kernel, rfl, by decide +kernel, by decide +kernel⟩
theorem sc_Ratio_add : FnScope ["self", "other", "two"] ["self", "other"] (defScope s_Ratio_add) := ⟨rfl, rfl, rfl, by decide +kernel, rfl, by decide +kernel, by decide +kernel⟩
theorem sc_Ratio_ge : FnScope ["self", "other"] ["self", "other"] (defScope s_Ratio_ge) := ⟨rfl, rfl, rfl, by decide +kernel, rfl, by decide +kernel, by decide +kernel⟩
theorem sc_Ratio_gt : FnScope ["self", "other"] ["self", "other"] (defScope s_Ratio_gt) := ⟨rfl, rfl, rfl, by decide +kernel, rfl, by decide +kernel, by decide +kernel⟩
theorem sc_Ratio_le : FnScope ["self", "other"] ["self", "other"] (defScope s_Ratio_le) := ⟨rfl, rfl, rfl, by decide +kernel, rfl, by decide +kernel, by decide +kernel⟩
theorem sc_Ratio_lt : FnScope ["self", "other"] ["self", "other"] (defScope s_Ratio_lt) := ⟨rfl, rfl, rfl, by decide +kernel, rfl, by decide +kernel, by decide +kernel⟩
theorem sc_l_page : FnScope ["_law_one", "_law_two"] ["_law_one", "_law_two"] (defScope s_l_page) := ⟨rfl, rfl, rfl, by decide +kernel, rfl, by decide +kernel, by decide +kernel⟩
theorem sc_law : FnScope ["_law_script", "_law_k", "_law_pool_here", "_law_turn", "_law_number_here", "_law_ratios", "_law_one", "_law_tops", "_law_bottoms", "_law_bottom", "_law_factor", "_law_two", "_law_due_here", "_law_at"] ["_law_script"] (defScope s_law) := ⟨rfl, rfl, rfl, by decide +kernel, rfl, by decide +kernel, by decide +kernel⟩
theorem x0_ZeroBottom {K : PySem.W.Frag} {mg : Str → Option Value} (T : Tx K mg) : Exc0 K (cm K 16) PySem.F.excBase_ValueError := ⟨T.yq_ZeroBottom, T.yk_ZeroBottom, T.ys_ZeroBottom, T.yt_ZeroBottom⟩
section
variable {P : Program} {w : World} {K : PySem.W.Frag} {mg : Str → Option Value} {base : Heap}
theorem ok_l_due (T : Tx K mg) : DefOk P w K mg base ⟨K, cm K⟩ (xv K) (He.fAd K ("_law_due", none)) 1 2 fn_l_due := by
  obtain ⟨fd, F⟩ := T.f_l_due
  exact DefOk.gc (def_ok (k := 0) (N := ["_law_left", "_law_right"]) F sc_l_due (fun _ _ _ _ _ _ us hl => match us, hl with | [_, _], _ => rfl) fun cdv A outer s H E hr c =>
    (dss_one (ds_ret (de_lst (da_cons (de_cmp o_lt (de_var 0) (de_var 1)) (da_cons (de_cmp o_le (de_var 0) (de_var 1)) (da_cons (de_cmp (o_eq c.kk hr.units) (de_var 0) (de_var 1)) (da_cons (de_cmp o_ge (de_var 0) (de_var 1)) (da_cons (de_cmp o_gt (de_var 0) (de_var 1)) da_nil)))))))))
theorem ok_l_pool (T : Tx K mg) : DefOk P w K mg base ⟨K, cm K⟩ (xv K) (He.fAd K ("_law_pool", none)) 1 2 fn_l_pool_3 := by
  obtain ⟨fd, F⟩ := T.f_l_pool
  exact DefOk.mono (def_ok (k := 0) (N := ["_law_script", "_law_k", "_law_cell", "_law_big", "_law_mixed"]) F sc_l_pool (fun _ _ _ _ _ _ us hl => match us, hl with | [_, _], _ => rfl) fun cdv A outer s H E hr c =>
    (dss_cons (ds_set (i := 2) c de_int)
    (dss_cons (ds_if (dt_cmp o_lt (de_var 1) (de_callB (c_len c.kk) PySem.boot_len T.b_len (da_cons (de_var 0) da_nil)))
    (dss_one (ds_set (i := 2) c (de_ix c (de_var 0) (de_var 1))))
    dss_nil)
    (dss_cons (ds_set (i := 3) c (de_callB (c_max2 c.calm) boot_max T.b_max (da_cons (de_callTy c_int boot_int T.b_int (da_cons (de_var 2) da_nil)) (da_cons (de_callTy c_int boot_int T.b_int (da_cons (de_op o_sub (de_neg de_int) (de_var 2)) da_nil)) da_nil))))
    (dss_cons (ds_set (i := 4) c (de_op o_mod (de_callTy c_int boot_int T.b_int (da_cons (de_op o_mulD (de_op (o_addD c.kk) (de_op (o_addD c.kk) (de_op (o_addD c.kk) (de_op o_mod (de_callTy c_int boot_int T.b_int (da_cons (de_var 3) da_nil)) de_int) (de_op o_mulD (de_op o_mulD de_int (de_var 1)) (de_var 1))) (de_op o_mulD de_int (de_var 1))) de_int) de_int) da_nil)) de_int))
    (dss_one (ds_ret (de_newL (da_cons (de_op o_mulD (de_var 3) (de_callTy c_int boot_int T.b_int (da_cons (de_cmp o_ge (de_var 3) (de_op o_pow de_int de_int)) da_nil))) (da_cons (de_var 4) da_nil)))))))))) (Nat.le_refl _)
theorem ok_l_take (T : Tx K mg) : DefOk P w K mg base ⟨K, cm K⟩ (xv K) (He.fAd K ("_law_take", none)) 1 2 fn_l_take := by
  obtain ⟨fd, F⟩ := T.f_l_take
  exact DefOk.gc (def_ok (k := 0) (N := ["_law_pool_here", "_law_bound", "_law_result"]) F sc_l_take (fun _ _ _ _ _ _ us hl => match us, hl with | [_, _], _ => rfl) fun cdv A outer s H E hr c =>
    (dss_cons (ds_if (dt_cmp o_gt (de_ix c (de_var 0) de_int) de_int)
    (dss_cons (ds_set (i := 2) c (de_op o_mod (de_callTy c_int boot_int T.b_int (da_cons (de_ix c (de_var 0) de_int) da_nil)) (de_var 1)))
    (dss_cons (ds_asg (de_op o_div (de_ix c (de_var 0) de_int) (de_var 1)) (dg_ix c (de_var 0) de_int))
    (dss_one (ds_ret (de_var 2)))))
    dss_nil)
    (dss_cons (ds_asg (de_op o_mod (de_callTy c_int boot_int T.b_int (da_cons (de_op (o_addD c.kk) (de_op o_mulD (de_ix c (de_var 0) de_int) de_int) de_int) da_nil)) de_int) (dg_ix c (de_var 0) de_int))
    (dss_one (ds_ret (de_op o_mod (de_callTy c_int boot_int T.b_int (da_cons (de_op o_div (de_op o_mod (de_callTy c_int boot_int T.b_int (da_cons (de_op o_mulD (de_ix c (de_var 0) de_int) (de_ix c (de_var 0) de_int)) da_nil)) de_int) de_int) da_nil)) (de_var 1)))))))
theorem ok_Ratio_eq (T : Tx K mg) : DefOk P w K mg base ⟨K, cm K⟩ (xv K) (He.fAd K ("Ratio", some "__eq__")) 1 2 fn_Ratio_eq := by
  obtain ⟨fd, F⟩ := T.f_Ratio_eq
  exact DefOk.gc (def_ok (k := 0) (N := ["self", "other"]) F sc_Ratio_eq (fun _ _ _ _ _ _ us hl => match us, hl with | [_, _], _ => rfl) fun cdv A outer s H E hr c =>
    (dss_cons (ds_if (dt_truth c (de_callB (c_isi c.kk (isi_Ratio T)) boot_isinstance T.b_isinstance (da_cons (de_var 1) (da_cons (de_gcls T.g_Ratio) da_nil))))
    (dss_one (ds_ret (de_andT c (de_cmp (o_eq c.kk hr.units) (de_fld (cs := [34]) (de_var 0) (List.forall_mem_cons.mpr ⟨⟨T.c_Ratio, T.n_Ratio_top⟩, fun c hc => (List.not_mem_nil hc).elim⟩)) (de_fld (cs := [34]) (de_var 1) (List.forall_mem_cons.mpr ⟨⟨T.c_Ratio, T.n_Ratio_top⟩, fun c hc => (List.not_mem_nil hc).elim⟩))) (de_one (de_cmp (o_eq c.kk hr.units) (de_fld (cs := [34]) (de_var 0) (List.forall_mem_cons.mpr ⟨⟨T.c_Ratio, T.n_Ratio_bottom⟩, fun c hc => (List.not_mem_nil hc).elim⟩)) (de_fld (cs := [34]) (de_var 1) (List.forall_mem_cons.mpr ⟨⟨T.c_Ratio, T.n_Ratio_bottom⟩, fun c hc => (List.not_mem_nil hc).elim⟩)))))))
    dss_nil)
    (dss_one (ds_ret (de_andT c (de_callB (c_isi c.kk (isj_Ratio T)) boot_isinstance T.b_isinstance (da_cons (de_var 1) (da_cons (de_bty boot_int T.b_int) da_nil))) (de_andT c (de_cmp (o_eq c.kk hr.units) (de_fld (cs := [34]) (de_var 0) (List.forall_mem_cons.mpr ⟨⟨T.c_Ratio, T.n_Ratio_bottom⟩, fun c hc => (List.not_mem_nil hc).elim⟩)) de_int) (de_one (de_cmp (o_eq c.kk hr.units) (de_fld (cs := [34]) (de_var 0) (List.forall_mem_cons.mpr ⟨⟨T.c_Ratio, T.n_Ratio_top⟩, fun c hc => (List.not_mem_nil hc).elim⟩)) (de_var 1)))))))))
theorem ok_common_divisor (T : Tx K mg) : DefOk P w K mg base ⟨K, cm K⟩ (xv K) (He.fAd K ("common_divisor", none)) 1 2 fn_common_divisor := by
  obtain ⟨fd, F⟩ := T.f_common_divisor
  exact DefOk.gc (def_ok (k := 0) (N := ["one", "two"]) F sc_common_divisor (fun _ _ _ _ _ _ us hl => match us, hl with | [_, _], _ => rfl) fun cdv A outer s H E hr c =>
    (dss_cons (ds_par (i := 0) (j := 1) c (da_cons (de_callB c_abs boot_abs T.b_abs (da_cons (de_var 0) da_nil)) (da_cons (de_callB c_abs boot_abs T.b_abs (da_cons (de_var 1) da_nil)) da_nil)))
    (dss_cons (ds_while c (dt_truth c (de_var 1))
    (dss_one (ds_par (i := 0) (j := 1) c (da_cons (de_var 1) (da_cons (de_op o_mod (de_var 0) (de_var 1)) da_nil)))))
    (dss_one (ds_ret (de_var 0))))))
theorem ok_less (T : Tx K mg) : DefOk P w K mg base ⟨K, cm K⟩ (xv K) (He.fAd K ("less", none)) 1 2 fn_less := by
  obtain ⟨fd, F⟩ := T.f_less
  exact DefOk.gc (def_ok (k := 0) (N := ["one", "two"]) F sc_less (fun _ _ _ _ _ _ us hl => match us, hl with | [_, _], _ => rfl) fun cdv A outer s H E hr c =>
    (dss_one (ds_ret (de_cmp o_lt (de_op o_mulD (de_fld (cs := [34]) (de_var 0) (List.forall_mem_cons.mpr ⟨⟨T.c_Ratio, T.n_Ratio_top⟩, fun c hc => (List.not_mem_nil hc).elim⟩)) (de_fld (cs := [34]) (de_var 1) (List.forall_mem_cons.mpr ⟨⟨T.c_Ratio, T.n_Ratio_bottom⟩, fun c hc => (List.not_mem_nil hc).elim⟩))) (de_op o_mulD (de_fld (cs := [34]) (de_var 1) (List.forall_mem_cons.mpr ⟨⟨T.c_Ratio, T.n_Ratio_top⟩, fun c hc => (List.not_mem_nil hc).elim⟩)) (de_fld (cs := [34]) (de_var 0) (List.forall_mem_cons.mpr ⟨⟨T.c_Ratio, T.n_Ratio_bottom⟩, fun c hc => (List.not_mem_nil hc).elim⟩)))))))
theorem ok_l_number (T : Tx K mg) : DefOk P w K mg base ⟨K, cm K⟩ (xv K) (He.fAd K ("_law_number", none)) 2 2 fn_l_number := by
  obtain ⟨fd, F⟩ := T.f_l_number
  exact DefOk.gc (def_ok (k := 1) (N := ["_law_pool_here", "_law_most", "_law_number_here", "_law_turn"]) F sc_l_number (fun _ _ _ _ _ _ us hl => match us, hl with | [_, _], _ => rfl) fun cdv A outer s H E hr c =>
    (dss_cons (ds_if (dt_cmp o_gt (de_call c (ok_l_take T) T.g_l_take (hr.mono (by decide)) (da_cons (de_var 0) (da_cons de_int da_nil)) (hlen := (dCons_len (dCons_len dNil_len)))) de_int)
    (dss_one (ds_ret (de_op o_sub (de_call c (ok_l_take T) T.g_l_take (hr.mono (by decide)) (da_cons (de_var 0) (da_cons de_int da_nil)) (hlen := (dCons_len (dCons_len dNil_len)))) de_int)))
    dss_nil)
    (dss_cons (ds_set (i := 2) c de_int)
    (dss_cons (ds_for c (di_range1 (da_cons de_int da_nil) T.b_range) (dg_name (i := 3) c)
    (dss_one (ds_set (i := 2) c (de_op (o_addD c.kk) (de_op o_mulD (de_var 2) (de_op o_pow de_int de_int)) (de_call c (ok_l_take T) T.g_l_take (hr.mono (by decide)) (da_cons (de_var 0) (da_cons (de_op o_pow de_int de_int) da_nil)) (hlen := (dCons_len (dCons_len dNil_len))))))))
    (dss_one (ds_ret (de_op o_sub (de_op o_mod (de_callTy c_int boot_int T.b_int (da_cons (de_var 2) da_nil)) (de_op (o_addD c.kk) (de_op o_mulD de_int (de_var 1)) de_int)) (de_var 1))))))))
theorem ok_Ratio_init (T : Tx K mg) : DefG P w K mg base ⟨K, cm K⟩ (xv K) (He.fAd K ("Ratio", some "__init__")) 3 ["self", "top", "bottom"] fn_Ratio_init (FunD K "__init__" "Ratio.__init__" (defArgs s_Ratio_init) (defBody s_Ratio_init) (defScope s_Ratio_init) [(.int 1)] [] (He.fAd K ("Ratio", some "__init__"))) := by
  obtain ⟨fd, F⟩ := T.f_Ratio_init
  exact DefG.gc (defG_ok (k := 2) (N := ["self", "top", "bottom", "turn", "divisor"]) F sc_Ratio_init fun cdv A outer s H E hr c =>
    (dss_cons (ds_if (dt_cmp (o_eq c.kk hr.units) (de_var 2) de_int)
    (dss_one (ds_raise0 c (x0_ZeroBottom T) T.g_ZeroBottom rfl))
    dss_nil)
    (dss_cons (ds_set (i := 3) c (de_if (dt_cmp o_gt (de_var 2) de_int) de_int (de_neg de_int)))
    (dss_cons (ds_set (i := 4) c (de_op o_mulD (de_var 3) (de_call c (ok_common_divisor T) T.g_common_divisor (hr.mono (by decide)) (da_cons (de_var 1) (da_cons (de_var 2) da_nil)) (hlen := (dCons_len (dCons_len dNil_len))))))
    (dss_cons (ds_fld (de_var 0) (de_op o_div (de_var 1) (de_var 4)) (List.forall_mem_cons.mpr ⟨⟨T.c_Ratio, T.n_Ratio_top⟩, fun c hc => (List.not_mem_nil hc).elim⟩))
    (dss_one (ds_fld (de_var 0) (de_op o_div (de_var 2) (de_var 4)) (List.forall_mem_cons.mpr ⟨⟨T.c_Ratio, T.n_Ratio_bottom⟩, fun c hc => (List.not_mem_nil hc).elim⟩))))))))
theorem ok_Ratio_neg (T : Tx K mg) : DefOk P w K mg base ⟨K, cm K⟩ (xv K) (He.fAd K ("Ratio", some "__neg__")) 5 1 fn_Ratio_neg := by
  obtain ⟨fd, F⟩ := T.f_Ratio_neg
  exact DefOk.gc (def_ok (k := 4) (N := ["self"]) F sc_Ratio_neg (fun _ _ _ _ _ _ us hl => match us, hl with | [_], _ => rfl) fun cdv A outer s H E hr c =>
    (dss_one (ds_ret (de_gc (de_frz (de_makeD (c := 34) c (ok_Ratio_init T) T.mk_Ratio T.g_Ratio (hr.mono (by decide)) (fun _ F => F.binds1 3 1 (by simp) rfl fun _ _ _ _ _ _ _ us its h1 h2 => match us, its, h1, h2 with | [_, _, _], [_], _, _ => ⟨_, rfl, rfl⟩) (fun _ _ _ => .nil) (da_cons (de_neg (de_fld (cs := [34]) (de_var 0) (List.forall_mem_cons.mpr ⟨⟨T.c_Ratio, T.n_Ratio_top⟩, fun c hc => (List.not_mem_nil hc).elim⟩))) (da_cons (de_fld (cs := [34]) (de_var 0) (List.forall_mem_cons.mpr ⟨⟨T.c_Ratio, T.n_Ratio_bottom⟩, fun c hc => (List.not_mem_nil hc).elim⟩)) da_nil)) (dCons_len (dCons_len dNil_len))))))))
theorem ok_Ratio_radd (T : Tx K mg) : DefOk P w K mg base ⟨K, cm K⟩ (xv K) (He.fAd K ("Ratio", some "__radd__")) 5 2 fn_Ratio_radd := by
  obtain ⟨fd, F⟩ := T.f_Ratio_radd
  exact DefOk.gc (def_ok (k := 4) (N := ["self", "other"]) F sc_Ratio_radd (fun _ _ _ _ _ _ us hl => match us, hl with | [_, _], _ => rfl) fun cdv A outer s H E hr c =>
    (dss_one (ds_ret (de_gc (de_frz (de_makeD (c := 34) c (ok_Ratio_init T) T.mk_Ratio T.g_Ratio (hr.mono (by decide)) (fun _ F => F.binds1 3 1 (by simp) rfl fun _ _ _ _ _ _ _ us its h1 h2 => match us, its, h1, h2 with | [_, _, _], [_], _, _ => ⟨_, rfl, rfl⟩) (fun _ _ _ => .nil) (da_cons (de_op (o_addD c.kk) (de_op o_mulD (de_var 1) (de_fld (cs := [34]) (de_var 0) (List.forall_mem_cons.mpr ⟨⟨T.c_Ratio, T.n_Ratio_bottom⟩, fun c hc => (List.not_mem_nil hc).elim⟩))) (de_fld (cs := [34]) (de_var 0) (List.forall_mem_cons.mpr ⟨⟨T.c_Ratio, T.n_Ratio_top⟩, fun c hc => (List.not_mem_nil hc).elim⟩))) (da_cons (de_fld (cs := [34]) (de_var 0) (List.forall_mem_cons.mpr ⟨⟨T.c_Ratio, T.n_Ratio_bottom⟩, fun c hc => (List.not_mem_nil hc).elim⟩)) da_nil)) (dCons_len (dCons_len dNil_len))))))))
theorem ok_as_ratio (T : Tx K mg) : DefOk P w K mg base ⟨K, cm K⟩ (xv K) (He.fAd K ("as_ratio", none)) 5 1 fn_as_ratio := by
  obtain ⟨fd, F⟩ := T.f_as_ratio
  exact DefOk.gc (def_ok (k := 4) (N := ["number"]) F sc_as_ratio (fun _ _ _ _ _ _ us hl => match us, hl with | [_], _ => rfl) fun cdv A outer s H E hr c =>
    (dss_one (ds_ret (de_if (dt_truth c (de_callB (c_isi c.kk (isi_Ratio T)) boot_isinstance T.b_isinstance (da_cons (de_var 0) (da_cons (de_gcls T.g_Ratio) da_nil)))) (de_var 0) (de_gc (de_frz (de_makeD (c := 34) c (ok_Ratio_init T) T.mk_Ratio T.g_Ratio (hr.mono (by decide)) (fun _ F => F.binds1 2 0 (by simp) rfl fun _ _ _ _ _ _ _ us its h1 h2 => match us, its, h1, h2 with | [_, _], [_], _, _ => ⟨_, rfl, rfl⟩) (fun _ _ _ => (.cons (.int _) .nil)) (da_cons (de_var 0) da_nil) (dCons_len dNil_len))))))))
theorem ok_Ratio_add (T : Tx K mg) : DefOk P w K mg base ⟨K, cm K⟩ (xv K) (He.fAd K ("Ratio", some "__add__")) 6 2 fn_Ratio_add := by
  obtain ⟨fd, F⟩ := T.f_Ratio_add
  exact DefOk.gc (def_ok (k := 5) (N := ["self", "other", "two"]) F sc_Ratio_add (fun _ _ _ _ _ _ us hl => match us, hl with | [_, _], _ => rfl) fun cdv A outer s H E hr c =>
    (dss_cons (ds_set (i := 2) c (de_call c (ok_as_ratio T) T.g_as_ratio (hr.mono (by decide)) (da_cons (de_var 1) da_nil) (hlen := (dCons_len dNil_len))))
    (dss_one (ds_ret (de_gc (de_frz (de_makeD (c := 34) c (ok_Ratio_init T) T.mk_Ratio T.g_Ratio (hr.mono (by decide)) (fun _ F => F.binds1 3 1 (by simp) rfl fun _ _ _ _ _ _ _ us its h1 h2 => match us, its, h1, h2 with | [_, _, _], [_], _, _ => ⟨_, rfl, rfl⟩) (fun _ _ _ => .nil) (da_cons (de_op (o_addD c.kk) (de_op o_mulD (de_fld (cs := [34]) (de_var 0) (List.forall_mem_cons.mpr ⟨⟨T.c_Ratio, T.n_Ratio_top⟩, fun c hc => (List.not_mem_nil hc).elim⟩)) (de_fld (cs := [34]) (de_var 2) (List.forall_mem_cons.mpr ⟨⟨T.c_Ratio, T.n_Ratio_bottom⟩, fun c hc => (List.not_mem_nil hc).elim⟩))) (de_op o_mulD (de_fld (cs := [34]) (de_var 2) (List.forall_mem_cons.mpr ⟨⟨T.c_Ratio, T.n_Ratio_top⟩, fun c hc => (List.not_mem_nil hc).elim⟩)) (de_fld (cs := [34]) (de_var 0) (List.forall_mem_cons.mpr ⟨⟨T.c_Ratio, T.n_Ratio_bottom⟩, fun c hc => (List.not_mem_nil hc).elim⟩)))) (da_cons (de_op o_mulD (de_fld (cs := [34]) (de_var 0) (List.forall_mem_cons.mpr ⟨⟨T.c_Ratio, T.n_Ratio_bottom⟩, fun c hc => (List.not_mem_nil hc).elim⟩)) (de_fld (cs := [34]) (de_var 2) (List.forall_mem_cons.mpr ⟨⟨T.c_Ratio, T.n_Ratio_bottom⟩, fun c hc => (List.not_mem_nil hc).elim⟩))) da_nil)) (dCons_len (dCons_len dNil_len)))))))))
theorem ok_Ratio_ge (T : Tx K mg) : DefOk P w K mg base ⟨K, cm K⟩ (xv K) (He.fAd K ("Ratio", some "__ge__")) 6 2 fn_Ratio_ge := by
  obtain ⟨fd, F⟩ := T.f_Ratio_ge
  exact DefOk.gc (def_ok (k := 5) (N := ["self", "other"]) F sc_Ratio_ge (fun _ _ _ _ _ _ us hl => match us, hl with | [_, _], _ => rfl) fun cdv A outer s H E hr c =>
    (dss_one (ds_ret (de_notT c (de_call c (ok_less T) T.g_less (hr.mono (by decide)) (da_cons (de_var 0) (da_cons (de_call c (ok_as_ratio T) T.g_as_ratio (hr.mono (by decide)) (da_cons (de_var 1) da_nil) (hlen := (dCons_len dNil_len))) da_nil)) (hlen := (dCons_len (dCons_len dNil_len))))))))
theorem ok_Ratio_gt (T : Tx K mg) : DefOk P w K mg base ⟨K, cm K⟩ (xv K) (He.fAd K ("Ratio", some "__gt__")) 6 2 fn_Ratio_gt := by
  obtain ⟨fd, F⟩ := T.f_Ratio_gt
  exact DefOk.gc (def_ok (k := 5) (N := ["self", "other"]) F sc_Ratio_gt (fun _ _ _ _ _ _ us hl => match us, hl with | [_, _], _ => rfl) fun cdv A outer s H E hr c =>
    (dss_one (ds_ret (de_call c (ok_less T) T.g_less (hr.mono (by decide)) (da_cons (de_call c (ok_as_ratio T) T.g_as_ratio (hr.mono (by decide)) (da_cons (de_var 1) da_nil) (hlen := (dCons_len dNil_len))) (da_cons (de_var 0) da_nil)) (hlen := (dCons_len (dCons_len dNil_len)))))))
theorem ok_Ratio_le (T : Tx K mg) : DefOk P w K mg base ⟨K, cm K⟩ (xv K) (He.fAd K ("Ratio", some "__le__")) 6 2 fn_Ratio_le := by
  obtain ⟨fd, F⟩ := T.f_Ratio_le
  exact DefOk.gc (def_ok (k := 5) (N := ["self", "other"]) F sc_Ratio_le (fun _ _ _ _ _ _ us hl => match us, hl with | [_, _], _ => rfl) fun cdv A outer s H E hr c =>
    (dss_one (ds_ret (de_notT c (de_call c (ok_less T) T.g_less (hr.mono (by decide)) (da_cons (de_call c (ok_as_ratio T) T.g_as_ratio (hr.mono (by decide)) (da_cons (de_var 1) da_nil) (hlen := (dCons_len dNil_len))) (da_cons (de_var 0) da_nil)) (hlen := (dCons_len (dCons_len dNil_len))))))))
theorem ok_Ratio_lt (T : Tx K mg) : DefOk P w K mg base ⟨K, cm K⟩ (xv K) (He.fAd K ("Ratio", some "__lt__")) 6 2 fn_Ratio_lt := by
  obtain ⟨fd, F⟩ := T.f_Ratio_lt
  exact DefOk.gc (def_ok (k := 5) (N := ["self", "other"]) F sc_Ratio_lt (fun _ _ _ _ _ _ us hl => match us, hl with | [_, _], _ => rfl) fun cdv A outer s H E hr c =>
    (dss_one (ds_ret (de_call c (ok_less T) T.g_less (hr.mono (by decide)) (da_cons (de_var 0) (da_cons (de_call c (ok_as_ratio T) T.g_as_ratio (hr.mono (by decide)) (da_cons (de_var 1) da_nil) (hlen := (dCons_len dNil_len))) da_nil)) (hlen := (dCons_len (dCons_len dNil_len)))))))
theorem ok_l_page (T : Tx K mg) : DefOk P w K mg base ⟨K, cm K⟩ (xv K) (He.fAd K ("_law_page", none)) 7 2 fn_l_page := by
  obtain ⟨fd, F⟩ := T.f_l_page
  exact DefOk.gc (def_ok (k := 6) (N := ["_law_one", "_law_two"]) F sc_l_page (fun _ _ _ _ _ _ us hl => match us, hl with | [_, _], _ => rfl) fun cdv A outer s H E hr c =>
    (dss_one (ds_ret (de_lst (da_cons (de_cmp (op_or (o_usrC c.kk (ok_Ratio_lt T) (hr.mono (by decide)) T.m_Ratio_lt) (op_or (o_usrCL c.kk (ok_Ratio_lt T) (hr.mono (by decide)) T.m_Ratio_lt T.s1_Ratio) (op_or (o_usrCR (op := .Lt) (m := "__eq__") c.kk (ok_Ratio_gt T) (hr.mono (by decide)) T.m_Ratio_gt T.s2_Ratio no_lt) o_lt))) (de_var 0) (de_var 1)) (da_cons (de_cmp (op_or (o_usrC c.kk (ok_Ratio_le T) (hr.mono (by decide)) T.m_Ratio_le) (op_or (o_usrCL c.kk (ok_Ratio_le T) (hr.mono (by decide)) T.m_Ratio_le T.s1_Ratio) (op_or (o_usrCR (op := .LtE) (m := "__eq__") c.kk (ok_Ratio_ge T) (hr.mono (by decide)) T.m_Ratio_ge T.s2_Ratio no_le) o_le))) (de_var 0) (de_var 1)) (da_cons (de_cmp (op_or (o_usrC c.kk (ok_Ratio_eq T) (hr.mono (by decide)) T.m_Ratio_eq) (op_or (o_usrCL c.kk (ok_Ratio_eq T) (hr.mono (by decide)) T.m_Ratio_eq T.s1_Ratio) (op_or (o_usrCR (op := .Eq) (m := "__eq__") c.kk (ok_Ratio_eq T) (hr.mono (by decide)) T.m_Ratio_eq T.s2_Ratio no_eq) (o_eq c.kk hr.units)))) (de_var 0) (de_var 1)) (da_cons (de_cmp (op_or (o_usrC c.kk (ok_Ratio_ge T) (hr.mono (by decide)) T.m_Ratio_ge) (op_or (o_usrCL c.kk (ok_Ratio_ge T) (hr.mono (by decide)) T.m_Ratio_ge T.s1_Ratio) (op_or (o_usrCR (op := .GtE) (m := "__eq__") c.kk (ok_Ratio_le T) (hr.mono (by decide)) T.m_Ratio_le T.s2_Ratio no_ge) o_ge))) (de_var 0) (de_var 1)) (da_cons (de_cmp (op_or (o_usrC c.kk (ok_Ratio_gt T) (hr.mono (by decide)) T.m_Ratio_gt) (op_or (o_usrCL c.kk (ok_Ratio_gt T) (hr.mono (by decide)) T.m_Ratio_gt T.s1_Ratio) (op_or (o_usrCR (op := .Gt) (m := "__eq__") c.kk (ok_Ratio_lt T) (hr.mono (by decide)) T.m_Ratio_lt T.s2_Ratio no_gt) o_gt))) (de_var 0) (de_var 1)) da_nil)))))))))
theorem ok_law (T : Tx K mg) {fd : FuncData} (F : FunD K "law" "law" (defArgs s_law) (defBody s_law) (defScope s_law) [] [] (He.fAd K ("law", none)) fd) : FnOk P w K mg base (L2.CX P w) 8 (He.fAd K ("law", none)) fd ["_law_script"] (spF ⟨K, cm K⟩ (xv K) 1 fn_law_6) :=
  fn_ok (k := 7) (N := ["_law_script", "_law_k", "_law_pool_here", "_law_turn", "_law_number_here", "_law_ratios", "_law_one", "_law_tops", "_law_bottoms", "_law_bottom", "_law_factor", "_law_two", "_law_due_here", "_law_at"]) F sc_law fun cdv A outer s H E hr c =>
    (dss_cons (ds_for c (di_range1 (da_cons (de_callB (c_max2 c.calm) boot_max T.b_max (da_cons de_int (da_cons (de_callB (c_min2 c.calm) boot_min T.b_min (da_cons de_int (da_cons (de_callB (c_len c.kk) PySem.boot_len T.b_len (da_cons (de_var 0) da_nil)) da_nil))) da_nil))) da_nil) T.b_range) (dg_name (i := 1) c)
    (dss_cons (ds_set (i := 2) c (de_call c (ok_l_pool T) T.g_l_pool (hr.mono (by decide)) (da_cons (de_var 0) (da_cons (de_var 1) da_nil)) (hlen := (dCons_len (dCons_len dNil_len)))))
    (dss_cons (ds_asg (de_tup (da_cons (de_newL da_nil) (da_cons (de_newL da_nil) da_nil))) (dg_tup (n := 2) c (dgs_cons (dg_name (i := 7) c) (dgs_cons (dg_name (i := 8) c) dgs_nil))))
    (dss_cons (ds_for c (di_range1 (da_cons de_int da_nil) T.b_range) (dg_name (i := 3) c)
    (dss_cons (ds_set (i := 9) c (de_call c (ok_l_number T) T.g_l_number (hr.mono (by decide)) (da_cons (de_var 2) (da_cons (de_op o_pow de_int de_int) da_nil)) (hlen := (dCons_len (dCons_len dNil_len)))))
    (dss_cons (ds_expr (de_mtL c PySem.F.slot_list_append PySem.F.type_list_append m_append (de_var 8) (da_cons (de_op (o_addD c.kk) (de_callB c_abs boot_abs T.b_abs (da_cons (de_var 9) da_nil)) (de_callTy c_int boot_int T.b_int (da_cons (de_cmp (o_eq c.kk hr.units) (de_var 9) de_int) da_nil))) da_nil)))
    (dss_one (ds_expr (de_mtL c PySem.F.slot_list_append PySem.F.type_list_append m_append (de_var 7) (da_cons (de_call c (ok_l_number T) T.g_l_number (hr.mono (by decide)) (da_cons (de_var 2) (da_cons (de_op o_pow de_int de_int) da_nil)) (hlen := (dCons_len (dCons_len dNil_len)))) da_nil)))))))
    (dss_cons (ds_if (dt_cmp (o_eq c.kk hr.units) (de_call c (ok_l_take T) T.g_l_take (hr.mono (by decide)) (da_cons (de_var 2) (da_cons de_int da_nil)) (hlen := (dCons_len (dCons_len dNil_len)))) de_int)
    (dss_cons (ds_set (i := 10) c (de_op (o_addD c.kk) de_int (de_call c (ok_l_take T) T.g_l_take (hr.mono (by decide)) (da_cons (de_var 2) (da_cons de_int da_nil)) (hlen := (dCons_len (dCons_len dNil_len))))))
    (dss_one (ds_asg (de_tup (da_cons (de_op o_sub (de_op (o_addD c.kk) (de_op o_mulD (de_ix c (de_var 7) de_int) (de_var 10)) (de_call c (ok_l_take T) T.g_l_take (hr.mono (by decide)) (da_cons (de_var 2) (da_cons de_int da_nil)) (hlen := (dCons_len (dCons_len dNil_len))))) de_int) (da_cons (de_op o_mulD (de_ix c (de_var 8) de_int) (de_var 10)) da_nil))) (dg_tup (n := 2) c (dgs_cons (dg_ix c (de_var 7) de_int) (dgs_cons (dg_ix c (de_var 8) de_int) dgs_nil))))))
    dss_nil)
    (dss_cons (ds_set (i := 4) c (de_call c (ok_l_number T) T.g_l_number (hr.mono (by decide)) (da_cons (de_var 2) (da_cons (de_op o_pow de_int de_int) da_nil)) (hlen := (dCons_len (dCons_len dNil_len)))))
    (dss_cons (ds_if (dt_cmp (o_eq c.kk hr.units) (de_call c (ok_l_take T) T.g_l_take (hr.mono (by decide)) (da_cons (de_var 2) (da_cons de_int da_nil)) (hlen := (dCons_len (dCons_len dNil_len)))) de_int)
    (dss_one (ds_set (i := 4) c (de_op o_div (de_ix c (de_var 7) de_int) (de_ix c (de_var 8) de_int))))
    dss_nil)
    (dss_cons (ds_setLcG (i := 5) (own := [("_law_at", 13)]) (g := (.nm 13)) (wi := toI ⟨K, cm K⟩ (xv K) _ _) c (di_range1 (da_cons de_int da_nil) T.b_range) (by kernel_rfl) (fun _ _ _ _ _ c1 => (pg_name (i := 13) c1.nd rfl (by first | exact Or.inl rfl | exact Or.inr rfl))) (fun _ _ _ _ _ c1 => dts_nil) (fun _ _ _ _ _ c1 => (de_gc (de_frz (de_makeD (c := 34) c1 (ok_Ratio_init T) T.mk_Ratio T.g_Ratio (hr.mono (by decide)) (fun _ F => F.binds1 3 1 (by simp) rfl fun _ _ _ _ _ _ _ us its h1 h2 => match us, its, h1, h2 with | [_, _, _], [_], _, _ => ⟨_, rfl, rfl⟩) (fun _ _ _ => .nil) (da_cons (de_ix c1 (de_var 7) (de_var 13)) (da_cons (de_ix c1 (de_var 8) (de_var 13)) da_nil)) (dCons_len (dCons_len dNil_len)))))) lc_v (sw_true rfl rfl rfl (by decide +kernel)))
    (dss_one (ds_for c (di_range1 (da_cons de_int da_nil) T.b_range) (dg_name (i := 6) c)
    (dss_cons (ds_for c (di_range1 (da_cons de_int da_nil) T.b_range) (dg_name (i := 11) c)
    (dss_cons (ds_set (i := 12) c (de_call c (ok_l_due T) T.g_l_due (hr.mono (by decide)) (da_cons (de_op o_mulD (de_ix c (de_var 7) (de_var 6)) (de_ix c (de_var 8) (de_var 11))) (da_cons (de_op o_mulD (de_ix c (de_var 7) (de_var 11)) (de_ix c (de_var 8) (de_var 6))) da_nil)) (hlen := (dCons_len (dCons_len dNil_len)))))
    (dss_cons (ds_if (PW.pt (dw_or (dt_cmp (o_ne c.kk hr.units) (de_call c (ok_l_page T) T.g_l_page (hr.mono (by decide)) (da_cons (de_ix c (de_var 5) (de_var 6)) (da_cons (de_ix c (de_var 5) (de_var 11)) da_nil)) (hlen := (dCons_len (dCons_len dNil_len)))) (de_var 12)) (dw_or1 (dt_cmp (o_notIn c.kk hr.units) (de_mtL c PySem.F.slot_list_count PySem.F.type_list_count (m_count c.kk) (de_var 12) (da_cons de_bl da_nil)) (de_lst (da_cons de_int (da_cons de_int da_nil)))))))
    (dss_one (ds_ret de_bl))
    dss_nil)
    (dss_cons (ds_if (dt_cmp (o_ne c.kk hr.units) (de_call c (ok_l_page T) T.g_l_page (hr.mono (by decide)) (da_cons (de_op (op_or (o_usr c.kk (ok_Ratio_add T) (hr.mono (by decide)) T.m_Ratio_add T.sf_Ratio) (op_or (o_usrL (op := .Add) c.kk (ok_Ratio_add T) (hr.mono (by decide)) T.m_Ratio_add T.m_Ratio_radd T.sf_Ratio (io_Ratio_add T)) (op_or (o_usrR (op := .Add) c.kk (ok_Ratio_radd T) (hr.mono (by decide)) T.m_Ratio_add T.m_Ratio_radd T.sf_Ratio (io_Ratio_add T) no_add PySem.F.fills_int_add) (o_addD c.kk)))) (de_ix c (de_var 5) (de_var 6)) (de_ix c (de_var 5) de_int)) (da_cons (de_op (op_or (o_usr c.kk (ok_Ratio_add T) (hr.mono (by decide)) T.m_Ratio_add T.sf_Ratio) (op_or (o_usrL (op := .Add) c.kk (ok_Ratio_add T) (hr.mono (by decide)) T.m_Ratio_add T.m_Ratio_radd T.sf_Ratio (io_Ratio_add T)) (op_or (o_usrR (op := .Add) c.kk (ok_Ratio_radd T) (hr.mono (by decide)) T.m_Ratio_add T.m_Ratio_radd T.sf_Ratio (io_Ratio_add T) no_add PySem.F.fills_int_add) (o_addD c.kk)))) (de_ix c (de_var 5) (de_var 11)) (de_ix c (de_var 5) de_int)) da_nil)) (hlen := (dCons_len (dCons_len dNil_len)))) (de_var 12))
    (dss_one (ds_ret de_bl))
    dss_nil)
    (dss_one (ds_if (dt_cmp (o_ne c.kk hr.units) (de_call c (ok_l_page T) T.g_l_page (hr.mono (by decide)) (da_cons (de_negU c.kk (ok_Ratio_neg T) (hr.mono (by decide)) T.m_Ratio_neg (de_ix c (de_var 5) (de_var 11))) (da_cons (de_negU c.kk (ok_Ratio_neg T) (hr.mono (by decide)) T.m_Ratio_neg (de_ix c (de_var 5) (de_var 6))) da_nil)) (hlen := (dCons_len (dCons_len dNil_len)))) (de_var 12))
    (dss_one (ds_ret de_bl))
    dss_nil))))))
    (dss_cons (ds_set (i := 12) c (de_call c (ok_l_due T) T.g_l_due (hr.mono (by decide)) (da_cons (de_ix c (de_var 7) (de_var 6)) (da_cons (de_op o_mulD (de_var 4) (de_ix c (de_var 8) (de_var 6))) da_nil)) (hlen := (dCons_len (dCons_len dNil_len)))))
    (dss_cons (ds_if (PW.pt (dw_or (dt_cmp (o_ne c.kk hr.units) (de_call c (ok_l_page T) T.g_l_page (hr.mono (by decide)) (da_cons (de_ix c (de_var 5) (de_var 6)) (da_cons (de_var 4) da_nil)) (hlen := (dCons_len (dCons_len dNil_len)))) (de_var 12)) (dw_or1 (dt_cmp (o_ne c.kk hr.units) (de_call c (ok_l_page T) T.g_l_page (hr.mono (by decide)) (da_cons (de_gc (de_frz (de_makeD (c := 34) c (ok_Ratio_init T) T.mk_Ratio T.g_Ratio (hr.mono (by decide)) (fun _ F => F.binds1 2 0 (by simp) rfl fun _ _ _ _ _ _ _ us its h1 h2 => match us, its, h1, h2 with | [_, _], [_], _, _ => ⟨_, rfl, rfl⟩) (fun _ _ _ => (.cons (.int _) .nil)) (da_cons (de_var 4) da_nil) (dCons_len dNil_len)))) (da_cons (de_ix c (de_var 5) (de_var 6)) da_nil)) (hlen := (dCons_len (dCons_len dNil_len)))) (de_revL c (de_var 12))))))
    (dss_one (ds_ret de_bl))
    dss_nil)
    (dss_one (ds_if (dt_cmp (o_ne c.kk hr.units) (de_call c (ok_l_page T) T.g_l_page (hr.mono (by decide)) (da_cons (de_var 4) (da_cons (de_ix c (de_var 5) (de_var 6)) da_nil)) (hlen := (dCons_len (dCons_len dNil_len)))) (de_revL c (de_var 12)))
    (dss_one (ds_ret de_bl))
    dss_nil)))))))))))))))
    (dss_one (ds_ret de_bl)))
end
theorem law_ok {l : PySem.W.OpenLaw} {w : World} {K : PySem.W.Frag} {mg : Str → Option Value} {h : Heap} (T : Tx K mg) (hl : ∀ ns : List Int, ns.length ≤ 63 → (∀ z ∈ ns, Builtin.Int.intBits z ≤ 1048576) → ∃ S', fn_law_6 [.scr (ns.map W.int)] [] = .ok (.bl true) S') : LamX.LawAtS l w K (L2.CX l.prog w) 8 63 "_law_script" mg (He.fAd K ("law", none)) h := by
  obtain ⟨fd, F⟩ := T.f_law
  have b := FunD.bindsA (ps := ["_law_script"]) F fun _ _ _ _ _ _ us hl => match us, hl with | [_], _ => rfl
  exact law_at (cm := cm K) (xv := xv K) (fn := fn_law_6) ⟨fd, fun s u => b s [u] rfl, fun base h1 h2 => ok_law T F⟩ hl
end Zk45
namespace Zk45
open PySem L2 DD U SP
theorem cast_ne {b : Int} (hb : b ≠ 0) : (b : Rat) ≠ 0 := fun z => hb (by exact_mod_cast z)
theorem p18 (S : Sto) : iPow (.int 10) (.int 18) S = .ok (.int 1000000000000000000) S := by
  rw [e_pow (by decide)]
  have : (10 : Int) ^ (18 : Int).toNat = 1000000000000000000 := by decide
  rw [this]
theorem bz18 {r : Int} (h1 : -1000000000000000000 ≤ r) (h2 : r ≤ 1000000000000000000) : Bz 61 r := bz_of h1 h2 (by decide)
theorem app_get2 {S : Sto} {o p q : O} {g : Sto} : (S ++ o :: p :: q :: g)[S.length + 2]? = some q := by
  rw [List.getElem?_append_right (by omega)]; simp
theorem app_set2 {S : Sto} {o p q u : O} {g : Sto} : (S ++ o :: p :: q :: g).set (S.length + 2) u = S ++ o :: p :: u :: g := by
  rw [List.set_append_right _ _ (by omega)]; simp
/-- tops and bottoms and their ratios -/
structure Tb (T B : List Int) (R : List Rat) : Prop where
  lT : T.length = 3
  lB : B.length = 3
  lR : R.length = 3
  at_ : ∀ i, i < 3 → ∃ a b r, T[i]? = some a ∧ B[i]? = some b ∧ R[i]? = some r ∧ 0 < b ∧ Bz 70 a ∧ Bz 70 b ∧ r = (a : Rat) / b
theorem cast_pos {b : Int} (h : 0 < b) : (0 : Rat) < (b : Rat) := by exact_mod_cast h
theorem rz_of {a b : Int} {r : Rat} (h : 0 < b) (h1 : Bz 70 a) (h2 : Bz 70 b) (e : r = (a : Rat) / b) : Rz 70 r := by
  rw [e, ← Rat.divInt_eq_div]; exact rz_div (by omega) h1 h2
theorem cmp_cross {a b c d : Int} {r s : Rat} (hb : 0 < b) (hd : 0 < d) (hr : r = (a : Rat) / b) (hs : s = (c : Rat) / d) : cmpW r s = cmpW ((a * d : Int) : Rat) ((c * b : Int) : Rat) := by
  have b0 := cast_pos hb; have d0 := cast_pos hd
  have hk : (0 : Rat) < (b : Rat) * d := Rat.mul_pos b0 d0
  rw [← cmp_mul hk]
  congr 1
  · rw [hr]; push_cast; grind
  · rw [hs]; push_cast; grind
theorem cmp_crossI {a b i : Int} {r : Rat} (hb : 0 < b) (hr : r = (a : Rat) / b) : cmpW r i = cmpW (a : Rat) ((i * b : Int) : Rat) := by
  have b0 := cast_pos hb
  rw [← cmp_mul b0]
  congr 1
  · rw [hr]; grind
  · push_cast; rfl
theorem revL_cmp {S : Sto} {x y : Rat} {t : Lo} {d : DX} (h : d t S = .ok (cmpW x y) S) : dRevL d t S = .ok (cmpW y x) S := by
  have := cmp_rev (x := x) (y := y) _ rfl
  rw [this]
  simp [dRevL, h, cmpW, seqL, seqA, seqT]
section
variable {ns : List Int} {k num : Int} {T B : List Int} {R : List Rat} {S : Sto} {P : O} {x1 x3 x9 x10 x11 x12 x13 : Option W}
abbrev lo (ns : List Int) (k num : Int) (R : List Rat) (S : Sto) (x3 x6 x9 x10 x11 x12 x13 : Option W) : Lo := [some (.scr (ns.map W.int)), some (.int k), some (.ref S.length), x3, some (.int num), some (.lst (R.map rW)), x6, some (.ref (S.length + 1)), some (.ref (S.length + 2)), x9, x10, x11, x12, x13]
theorem ix_T {i : Nat} {a : Int} {g : Sto} (h : T[i]? = some a) : ixD (.ref (S.length + 1)) (.int i) (S ++ P :: .lst (wl T) :: .lst (wl B) :: g) = .ok (.int a) (S ++ P :: .lst (wl T) :: .lst (wl B) :: g) :=
  e_ixR app_get1 (atI_nat (by simp [wl, h]))
theorem ix_B {i : Nat} {a : Int} {g : Sto} (h : B[i]? = some a) : ixD (.ref (S.length + 2)) (.int i) (S ++ P :: .lst (wl T) :: .lst (wl B) :: g) = .ok (.int a) (S ++ P :: .lst (wl T) :: .lst (wl B) :: g) :=
  e_ixR app_get2 (atI_nat (by simp [wl, h]))
theorem ix_R {i : Nat} {r : Rat} {S : Sto} (h : R[i]? = some r) : ixD (.lst (R.map rW)) (.int i) S = .ok (rW r) S :=
  e_ixL (atI_nat (by simp [h]))
theorem l1_ok (h : Tb T B R) {i j : Nat} (hi : i < 3) (hj : j < 3) :
    ∃ y12, b_law_6_l1 (lo ns k num R S x3 (some (.int i)) x9 x10 (some (.int j)) x12 x13) (S ++ P :: .lst (wl T) :: .lst (wl B) :: []) = .nx (lo ns k num R S x3 (some (.int i)) x9 x10 (some (.int j)) y12 x13) (S ++ P :: .lst (wl T) :: .lst (wl B) :: []) := by
  obtain ⟨a, b, r, hT, hB, hR, b0, ba, bb, hr⟩ := h.at_ i hi
  obtain ⟨c, d, s, hT', hB', hR', d0, bc, bd, hs⟩ := h.at_ j hj
  obtain ⟨e, f, u, _, _, hR2, f0, be, bf, hu⟩ := h.at_ 2 (by decide)
  have zr := rz_of b0 ba bb hr
  have zs := rz_of d0 bc bd hs
  have zu := rz_of f0 be bf hu
  have m1 : ∀ S, mulD false (.int a) (.int d) S = .ok (.int (a * d)) S := fun S => e_mulZ ba bd (by omega)
  have m2 : ∀ S, mulD false (.int c) (.int b) S = .ok (.int (c * b)) S := fun S => e_mulZ bc bb (by omega)
  have hR2' : ∀ S, ixD (.lst (R.map rW)) (.int 2) S = .ok (rW u) S := fun S => ix_R (i := 2) hR2
  have o1 : ∀ f S, orD (usrD 34 fn_Ratio_add) f (rW r) (rW u) S = .ok (rW (r + u)) S := fun f S => o_add_rr zr zu (by omega)
  have o2 : ∀ f S, orD (usrD 34 fn_Ratio_add) f (rW s) (rW u) S = .ok (rW (s + u)) S := fun f S => o_add_rr zs zu (by omega)
  have p1 : ∀ S, U.fn_l_page [rW r, rW s] S = .ok (cmpW r s) S := fun S => page_rr zr zs (by omega)
  have p2 : ∀ S, U.fn_l_page [rW (r + u), rW (s + u)] S = .ok (cmpW r s) S := fun S => by
    rw [page_rr (rz_add zr zu) (rz_add zs zu) (by omega), cmp_add]
  have p3 : ∀ S, U.fn_l_page [rW (-s), rW (-r)] S = .ok (cmpW r s) S := fun S => by
    rw [page_rr (rz_neg zs) (rz_neg zr) (by omega), cmp_neg]
  have du : ∀ S, U.fn_l_due [.int (a * d), .int (c * b)] S = .ok (cmpW r s) S := fun S => by rw [due_ok, cmp_cross b0 d0 hr hs]
  have ne : ∀ S, neD (cmpW r s) (cmpW r s) S = .ok (.bl false) S := fun S => ne_same rfl
  obtain ⟨cn, hcn, hc2⟩ := cmp_cnt (x := r) (y := s) (S := S ++ P :: .lst (wl T) :: .lst (wl B) :: [])
  have hin : ∀ S, notInD (.int cn) (.lst [.int 2, .int 3]) S = .ok (.bl false) S := fun S => by
    rw [show (W.lst [.int 2, .int 3]) = lW [2, 3] from rfl, e_notInLI]
    rcases hc2 with rfl | rfl <;> rfl
  have ng1 : ∀ (x3 x6 x9 x10 x11 x12 x13 : Option W) (j : Nat) (s : Rat) (S' : Sto), R[j]? = some s → Rz 70 s → dNegU 34 fn_Ratio_neg (dOp ixD (dVar 5) (dVar 11)) (lo ns k num R S x3 x6 x9 x10 (some (.int j)) x12 x13) S' = .ok (rW (-s)) S' := fun x3 x6 x9 x10 x11 x12 x13 j s S' h1 h2 => e_negU (by simp -implicitDefEqProofs [lo, ix_R h1]) h2 (by omega)
  have ng2 : ∀ (x3 x6 x9 x10 x11 x12 x13 : Option W) (j : Nat) (s : Rat) (S' : Sto), R[j]? = some s → Rz 70 s → dNegU 34 fn_Ratio_neg (dOp ixD (dVar 5) (dVar 6)) (lo ns k num R S x3 (some (.int j)) x9 x10 x11 x12 x13) S' = .ok (rW (-s)) S' := fun x3 x6 x9 x10 x11 x12 x13 j s S' h1 h2 => e_negU (by simp -implicitDefEqProofs [lo, ix_R h1]) h2 (by omega)
  have sq : seqL (S ++ P :: .lst (wl T) :: .lst (wl B) :: []) (cmpW r s) = some [.bl (decide (r < s)), .bl (decide (r ≤ s)), .bl (decide (r = s)), .bl (decide (s ≤ r)), .bl (decide (s < r))] := rfl
  generalize hy : b_law_6_l1 _ _ = y
  unfold b_law_6_l1 at hy
  generalize hC : cmpW r s = C at hy p1 p2 p3 du ne hcn sq
  unfold lo at ng1 ng2
  simp -implicitDefEqProofs [lo, ix_T hT, ix_B hB, ix_T hT', ix_B hB', ix_R hR, ix_R hR', m1, m2, du, p1, p2, p3, ne, sq, hcn, hin, sizeLine_eq, hR2', o1, o2, ng1 _ _ _ _ none _ _ _ _ _ hR' zs, ng2 _ none _ _ _ _ _ _ _ _ hR zr] at hy
  subst hy
  exact ⟨_, rfl⟩
theorem l2_ok (h : Tb T B R) (hnum : Bz 71 num) {i : Nat} (hi : i < 3) :
    ∃ y11 y12, b_law_6_l2 (lo ns k num R S x3 (some (.int i)) x9 x10 x11 x12 x13) (S ++ P :: .lst (wl T) :: .lst (wl B) :: []) = .nx (lo ns k num R S x3 (some (.int i)) x9 x10 y11 y12 x13) (S ++ P :: .lst (wl T) :: .lst (wl B) :: []) := by
  generalize hy : b_law_6_l2 _ _ = y
  unfold b_law_6_l2 at hy
  simp -implicitDefEqProofs [lo] at hy
  obtain ⟨t', X, e6, y11, y12, rfl, rfl⟩ := forL_inv (g := gN 11) (b := b_law_6_l1) (DD.intsFrom 0 3)
    (fun _ t X => ∃ x11 x12 : Option W, t = lo ns k num R S x3 (some (.int i)) x9 x10 x11 x12 x13 ∧ X = (S ++ P :: .lst (wl T) :: .lst (wl B) :: []))
    (fun j w t X hw ⟨x11, x12, ht, hX⟩ => by
      subst ht hX
      obtain ⟨hj, rfl⟩ := intsFrom_mem hw
      obtain ⟨y12, e⟩ := l1_ok (ns := ns) (k := k) (num := num) (S := S) (P := P) (x3 := x3) (x9 := x9) (x10 := x10) (x12 := x12) (x13 := x13) h hi hj
      rw [Int.zero_add]
      exact ⟨_, _, .inl e, _, _, rfl, rfl⟩)
    (t := lo ns k num R S x3 (some (.int i)) x9 x10 x11 x12 x13) (S := S ++ P :: .lst (wl T) :: .lst (wl B) :: []) ⟨_, _, rfl, rfl⟩
  unfold lo at e6
  rw [e6] at hy
  obtain ⟨a, b, r, hT, hB, hR, b0, ba, bb, hr⟩ := h.at_ i hi
  have zr := rz_of b0 ba bb hr
  have zn := rz_int hnum (by omega)
  have m1 : ∀ S, mulD false (.int num) (.int b) S = .ok (.int (num * b)) S := fun S => e_mulZ hnum bb (by omega)
  have k1 : ∀ (t : Lo) (S : Sto), dVar 4 t S = .ok (.int num) S → dGc (dFrz (dMake 34 U.fn_Ratio_init (dBoth (· ++ ·) (dCons (dVar 4) dNil) fun x S => DD.R.ok [.int 1] S))) t S = .ok (rW num) S := fun t S h1 =>
    mkr_ok (ws := [.int num]) (zs := [.int 1]) (n := 8) (by simp [h1]) rfl rfl (by decide) (show Int.natAbs 1 < 2 ^ 8 by decide) (by omega) (by have := rat_self (num : Rat); simpa using this)
  have hc := cmp_crossI (i := num) b0 hr
  have p1 : ∀ S, U.fn_l_page [rW r, .int num] S = .ok (cmpW r num) S := fun S => page_ri zr zn (by omega)
  have p2 : ∀ S, U.fn_l_page [.int num, rW r] S = .ok (cmpW num r) S := fun S => page_ir zr zn (by omega)
  have p3 : ∀ S, U.fn_l_page [rW num, rW r] S = .ok (cmpW num r) S := fun S => page_rr zn zr (by omega)
  have du : ∀ S, U.fn_l_due [.int a, .int (num * b)] S = .ok (cmpW r num) S := fun S => by rw [due_ok, hc]
  have ne : ∀ S, neD (cmpW r num) (cmpW r num) S = .ok (.bl false) S := fun S => ne_same rfl
  have ne' : ∀ S, neD (cmpW num r) (cmpW num r) S = .ok (.bl false) S := fun S => ne_same rfl
  have rv : ∀ (t : Lo) (S : Sto), dVar 12 t S = .ok (cmpW r num) S → dRevL (dVar 12) t S = .ok (cmpW num r) S := fun t S h => revL_cmp h
  generalize cmpW r num = C at p1 du ne rv
  generalize cmpW num r = C' at p2 p3 ne' rv
  simp -implicitDefEqProofs [ix_T hT, ix_B hB, ix_R hR, m1, du, p1, p2, p3, ne, ne', k1, rv] at hy
  subst hy
  exact ⟨_, _, rfl⟩
end
theorem div_bz {a b : Int} {n : Nat} (hb : 0 < b) (h : Bz n a) : Bz n (a / b) := by
  unfold Bz at *
  have h1 : a / b ≤ a.natAbs := by
    rcases Int.le_total 0 a with h0 | h0
    · have := Int.ediv_le_self b h0
      omega
    · have : a / b ≤ 0 := by
        refine Int.le_of_lt_add_one ((Int.ediv_lt_iff_lt_mul hb).mpr ?_)
        omega
      omega
  have h2 : -(a.natAbs : Int) ≤ a / b := by
    rcases Int.le_total 0 a with h0 | h0
    · have := Int.ediv_nonneg h0 (show 0 ≤ b by omega)
      omega
    · refine (Int.le_ediv_iff_mul_le hb).mpr ?_
      have : (a.natAbs : Int) = -a := by omega
      rw [this]
      have : -(-a) * b = a * b := by grind
      rw [this]
      have := Int.mul_le_mul_of_nonpos_left (a := a) (b := b) (c := 1) h0 (by omega)
      omega
  omega
theorem turn_ok {ns : List Int} {k : Int} {x2 x3 x4 x5 x6 x7 x8 x9 x10 x11 x12 x13 : Option W} {S : Sto} (hk : 0 ≤ k) (hk1 : k < 100) :
    ∃ (y2 y3 y4 y5 y6 y7 y8 y9 y10 y11 y12 y13 : Option W) (S' : Sto), b_law_6_l3 [some (.scr (ns.map W.int)), some (.int k), x2, x3, x4, x5, x6, x7, x8, x9, x10, x11, x12, x13] S = .nx [some (.scr (ns.map W.int)), some (.int k), y2, y3, y4, y5, y6, y7, y8, y9, y10, y11, y12, y13] S' := by
  generalize hy : b_law_6_l3 _ _ = y
  unfold b_law_6_l3 at hy
  generalize htl : dSeq (dIfS (dTest (dOp eqD (dCall fn_l_take (dCons (dVar 2) (dCons (dC (.int 2)) dNil))) _)) _ _) _ = tl at hy
  simp -implicitDefEqProofs [] at hy
  generalize hd__ : U.fn_l_pool_3 _ _ = d__ at hy
  have hs__ := SP.at1 hd__ ((pool3_ok hk hk1))
  obtain ⟨P0, e, hP0⟩ := hs__
  subst e
  simp -implicitDefEqProofs [sizeLine_eq, gTp, gsCons, gsNil, gN, show (3 : Int).toNat = 3 from rfl, DD.intsFrom, forL_cons, turn, b_law_6_l0, p18] at hy
  generalize hd__ : U.fn_l_number _ _ = d__ at hy
  have hs__ := SP.at2 hd__ ((number_ok hP0) (by first | omega | with_reducible assumption | (simp; done) | (simp; omega) | rfl) (by first | omega | with_reducible assumption | (simp; done) | (simp; omega) | rfl))
  obtain ⟨b0, P1, e, b00, b01, hP1⟩ := hs__
  subst e
  simp -implicitDefEqProofs [seqL, appendM, sizeLine_eq, app_get1, app_set1, app_get2, app_set2, p18] at hy
  generalize hd__ : U.fn_l_number _ _ = d__ at hy
  have hs__ := SP.at2 hd__ ((number_ok hP1) (by first | omega | with_reducible assumption | (simp; done) | (simp; omega) | rfl) (by first | omega | with_reducible assumption | (simp; done) | (simp; omega) | rfl))
  obtain ⟨a0, P2, e, a00, a01, hP2⟩ := hs__
  subst e
  simp -implicitDefEqProofs [seqL, appendM, sizeLine_eq, app_get1, app_set1, app_get2, app_set2, p18] at hy
  generalize hd__ : U.fn_l_number _ _ = d__ at hy
  have hs__ := SP.at2 hd__ ((number_ok hP2) (by first | omega | with_reducible assumption | (simp; done) | (simp; omega) | rfl) (by first | omega | with_reducible assumption | (simp; done) | (simp; omega) | rfl))
  obtain ⟨b1, P3, e, b10, b11, hP3⟩ := hs__
  subst e
  simp -implicitDefEqProofs [seqL, appendM, sizeLine_eq, app_get1, app_set1, app_get2, app_set2, p18] at hy
  generalize hd__ : U.fn_l_number _ _ = d__ at hy
  have hs__ := SP.at2 hd__ ((number_ok hP3) (by first | omega | with_reducible assumption | (simp; done) | (simp; omega) | rfl) (by first | omega | with_reducible assumption | (simp; done) | (simp; omega) | rfl))
  obtain ⟨a1, P4, e, a10, a11, hP4⟩ := hs__
  subst e
  simp -implicitDefEqProofs [seqL, appendM, sizeLine_eq, app_get1, app_set1, app_get2, app_set2, p18] at hy
  generalize hd__ : U.fn_l_number _ _ = d__ at hy
  have hs__ := SP.at2 hd__ ((number_ok hP4) (by first | omega | with_reducible assumption | (simp; done) | (simp; omega) | rfl) (by first | omega | with_reducible assumption | (simp; done) | (simp; omega) | rfl))
  obtain ⟨b2, P5, e, b20, b21, hP5⟩ := hs__
  subst e
  simp -implicitDefEqProofs [seqL, appendM, sizeLine_eq, app_get1, app_set1, app_get2, app_set2, p18] at hy
  generalize hd__ : U.fn_l_number _ _ = d__ at hy
  have hs__ := SP.at2 hd__ ((number_ok hP5) (by first | omega | with_reducible assumption | (simp; done) | (simp; omega) | rfl) (by first | omega | with_reducible assumption | (simp; done) | (simp; omega) | rfl))
  obtain ⟨a2, P6, e, a20, a21, hP6⟩ := hs__
  subst e
  simp -implicitDefEqProofs [seqL, appendM, sizeLine_eq, app_get1, app_set1, app_get2, app_set2, p18] at hy
  have pos : ∀ b : Int, -1000000000000000000 ≤ b → b ≤ 1000000000000000000 → 0 < (if b < 0 then -b else b) + (if b = 0 then 1 else 0) ∧ (if b < 0 then -b else b) + (if b = 0 then 1 else 0) ≤ 1000000000000000001 := fun b h1 h2 => by
    split <;> split <;> omega
  have q0 := pos b0 b00 b01
  have q1 := pos b1 b10 b11
  have q2 := pos b2 b20 b21
  generalize (if b0 < 0 then -b0 else b0) + (if b0 = 0 then 1 else 0) = d0 at hy q0
  generalize (if b1 < 0 then -b1 else b1) + (if b1 = 0 then 1 else 0) = d1 at hy q1
  generalize (if b2 < 0 then -b2 else b2) + (if b2 = 0 then 1 else 0) = d2 at hy q2
  subst htl
  generalize htl : dSeq (dAsg (dCall fn_l_number _) (gN 4)) _ = tl at hy
  have key : ∃ (c1 e1 : Int) (y10 : Option W) (P7 : O), tl [some (W.scr (List.map W.int ns)), some (W.int k), some (W.ref (List.length S)), some (W.int 2), x4, x5, x6, some (W.ref (List.length S + 1)), some (W.ref (List.length S + 2)), some (W.int b2), y10, x11, x12, x13] (S ++ P7 :: .lst [.int a0, .int c1, .int a2] :: .lst [.int d0, .int e1, .int d2] :: []) = y ∧ Po3 P7 ∧ Bz 70 c1 ∧ Bz 70 e1 ∧ 0 < e1 := by
    simp -implicitDefEqProofs [] at hy
    generalize hd__ : U.fn_l_take _ _ = d__ at hy
    have hs__ := SP.at2 hd__ ((take3_ok hP6) (by first | omega | with_reducible assumption | (simp; done) | (simp; omega) | rfl) (by first | omega | with_reducible assumption | (simp; done) | (simp; omega) | rfl))
    obtain ⟨r, P7, e, r0, r1, hP7⟩ := hs__
    subst e
    by_cases hr : r = 0
    · have i0 : ∀ (P : O), ixD (.ref (S.length + 1)) (.int 0) (S ++ P :: .lst [.int a0, .int a1, .int a2] :: .lst [.int d0, .int d1, .int d2] :: []) = .ok (.int a0) (S ++ P :: .lst [.int a0, .int a1, .int a2] :: .lst [.int d0, .int d1, .int d2] :: []) := fun P => e_ixR app_get1 (atI0 ..)
      have i1 : ∀ (P : O), ixD (.ref (S.length + 2)) (.int 0) (S ++ P :: .lst [.int a0, .int a1, .int a2] :: .lst [.int d0, .int d1, .int d2] :: []) = .ok (.int d0) (S ++ P :: .lst [.int a0, .int a1, .int a2] :: .lst [.int d0, .int d1, .int d2] :: []) := fun P => e_ixR app_get2 (atI0 ..)
      simp -implicitDefEqProofs [hr] at hy
      generalize hd__ : U.fn_l_take _ _ = d__ at hy
      have hs__ := SP.at2 hd__ ((take3_ok hP7) (by first | omega | with_reducible assumption | (simp; done) | (simp; omega) | rfl) (by first | omega | with_reducible assumption | (simp; done) | (simp; omega) | rfl))
      obtain ⟨f, P8, e, f0, f1, hP8⟩ := hs__
      subst e
      have m1 : ∀ S, mulD false (.int a0) (.int (1 + f)) S = .ok (.int (a0 * (1 + f))) S := fun S => e_mulR (by omega)
      have m2 : ∀ S, mulD false (.int d0) (.int (1 + f)) S = .ok (.int (d0 * (1 + f))) S := fun S => e_mulR (by omega)
      simp -implicitDefEqProofs [i0, m1] at hy
      generalize hd__ : U.fn_l_take _ _ = d__ at hy
      have hs__ := SP.at2 hd__ ((take3_ok hP8) (by first | omega | with_reducible assumption | (simp; done) | (simp; omega) | rfl) (by first | omega | with_reducible assumption | (simp; done) | (simp; omega) | rfl))
      obtain ⟨g, P9, e, g0, g1, hP9⟩ := hs__
      subst e
      simp -implicitDefEqProofs [i1, m2, sizeLine_eq, gTp, gsCons, gsNil, gIx, app_get1, app_set1, app_get2, app_set2, ixN_in (n := 3) (i := 1) (by decide) (by decide)] at hy
      have hf : f = 0 ∨ f = 1 ∨ f = 2 := by omega
      refine ⟨_, _, _, P9, hy, hP9, ?_, ?_, ?_⟩
      · refine bz_of (most := 4000000000000000000) ?_ ?_ (by decide) <;> rcases hf with rfl | rfl | rfl <;> omega
      · refine bz_of (most := 4000000000000000000) ?_ ?_ (by decide) <;> rcases hf with rfl | rfl | rfl <;> omega
      · rcases hf with rfl | rfl | rfl <;> omega
    · simp -implicitDefEqProofs [hr] at hy
      refine ⟨_, _, _, P7, hy, hP7, ?_, ?_, q1.1⟩
      · exact bz_of (most := 4000000000000000000) (by omega) (by omega) (by decide)
      · exact bz_of (most := 4000000000000000000) (by omega) (by omega) (by decide)
  clear hy
  obtain ⟨c1, e1, y10, P7, hy, hP7, bc1, be1, e10⟩ := key
  subst htl
  simp -implicitDefEqProofs [p18] at hy
  generalize hd__ : U.fn_l_number _ _ = d__ at hy
  have hs__ := SP.at2 hd__ ((number_ok hP7) (by first | omega | with_reducible assumption | (simp; done) | (simp; omega) | rfl) (by first | omega | with_reducible assumption | (simp; done) | (simp; omega) | rfl))
  obtain ⟨num', P8, e, n0, n1, hP8⟩ := hs__
  subst e
  generalize htl : dSeq (dAsg (dLc _ _ _ _ _) (gN 5)) _ = tl at hy
  have key : ∃ (num : Int) (P9 : O), tl [some (W.scr (List.map W.int ns)), some (W.int k), some (W.ref (List.length S)), some (W.int 2), some (.int num), x5, x6, some (W.ref (List.length S + 1)), some (W.ref (List.length S + 2)), some (W.int b2), y10, x11, x12, x13] (S ++ P9 :: .lst [.int a0, .int c1, .int a2] :: .lst [.int d0, .int e1, .int d2] :: []) = y ∧ Po3 P9 ∧ Bz 71 num := by
    simp -implicitDefEqProofs [] at hy
    generalize hd__ : U.fn_l_take _ _ = d__ at hy
    have hs__ := SP.at2 hd__ ((take3_ok hP8) (by first | omega | with_reducible assumption | (simp; done) | (simp; omega) | rfl) (by first | omega | with_reducible assumption | (simp; done) | (simp; omega) | rfl))
    obtain ⟨r, P9, e, r0, r1, hP9⟩ := hs__
    subst e
    by_cases hr : r = 0
    · have i0 : ∀ (P : O), ixD (.ref (S.length + 1)) (.int 0) (S ++ P :: .lst [.int a0, .int c1, .int a2] :: .lst [.int d0, .int e1, .int d2] :: []) = .ok (.int a0) (S ++ P :: .lst [.int a0, .int c1, .int a2] :: .lst [.int d0, .int e1, .int d2] :: []) := fun P => e_ixR app_get1 (atI0 ..)
      have i1 : ∀ (P : O), ixD (.ref (S.length + 2)) (.int 0) (S ++ P :: .lst [.int a0, .int c1, .int a2] :: .lst [.int d0, .int e1, .int d2] :: []) = .ok (.int d0) (S ++ P :: .lst [.int a0, .int c1, .int a2] :: .lst [.int d0, .int e1, .int d2] :: []) := fun P => e_ixR app_get2 (atI0 ..)
      have hd : d0 < 2 ^ 8000 := Int.lt_trans (show d0 < 2 ^ 64 by omega) (by decide)
      simp -implicitDefEqProofs [hr, i0, i1, e_div q0.1 hd] at hy
      exact ⟨_, P9, hy, hP9, (div_bz q0.1 (bz18 a00 a01)).mono (by omega)⟩
    · simp -implicitDefEqProofs [hr] at hy
      exact ⟨_, P9, hy, hP9, (bz18 n0 n1).mono (by omega)⟩
  clear hy
  obtain ⟨num, P9, hy, hP9, bnum⟩ := key
  subst htl
  have bd0 : Bz 70 d0 := bz_of (most := 4000000000000000000) (by omega) (by omega) (by decide)
  have bd2 : Bz 70 d2 := bz_of (most := 4000000000000000000) (by omega) (by omega) (by decide)
  have hTb : Tb [a0, c1, a2] [d0, e1, d2] [(a0 : Rat) / d0, (c1 : Rat) / e1, (a2 : Rat) / d2] := ⟨rfl, rfl, rfl, fun i hi => by
    match i, hi with
    | 0, _ => exact ⟨a0, d0, _, rfl, rfl, rfl, q0.1, (bz18 a00 a01).mono (by omega), bd0, rfl⟩
    | 1, _ => exact ⟨c1, e1, _, rfl, rfl, rfl, e10, bc1, be1, rfl⟩
    | 2, _ => exact ⟨a2, d2, _, rfl, rfl, rfl, q2.1, (bz18 a20 a21).mono (by omega), bd2, rfl⟩⟩
  have kk : ∀ (t : Lo) (i : Nat) (a b : Int), [a0, c1, a2][i]? = some a → [d0, e1, d2][i]? = some b → 0 < b → Bz 70 b → dVar 7 t (S ++ P9 :: .lst (wl [a0, c1, a2]) :: .lst (wl [d0, e1, d2]) :: []) = .ok (.ref (S.length + 1)) (S ++ P9 :: .lst (wl [a0, c1, a2]) :: .lst (wl [d0, e1, d2]) :: []) → dVar 8 t (S ++ P9 :: .lst (wl [a0, c1, a2]) :: .lst (wl [d0, e1, d2]) :: []) = .ok (.ref (S.length + 2)) (S ++ P9 :: .lst (wl [a0, c1, a2]) :: .lst (wl [d0, e1, d2]) :: []) → dVar 13 t (S ++ P9 :: .lst (wl [a0, c1, a2]) :: .lst (wl [d0, e1, d2]) :: []) = .ok (.int i) (S ++ P9 :: .lst (wl [a0, c1, a2]) :: .lst (wl [d0, e1, d2]) :: []) → dGc (dFrz (dMake 34 U.fn_Ratio_init (dBoth (· ++ ·) (dCons (dOp ixD (dVar 7) (dVar 13)) (dCons (dOp ixD (dVar 8) (dVar 13)) dNil)) (fun _ S => DD.R.ok [] S)))) t (S ++ P9 :: .lst (wl [a0, c1, a2]) :: .lst (wl [d0, e1, d2]) :: []) = .ok (rW ((a : Rat) / b)) (S ++ P9 :: .lst (wl [a0, c1, a2]) :: .lst (wl [d0, e1, d2]) :: []) := fun t i a b h1 h2 h3 h4 h5 h6 h7 =>
    mkr_ok (ws := [.int a, .int b]) (zs := []) (by
      have u1 := ix_T (S := S) (P := P9) (B := [d0, e1, d2]) (g := []) h1
      have u2 := ix_B (S := S) (P := P9) (T := [a0, c1, a2]) (g := []) h2
      generalize (S ++ P9 :: .lst (wl [a0, c1, a2]) :: .lst (wl [d0, e1, d2]) :: []) = Z at h5 h6 h7 u1 u2 ⊢
      simp -implicitDefEqProofs [h5, h6, h7, u1, u2]) rfl rfl (by omega) h4 (by omega) (by rw [Rat.divInt_eq_div])
  have hlc : ∀ (x3 x4 x5 x6 x9 x10 x11 x12 : Option W), lcL (.nm 13) dYes (dGc (dFrz (dMake 34 U.fn_Ratio_init (dBoth (· ++ ·) (dCons (dOp ixD (dVar 7) (dVar 13)) (dCons (dOp ixD (dVar 8) (dVar 13)) dNil)) (fun _ S => DD.R.ok [] S))))) [some (W.scr (List.map W.int ns)), some (W.int k), some (W.ref (List.length S)), x3, x4, x5, x6, some (W.ref (List.length S + 1)), some (W.ref (List.length S + 2)), x9, x10, x11, x12, none] (DD.intsFrom 0 3) [] (S ++ P9 :: .lst (wl [a0, c1, a2]) :: .lst (wl [d0, e1, d2]) :: []) = .ok (.lst ([(a0 : Rat) / d0, (c1 : Rat) / e1, (a2 : Rat) / d2].map rW)) (S ++ P9 :: .lst (wl [a0, c1, a2]) :: .lst (wl [d0, e1, d2]) :: []) := fun x3 x4 x5 x6 x9 x10 x11 x12 => by
    have k0 := fun t => kk t 0 a0 d0 rfl rfl q0.1 bd0
    have k1 := fun t => kk t 1 c1 e1 rfl rfl e10 be1
    have k2 := fun t => kk t 2 a2 d2 rfl rfl q2.1 bd2
    generalize (S ++ P9 :: .lst (wl [a0, c1, a2]) :: .lst (wl [d0, e1, d2]) :: []) = Z at k0 k1 k2 ⊢
    generalize dGc _ = te at k0 k1 k2 ⊢
    generalize hz : lcL _ _ _ _ _ _ _ = z
    simp -implicitDefEqProofs [DD.intsFrom, lcL, dYes, sizeLine_eq, k0, k1, k2] at hz
    exact hz.symm
  generalize hlp : dFor _ (gN 6) b_law_6_l2 = lp at hy
  simp -implicitDefEqProofs [show (3 : Int).toNat = 3 from rfl] at hy
  rw [show (S ++ [P9, O.lst [W.int a0, W.int c1, W.int a2], O.lst [W.int d0, W.int e1, W.int d2]]) = (S ++ P9 :: .lst (wl [a0, c1, a2]) :: .lst (wl [d0, e1, d2]) :: []) from rfl] at hy
  rw [hlc] at hy
  simp -implicitDefEqProofs [] at hy
  subst hlp
  obtain ⟨t', X, e6, y6, y11, y12, rfl, rfl⟩ := forL_inv (g := gN 6) (b := b_law_6_l2) (DD.intsFrom 0 3)
    (fun _ t X => ∃ x6 x11 x12 : Option W, t = lo ns k num [(a0 : Rat) / d0, (c1 : Rat) / e1, (a2 : Rat) / d2] S (some (.int 2)) x6 (some (.int b2)) y10 x11 x12 x13 ∧ X = (S ++ P9 :: .lst (wl [a0, c1, a2]) :: .lst (wl [d0, e1, d2]) :: []))
    (fun j w t X hw ⟨x6, x11, x12, ht, hX⟩ => by
      subst ht hX
      obtain ⟨hj, rfl⟩ := intsFrom_mem hw
      obtain ⟨y11, y12, e⟩ := l2_ok (ns := ns) (k := k) (num := num) (S := S) (P := P9) (x3 := some (.int 2)) (x9 := some (.int b2)) (x10 := y10) (x11 := x11) (x12 := x12) (x13 := x13) hTb bnum hj
      rw [Int.zero_add]
      exact ⟨_, _, .inl e, _, _, _, rfl, rfl⟩)
    (t := lo ns k num [(a0 : Rat) / d0, (c1 : Rat) / e1, (a2 : Rat) / d2] S (some (.int 2)) x6 (some (.int b2)) y10 x11 x12 x13) (S := S ++ P9 :: .lst (wl [a0, c1, a2]) :: .lst (wl [d0, e1, d2]) :: []) ⟨_, _, _, rfl, rfl⟩
  simp -implicitDefEqProofs [] at hy
  have hy2 : forL (gN 6) b_law_6_l2 (DD.intsFrom 0 3) (lo ns k num [(a0 : Rat) / d0, (c1 : Rat) / e1, (a2 : Rat) / d2] S (some (.int 2)) x6 (some (.int b2)) y10 x11 x12 x13) (S ++ P9 :: .lst (wl [a0, c1, a2]) :: .lst (wl [d0, e1, d2]) :: []) = y := hy
  rw [e6] at hy2
  subst hy2
  exact ⟨_, _, _, _, _, _, _, _, _, _, _, _, _, rfl⟩
theorem law_true : ∀ ns : List Int, ns.length ≤ 63 → (∀ z ∈ ns, PySem.Builtin.Int.intBits z ≤ 1048576) → ∃ S', U.fn_law_6 [.scr (ns.map W.int)] [] = .ok (.bl true) S' := by
  intro ns hns _
  generalize hx : U.fn_law_6 _ _ = x
  unfold U.fn_law_6 at hx
  rw [dFn_eq] at hx
  generalize hy : U.b_law_6 _ _ = y at hx
  unfold U.b_law_6 at hy
  obtain ⟨m, hm⟩ : ∃ m : Int, m = if (if (ns.length : Int) < 30 then (ns.length : Int) else 30) > 1 then (if (ns.length : Int) < 30 then (ns.length : Int) else 30) else 1 := ⟨_, rfl⟩
  have m0 : 0 ≤ m := by rw [hm]; split <;> omega
  have m1 : m ≤ 40 := by rw [hm]; split <;> (try split) <;> omega
  simp -implicitDefEqProofs [← hm, rgI (show -1000000 ≤ m by omega) (by omega)] at hy
  obtain ⟨t', X, e6, x1, x2, x3, x4, x5, x6, x7, x8, x9, x10, x11, x12, x13, rfl⟩ := forL_inv (g := gN 1) (b := b_law_6_l3) (DD.intsFrom 0 m.toNat)
    (fun _ t X => ∃ x1 x2 x3 x4 x5 x6 x7 x8 x9 x10 x11 x12 x13 : Option W, t = [some (W.scr (List.map W.int ns)), x1, x2, x3, x4, x5, x6, x7, x8, x9, x10, x11, x12, x13])
    (fun k w t X hw ⟨x1, x2, x3, x4, x5, x6, x7, x8, x9, x10, x11, x12, x13, ht⟩ => by
      subst ht
      obtain ⟨hk, rfl⟩ := intsFrom_mem hw
      obtain ⟨y2, y3, y4, y5, y6, y7, y8, y9, y10, y11, y12, y13, S', e⟩ := turn_ok (ns := ns) (k := 0 + k) (x2 := x2) (x3 := x3) (x4 := x4) (x5 := x5) (x6 := x6) (x7 := x7) (x8 := x8) (x9 := x9) (x10 := x10) (x11 := x11) (x12 := x12) (x13 := x13) (S := X) (by omega) (by omega)
      exact ⟨_, _, .inl e, _, _, _, _, _, _, _, _, _, _, _, _, _, rfl⟩)
    (t := [some (W.scr (List.map W.int ns)), none, none, none, none, none, none, none, none, none, none, none, none, none]) (S := []) ⟨_, _, _, _, _, _, _, _, _, _, _, _, _, rfl⟩
  simp -implicitDefEqProofs [e6] at hy
  subst hy
  exact ⟨_, hx.symm⟩
end Zk45
namespace Zk45
open PySem PySem.Spec PyProof.Rows L2 DD
abbrev RR : PySem.W.OpenRow := PySem.W.OpenLaw.row PySem.Challenge.rw_steppedtests_k45_whole_order_of_ratios

abbrev hk : PySem.W.Hook := He.hookX 5 fa fn [] [] exK
def ob (s : PySem.W.SharedT) : He.AlX := He.obsX 5 fa fn [] [] exK (HandSHeadRun.getT s)
theorem ob_eq (s : PySem.W.SharedT) : ob s = hk.obs s.abs := He.obsX_eq (HandSHeadRun.getT_eq s)
def loose : List PySem.Str := (["_wall", "TestError", "ZeroBottom", "common_divisor", "Ratio", "as_ratio", "less", "_law_pool", "_law_take", "_law_number", "_law_page", "_law_due"] : List PySem.Str)
set_option maxHeartbeats 0 in
theorem run (w : World) : HandSHeadRun.RunEq RR (PySem.W.view RR.prog [15]) hk ob 20000 loose w := by
  intro os
  kernel_rfl
end Zk45
open PySem PySem.W PySem.Calls PyProof.Rows
set_option maxHeartbeats 0 in
theorem PySem.Challenge.cw_steppedtests_k45_whole_order_of_ratios_holds : PySem.Challenge.rw_steppedtests_k45_whole_order_of_ratios.Holds := by
  w_on; o_law
  refine HandSHeadRun.head_any (r := OpenLaw.row PySem.Challenge.rw_steppedtests_k45_whole_order_of_ratios) (q := view (OpenLaw.row PySem.Challenge.rw_steppedtests_k45_whole_order_of_ratios).prog [15]) (H := Zk45.hk) (ob := Zk45.ob) (M := 20000) (loose := Zk45.loose) (d := HandSHeadRun.topDef (OpenLaw.row PySem.Challenge.rw_steppedtests_k45_whole_order_of_ratios).prog 15) (kwd := []) Zk45.ob_eq
    (by kernel_rfl) (fun s => by kernel_rfl) Zk45.run (by kernel_rfl) (by kernel_rfl) (by kernel_rfl) (by rfl) (by first | assumption | decide +kernel) (by decide +kernel) ⟨rfl, rfl, rfl, rfl, rfl, by decide +kernel⟩ ?hw ?hc
  case hw => w_witness2
  case hc =>
    refine LamX.walk_ofTsE (l := PySem.Challenge.rw_steppedtests_k45_whole_order_of_ratios) (n := 63) (k := 8) (x := "_law_script") (CX := fun w => L2.CX (PySem.Challenge.rw_steppedtests_k45_whole_order_of_ratios).prog w) rfl (by decide) (by kernel_rfl) ⟨rfl, by decide, by decide⟩ ?F (fun w H s e s' => DD.cx_end _ w H s e s')
    intro w mg fa h Y G hmg0
    obtain ⟨K, KX, c⟩ := Y
    have hmg : mg ("law" : PySem.Str) = some (.ref fa) := by
      have e : (HandSHeadRun.topDef (OpenLaw.row PySem.Challenge.rw_steppedtests_k45_whole_order_of_ratios).prog 15).name = ("law" : PySem.Str) := by kernel_rfl
      rw [← e]
      exact hmg0
    have T := Zk45.tx_of KX G c.t.d c.more
    have e := hmg.symm.trans T.g_law
    cases e
    exact ⟨K, KX, Zk45.law_ok T Zk45.law_true⟩
