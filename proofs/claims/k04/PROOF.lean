import PyProof.Rows.All
import Wide.All
import OpenK.AllK
import Wide.FinOn
import HandS.ForMost
import HandS.TupAny
import HandS.TupMul
import HandS.Zip
import HandS.Wide
import HandS.IsInst
import HandS.Style
import HandS.Conv
import HandS.Deep
import HandS.SortInts
import HandS.NoneIn
import HandS.Codes
import KE.GoesEnum
import KE.KDictZip
import KE.KDictItemsList
import KE.KAssignIn
import KE.KDictSum
import KE.KTupSum
import KE.KDictPairs
import KE.KDictDisplayH
import PySem.Challenge.RW_ferryback_k04_whole_long_books
set_option Elab.async false
set_option linter.all false
set_option maxRecDepth 100000
set_option maxHeartbeats 4000000
namespace DL
open PySem PySem.Spec PyProof.Rows L2

/-! ### 1. weakest readings of pieces of syntax -/
section
variable {X : Cx} {e : Expr} {es : List Expr} {st : Stmt} {sts : List Stmt} {σ : L2.St} {H : Hp}
@[irreducible] def tW (X : Cx) (e : Expr) : TE := fun σ H Q => ∀ (pins : List (Addr × Obj)) (s : Shared), Inv X pins σ H s → wpAny (model X.prog X.w) X.A (eval e X.env) (EP X pins σ Q) X.xe s
@[irreducible] def tT (X : Cx) (e : Expr) : TT := fun σ H Q => ∀ (pins : List (Addr × Obj)) (s : Shared), Inv X pins σ H s → wpAny (model X.prog X.w) X.A (isTrue e X.env (eval e X.env)) (TP X pins σ Q) X.xe s
@[irreducible] def tWW (X : Cx) (e : Expr) : TT := fun σ H Q => ∀ (whole : Sem Value) (pins : List (Addr × Obj)) (s : Shared), Inv X pins σ H s → wpAny (model X.prog X.w) X.A (isTrue e X.env whole) (TP X pins σ Q) X.xe s
@[irreducible] def tA (X : Cx) (es : List Expr) : TA := fun σ H Q => ∀ (pos : Pos) (pins : List (Addr × Obj)) (s : Shared), Inv X pins σ H s → wpAny (model X.prog X.w) X.A (spliced (backTo pos (starEach es X.env))) (AP X pins σ Q) X.xe s
@[irreducible] def tG (X : Cx) (tg : Expr) : TG := fun v σ H Q => ∀ (pins : List (Addr × Obj)) (s : Shared) (u : Value), Inv X pins σ H s → RelV v u → wpAny (model X.prog X.w) X.A (assign tg X.env u) (fun _ s' => ∃ σ' H', Inv X pins σ' H' s' ∧ Q σ' H') X.xe s
@[irreducible] def tGs (X : Cx) (ts : List Expr) : TGs := fun vs σ H Q => ∀ (pins : List (Addr × Obj)) (s : Shared) (us : List Value), Inv X pins σ H s → Vals vs us → wpAny (model X.prog X.w) X.A (assignInOrder ((assignEach ts X.env).map (·.2)) us) (fun _ s' => ∃ σ' H', Inv X pins σ' H' s' ∧ Q σ' H') X.xe s
@[irreducible] def tS (X : Cx) (st : Stmt) : TS := fun D σ H => ∀ (pins : List (Addr × Obj)) (s : Shared), Inv X pins σ H s → wpAny (model X.prog X.w) X.A (exec st X.env) (SP X pins D) X.xe s
@[irreducible] def tB (X : Cx) (sts : List Stmt) : TS := fun D σ H => ∀ (pins : List (Addr × Obj)) (s : Shared), Inv X pins σ H s → wpAny (model X.prog X.w) X.A (execs sts X.env) (SP X pins D) X.xe s
theorem peW : PE X e (tW X e) := ⟨fun pins s _ _ _ I h => by unfold tW at h; exact h pins s I⟩
theorem ptW : PT X e (tT X e) := ⟨fun pins s _ _ _ I h => by unfold tT at h; exact h pins s I⟩
theorem pwW : PW X e (tWW X e) := ⟨fun wh pins s _ _ _ I h => by unfold tWW at h; exact h wh pins s I⟩
theorem paW : PA X es (tA X es) := ⟨fun pos pins s _ _ _ I h => by unfold tA at h; exact h pos pins s I⟩
theorem pgW : PG X e (tG X e) := ⟨fun pins s _ _ _ u _ I r h => by unfold tG at h; exact h pins s u I r⟩
theorem pgsW : PGs X es (tGs X es) := ⟨fun pins s _ _ _ us _ I r h => by unfold tGs at h; exact h pins s us I r⟩
theorem psW : PS X st (tS X st) := ⟨fun pins s _ _ _ I h => by unfold tS at h; exact h pins s I⟩
theorem pssW : PSs X sts (tB X sts) := ⟨fun pins s _ _ _ I h => by unfold tB at h; exact h pins s I⟩
theorem ofPE {t : TE} {Q : VK} (h : PE X e t) (q : t σ H Q) : tW X e σ H Q := by unfold tW; exact fun pins s I => h.run pins s σ H Q I q
theorem ofPT {t : TT} {Q : Bool → Hp → Prop} (h : PT X e t) (q : t σ H Q) : tT X e σ H Q := by unfold tT; exact fun pins s I => h.run pins s σ H Q I q
theorem ofPW {t : TT} {Q : Bool → Hp → Prop} (h : PW X e t) (q : t σ H Q) : tWW X e σ H Q := by unfold tWW; exact fun wh pins s I => h.run wh pins s σ H Q I q
theorem ofPA {t : TA} {Q : List V → Hp → Prop} (h : PA X es t) (q : t σ H Q) : tA X es σ H Q := by unfold tA; exact fun pos pins s I => h.run pos pins s σ H Q I q
theorem ofPG {t : TG} {v : V} {Q : L2.St → Hp → Prop} (h : PG X e t) (q : t v σ H Q) : tG X e v σ H Q := by unfold tG; exact fun pins s u I r => h.run pins s σ H v u Q I r q
theorem ofPGs {t : TGs} {vs : List V} {Q : L2.St → Hp → Prop} (h : PGs X es t) (q : t vs σ H Q) : tGs X es vs σ H Q := by unfold tGs; exact fun pins s us I r => h.run pins s σ H vs us Q I r q
theorem ofPS {t : TS} {D : Ends} (h : PS X st t) (q : t D σ H) : tS X st D σ H := by unfold tS; exact fun pins s I => h.run pins s σ H D I q
theorem ofPSs {t : TS} {D : Ends} (h : PSs X sts t) (q : t D σ H) : tB X sts D σ H := by unfold tB; exact fun pins s I => h.run pins s σ H D I q
end

/-! ### 2. heaps with some addresses hidden; data under a heap -/
def mask (l : List Addr) (H : Hp) : Hp := fun a => if a ∈ l then none else H a
theorem mask_in {l : List Addr} {H : Hp} {a : Addr} (h : a ∈ l) : mask l H a = none := by unfold mask; rw [if_pos h]
theorem mask_out {l : List Addr} {H : Hp} {a : Addr} (h : a ∉ l) : mask l H a = H a := by unfold mask; rw [if_neg h]
theorem mask_le {l : List Addr} {H : Hp} : Same (mask l H) H := fun a o e => by
  by_cases h : a ∈ l
  · rw [mask_in h] at e; cases e
  · rw [mask_out h] at e; exact e
theorem mask_some {l : List Addr} {H : Hp} {a : Addr} {o : HO} (e : mask l H a = some o) : a ∉ l ∧ H a = some o := by
  by_cases h : a ∈ l
  · rw [mask_in h] at e; cases e
  · rw [mask_out h] at e; exact ⟨h, e⟩
/-- less is hidden, more stands -/
theorem mask_mono {l l' : List Addr} {H H' : Hp} (hl : ∀ a, a ∈ l' → H a ≠ none → a ∈ l) (s : ∀ a o, a ∉ l → H a = some o → H' a = some o) : Same (mask l H) (mask l' H') := fun a o e => by
  obtain ⟨h1, h2⟩ := mask_some e
  have h3 : a ∉ l' := fun m => h1 (hl a m (by rw [h2]; exact fun z => nomatch z))
  rw [mask_out h3]
  exact s a o h1 h2
theorem mask_sub {l l' : List Addr} {H : Hp} (hl : ∀ a, a ∈ l' → a ∈ l) : Same (mask l H) (mask l' H) := mask_mono (fun a m _ => hl a m) fun _ _ _ e => e
theorem mask_same {l : List Addr} {H H' : Hp} (s : Same H H') : Same (mask l H) (mask l H') := mask_mono (fun _ m _ => m) fun a o _ e => s a o e
theorem same_rd {H H' : Hp} {a : Addr} {u : HO} (e : Same H H') (h : Rd H a u) : Rd H' a u := by
  rcases h with h | ⟨o, h⟩
  · exact Or.inl (e a _ h)
  · exact Or.inr ⟨o, e a _ h⟩
theorem same_l {K : PySem.W.Frag} {H H' : Hp} {a : Addr} {xs : List V} (e : Same H H') (h : SqL K H a xs) : SqL K H' a xs := by
  rcases h with h | h
  · exact Or.inl (same_rd e h)
  · exact Or.inr h
theorem same_t {K : PySem.W.Frag} {H H' : Hp} {a : Addr} {xs : List V} (e : Same H H') (h : SqT K H a xs) : SqT K H' a xs := by
  rcases h with h | h
  · exact Or.inl (same_rd e h)
  · exact Or.inr h
theorem same_new {H : Hp} {p : Addr} {o : HO} (h : H p = none) : Same H (upd H p o) := fun a u e => by
  rw [upd_ne (ne_of_none e h)]; exact e
/-! a value reads as data: its lists and tuples stand in the heap, tracked -/
/-- a tuple that is tracked as such (a dict's key may be one) -/
@[reducible] def bt (ds : List PyData) : PyData := .dict [(.bool true, .tuple ds)]
/-- a tuple that is known to be plain (it has no dict of its own) is told by a mark -/
@[reducible] def pt (ds : List PyData) : PyData := .dict [(.none, .tuple ds)]
mutual
inductive Rp (H : Hp) : V → PyData → Prop
  | non : Rp H .non .none
  | bl (b : Bool) : Rp H (.bl b) (.bool b)
  | int (i : Int) : Rp H (.int i) (.int i)
  | str (x : Str) : Rp H (.str x) (.str x)
  | lst {a : Addr} {xs : List V} {ds : List PyData} : H a = some (.lst xs) → RpAll H xs ds → Rp H (.ref a) (.list ds)
  | tup {a : Addr} {xs : List V} {ds : List PyData} : Rd H a (.tup xs) → RpAll H xs ds → Rp H (.ref a) (.tuple ds)
  | pln {a : Addr} {o : Obj} {xs : List V} {ds : List PyData} : H a = some (.frz o (.tup xs)) → o.dict = none → RpAll H xs ds → Rp H (.ref a) (.dict [(.none, .tuple ds)])
  | bar {a : Addr} {xs : List V} {ds : List PyData} : H a = some (.tup xs) → RpAll H xs ds → Rp H (.ref a) (.dict [(.bool true, .tuple ds)])
inductive RpAll (H : Hp) : List V → List PyData → Prop
  | nil : RpAll H [] []
  | cons {v : V} {vs : List V} {d : PyData} {ds : List PyData} : Rp H v d → RpAll H vs ds → RpAll H (v :: vs) (d :: ds)
end
mutual
theorem Rp.up' {H H' : Hp} (s : Same H H') : ∀ {v : V} {d : PyData}, Rp H v d → Rp H' v d
  | _, _, .non => .non
  | _, _, .bl b => .bl b
  | _, _, .int i => .int i
  | _, _, .str x => .str x
  | _, _, .lst q a => .lst (s _ _ q) (RpAll.up' s a)
  | _, _, .tup q a => .tup (same_rd s q) (RpAll.up' s a)
  | _, _, .pln q n a => .pln (s _ _ q) n (RpAll.up' s a)
  | _, _, .bar q a => .bar (s _ _ q) (RpAll.up' s a)
theorem RpAll.up' {H H' : Hp} (s : Same H H') : ∀ {vs : List V} {ds : List PyData}, RpAll H vs ds → RpAll H' vs ds
  | _, _, .nil => .nil
  | _, _, .cons h1 h2 => .cons (Rp.up' s h1) (RpAll.up' s h2)
end
theorem Rp.up {H H' : Hp} (s : Same H H') : ∀ (d : PyData) (v : V), Rp H v d → Rp H' v d := fun _ _ h => Rp.up' s h
theorem RpAll.up {H H' : Hp} (s : Same H H') : ∀ (ds : List PyData) (vs : List V), RpAll H vs ds → RpAll H' vs ds := fun _ _ h => RpAll.up' s h
mutual
theorem Rp.dpx {K : PySem.W.Frag} {H : Hp} : ∀ (d : PyData) (v : V), Rp H v d → d.canLay0 = true → Dp K H v d
  | .none, _, h, _ => by cases h; exact .non
  | .bool b, _, h, _ => by cases h; exact .bl b
  | .int i, _, h, _ => by cases h; exact .int i
  | .str x, _, h, _ => by cases h; exact .str x
  | .list ds, _, h, l => by
    cases h with
    | lst q a => exact .lst (.of q) (RpAll.dpx ds _ a (by simpa [PyData.canLay0] using l))
  | .tuple ds, _, h, l => by
    cases h with
    | tup q a => exact .tup (.inl q) (RpAll.dpx ds _ a (by simpa [PyData.canLay0] using l))
  | .dict _, _, h, l => by simp [PyData.canLay0] at l
theorem RpAll.dpx {K : PySem.W.Frag} {H : Hp} : ∀ (ds : List PyData) (vs : List V), RpAll H vs ds → PyData.canLayAll0 ds = true → DpAll K H vs ds
  | [], _, h, _ => by cases h; exact .nil
  | d :: ds, _, h, l => by
    have l' : d.canLay0 = true ∧ PyData.canLayAll0 ds = true := by simpa [PyData.canLayAll0] using l
    cases h with
    | cons h1 h2 => exact .cons (Rp.dpx d _ h1 l'.1) (RpAll.dpx ds _ h2 l'.2)
end
theorem Rp.dp {K : PySem.W.Frag} {H : Hp} {d : PyData} {v : V} (h : Rp H v d) (l : d.canLay0 = true) : Dp K H v d := Rp.dpx d v h l
theorem RpAll.dp {K : PySem.W.Frag} {H : Hp} {ds : List PyData} {vs : List V} (h : RpAll H vs ds) (l : PyData.canLayAll0 ds = true) : DpAll K H vs ds := RpAll.dpx ds vs h l
theorem lay_of {d : PyData} (h : SeqAt.shaped d = true) : d.canLay0 = true := by
  unfold SeqAt.shaped at h
  exact (Bool.and_eq_true _ _ ▸ h).1
/-- marks left out -/
inductive Un : PyData → PyData → Prop
  | same (d : PyData) : Un d d
  | pt (ds : List PyData) : Un (.dict [(.none, .tuple ds)]) (.tuple ds)
  | bt (ds : List PyData) : Un (.dict [(.bool true, .tuple ds)]) (.tuple ds)
  | two {a b b' : PyData} : Un b b' → Un (.tuple [a, b]) (.tuple [a, b'])
theorem Rp.un {H : Hp} {d d' : PyData} (u : Un d d') : ∀ {v : V}, Rp H v d → Rp H v d' := by
  induction u with
  | same d => exact fun h => h
  | pt ds =>
    intro v h
    cases h with
    | pln e _ r => exact .tup (.inr ⟨_, e⟩) r
  | bt ds =>
    intro v h
    cases h with
    | bar e r => exact .tup (.inl e) r
  | two u ih =>
    intro v h
    cases h with
    | tup e r =>
      cases r with
      | cons r1 r2 =>
        cases r2 with
        | cons r2 r3 => exact .tup e (.cons r1 (.cons (ih r2) r3))
section
variable {H : Hp}
theorem RpAll.length : ∀ {ds : List PyData} {vs : List V}, RpAll H vs ds → vs.length = ds.length
  | [], _, h => by cases h; rfl
  | _ :: ds, _, h => by
    cases h with
    | cons _ h2 => rw [List.length_cons, List.length_cons, RpAll.length h2]
theorem RpAll.get : ∀ {ds : List PyData} {vs : List V} {i : Nat} {d : PyData}, RpAll H vs ds → ds[i]? = some d → ∃ v, vs[i]? = some v ∧ Rp H v d
  | [], _, _, _, _, e => by simp at e
  | _ :: ds, _, 0, d, h, e => by
    cases h with
    | cons h1 _ => exact ⟨_, rfl, by rw [List.getElem?_cons_zero] at e; cases e; exact h1⟩
  | _ :: ds, _, i + 1, d, h, e => by
    cases h with
    | cons _ h2 =>
      rw [List.getElem?_cons_succ] at e
      obtain ⟨v, e1, h1⟩ := RpAll.get h2 e
      exact ⟨v, by rw [List.getElem?_cons_succ]; exact e1, h1⟩
theorem RpAll.app : ∀ {ds es : List PyData} {vs us : List V}, RpAll H vs ds → RpAll H us es → RpAll H (vs ++ us) (ds ++ es)
  | [], _, _, _, h, g => by cases h; exact g
  | _ :: ds, _, _, _, h, g => by
    cases h with
    | cons h1 h2 => exact .cons h1 (RpAll.app h2 g)
theorem RpAll.tk : ∀ {ds : List PyData} {vs : List V} (n : Nat), RpAll H vs ds → RpAll H (vs.take n) (ds.take n)
  | _, _, 0, _ => by rw [List.take_zero, List.take_zero]; exact .nil
  | [], _, n + 1, h => by cases h; exact .nil
  | _ :: ds, _, n + 1, h => by
    cases h with
    | cons h1 h2 => exact .cons h1 (RpAll.tk n h2)
theorem RpAll.dr : ∀ {ds : List PyData} {vs : List V} (n : Nat), RpAll H vs ds → RpAll H (vs.drop n) (ds.drop n)
  | _, _, 0, h => h
  | [], _, n + 1, h => by cases h; exact .nil
  | _ :: ds, _, n + 1, h => by
    cases h with
    | cons _ h2 => exact RpAll.dr n h2
theorem RpAll.st : ∀ {ds : List PyData} {vs : List V} {i : Nat} {v : V} {d : PyData}, RpAll H vs ds → Rp H v d → RpAll H (vs.set i v) (ds.set i d)
  | [], _, _, _, _, h, _ => by cases h; exact .nil
  | _ :: ds, _, 0, _, _, h, g => by
    cases h with
    | cons _ h2 => exact .cons g h2
  | _ :: ds, _, i + 1, _, _, h, g => by
    cases h with
    | cons h1 h2 => exact .cons h1 (RpAll.st h2 g)
theorem RpAll.rv : ∀ {ds : List PyData} {vs : List V}, RpAll H vs ds → RpAll H vs.reverse ds.reverse
  | [], _, h => by cases h; exact .nil
  | _ :: ds, _, h => by
    cases h with
    | cons h1 h2 => rw [List.reverse_cons, List.reverse_cons]; exact RpAll.app (RpAll.rv h2) (.cons h1 .nil)
theorem RpAll.rep {v : V} {d : PyData} (h : Rp H v d) : ∀ n : Nat, RpAll H (List.replicate n v) (List.replicate n d)
  | 0 => .nil
  | n + 1 => .cons h (RpAll.rep h n)
theorem RpAll.repF {vs : List V} {ds : List PyData} (h : RpAll H vs ds) : ∀ n : Nat, RpAll H (List.replicate n vs).flatten (List.replicate n ds).flatten
  | 0 => .nil
  | n + 1 => by
    rw [List.replicate_succ, List.replicate_succ, List.flatten_cons, List.flatten_cons]
    exact RpAll.app h (RpAll.repF h n)
theorem RpAll.ints : ∀ {ns : List Int} {vs : List V}, RpAll H vs (ns.map PyData.int) → vs = ns.map V.int
  | [], _, h => by cases h; rfl
  | n :: ns, _, h => by
    cases h with
    | cons h1 h2 => cases h1; rw [RpAll.ints h2]; rfl
theorem RpAll.ofInts : ∀ (ns : List Int), RpAll H (ns.map V.int) (ns.map PyData.int)
  | [] => .nil
  | n :: ns => .cons (.int n) (RpAll.ofInts ns)
theorem RpAll.bools : ∀ {ns : List Bool} {vs : List V}, RpAll H vs (ns.map PyData.bool) → vs = ns.map V.bl
  | [], _, h => by cases h; rfl
  | n :: ns, _, h => by
    cases h with
    | cons h1 h2 => cases h1; rw [RpAll.bools h2]; rfl
end

/-! ### 3. slots: what a name holds -/
inductive Fd where
  | dat (d : PyData)
  | own (a : Addr) (ds : List PyData)
def fdA : List (Str × Fd) → List Addr
  | [] => []
  | (_, .own a _) :: r => a :: fdA r
  | (_, .dat _) :: r => fdA r
inductive Sl where
  | non
  | dat (d : PyData)
  | own (a : Addr) (ds : List PyData)
  | bag (a : Addr) (n : Nat)
  | dI (a : Addr) (kvs : List (Int × Int))
  | dP (a : Addr) (kvs : List ((Int × Int) × Int))
  | lP (a : Addr) (o : Obj) (kvs : List ((Int × Int) × Int))
  | fI (kvs : List (Int × Int))
  | obj (C : Addr) (fs : List (Str × PyData))
  | bo (p C : Addr) (fs : List (Str × Fd))
  | raw (v : V)
def Sl.ad : Sl → List Addr
  | .own a _ => [a]
  | .bag a _ => [a]
  | .dI a _ => [a]
  | .dP a _ => [a]
  | .lP a _ _ => [a]
  | .bo p _ fs => p :: fdA fs
  | _ => []
def os : List Sl → List Addr
  | [] => []
  | s :: r => s.ad ++ os r
def bagP : Int := 2305843009213693951
def BagOk (H : Hp) (a : Addr) (n : Nat) : Prop := ∃ z w t : Int, H a = some (.lst [.int z, .int w, .int t]) ∧ 0 ≤ w ∧ w < bagP ∧ 0 ≤ t ∧ t + (n : Int) ≤ 2 ^ 60
def kvI (kvs : List (Int × Int)) : List (Key × V) := kvs.map fun p => (Sum.inl p.1, V.int p.2)
def kvP (kvs : List ((Int × Int) × Int)) : List (List Key × V) := kvs.map fun p => ([Sum.inl p.1.1, Sum.inl p.1.2], V.int p.2)
/-- an object's fields as data, by name -/
def FsOk (G : Hp) : List (Str × V) → List (Str × PyData) → Prop
  | [], [] => True
  | v :: vs, d :: ds => (v.1 = d.1 ∧ Rp G v.2 d.2) ∧ FsOk G vs ds
  | _, _ => False
def ObjAt (G : Hp) (a C : Addr) (fs : List (Str × PyData)) : Prop := ∃ dx vs, G a = some (.ins C dx vs) ∧ FsOk G vs fs
/-- .. of an object under way: a field may be a list of one's own -/
def FdOk (G H : Hp) : List (Str × V) → List (Str × Fd) → Prop
  | [], [] => True
  | v :: vs, (n, .dat d) :: ds => (v.1 = n ∧ Rp G v.2 d) ∧ FdOk G H vs ds
  | v :: vs, (n, .own a xs) :: ds => (v.1 = n ∧ v.2 = .ref a ∧ ∃ us, H a = some (.lst us) ∧ RpAll G us xs) ∧ FdOk G H vs ds
  | _, _ => False
theorem FdOk.up {G G' H H' : Hp} (g : Same G G') : ∀ {vs : List (Str × V)} {fs : List (Str × Fd)}, FdOk G H vs fs → (∀ a ∈ fdA fs, ∀ o, H a = some o → H' a = some o) → FdOk G' H' vs fs
  | [], [], _, _ => trivial
  | v :: vs, (n, .dat d) :: ds, h, k => ⟨⟨h.1.1, Rp.up g _ _ h.1.2⟩, FdOk.up g h.2 k⟩
  | v :: vs, (n, .own a xs) :: ds, h, k => ⟨⟨h.1.1, h.1.2.1, by
    obtain ⟨_, _, us, e, r⟩ := h.1
    exact ⟨us, k a (.head _) _ e, RpAll.up g _ _ r⟩⟩, FdOk.up g h.2 fun b m => k b (.tail _ m)⟩
  | [], _ :: _, h, _ => h.elim
  | _ :: _, [], h, _ => h.elim
theorem FdOk.ad {G H : Hp} : ∀ {vs : List (Str × V)} {fs : List (Str × Fd)}, FdOk G H vs fs → ∀ a ∈ fdA fs, H a ≠ none
  | [], [], _, _, m => nomatch m
  | v :: vs, (n, .dat d) :: ds, h, a, m => FdOk.ad h.2 a m
  | v :: vs, (n, .own b xs) :: ds, h, a, m => by
    rcases List.mem_cons.mp m with z | z
    · obtain ⟨_, _, us, e, _⟩ := h.1
      rw [z, e]; exact fun z => nomatch z
    · exact FdOk.ad h.2 a z
  | [], _ :: _, h, _, _ => h.elim
  | _ :: _, [], h, _, _ => h.elim
theorem FsOk.up {G G' : Hp} (g : Same G G') : ∀ {vs : List (Str × V)} {fs : List (Str × PyData)}, FsOk G vs fs → FsOk G' vs fs
  | [], [], _ => trivial
  | v :: vs, d :: ds, h => ⟨⟨h.1.1, Rp.up g _ _ h.1.2⟩, FsOk.up g h.2⟩
  | [], _ :: _, h => h.elim
  | _ :: _, [], h => h.elim
theorem ObjAt.up {G G' : Hp} {a C : Addr} {fs : List (Str × PyData)} (g : Same G G') (h : ObjAt G a C fs) : ObjAt G' a C fs := by
  obtain ⟨dx, vs, e, f⟩ := h
  exact ⟨dx, vs, g _ _ e, f.up g⟩
theorem FsOk.get {G : Hp} : ∀ {vs : List (Str × V)} {fs : List (Str × PyData)} {n : Str} {d : PyData}, FsOk G vs fs → fs.lookup n = some d → ∃ v, vs.lookup n = some v ∧ Rp G v d
  | [], [], _, _, _, e => by simp at e
  | (m, v) :: vs, (m', d') :: ds, n, d, h, e => by
    have e1 : m = m' := h.1.1
    subst e1
    rw [List.lookup_cons] at e ⊢
    cases q : n == m with
    | true => rw [q] at e; cases e; exact ⟨v, rfl, h.1.2⟩
    | false => rw [q] at e; exact FsOk.get h.2 e
  | [], _ :: _, _, _, h, _ => h.elim
  | _ :: _, [], _, _, h, _ => h.elim
def SlotOk (G H : Hp) (x : Option V) : Sl → Prop
  | .non => True
  | .dat d => ∃ v, x = some v ∧ Rp G v d
  | .own a ds => x = some (.ref a) ∧ ∃ vs, H a = some (.lst vs) ∧ RpAll G vs ds
  | .bag a n => x = some (.ref a) ∧ BagOk H a n
  | .dI a kvs => x = some (.ref a) ∧ H a = some (.dK (kvI kvs))
  | .dP a kvs => x = some (.ref a) ∧ H a = some (.dT (kvP kvs))
  | .lP a o kvs => x = some (.ref a) ∧ H a = some (.frz o (.dT (kvP kvs)))
  | .fI kvs => ∃ a, x = some (.ref a) ∧ G a = some (.dK (kvI kvs))
  | .obj C fs => ∃ a, x = some (.ref a) ∧ ObjAt G a C fs
  | .bo p C fs => x = some (.ref p) ∧ ∃ dx vs, H p = some (.ins C dx vs) ∧ FdOk G H vs fs
  | .raw v => x = some v
def SlotsOk (G H : Hp) : L2.St → List Sl → Prop
  | [], [] => True
  | x :: xs, s :: ss => SlotOk G H x s ∧ SlotsOk G H xs ss
  | _, _ => False
structure Fm where
  hd : List Addr
  po : List Addr
  H0 : Hp
abbrev gh (F : Fm) (ρ : List Sl) (H : Hp) : Hp := mask (F.hd ++ os ρ) H
structure Stt (F : Fm) (H : Hp) (σ : L2.St) (ρ : List Sl) : Prop where
  hd : ∀ a ∈ F.hd, H a ≠ none
  fr : ∀ a o, a ∉ F.po → F.H0 a = some o → H a = some o
  dm : ∀ a, F.H0 a ≠ none → H a ≠ none
  nd : (os ρ).Nodup
  nw : ∀ a ∈ os ρ, a ∈ F.po ∨ F.H0 a = none
  ap : ∀ a ∈ os ρ, a ∉ F.hd
  sl : SlotsOk (gh F ρ H) H σ ρ

theorem SlotOk.up {G G' H H' : Hp} {x : Option V} {s : Sl} (h : SlotOk G H x s) (g : Same G G') (k : ∀ a ∈ s.ad, ∀ o, H a = some o → H' a = some o) : SlotOk G' H' x s := by
  cases s with
  | non => trivial
  | dat d => obtain ⟨v, e, q⟩ := h; exact ⟨v, e, Rp.up g d v q⟩
  | own a ds => obtain ⟨e, vs, q, r⟩ := h; exact ⟨e, vs, k a (List.mem_singleton.mpr rfl) _ q, RpAll.up g ds vs r⟩
  | bag a n => obtain ⟨e, z, w, t, q, r⟩ := h; exact ⟨e, z, w, t, k a (List.mem_singleton.mpr rfl) _ q, r⟩
  | dI a kvs => obtain ⟨e, q⟩ := h; exact ⟨e, k a (List.mem_singleton.mpr rfl) _ q⟩
  | dP a kvs => obtain ⟨e, q⟩ := h; exact ⟨e, k a (List.mem_singleton.mpr rfl) _ q⟩
  | lP a o kvs => obtain ⟨e, q⟩ := h; exact ⟨e, k a (List.mem_singleton.mpr rfl) _ q⟩
  | fI kvs => obtain ⟨a, e, q⟩ := h; exact ⟨a, e, g _ _ q⟩
  | obj C fs => obtain ⟨a, e, q⟩ := h; exact ⟨a, e, q.up g⟩
  | bo p C fs => obtain ⟨e, dx, vs, q, r⟩ := h; exact ⟨e, dx, vs, k p (.head _) _ q, r.up g fun a m => k a (.tail _ m)⟩
  | raw v => exact h
theorem SlotsOk.up {G G' H H' : Hp} (g : Same G G') : ∀ {σ : L2.St} {ρ : List Sl}, SlotsOk G H σ ρ → (∀ a ∈ os ρ, ∀ o, H a = some o → H' a = some o) → SlotsOk G' H' σ ρ
  | [], [], _, _ => trivial
  | x :: xs, s :: ss, h, k => ⟨h.1.up g fun a m => k a (List.mem_append_left _ m), SlotsOk.up g h.2 fun a m => k a (List.mem_append_right _ m)⟩
  | [], _ :: _, h, _ => h.elim
  | _ :: _, [], h, _ => h.elim
theorem SlotsOk.get {G H : Hp} : ∀ {σ : L2.St} {ρ : List Sl} {i : Nat} {s : Sl}, SlotsOk G H σ ρ → ρ[i]? = some s → ∃ x, σ[i]? = some x ∧ SlotOk G H x s
  | [], [], _, _, _, e => by simp at e
  | x :: xs, t :: ss, 0, s, h, e => ⟨x, rfl, by rw [List.getElem?_cons_zero] at e; cases e; exact h.1⟩
  | x :: xs, t :: ss, i + 1, s, h, e => by
    rw [List.getElem?_cons_succ] at e
    obtain ⟨y, e1, q⟩ := SlotsOk.get h.2 e
    exact ⟨y, by rw [List.getElem?_cons_succ]; exact e1, q⟩
  | [], _ :: _, _, _, h, _ => h.elim
  | _ :: _, [], _, _, h, _ => h.elim
theorem SlotsOk.set {G H : Hp} : ∀ {σ : L2.St} {ρ : List Sl} (i : Nat) {x : Option V} {s : Sl}, SlotsOk G H σ ρ → SlotOk G H x s → SlotsOk G H (σ.set i x) (ρ.set i s)
  | [], [], _, _, _, _, _ => trivial
  | y :: xs, t :: ss, 0, x, s, h, q => ⟨q, h.2⟩
  | y :: xs, t :: ss, i + 1, x, s, h, q => ⟨h.1, SlotsOk.set i h.2 q⟩
  | [], _ :: _, _, _, _, h, _ => h.elim
  | _ :: _, [], _, _, _, h, _ => h.elim
theorem SlotsOk.ad {G H : Hp} : ∀ {σ : L2.St} {ρ : List Sl}, SlotsOk G H σ ρ → ∀ a ∈ os ρ, H a ≠ none
  | [], [], _, a, m => nomatch m
  | x :: xs, s :: ss, h, a, m => by
    rcases List.mem_append.mp m with m | m
    · have q := h.1
      cases s with
      | non => exact nomatch m
      | dat d => exact nomatch m
      | fI v => exact nomatch m
      | obj C fs => exact nomatch m
      | raw v => exact nomatch m
      | bo p C fs =>
        obtain ⟨_, dx, vs, e, r⟩ := q
        rcases List.mem_cons.mp m with z | z
        · rw [z, e]; exact fun z => nomatch z
        · exact r.ad a z
      | own b ds => obtain ⟨_, vs, e, _⟩ := q; rw [List.mem_singleton.mp m, e]; exact fun z => nomatch z
      | bag b n => obtain ⟨_, z, w, t, e, _⟩ := q; rw [List.mem_singleton.mp m, e]; exact fun z => nomatch z
      | dI b ds => obtain ⟨_, e⟩ := q; rw [List.mem_singleton.mp m, e]; exact fun z => nomatch z
      | dP b ds => obtain ⟨_, e⟩ := q; rw [List.mem_singleton.mp m, e]; exact fun z => nomatch z
      | lP b o ds => obtain ⟨_, e⟩ := q; rw [List.mem_singleton.mp m, e]; exact fun z => nomatch z
    · exact SlotsOk.ad h.2 a m
  | [], _ :: _, h, _, _ => h.elim
  | _ :: _, [], h, _, _ => h.elim
theorem os_set_sub : ∀ {ρ : List Sl} {i : Nat} {s : Sl} {a : Addr}, a ∈ os (ρ.set i s) → a ∈ s.ad ∨ a ∈ os ρ
  | [], _, _, _, m => nomatch m
  | t :: r, 0, s, a, m => (List.mem_append.mp m).elim .inl fun z => .inr (List.mem_append_right _ z)
  | t :: r, i + 1, s, a, m => (List.mem_append.mp m).elim (fun z => .inr (List.mem_append_left _ z)) fun z => (os_set_sub z).elim .inl fun y => .inr (List.mem_append_right _ y)
theorem os_at : ∀ {ρ : List Sl} {i : Nat} {s : Sl} {a : Addr}, ρ[i]? = some s → a ∈ s.ad → a ∈ os ρ
  | [], _, _, _, e, _ => by simp at e
  | t :: r, 0, s, a, e, m => by
    rw [List.getElem?_cons_zero] at e; cases e
    exact List.mem_append_left _ m
  | t :: r, i + 1, s, a, e, m => by
    rw [List.getElem?_cons_succ] at e
    exact List.mem_append_right _ (os_at e m)
/-- one slot's own address is another's nowhere -/
theorem os_set_nodup : ∀ {ρ : List Sl} {i : Nat} {s : Sl}, (os ρ).Nodup → s.ad.Nodup → (∀ a ∈ s.ad, a ∉ os ρ) → (os (ρ.set i s)).Nodup
  | [], _, _, h, _, _ => h
  | t :: r, 0, s, h, n, d => by
    show (s.ad ++ os r).Nodup
    exact List.nodup_append.mpr ⟨n, (List.nodup_append.mp h).2.1, fun a ma b mb e => d a ma (List.mem_append_right _ (e ▸ mb))⟩
  | t :: r, i + 1, s, h, n, d => by
    show (t.ad ++ os (r.set i s)).Nodup
    obtain ⟨h1, h2, h3⟩ := List.nodup_append.mp h
    refine List.nodup_append.mpr ⟨h1, os_set_nodup h2 n (fun a m z => d a m (List.mem_append_right _ z)), fun a ma b mb e => ?_⟩
    rcases os_set_sub mb with z | z
    · exact d b z (List.mem_append_left _ (e ▸ ma))
    · exact h3 a ma b z e
/-- a slot whose address stays -/
theorem os_set_same : ∀ {ρ : List Sl} {i : Nat} {s t : Sl}, ρ[i]? = some t → s.ad = t.ad → os (ρ.set i s) = os ρ
  | [], _, _, _, e, _ => by simp at e
  | u :: r, 0, s, t, e, h => by
    rw [List.getElem?_cons_zero] at e; cases e
    show s.ad ++ os r = _ ++ os r
    rw [h]
  | u :: r, i + 1, s, t, e, h => by
    rw [List.getElem?_cons_succ] at e
    show u.ad ++ os (r.set i s) = u.ad ++ os r
    rw [os_set_same e h]
/-- a slot whose address goes -/
theorem os_set_out : ∀ {ρ : List Sl} {i : Nat} {s : Sl}, (os ρ).Nodup → s.ad = [] → (os (ρ.set i s)).Nodup := fun h e =>
  os_set_nodup h (by rw [e]; exact List.nodup_nil) fun a m => by rw [e] at m; cases m
/-- the slot that goes takes its address with it -/
theorem os_gone : ∀ {ρ : List Sl} {i : Nat} {s t : Sl} {a : Addr}, (os ρ).Nodup → ρ[i]? = some t → a ∈ t.ad → s.ad = [] → a ∉ os (ρ.set i s)
  | [], _, _, _, _, _, e, _, _ => by simp at e
  | u :: r, 0, s, t, a, h, e, m, g => by
    rw [List.getElem?_cons_zero] at e; cases e
    show a ∉ s.ad ++ os r
    rw [g, List.nil_append]
    exact fun z => (List.nodup_append.mp h).2.2 a m a z rfl
  | u :: r, i + 1, s, t, a, h, e, m, g => by
    rw [List.getElem?_cons_succ] at e
    obtain ⟨h1, h2, h3⟩ := List.nodup_append.mp h
    intro z
    rcases List.mem_append.mp (show a ∈ u.ad ++ os (r.set i s) from z) with z | z
    · exact h3 a z a (os_at e m) rfl
    · exact os_gone h2 e m g z

section
variable {F : Fm} {H H' : Hp} {σ : L2.St} {ρ ρ' : List Sl} {i : Nat} {v : V} {d : PyData} {a : Addr}
theorem Stt.ad (S : Stt F H σ ρ) : ∀ a ∈ F.hd ++ os ρ, H a ≠ none := fun a m => (List.mem_append.mp m).elim (S.hd a) (S.sl.ad a)
/-- the heap grows -/
theorem Stt.ext (S : Stt F H σ ρ) (e : Same H H') : Stt F H' σ ρ := by
  have up : ∀ a, H a ≠ none → H' a ≠ none := fun a h => by
    cases q : H a with
    | none => exact absurd q h
    | some o => rw [e a o q]; exact fun z => nomatch z
  exact ⟨fun a m => up a (S.hd a m), fun a o n q => e a o (S.fr a o n q), fun a h => up a (S.dm a h), S.nd, S.nw, S.ap, S.sl.up (mask_same e) fun a _ o q => e a o q⟩
theorem Stt.gext (S : Stt F H σ ρ) (e : Same H H') : Same (gh F ρ H) (gh F ρ H') := mask_same e
/-- a slot gets a datum -/
theorem Stt.set (S : Stt F H σ ρ) (i : Nat) {s : Sl} (hs : s.ad = []) (q : SlotOk (gh F ρ H) H (some v) s) : Stt F H (σ.set i (some v)) (ρ.set i s) := by
  have sub : ∀ a, a ∈ os (ρ.set i s) → a ∈ os ρ := fun a m => (os_set_sub m).elim (fun z => by rw [hs] at z; cases z) id
  have g : Same (gh F ρ H) (gh F (ρ.set i s) H) := mask_sub fun a m => (List.mem_append.mp m).elim (List.mem_append_left _) fun z => List.mem_append_right _ (sub a z)
  exact ⟨S.hd, S.fr, S.dm, os_set_out S.nd hs, fun a m => S.nw a (sub a m), fun a m => S.ap a (sub a m), (S.sl.set i q).up g fun _ _ _ e => e⟩
theorem Stt.gset (S : Stt F H σ ρ) (i : Nat) {s : Sl} (hs : s.ad = []) : Same (gh F ρ H) (gh F (ρ.set i s) H) :=
  mask_sub fun a m => (List.mem_append.mp m).elim (List.mem_append_left _) fun z => List.mem_append_right _ ((os_set_sub z).elim (fun z => by rw [hs] at z; cases z) id)
/-- a slot is forgotten, or what it owns becomes a datum -/
theorem Stt.wk (S : Stt F H σ ρ) (i : Nat) {s : Sl} (hs : s.ad = []) (q : ∀ x, σ[i]? = some x → SlotOk (gh F (ρ.set i s) H) H x s) : Stt F H σ (ρ.set i s) := by
  have sub : ∀ a, a ∈ os (ρ.set i s) → a ∈ os ρ := fun a m => (os_set_sub m).elim (fun z => by rw [hs] at z; cases z) id
  have g := S.gset i (ρ := ρ) hs
  have h2 := S.sl.up (G' := gh F (ρ.set i s) H) (H' := H) g fun _ _ _ e => e
  refine ⟨S.hd, S.fr, S.dm, os_set_out S.nd hs, fun a m => S.nw a (sub a m), fun a m => S.ap a (sub a m), ?_⟩
  by_cases hi : i < σ.length
  · have q' := q (σ[i]) (List.getElem?_eq_getElem hi)
    have h3 := h2.set i q'
    rw [List.set_getElem_self] at h3
    exact h3
  · have l : σ.length = ρ.length := by
      have : ∀ {σ : L2.St} {ρ : List Sl} {G H : Hp}, SlotsOk G H σ ρ → σ.length = ρ.length := by
        intro σ
        induction σ with
        | nil =>
          intro ρ G H h
          cases ρ with
          | nil => rfl
          | cons _ _ => exact h.elim
        | cons x xs ih =>
          intro ρ G H h
          cases ρ with
          | nil => exact h.elim
          | cons _ _ => rw [List.length_cons, List.length_cons, ih h.2]
      exact this S.sl
    have e : ρ.set i s = ρ := List.set_eq_of_length_le (by omega)
    rw [e]
    exact S.sl
theorem Stt.len (S : Stt F H σ ρ) : σ.length = ρ.length := by
  have : ∀ {σ : L2.St} {ρ : List Sl} {G H : Hp}, SlotsOk G H σ ρ → σ.length = ρ.length := by
    intro σ
    induction σ with
    | nil =>
      intro ρ G H h
      cases ρ with
      | nil => rfl
      | cons _ _ => exact h.elim
    | cons x xs ih =>
      intro ρ G H h
      cases ρ with
      | nil => exact h.elim
      | cons _ _ => rw [List.length_cons, List.length_cons, ih h.2]
  exact this S.sl
/-- an own list becomes a datum -/
theorem Stt.freeze {ds : List PyData} (S : Stt F H σ ρ) (e : ρ[i]? = some (.own a ds)) : Stt F H σ (ρ.set i (.dat (.list ds))) := by
  refine S.wk i rfl fun x hx => ?_
  obtain ⟨y, hy, e1, vs, q, r⟩ := S.sl.get e
  rw [hy] at hx; cases hx
  have g := S.gset (s := .dat (.list ds)) i (ρ := ρ) rfl
  refine ⟨_, e1, .lst ?_ (RpAll.up g ds vs r)⟩
  refine (mask_out fun m => ?_).trans q
  rcases List.mem_append.mp m with m | m
  · exact S.ap a (os_at e (List.mem_singleton.mpr rfl)) m
  · exact os_gone S.nd e (List.mem_singleton.mpr rfl) rfl m
/-- a slot gets a new object of one's own -/
theorem Stt.new (S : Stt F H σ ρ) (i : Nat) {s : Sl} (hn : H a = none) (e : Same H H') (hs : s.ad = [a]) (ha : H' a ≠ none) (q : SlotOk (mask (a :: (F.hd ++ os ρ)) H') H' (some v) s) : Stt F H' (σ.set i (some v)) (ρ.set i s) := by
  have S1 := S.ext e
  have no : a ∉ os ρ := fun m => S.sl.ad a m hn
  have sub : ∀ b, b ∈ os (ρ.set i s) → b = a ∨ b ∈ os ρ := fun b m => (os_set_sub m).elim (fun z => .inl (by rw [hs] at z; exact List.mem_singleton.mp z)) .inr
  have g1 : Same (mask (a :: (F.hd ++ os ρ)) H') (gh F (ρ.set i s) H') := mask_sub fun b m => (List.mem_append.mp m).elim (fun z => List.mem_cons_of_mem _ (List.mem_append_left _ z)) fun z =>
    (sub b z).elim (fun y => by rw [y]; exact List.mem_cons_self) fun y => List.mem_cons_of_mem _ (List.mem_append_right _ y)
  have g2 : Same (gh F ρ H) (mask (a :: (F.hd ++ os ρ)) H') := mask_mono (fun b m hb => (List.mem_cons.mp m).elim (fun z => absurd (z ▸ hn) hb) id) fun b o _ q => e b o q
  refine ⟨S1.hd, S1.fr, S1.dm, os_set_nodup S.nd (by rw [hs]; simp) (fun b m => by rw [hs] at m; rw [List.mem_singleton.mp m]; exact no), fun b m => ?_, fun b m => (sub b m).elim (fun z hb => S.hd b hb (z ▸ hn)) (S.ap b), ?_⟩
  · rcases sub b m with z | z
    · right
      cases h0 : F.H0 b with
      | none => rfl
      | some o => exact absurd (z ▸ hn) (S.dm b (by rw [h0]; exact fun z => nomatch z))
    · exact S.nw b z
  · exact ((S.sl.up (H' := H') g2 fun b _ o q => e b o q).set i q).up g1 fun _ _ _ e => e
theorem Stt.gnew (S : Stt F H σ ρ) (i : Nat) {s : Sl} (hn : H a = none) (e : Same H H') (hs : s.ad = [a]) : Same (gh F ρ H) (gh F (ρ.set i s) H') :=
  mask_mono (fun b m hb => (List.mem_append.mp m).elim (List.mem_append_left _) fun z => (os_set_sub z).elim (fun y => by rw [hs] at y; exact absurd ((List.mem_singleton.mp y) ▸ hn) hb) (List.mem_append_right _)) fun b o _ q => e b o q
/-- an own object is written -/
theorem Stt.wr (S : Stt F H σ ρ) {s t : Sl} {o : HO} (e : ρ[i]? = some t) (ht : t.ad = [a]) (hs : s.ad = [a]) (hx : ∀ x, SlotOk (gh F ρ H) H x t → SlotOk (gh F ρ (upd H a o)) (upd H a o) x s) : Stt F (upd H a o) σ (ρ.set i s) := by
  have eo : os (ρ.set i s) = os ρ := os_set_same e (by rw [hs, ht])
  have ma : a ∈ os ρ := os_at e (by rw [ht]; exact List.mem_singleton.mpr rfl)
  have ge : gh F ρ (upd H a o) = gh F ρ H := by
    funext b
    by_cases hb : b ∈ F.hd ++ os ρ
    · exact (mask_in hb).trans (mask_in hb).symm
    · exact (mask_out hb).trans ((upd_ne fun z => hb (by rw [z]; exact List.mem_append_right _ ma)).trans (mask_out hb).symm)
  have up : ∀ b, H b ≠ none → upd H a o b ≠ none := fun b h => by
    by_cases z : b = a
    · rw [z, upd_same]; exact fun z => nomatch z
    · rw [upd_ne z]; exact h
  refine ⟨fun b m => up b (S.hd b m), fun b u n q => ?_, fun b h => up b (S.dm b h), by rw [eo]; exact S.nd, fun b m => S.nw b (by rw [← eo]; exact m), fun b m => S.ap b (by rw [← eo]; exact m), ?_⟩
  · have nb : b ≠ a := fun z => by
      rcases S.nw a ma with y | y
      · exact n (by rw [z]; exact y)
      · rw [z, y] at q; cases q
    rw [upd_ne nb]
    exact S.fr b u n q
  · rw [show gh F (ρ.set i s) (upd H a o) = gh F ρ (upd H a o) by unfold gh; rw [eo]]
    rw [ge] at hx ⊢
    have go : ∀ {ρ' : List Sl} {σ : L2.St} {ρ : List Sl} {i : Nat}, SlotsOk (gh F ρ' H) H σ ρ → (os ρ).Nodup → ρ[i]? = some t → (∀ x, SlotOk (gh F ρ' H) H x t → SlotOk (gh F ρ' H) (upd H a o) x s) → SlotsOk (gh F ρ' H) (upd H a o) σ (ρ.set i s) := by
      intro ρ' σ
      induction σ with
      | nil =>
        intro ρ i h nd e hx
        cases ρ with
        | nil => simp at e
        | cons _ _ => exact h.elim
      | cons x xs ih =>
        intro ρ i h nd e hx
        cases ρ with
        | nil => exact h.elim
        | cons u r =>
          have other : ∀ {σ : L2.St} {ρ : List Sl} , SlotsOk (gh F ρ' H) H σ ρ → a ∉ os ρ → SlotsOk (gh F ρ' H) (upd H a o) σ ρ := fun {σ ρ} h n =>
            h.up (fun _ _ e => e) fun b m u q => by rw [upd_ne fun z => n (by rw [← z]; exact m)]; exact q
          obtain ⟨h1, h2, h3⟩ := List.nodup_append.mp nd
          cases i with
          | zero =>
            rw [List.getElem?_cons_zero] at e; cases e
            exact ⟨hx x h.1, other h.2 fun m => h3 a (by rw [ht]; exact List.mem_singleton.mpr rfl) a m rfl⟩
          | succ i =>
            rw [List.getElem?_cons_succ] at e
            have na : a ∉ u.ad := fun m => h3 a m a (os_at e (by rw [ht]; exact List.mem_singleton.mpr rfl)) rfl
            exact ⟨h.1.up (fun _ _ e => e) fun b m u q => by rw [upd_ne fun z => na (by rw [← z]; exact m)]; exact q, ih h.2 h2 e hx⟩
    exact go (ρ' := ρ) S.sl S.nd e hx
theorem Stt.gwr (S : Stt F H σ ρ) {s t : Sl} {o : HO} (e : ρ[i]? = some t) (ht : t.ad = [a]) (hs : s.ad = [a]) : Same (gh F ρ H) (gh F (ρ.set i s) (upd H a o)) := by
  have eo : os (ρ.set i s) = os ρ := os_set_same e (by rw [hs, ht])
  have ma : a ∈ os ρ := os_at e (by rw [ht]; exact List.mem_singleton.mpr rfl)
  intro b u q
  obtain ⟨h1, h2⟩ := mask_some q
  show mask (F.hd ++ os (ρ.set i s)) (upd H a o) b = some u
  rw [eo, mask_out h1, upd_ne fun z => h1 (by rw [z]; exact List.mem_append_right _ ma)]
  exact h2
end
end DL

namespace DL
open PySem PySem.Spec PyProof.Rows L2

/-! ### 4. the judgements over data -/
def KE (F : Fm) (σ : L2.St) (G : Hp) (Φ : PyData → List Sl → Prop) (Q : VK) : Prop :=
  ∀ v H' d ρ', Φ d ρ' → Stt F H' σ ρ' → Same G (gh F ρ' H') → Rp (gh F ρ' H') v d → Q v H'
def KT (F : Fm) (σ : L2.St) (G : Hp) (Φ : Bool → List Sl → Prop) (Q : Bool → Hp → Prop) : Prop :=
  ∀ b H' ρ', Φ b ρ' → Stt F H' σ ρ' → Same G (gh F ρ' H') → Q b H'
def KA (F : Fm) (σ : L2.St) (G : Hp) (Φ : List PyData → List Sl → Prop) (Q : List V → Hp → Prop) : Prop :=
  ∀ vs H' ds ρ', Φ ds ρ' → Stt F H' σ ρ' → Same G (gh F ρ' H') → RpAll (gh F ρ' H') vs ds → Q vs H'
def EE (X : Cx) (ρ : List Sl) (e : Expr) (Φ : PyData → List Sl → Prop) : Prop :=
  ∀ (F : Fm) (σ : L2.St) (H : Hp) (Q : VK), Stt F H σ ρ → KE F σ (gh F ρ H) Φ Q → tW X e σ H Q
def ET (X : Cx) (ρ : List Sl) (e : Expr) (Φ : Bool → List Sl → Prop) : Prop :=
  ∀ (F : Fm) (σ : L2.St) (H : Hp) (Q : Bool → Hp → Prop), Stt F H σ ρ → KT F σ (gh F ρ H) Φ Q → tT X e σ H Q
def EW (X : Cx) (ρ : List Sl) (e : Expr) (Φ : Bool → List Sl → Prop) : Prop :=
  ∀ (F : Fm) (σ : L2.St) (H : Hp) (Q : Bool → Hp → Prop), Stt F H σ ρ → KT F σ (gh F ρ H) Φ Q → tWW X e σ H Q
def EA (X : Cx) (ρ : List Sl) (es : List Expr) (Φ : List PyData → List Sl → Prop) : Prop :=
  ∀ (F : Fm) (σ : L2.St) (H : Hp) (Q : List V → Hp → Prop), Stt F H σ ρ → KA F σ (gh F ρ H) Φ Q → tA X es σ H Q
/-- js: the slots that the target stores -/
def GG (X : Cx) (ρ : List Sl) (tg : Expr) (d : PyData) (js : List Nat) (Φ : List Sl → Prop) : Prop :=
  ∀ (F : Fm) (σ : L2.St) (H : Hp) (v : V) (Q : L2.St → Hp → Prop), Stt F H σ ρ → Rp (gh F ρ H) v d → (∀ σ' ρ', Φ ρ' → Stt F H σ' ρ' → Same (gh F ρ H) (gh F ρ' H) → (σ'.length = σ.length ∧ ∀ i, i ∉ js → σ'[i]? = σ[i]?) → Q σ' H) → tG X tg v σ H Q
def GGs (X : Cx) (ρ : List Sl) (ts : List Expr) (ds : List PyData) (js : List Nat) (Φ : List Sl → Prop) : Prop :=
  ∀ (F : Fm) (σ : L2.St) (H : Hp) (vs : List V) (Q : L2.St → Hp → Prop), Stt F H σ ρ → RpAll (gh F ρ H) vs ds → (∀ σ' ρ', Φ ρ' → Stt F H σ' ρ' → Same (gh F ρ H) (gh F ρ' H) → (σ'.length = σ.length ∧ ∀ i, i ∉ js → σ'[i]? = σ[i]?) → Q σ' H) → tGs X ts vs σ H Q
structure DE where
  nx : List Sl → Prop
  rt : PyData → List Sl → Prop
  bk : List Sl → Prop := fun _ => False
  ct : List Sl → Prop := fun _ => False
structure KD (F : Fm) (G : Hp) (D : DE) (E : Ends) : Prop where
  nx : ∀ σ' H' ρ', D.nx ρ' → Stt F H' σ' ρ' → Same G (gh F ρ' H') → E.nx σ' H'
  rt : ∀ v σ' H' d ρ', D.rt d ρ' → Stt F H' σ' ρ' → Same G (gh F ρ' H') → Rp (gh F ρ' H') v d → E.rt v H'
  bk : ∀ σ' H' ρ', D.bk ρ' → Stt F H' σ' ρ' → Same G (gh F ρ' H') → E.bk σ' H'
  ct : ∀ σ' H' ρ', D.ct ρ' → Stt F H' σ' ρ' → Same G (gh F ρ' H') → E.ct σ' H'
def SS (X : Cx) (ρ : List Sl) (st : Stmt) (D : DE) : Prop :=
  ∀ (F : Fm) (σ : L2.St) (H : Hp) (E : Ends), Stt F H σ ρ → KD F (gh F ρ H) D E → tS X st E σ H
def BB (X : Cx) (ρ : List Sl) (sts : List Stmt) (D : DE) : Prop :=
  ∀ (F : Fm) (σ : L2.St) (H : Hp) (E : Ends), Stt F H σ ρ → KD F (gh F ρ H) D E → tB X sts E σ H
theorem KD.to {F : Fm} {G G' : Hp} {D : DE} {E : Ends} (k : KD F G D E) (g : Same G G') : KD F G' D E :=
  ⟨fun σ H ρ a b c => k.nx σ H ρ a b (g.trans c), fun v σ H d ρ a b c r => k.rt v σ H d ρ a b (g.trans c) r, fun σ H ρ a b c => k.bk σ H ρ a b (g.trans c), fun σ H ρ a b c => k.ct σ H ρ a b (g.trans c)⟩
/-- what every context of ours has -/
def bNames : List Str := ["len", "range", "zip", "enumerate", "sum", "min", "max", "all", "isinstance", "tuple", "list", "dict", "sorted", "int", "bool", "str"]
structure CK (X : Cx) : Prop where
  calm : X.calm = true
  nd : X.N.Nodup
  hu : X.A.units + 100 < cLine
  bt : ∀ x ∈ bNames, X.mg x = none
section
variable {X : Cx} {ρ : List Sl} {e a b c : Expr} {pos : Pos} {Φ : PyData → List Sl → Prop} {Ψ : Bool → List Sl → Prop} {D : DE}
theorem EE.mono {Φ' : PyData → List Sl → Prop} (h : EE X ρ e Φ) (m : ∀ d ρ', Φ d ρ' → Φ' d ρ') : EE X ρ e Φ' := fun F σ H Q S k => h F σ H Q S fun v H' d ρ' a => k v H' d ρ' (m d ρ' a)
theorem ET.mono {Ψ' : Bool → List Sl → Prop} (h : ET X ρ e Ψ) (m : ∀ d ρ', Ψ d ρ' → Ψ' d ρ') : ET X ρ e Ψ' := fun F σ H Q S k => h F σ H Q S fun v H' ρ' a => k v H' ρ' (m v ρ' a)
theorem BB.mono {sts : List Stmt} {D' : DE} (h : BB X ρ sts D) (h1 : ∀ ρ', D.nx ρ' → D'.nx ρ') (h2 : ∀ d ρ', D.rt d ρ' → D'.rt d ρ') (h3 : ∀ ρ', D.bk ρ' → D'.bk ρ') (h4 : ∀ ρ', D.ct ρ' → D'.ct ρ') : BB X ρ sts D' :=
  fun F σ H E S k => h F σ H E S ⟨fun σ H ρ a => k.nx σ H ρ (h1 ρ a), fun v σ H d ρ a => k.rt v σ H d ρ (h2 d ρ a), fun σ H ρ a => k.bk σ H ρ (h3 ρ a), fun σ H ρ a => k.ct σ H ρ (h4 ρ a)⟩

/-! ### names and constants -/
theorem ee_var (i : Nat) {x : Str} {d : PyData} (hs : ρ[i]? = some (.dat d)) (q : Φ d ρ) (hN : X.N[i]? = some x := by rfl) (hv : Vis X.env.scope x := by first | exact Or.inl rfl | exact Or.inr (Or.inl rfl) | exact Or.inr (Or.inr rfl))
    (hd : (x == ("__debug__" : Str)) = false := by decide) (hcd : (x == ("__classdict__" : Str)) = false := by decide) : EE X ρ (.Name x pos) Φ := fun F σ H Q S k => by
  obtain ⟨y, e1, v, e2, r⟩ := S.sl.get hs
  subst e2
  exact ofPE (pe_var hN hv hd hcd) ⟨v, e1, k v H d ρ q S (Same.refl _) r⟩
/-- a name whose slot is told by a value -/
theorem tw_var (i : Nat) {x : Str} {v : V} {σ : L2.St} {H : Hp} {Q : VK} (hs : σ[i]? = some (some v)) (q : Q v H) (hN : X.N[i]? = some x := by rfl) (hv : Vis X.env.scope x := by first | exact Or.inl rfl | exact Or.inr (Or.inl rfl) | exact Or.inr (Or.inr rfl))
    (hd : (x == ("__debug__" : Str)) = false := by decide) (hcd : (x == ("__classdict__" : Str)) = false := by decide) : tW X (.Name x pos) σ H Q := ofPE (pe_var hN hv hd hcd) ⟨v, hs, q⟩
theorem ee_int {i : Int} {j} (q : Φ (.int i) ρ) : EE X ρ (.Constant (.int i) j pos) Φ := fun F σ H Q S k => ofPE pe_int (k _ H _ ρ q S (Same.refl _) (.int i))
theorem ee_bl {i : Bool} {j} (q : Φ (.bool i) ρ) : EE X ρ (.Constant (.bool i) j pos) Φ := fun F σ H Q S k => ofPE pe_bl (k _ H _ ρ q S (Same.refl _) (.bl i))
theorem ee_non {j} (q : Φ .none ρ) : EE X ρ (.Constant .none j pos) Φ := fun F σ H Q S k => ofPE pe_non (k _ H _ ρ q S (Same.refl _) .non)
theorem ee_str {i : Str} {j} (q : Φ (.str i) ρ) : EE X ρ (.Constant (.str i) j pos) Φ := fun F σ H Q S k => ofPE pe_str (k _ H _ ρ q S (Same.refl _) (.str i))
theorem ee_globI {x : Str} {i : Int} {t : Tok} (hm : X.mg x = some (.int i t)) (q : Φ (.int i) ρ) (hg : Gl X x := by rfl) (hd : (x == ("__debug__" : Str)) = false := by decide) : EE X ρ (.Name x pos) Φ :=
  fun F σ H Q S k => ofPE (pe_glob (v := .int i) hg hm ⟨t, rfl⟩ hd) (k _ H _ ρ q S (Same.refl _) (.int i))

/-! ### operators -/
def R2D (r : R2) (da db : PyData) (ρ : List Sl) (Φ : PyData → List Sl → Prop) : Prop :=
  ∀ (F : Fm) (σ : L2.St) (H : Hp) (x y : V) (Q : VK), Stt F H σ ρ → Rp (gh F ρ H) x da → Rp (gh F ρ H) y db → KE F σ (gh F ρ H) Φ Q → r x y H Q
theorem KE.to {F : Fm} {σ : L2.St} {G G' : Hp} {Q : VK} (k : KE F σ G Φ Q) (g : Same G G') : KE F σ G' Φ Q := fun v H d ρ a b c r => k v H d ρ a b (g.trans c) r
theorem KT.to {F : Fm} {σ : L2.St} {G G' : Hp} {Q : Bool → Hp → Prop} (k : KT F σ G Ψ Q) (g : Same G G') : KT F σ G' Ψ Q := fun v H ρ a b c => k v H ρ a b (g.trans c)
theorem KA.to {F : Fm} {σ : L2.St} {G G' : Hp} {Φ : List PyData → List Sl → Prop} {Q : List V → Hp → Prop} (k : KA F σ G Φ Q) (g : Same G G') : KA F σ G' Φ Q := fun v H d ρ a b c r => k v H d ρ a b (g.trans c) r
/-- two expressions in a row -/
theorem two {F : Fm} {σ : L2.St} {H : Hp} {Θ : PyData → PyData → List Sl → Prop} (h : EE X ρ a fun da ρ1 => EE X ρ1 b fun db ρ2 => Θ da db ρ2) (S : Stt F H σ ρ) {R : V → V → Hp → Prop}
    (hR : ∀ x y H' da db ρ', Θ da db ρ' → Stt F H' σ ρ' → Same (gh F ρ H) (gh F ρ' H') → Rp (gh F ρ' H') x da → Rp (gh F ρ' H') y db → R x y H') : tW X a σ H fun x H1 => tW X b σ H1 fun y H2 => R x y H2 :=
  h F σ H _ S fun x H1 da ρ1 h1 S1 g1 r1 => h1 F σ H1 _ S1 fun y H2 db ρ2 h2 S2 g2 r2 => hR x y H2 da db ρ2 h2 S2 (g1.trans g2) (Rp.up g2 da x r1) r2
theorem ee_op {op : Operator} {r : R2} (ho : OpR X (binaryOp op) r) (h : EE X ρ a fun da ρ1 => EE X ρ1 b fun db ρ2 => R2D r da db ρ2 Φ) : EE X ρ (.BinOp a op b pos) Φ := fun F σ H Q S k =>
  ofPE (pe_op ho peW peW) (two h S fun x y H2 da db ρ2 h2 S2 g r1 r2 => h2 F σ H2 x y Q S2 r1 r2 (k.to g))
theorem OpR.or {f : Value → Value → Sem Value} {r r' : R2} (h : OpR X f r) (h' : OpR X f r') : OpR X f (fun x y H Q => r x y H Q ∨ r' x y H Q) := fun pins s σ H x y v u Q I rx ry q =>
  q.elim (h pins s σ H x y v u Q I rx ry) (h' pins s σ H x y v u Q I rx ry)
theorem big_le {n : Nat} (h : n ≤ 1000000) : n ≤ sizeLine := Nat.le_trans h (by decide)
theorem big_lt {n : Nat} (h : n < 1000000) : n < sizeLine := Nat.lt_of_lt_of_le h (by decide)
/-- a new object that is a datum from the start -/
theorem KE.new {F : Fm} {σ : L2.St} {H : Hp} {Q : VK} {p : Addr} {o : HO} {d : PyData} (k : KE F σ (gh F ρ H) Φ Q) (S : Stt F H σ ρ) (hp : H p = none) (q : Φ d ρ) (r : (gh F ρ (upd H p o)) p = some o → Rp (gh F ρ (upd H p o)) (.ref p) d) : Q (.ref p) (upd H p o) := by
  have e := same_new (o := o) hp
  refine k _ _ d ρ q (S.ext e) (mask_same e) (r ?_)
  exact (mask_out fun m => S.ad p m hp).trans upd_same
theorem KE.same {F : Fm} {σ : L2.St} {H : Hp} {Q : VK} {v : V} {d : PyData} (k : KE F σ (gh F ρ H) Φ Q) (S : Stt F H σ ρ) (q : Φ d ρ) (r : Rp (gh F ρ H) v d) : Q v H := k v H d ρ q S (Same.refl _) r

@[reducible] def addK : PyData → PyData → (PyData → Prop) → Prop
  | .int i, .int j, k => k (.int (i + j))
  | .list xs, .list ys, k => xs.length + ys.length ≤ 1000000 ∧ k (.list (xs ++ ys))
  | .tuple xs, .tuple ys, k => xs.length + ys.length ≤ 1000000 ∧ k (.tuple (xs ++ ys))
  | _, _, _ => False
theorem ee_add (h : EE X ρ a fun da ρ1 => EE X ρ1 b fun db ρ2 => addK da db fun d => Φ d ρ2) : EE X ρ (.BinOp a .Add b pos) Φ := by
  refine ee_op (OpR.or op_add (OpR.or op_cat op_catA)) (h.mono fun da ρ1 h1 => h1.mono fun db ρ2 h2 => fun F σ H x y Q S rx ry k => ?_)
  cases da <;> cases db <;> first | exact h2.elim | skip
  · cases rx
    cases ry
    exact .inl ⟨_, _, rfl, rfl, k.same S h2 (.int _)⟩
  · cases rx with
    | lst e1 r1 =>
      cases ry with
      | lst e2 r2 =>
        refine .inr (.inl ⟨_, _, _, _, rfl, rfl, mask_le _ _ e1, mask_le _ _ e2, big_le (by rw [r1.length, r2.length]; exact h2.1), fun p hp => ?_⟩)
        exact k.new S hp h2.2 fun e => .lst e ((RpAll.up (mask_same (same_new hp)) _ _ r1).app (RpAll.up (mask_same (same_new hp)) _ _ r2))
  · cases rx with
    | tup e1 r1 =>
      cases ry with
      | tup e2 r2 =>
        have l1 := r1.length
        have l2 := r2.length
        refine .inr (.inr ⟨_, _, _, _, rfl, rfl, .inl (same_rd mask_le e1), .inl (same_rd mask_le e2), big_le (by rw [l1, l2]; exact h2.1), fun z => ?_, fun _ z => ?_, fun _ _ p hp => ?_⟩)
        · subst z
          cases r1
          exact k.same S h2.2 (.tup e2 r2)
        · subst z
          cases r2
          have h3 := h2.2
          simp only [List.append_nil] at h3
          exact k.same S h3 (.tup e1 r1)
        · exact k.new S hp h2.2 fun e => .tup (.inl e) ((RpAll.up (mask_same (same_new hp)) _ _ r1).app (RpAll.up (mask_same (same_new hp)) _ _ r2))
@[reducible] def intK (f : Int → Int → (PyData → Prop) → Prop) : PyData → PyData → (PyData → Prop) → Prop
  | .int i, .int j, k => f i j k
  | _, _, _ => False
theorem intK_ints {f : Int → Int → (PyData → Prop) → Prop} {da db : PyData} {k : PyData → Prop} (h : intK f da db k) : ∃ i j, da = .int i ∧ db = .int j ∧ f i j k := by
  cases da <;> cases db <;> first | exact h.elim | exact ⟨_, _, rfl, rfl, h⟩
theorem ee_sub (h : EE X ρ a fun da ρ1 => EE X ρ1 b fun db ρ2 => intK (fun i j k => k (.int (i - j))) da db fun d => Φ d ρ2) : EE X ρ (.BinOp a .Sub b pos) Φ := by
  refine ee_op op_sub (h.mono fun da ρ1 h1 => h1.mono fun db ρ2 h2 => fun F σ H x y Q S rx ry k => ?_)
  obtain ⟨i, j, rfl, rfl, h2⟩ := intK_ints h2
  cases rx
  cases ry
  exact ⟨_, _, rfl, rfl, k.same S h2 (.int _)⟩
@[reducible] def mulK : PyData → PyData → (PyData → Prop) → Prop
  | .int i, .int j, k => CMul i j ∧ k (.int (i * j))
  | .list xs, .int j, k => (j ≤ 1000000 ∧ -1000000 ≤ j ∧ xs.length * j.toNat ≤ 1000000) ∧ k (.list (List.replicate j.toNat xs).flatten)
  | .tuple xs, .int j, k => (xs ≠ [] ∧ 2 ≤ j ∧ j ≤ 1000 ∧ xs.length ≤ 1000) ∧ k (.tuple (List.replicate j.toNat xs).flatten)
  | _, _, _ => False
theorem ee_mul (h : EE X ρ a fun da ρ1 => EE X ρ1 b fun db ρ2 => mulK da db fun d => Φ d ρ2) : EE X ρ (.BinOp a .Mult b pos) Φ := by
  refine ee_op (OpR.or op_mul (OpR.or op_rep op_repT)) (h.mono fun da ρ1 h1 => h1.mono fun db ρ2 h2 => fun F σ H x y Q S rx ry k => ?_)
  cases da <;> cases db <;> first | exact h2.elim | skip
  · cases rx
    cases ry
    exact .inl ⟨_, _, rfl, rfl, h2.1, k.same S h2.2 (.int _)⟩
  · cases ry
    cases rx with
    | lst e1 r1 =>
      obtain ⟨⟨h3, h4, h5⟩, h6⟩ := h2
      refine .inr (.inl ⟨_, _, _, rfl, rfl, mask_le _ _ e1, by omega, by omega, big_le (by rw [r1.length]; exact h5), fun p hp => ?_⟩)
      exact k.new S hp h6 fun e => .lst e (RpAll.repF (RpAll.up (mask_same (same_new hp)) _ _ r1) _)
  · cases ry
    cases rx with
    | tup e1 r1 =>
      obtain ⟨⟨h3, h4, h5, h7⟩, h6⟩ := h2
      have l1 := r1.length
      refine .inr (.inr ⟨_, _, _, rfl, rfl, .inl (same_rd mask_le e1), fun z => h3 (List.eq_nil_of_length_eq_zero (by rw [← l1, z]; rfl)), h4, h5, by rw [l1]; exact h7, fun p hp => ?_⟩)
      exact k.new S hp h6 fun e => .tup (.inl e) (RpAll.repF (RpAll.up (mask_same (same_new hp)) _ _ r1) _)
theorem ee_mod (h : EE X ρ a fun da ρ1 => EE X ρ1 b fun db ρ2 => intK (fun i j k => 0 < j ∧ k (.int (i % j))) da db fun d => Φ d ρ2) : EE X ρ (.BinOp a .Mod b pos) Φ := by
  refine ee_op op_mod (h.mono fun da ρ1 h1 => h1.mono fun db ρ2 h2 => fun F σ H x y Q S rx ry k => ?_)
  obtain ⟨i, j, rfl, rfl, h2⟩ := intK_ints h2
  cases rx
  cases ry
  exact ⟨_, _, rfl, rfl, h2.1, k.same S h2.2 (.int _)⟩
theorem ee_fdiv (h : EE X ρ a fun da ρ1 => EE X ρ1 b fun db ρ2 => intK (fun i j k => (0 < j ∧ j < 1073741824) ∧ k (.int (i / j))) da db fun d => Φ d ρ2) : EE X ρ (.BinOp a .FloorDiv b pos) Φ := by
  refine ee_op op_fdiv (h.mono fun da ρ1 h1 => h1.mono fun db ρ2 h2 => fun F σ H x y Q S rx ry k => ?_)
  obtain ⟨i, j, rfl, rfl, h2⟩ := intK_ints h2
  cases rx
  cases ry
  exact ⟨_, _, rfl, rfl, h2.1, k.same S h2.2 (.int _)⟩
theorem ee_pow (h : EE X ρ a fun da ρ1 => EE X ρ1 b fun db ρ2 => intK (fun i j k => (0 ≤ j ∧ j ≤ 1000000 ∧ i.natAbs < 2 ^ 64) ∧ k (.int (i ^ j.toNat))) da db fun d => Φ d ρ2) : EE X ρ (.BinOp a .Pow b pos) Φ := by
  refine ee_op op_pow (h.mono fun da ρ1 h1 => h1.mono fun db ρ2 h2 => fun F σ H x y Q S rx ry k => ?_)
  obtain ⟨i, j, rfl, rfl, h2⟩ := intK_ints h2
  cases rx
  cases ry
  exact ⟨_, _, rfl, rfl, h2.1, k.same S h2.2 (.int _)⟩
theorem ee_neg (h : EE X ρ a fun da ρ1 => ∃ i, da = .int i ∧ Φ (.int (-i)) ρ1) : EE X ρ (.UnaryOp .USub a pos) Φ := fun F σ H Q S k =>
  ofPE (pe_un un_neg peW) (h F σ H _ S fun v H' d ρ' ⟨i, e, q⟩ S' g r => by
    subst e
    cases r
    exact ⟨i, rfl, k _ H' _ ρ' q S' g (.int _)⟩)

/-! ### comparisons -/
@[reducible] def eqK : PyData → PyData → (Bool → Prop) → Prop
  | .int i, .int j, k => k (decide (i = j))
  | .bool i, .bool j, k => k (decide (i = j))
  | d, e, k => (SeqAt.shaped d = true ∧ SeqAt.shaped e = true) ∧ k (PyData.eqv d e)
@[reducible] def cmpK (f : Int → Int → Bool) : PyData → PyData → (Bool → Prop) → Prop
  | .int i, .int j, k => k (f i j)
  | _, _, _ => False
/-- what a comparison gives, over data -/
def BR (X : Cx) (op : CmpOp) (da db : PyData) (k : Bool → Prop) : Prop :=
  ∀ (F : Fm) (σ : L2.St) (H : Hp) (ρ : List Sl) (x y : V), Stt F H σ ρ → Rp (gh F ρ H) x da → Rp (gh F ρ H) y db → ∃ r : R2, OpR X (compareOp op) r ∧ ∀ Q : VK, (∀ c, k c → Q (.bl c) H) → r x y H Q
theorem dec_iV {i j : Int} : decide (V.int i = V.int j) = decide (i = j) := by simp
theorem dec_bV {i j : Bool} : decide (V.bl i = V.bl j) = decide (i = j) := by simp
theorem br_eq (ck : CK X) {da db : PyData} {k : Bool → Prop} (h : eqK da db k) : BR X .Eq da db k := fun F σ H ρ x y S rx ry => by
  refine ⟨_, OpR.or op_eq (op_eqD (by have := ck.hu; omega)), fun Q q => ?_⟩
  have go : (SeqAt.shaped da = true ∧ SeqAt.shaped db = true) ∧ k (PyData.eqv da db) → (rEqD X.K x y H Q) := fun h => ⟨da, db, (Rp.up mask_le _ _ rx).dp (lay_of h.1.1), (Rp.up mask_le _ _ ry).dp (lay_of h.1.2), h.1.1, h.1.2, q _ h.2⟩
  cases da <;> cases db <;> first
    | exact .inr (go h)
    | (cases rx; cases ry; refine .inl ⟨rfl, ?_⟩; have h' := q _ h; first | (rw [dec_iV]; exact h') | (rw [dec_bV]; exact h'))
theorem br_ne (ck : CK X) {da db : PyData} {k : Bool → Prop} (h : eqK da db fun c => k (!c)) : BR X .NotEq da db k := fun F σ H ρ x y S rx ry => by
  refine ⟨_, OpR.or op_ne (op_neD (by have := ck.hu; omega)), fun Q q => ?_⟩
  have go : (SeqAt.shaped da = true ∧ SeqAt.shaped db = true) ∧ k (!PyData.eqv da db) → (rNeD X.K x y H Q) := fun h => ⟨da, db, (Rp.up mask_le _ _ rx).dp (lay_of h.1.1), (Rp.up mask_le _ _ ry).dp (lay_of h.1.2), h.1.1, h.1.2, q _ h.2⟩
  cases da <;> cases db <;> first
    | exact .inr (go h)
    | (cases rx; cases ry; refine .inl ⟨rfl, ?_⟩; have h' := q _ h; first | (rw [dec_iV]; exact h') | (rw [dec_bV]; exact h'))
theorem br_ints {op : CmpOp} {f : Int → Int → Bool} (ho : OpR X (compareOp op) (rI0 fun i j => .bl (f i j))) {da db : PyData} {k : Bool → Prop} (h : cmpK f da db k) : BR X op da db k := fun F σ H ρ x y S rx ry => by
  refine ⟨_, ho, fun Q q => ?_⟩
  cases da <;> cases db <;> first | exact h.elim | skip
  cases rx
  cases ry
  exact ⟨_, _, rfl, rfl, q _ h⟩
theorem br_lt {da db : PyData} {k : Bool → Prop} (h : cmpK (fun i j => decide (i < j)) da db k) : BR X .Lt da db k := br_ints op_lt h
theorem br_le {da db : PyData} {k : Bool → Prop} (h : cmpK (fun i j => decide (i ≤ j)) da db k) : BR X .LtE da db k := br_ints op_le h
theorem br_gt {da db : PyData} {k : Bool → Prop} (h : cmpK (fun i j => decide (j < i)) da db k) : BR X .Gt da db k := br_ints op_gt h
theorem br_ge {da db : PyData} {k : Bool → Prop} (h : cmpK (fun i j => decide (j ≤ i)) da db k) : BR X .GtE da db k := br_ints op_ge h
@[reducible] def isNone : PyData → Bool
  | .none => true
  | _ => false
theorem rp_none {G : Hp} {x : V} {d : PyData} (r : Rp G x d) : decide (x = .non) = isNone d := by
  cases r <;> rfl
theorem br_isN {da : PyData} {k : Bool → Prop} (h : k (isNone da)) : BR X .Is da .none k := fun F σ H ρ x y S rx ry => by
  cases ry
  exact ⟨_, op_isN, fun Q q => ⟨rfl, by rw [rp_none rx]; exact q _ h⟩⟩
theorem br_notN {da : PyData} {k : Bool → Prop} (h : k (!isNone da)) : BR X .IsNot da .none k := fun F σ H ρ x y S rx ry => by
  cases ry
  exact ⟨_, op_notN, fun Q q => ⟨rfl, by rw [rp_none rx]; exact q _ h⟩⟩
theorem br_isB {i j : Bool} {k : Bool → Prop} (h : k (decide (i = j))) : BR X .Is (.bool i) (.bool j) k := fun F σ H ρ x y S rx ry => by
  cases rx
  cases ry
  exact ⟨_, op_isBl, fun Q q => ⟨_, _, rfl, rfl, q _ h⟩⟩
theorem br_notB {i j : Bool} {k : Bool → Prop} (h : k (!decide (i = j))) : BR X .IsNot (.bool i) (.bool j) k := fun F σ H ρ x y S rx ry => by
  cases rx
  cases ry
  exact ⟨_, op_notBl, fun Q q => ⟨_, _, rfl, rfl, q _ h⟩⟩
/-- a comparison, its operator's rule told where both sides are known: by a reading that hangs on the heap -/
def rAnyOf (X : Cx) (op : CmpOp) : R2 := fun x y H Q => ∃ r : R2, OpR X (compareOp op) r ∧ r x y H Q
theorem op_anyOf {op : CmpOp} : OpR X (compareOp op) (rAnyOf X op) := fun pins s σ H x y v u Q I rx ry ⟨r, h, q⟩ => h pins s σ H x y v u Q I rx ry q
theorem ee_cmp {op : CmpOp} (h : EE X ρ a fun da ρ1 => EE X ρ1 b fun db ρ2 => BR X op da db fun c => Φ (.bool c) ρ2) (hm : behindInMarks op b = false := by first | exact nomark _ | with_unfolding_all rfl) : EE X ρ (.Compare a [op] [b] pos) Φ := fun F σ H Q S k =>
  ofPE (pe_cmpR op_anyOf peW peW hm) (two h S fun x y H2 da db ρ2 h2 S2 g r1 r2 => by
    obtain ⟨r, ho, q⟩ := h2 F σ H2 ρ2 x y S2 r1 r2
    exact ⟨r, ho, q _ fun c hc => k _ H2 _ ρ2 hc S2 g (.bl c)⟩)
theorem et_cmp {op : CmpOp} (h : EE X ρ a fun da ρ1 => EE X ρ1 b fun db ρ2 => BR X op da db fun c => Ψ c ρ2) (hm : behindInMarks op b = false := by first | exact nomark _ | with_unfolding_all rfl) : ET X ρ (.Compare a [op] [b] pos) Ψ := fun F σ H Q S k =>
  ofPT (pt_cmpR op_anyOf peW peW hm) (two h S fun x y H2 da db ρ2 h2 S2 g r1 r2 => by
    obtain ⟨r, ho, q⟩ := h2 F σ H2 ρ2 x y S2 r1 r2
    exact ⟨r, ho, q _ fun c hc => ⟨c, rfl, k c H2 ρ2 hc S2 g⟩⟩)
theorem chain_core {F : Fm} {σ : L2.St} {H : Hp} {Q : VK} {op op' : CmpOp} (h : EE X ρ a fun da ρ1 => EE X ρ1 b fun db ρ2 => BR X op da db fun k => if k = true then (EE X ρ2 c fun dc ρ3 => BR X op' db dc fun k' => Φ (.bool k') ρ3) else Φ (.bool false) ρ2)
    (S : Stt F H σ ρ) (k : KE F σ (gh F ρ H) Φ Q) : tChain (rAnyOf X op) (rAnyOf X op') (tW X a) (tW X b) (tW X c) σ H Q := by
  refine two h S fun x y H2 da db ρ2 h2 S2 g r1 r2 => ?_
  obtain ⟨r, ho, q⟩ := h2 F σ H2 ρ2 x y S2 r1 r2
  refine ⟨r, ho, q _ fun b hb => ⟨b, rfl, ?_⟩⟩
  cases b with
  | false =>
    refine iteF (k _ H2 _ ρ2 ?_ S2 g (.bl false))
    rw [if_neg Bool.false_ne_true] at hb
    exact hb
  | true =>
    rw [if_pos rfl] at hb
    refine iteT (hb F σ H2 _ S2 fun z H3 dc ρ3 h3 S3 g3 r3 => ?_)
    obtain ⟨r', ho', q'⟩ := h3 F σ H3 ρ3 y z S3 (Rp.up g3 _ _ r2) r3
    exact ⟨r', ho', q' _ fun c hc => k _ H3 _ ρ3 hc S3 (g.trans g3) (.bl c)⟩
theorem ee_chain {op op' : CmpOp} (h : EE X ρ a fun da ρ1 => EE X ρ1 b fun db ρ2 => BR X op da db fun k => if k = true then (EE X ρ2 c fun dc ρ3 => BR X op' db dc fun k' => Φ (.bool k') ρ3) else Φ (.bool false) ρ2)
    (hm : lastMarks [op, op'] [b, c] = false := by with_unfolding_all rfl) : EE X ρ (.Compare a [op, op'] [b, c] pos) Φ := fun F σ H Q S k => ofPE (pe_chain op_anyOf op_anyOf peW peW peW hm) (chain_core h S k)
theorem et_chain {op op' : CmpOp} (h : EE X ρ a fun da ρ1 => EE X ρ1 b fun db ρ2 => BR X op da db fun k => if k = true then (EE X ρ2 c fun dc ρ3 => BR X op' db dc fun k' => Ψ k' ρ3) else Ψ false ρ2)
    (hm : lastMarks [op, op'] [b, c] = false := by with_unfolding_all rfl) : ET X ρ (.Compare a [op, op'] [b, c] pos) Ψ := fun F σ H Q S k =>
  ofPT (pt_chain op_anyOf op_anyOf peW peW peW hm) (chain_core (Φ := fun d ρ => ∃ b, d = .bool b ∧ Ψ b ρ) (h.mono fun da ρ1 h1 => h1.mono fun db ρ2 h2 => fun F σ H ρ x y S rx ry => by
    obtain ⟨r, ho, q⟩ := h2 F σ H ρ x y S rx ry
    refine ⟨r, ho, fun Q q' => q Q fun c hc => q' c ?_⟩
    cases c with
    | false =>
      rw [if_neg Bool.false_ne_true] at hc ⊢
      exact ⟨_, rfl, hc⟩
    | true =>
      rw [if_pos rfl] at hc ⊢
      refine hc.mono fun dc ρ3 h3 => fun F σ H ρ x y S rx ry => ?_
      obtain ⟨r, ho, q⟩ := h3 F σ H ρ x y S rx ry
      exact ⟨r, ho, fun Q q' => q Q fun c hc => q' c ⟨_, rfl, hc⟩⟩) S fun v H' d ρ' ⟨b, e, hb⟩ S' g r => by
    subst e
    cases r
    exact ⟨b, rfl, k b H' ρ' hb S' g⟩)

/-! ### and, or, not, if -/
theorem et_val (h : EE X ρ e fun d ρ1 => ∃ c, d = .bool c ∧ Ψ c ρ1) (he : ∀ whole, isTrue e X.env whole = (do let v ← whole; standAt e.pos; holding [v] (truthy v)) := by intro _; rfl) : ET X ρ e Ψ := fun F σ H Q S k =>
  ofPT (pt_val peW he) (h F σ H _ S fun v H' d ρ' ⟨c, ec, q⟩ S' g r => by
    subst ec
    cases r
    exact ⟨c, rfl, k c H' ρ' q S' g⟩)
theorem et_not (h : ET X ρ a fun c ρ1 => Ψ (!c) ρ1) : ET X ρ (.UnaryOp .Not a pos) Ψ := fun F σ H Q S k => ofPT (pt_not ptW) (h F σ H _ S fun c H' ρ' q S' g => k _ H' ρ' q S' g)
theorem et_bool {op : BoolOp} {xs : List Expr} (h : EW X ρ (.BoolOp op xs pos) Ψ) : ET X ρ (.BoolOp op xs pos) Ψ := fun F σ H Q S k => ofPT (PW.pt pwW) (h F σ H Q S k)
theorem ew_one {op : BoolOp} (h : ET X ρ a Ψ) : EW X ρ (.BoolOp op [a] pos) Ψ := fun F σ H Q S k => by
  cases op with
  | And => exact ofPW (pw_and1 ptW) (h F σ H Q S k)
  | Or => exact ofPW (pw_or1 ptW) (h F σ H Q S k)
theorem ew_and {r : List Expr} (h : ET X ρ a fun c ρ1 => if c = true then EW X ρ1 (.BoolOp .And (b :: r) pos) Ψ else Ψ false ρ1) : EW X ρ (.BoolOp .And (a :: b :: r) pos) Ψ := fun F σ H Q S k =>
  ofPW (pw_and ptW pwW) (h F σ H _ S fun c H' ρ' q S' g => by
    cases c with
    | true => rw [if_pos rfl] at q; exact iteT (q F σ H' Q S' (k.to g))
    | false => rw [if_neg Bool.false_ne_true] at q; exact iteF (k _ H' ρ' q S' g))
theorem ew_or {r : List Expr} (h : ET X ρ a fun c ρ1 => if c = true then Ψ true ρ1 else EW X ρ1 (.BoolOp .Or (b :: r) pos) Ψ) : EW X ρ (.BoolOp .Or (a :: b :: r) pos) Ψ := fun F σ H Q S k =>
  ofPW (pw_or ptW pwW) (h F σ H _ S fun c H' ρ' q S' g => by
    cases c with
    | true => rw [if_pos rfl] at q; exact iteT (k _ H' ρ' q S' g)
    | false => rw [if_neg Bool.false_ne_true] at q; exact iteF (q F σ H' Q S' (k.to g)))
theorem ee_one {op : BoolOp} (h : EE X ρ a Φ) : EE X ρ (.BoolOp op [a] pos) Φ := fun F σ H Q S k => ofPE (pe_one peW) (h F σ H Q S k)
theorem ee_and {r : List Expr} (h : EE X ρ a fun d ρ1 => ∃ c, d = .bool c ∧ if c = true then EE X ρ1 (.BoolOp .And (b :: r) pos) Φ else Φ (.bool false) ρ1) : EE X ρ (.BoolOp .And (a :: b :: r) pos) Φ := fun F σ H Q S k =>
  ofPE (pe_and peW peW) (h F σ H _ S fun v H' d ρ' ⟨c, e, q⟩ S' g r => by
    subst e
    cases r
    refine ⟨c, rfl, ?_⟩
    cases c with
    | true => rw [if_pos rfl] at q; exact iteT (q F σ H' Q S' (k.to g))
    | false => rw [if_neg Bool.false_ne_true] at q; exact iteF (k _ H' _ ρ' q S' g (.bl false)))
theorem ee_or {r : List Expr} (h : EE X ρ a fun d ρ1 => ∃ c, d = .bool c ∧ if c = true then Φ (.bool true) ρ1 else EE X ρ1 (.BoolOp .Or (b :: r) pos) Φ) : EE X ρ (.BoolOp .Or (a :: b :: r) pos) Φ := fun F σ H Q S k =>
  ofPE (pe_or peW peW) (h F σ H _ S fun v H' d ρ' ⟨c, e, q⟩ S' g r => by
    subst e
    cases r
    refine ⟨c, rfl, ?_⟩
    cases c with
    | true => rw [if_pos rfl] at q; exact iteT (k _ H' _ ρ' q S' g (.bl true))
    | false => rw [if_neg Bool.false_ne_true] at q; exact iteF (q F σ H' Q S' (k.to g)))
theorem ee_not (h : EE X ρ a fun d ρ1 => ∃ c, d = .bool c ∧ Φ (.bool (!c)) ρ1) : EE X ρ (.UnaryOp .Not a pos) Φ := fun F σ H Q S k =>
  ofPE (pe_not peW) (h F σ H _ S fun v H' d ρ' ⟨c, e, q⟩ S' g r => by
    subst e
    cases r
    exact ⟨c, rfl, k _ H' _ ρ' q S' g (.bl _)⟩)
theorem ee_if (h : ET X ρ c fun t ρ1 => if t = true then EE X ρ1 a Φ else EE X ρ1 b Φ) : EE X ρ (.IfExp c a b pos) Φ := fun F σ H Q S k =>
  ofPE (pe_ifExp ptW peW peW) (h F σ H _ S fun t H' ρ' q S' g => by
    cases t with
    | true => rw [if_pos rfl] at q; exact iteT (q F σ H' Q S' (k.to g))
    | false => rw [if_neg Bool.false_ne_true] at q; exact iteF (q F σ H' Q S' (k.to g)))

/-! ### argument lists, displays -/
theorem ea_nil {Φ : List PyData → List Sl → Prop} (q : Φ [] ρ) : EA X ρ [] Φ := fun F σ H Q S k => ofPA pa_nil (k [] H [] ρ q S (Same.refl _) .nil)
theorem ea_cons {Φ : List PyData → List Sl → Prop} {es : List Expr} (h : EE X ρ e fun d ρ1 => EA X ρ1 es fun ds ρ2 => Φ (d :: ds) ρ2) (hs : starEach (e :: es) X.env = (false, eval e X.env) :: starEach es X.env := by rfl) : EA X ρ (e :: es) Φ := fun F σ H Q S k =>
  ofPA (pa_cons peW paW hs) (h F σ H _ S fun v H1 d ρ1 h1 S1 g1 r1 => h1 F σ H1 _ S1 fun vs H2 ds ρ2 h2 S2 g2 r2 => k _ H2 _ ρ2 h2 S2 (g1.trans g2) (.cons (Rp.up g2 _ _ r1) r2))
theorem ee_tup {es : List Expr} {x1} (h : EA X ρ es fun ds ρ1 => ds.length ≤ 1000000 ∧ Φ (.tuple ds) ρ1) : EE X ρ (.Tuple es x1 pos) Φ := fun F σ H Q S k =>
  ofPE (pe_tup paW) (h F σ H _ S fun vs H' ds ρ' ⟨l, q⟩ S' g r => ⟨big_le (by rw [r.length]; exact l), fun p hp => (k.to g).new S' hp q fun e => .tup (.inl e) (RpAll.up (mask_same (same_new hp)) _ _ r)⟩)
theorem ee_lst {es : List Expr} (h : EA X ρ es fun ds ρ1 => ds.length ≤ 1000000 ∧ Φ (.list ds) ρ1) : EE X ρ (.List es pos) Φ := fun F σ H Q S k =>
  ofPE (pe_lst paW) (h F σ H _ S fun vs H' ds ρ' ⟨l, q⟩ S' g r => ⟨big_le (by rw [r.length]; exact l), fun p hp => (k.to g).new S' hp q fun e => .lst e (RpAll.up (mask_same (same_new hp)) _ _ r)⟩)
end
end DL

namespace DL
open PySem PySem.Spec PyProof.Rows L2

section
variable {X : Cx} {ρ : List Sl} {e a b c : Expr} {pos : Pos} {Φ : PyData → List Sl → Prop} {Ψ : Bool → List Sl → Prop} {D : DE}

/-! ### subscripts, slices -/
theorem RpAll.at {G : Hp} {ds : List PyData} {vs : List V} {i : Int} {d : PyData} (r : RpAll G vs ds) (e : atI ds i = some d) : ∃ v, atI vs i = some v ∧ Rp G v d := by
  unfold atI at e ⊢
  rw [r.length]
  cases q : ixN ds.length i with
  | none => rw [q] at e; cases e
  | some j =>
    rw [q] at e
    exact r.get (show ds[j]? = some d from e)
@[reducible] def ixK : PyData → PyData → (PyData → Prop) → Prop
  | .list xs, .int i, k => ∃ d, atI xs i = some d ∧ k d
  | .tuple xs, .int i, k => ∃ d, atI xs i = some d ∧ k d
  | _, _, _ => False
theorem ee_ix (h : EE X ρ a fun da ρ1 => EE X ρ1 b fun db ρ2 => ixK da db fun d => Φ d ρ2) (hs : PlainIx b := by exact fun _ _ => rfl) : EE X ρ (.Subscript a b pos) Φ := fun F σ H Q S k =>
  ofPE (pe_ix (IxR.or ix_list ix_tup) peW peW hs) (two h S fun x y H2 da db ρ2 h2 S2 g r1 r2 => by
    cases da <;> cases db <;> first | exact h2.elim | skip
    · obtain ⟨d, e, q⟩ := h2
      cases r2
      cases r1 with
      | lst e1 r1 =>
        obtain ⟨v, ev, rv⟩ := r1.at e
        exact .inl ⟨_, _, _, v, rfl, rfl, .of (mask_le _ _ e1), ev, k v H2 d ρ2 q S2 g rv⟩
    · obtain ⟨d, e, q⟩ := h2
      cases r2
      cases r1 with
      | tup e1 r1 =>
        obtain ⟨v, ev, rv⟩ := r1.at e
        exact .inr ⟨_, _, _, v, rfl, rfl, .inl (same_rd mask_le e1), ev, k v H2 d ρ2 q S2 g rv⟩)
/-- an own list's item -/
theorem ee_ixOwn (i : Nat) {x : Str} {p2 : Pos} {l : Addr} {ds : List PyData} (hs : ρ[i]? = some (.own l ds)) (h : EE X ρ b fun db ρ2 => ∃ j d ds', db = .int j ∧ ρ2[i]? = some (.own l ds') ∧ atI ds' j = some d ∧ Φ d ρ2) (hN : X.N[i]? = some x := by rfl)
    (hv : Vis X.env.scope x := by first | exact Or.inl rfl | exact Or.inr (Or.inl rfl) | exact Or.inr (Or.inr rfl)) (hp : PlainIx b := by exact fun _ _ => rfl) (hd : (x == ("__debug__" : Str)) = false := by decide) (hcd : (x == ("__classdict__" : Str)) = false := by decide) :
    EE X ρ (.Subscript (.Name x p2) b pos) Φ := fun F σ H Q S k => by
  obtain ⟨y, e1, e2, vs, e3, r3⟩ := S.sl.get hs
  subst e2
  refine ofPE (pe_ix ix_list (pe_var hN hv hd hcd) peW hp) ⟨_, e1, h F σ H _ S fun v H2 db ρ2 ⟨j, d, ds', ej, es, ea, q⟩ S2 g r2 => ?_⟩
  subst ej
  cases r2
  obtain ⟨y', e1', e2', vs', e3', r3'⟩ := S2.sl.get es
  rw [e1] at e1'
  cases e1'
  cases e2'
  obtain ⟨v, ev, rv⟩ := r3'.at ea
  exact ⟨_, _, _, v, rfl, rfl, .of e3', ev, k v H2 d ρ2 q S2 g rv⟩
def tO (X : Cx) : Option Expr → TO
  | none => tNoPart
  | some e => tPart (tW X e)
theorem poW : ∀ o, PO X o (tO X o)
  | none => po_none
  | some e => po_some peW
@[reducible] def EO (X : Cx) (ρ : List Sl) : Option Expr → (Option Int → List Sl → Prop) → Prop
  | none, Φ => Φ none ρ
  | some e, Φ => EE X ρ e fun d ρ1 => ∃ i, d = .int i ∧ Φ (some i) ρ1
theorem eo_run : ∀ {o : Option Expr} {Φ : Option Int → List Sl → Prop} {ρ : List Sl}, EO X ρ o Φ → ∀ {F : Fm} {σ : L2.St} {H : Hp}, Stt F H σ ρ → ∀ {Q : Option Int → Hp → Prop}, (∀ i H' ρ', Φ i ρ' → Stt F H' σ ρ' → Same (gh F ρ H) (gh F ρ' H') → Q i H') → tO X o σ H Q
  | none, _, ρ, h, _, _, H, S, _, q => q none H ρ h S (Same.refl _)
  | some e, _, _, h, F, σ, H, S, Q, q => h F σ H _ S fun v H' d ρ' ⟨i, ei, hi⟩ S' g r => by
    subst ei
    cases r
    exact ⟨i, rfl, q _ H' ρ' hi S' g⟩
def cutD (xs : List PyData) (lo hi : Option Int) : List PyData := (xs.drop (HT.sIx xs.length 0 lo)).take (HT.sIx xs.length xs.length hi - HT.sIx xs.length 0 lo)
theorem RpAll.cut {G : Hp} {ds : List PyData} {vs : List V} (r : RpAll G vs ds) (lo hi : Option Int) : RpAll G (cutV vs lo hi) (cutD ds lo hi) := by
  unfold cutV cutD
  rw [r.length]
  exact (r.dr _).tk _
@[reducible] def slK (lo hi : Option Int) : PyData → (PyData → Prop) → Prop
  | .list xs, k => k (.list (cutD xs lo hi))
  | .tuple xs, k => k (.tuple (cutD xs lo hi))
  | _, _ => False
theorem cut_whole {ds : List PyData} {lo hi : Option Int} (h : HT.sIx ds.length 0 lo = 0 ∧ HT.sIx ds.length ds.length hi = ds.length) : cutD ds lo hi = ds := by
  unfold cutD
  rw [h.1, h.2, List.drop_zero, Nat.sub_zero, List.take_length]
theorem ee_sl {lo hi : Option Expr} {p2 : Pos} (h : EE X ρ a fun da ρ1 => EO X ρ1 lo fun l ρ2 => EO X ρ2 hi fun u ρ3 => slK l u da fun d => Φ d ρ3) : EE X ρ (.Subscript a (.Slice lo hi none p2) pos) Φ := fun F σ H Q S k =>
  ofPE (pe_slice (SlR.or sl_list sl_tupA) peW (poW lo) (poW hi)) (h F σ H _ S fun v H1 da ρ1 h1 S1 g1 r1 => eo_run h1 S1 fun l H2 ρ2 h2 S2 g2 => eo_run h2 S2 fun u H3 ρ3 h3 S3 g3 => by
    have r3 := Rp.up (g2.trans g3) _ _ r1
    have k3 := k.to ((g1.trans g2).trans g3)
    cases da <;> first | exact h3.elim | skip
    · cases r3 with
      | lst e r => exact .inl ⟨_, _, rfl, .of (mask_le _ _ e), fun p hp => k3.new S3 hp h3 fun e => .lst e (RpAll.up (mask_same (same_new hp)) _ _ (r.cut l u))⟩
    · cases r3 with
      | tup e r =>
        refine .inr ⟨_, _, rfl, .inl (same_rd mask_le e), fun hw => ?_, fun _ p hp => k3.new S3 hp h3 fun e => .tup (.inl e) (RpAll.up (mask_same (same_new hp)) _ _ (r.cut l u))⟩
        rw [r.length] at hw
        have h4 : Φ (.tuple (cutD _ l u)) ρ3 := h3
        rw [cut_whole hw] at h4
        exact k3.same S3 h4 (.tup e r))

/-! ### built-ins called -/
def RCD (r : List V → Hp → VK → Prop) (ds : List PyData) (ρ : List Sl) (Φ : PyData → List Sl → Prop) : Prop :=
  ∀ (F : Fm) (σ : L2.St) (H : Hp) (vs : List V) (Q : VK), Stt F H σ ρ → RpAll (gh F ρ H) vs ds → KE F σ (gh F ρ H) Φ Q → r vs H Q
theorem ee_callB {id : String} {r : List V → Hp → VK → Prop} {x : Str} {p : Pos} {es : List Expr} (hc : CallR X (.builtin id) r) (hm : X.mg x = none) (hv : bootBuiltins x = some (.builtin id)) (h : EA X ρ (e :: es) fun ds ρ1 => RCD r ds ρ1 Φ) (hg : Gl X x := by rfl)
    (hn : x ≠ "__name__" := by decide) (hdb : (x == ("__debug__" : Str)) = false := by decide) (he : starEach (e :: es) X.env = (false, eval e X.env) :: starEach es X.env := by rfl) (hpl : (backTo pos (starEach es X.env)).any (·.1) = false := by rfl) : EE X ρ (.Call (.Name x p) (e :: es) [] pos) Φ := fun F σ H Q S k =>
  ofPE (pe_callB hc hg hm hv paW hn hdb he hpl) (h F σ H _ S fun vs H' ds ρ' q S' g r => q F σ H' vs Q S' r (k.to g))
theorem ee_callT {T : String} {r : List V → Hp → VK → Prop} {x : Str} {p : Pos} {es : List Expr} (hc : CallR X (.type T) r) (hm : X.mg x = none) (hv : bootBuiltins x = some (.type T)) (h : EA X ρ (e :: es) fun ds ρ1 => RCD r ds ρ1 Φ) (hg : Gl X x := by rfl)
    (hn : x ≠ "__name__" := by decide) (hdb : (x == ("__debug__" : Str)) = false := by decide) (he : starEach (e :: es) X.env = (false, eval e X.env) :: starEach es X.env := by rfl) (hpl : (backTo pos (starEach es X.env)).any (·.1) = false := by rfl) : EE X ρ (.Call (.Name x p) (e :: es) [] pos) Φ := fun F σ H Q S k =>
  ofPE (pe_callTy hc hg hm hv paW hn hdb he hpl) (h F σ H _ S fun vs H' ds ρ' q S' g r => q F σ H' vs Q S' r (k.to g))
@[reducible] def lenK : List PyData → (PyData → Prop) → Prop
  | [.list xs], k => k (.int xs.length)
  | [.tuple xs], k => k (.int xs.length)
  | _, _ => False
theorem rcd_len {ds : List PyData} (h : lenK ds fun d => Φ d ρ) : RCD (fun xs H Q => ∃ p ys, xs = [.ref p] ∧ (SqL X.K H p ys ∨ SqT X.K H p ys) ∧ Q (.int ys.length) H) ds ρ Φ := fun F σ H vs Q S r k => by
  match ds, h, r with
  | [.list xs], h, .cons (.lst e r) .nil => exact ⟨_, _, rfl, .inl (.of (mask_le _ _ e)), by rw [r.length]; exact k.same S h (.int _)⟩
  | [.tuple xs], h, .cons (.tup e r) .nil => exact ⟨_, _, rfl, .inr (.inl (same_rd mask_le e)), by rw [r.length]; exact k.same S h (.int _)⟩
theorem ee_len {p : Pos} (ck : CK X) (h : EA X ρ [e] fun ds ρ1 => lenK ds fun d => Φ d ρ1) (hg : Gl X "len" := by rfl) (he : starEach [e] X.env = (false, eval e X.env) :: starEach [] X.env := by rfl) : EE X ρ (.Call (.Name "len" p) [e] [] pos) Φ :=
  ee_callB call_len_seq (ck.bt _ (by simp [bNames])) PySem.boot_len (fun F σ H Q S k => h F σ H Q S fun vs H' ds ρ' q => k vs H' ds ρ' (rcd_len q)) hg (by decide) (by decide) he rfl
@[reducible] def sumK (ds : List PyData) (k : PyData → Prop) : Prop := ∃ ns : List Int, ds = [.list (ns.map .int)] ∧ k (.int ns.sum)
theorem ee_sum {p : Pos} (ck : CK X) (h : EA X ρ [e] fun ds ρ1 => sumK ds fun d => Φ d ρ1) (hg : Gl X "sum" := by rfl) (he : starEach [e] X.env = (false, eval e X.env) :: starEach [] X.env := by rfl) : EE X ρ (.Call (.Name "sum" p) [e] [] pos) Φ :=
  ee_callB (cr_sum ck.calm) (ck.bt _ (by simp [bNames])) (by decide +kernel) (fun F σ H Q S k => h F σ H Q S fun vs H' ds ρ' q => k vs H' ds ρ' (fun F σ H vs Q S r k => by
    obtain ⟨ns, rfl, q⟩ := q
    match r with
    | .cons (.lst e r) .nil => exact ⟨_, ns, rfl, .of (by rw [← r.ints]; exact mask_le _ _ e), k.same S q (.int _)⟩)) hg (by decide) (by decide) he rfl
@[reducible] def allK (ds : List PyData) (k : PyData → Prop) : Prop := ∃ bs : List Bool, ds = [.list (bs.map .bool)] ∧ k (.bool (bs.all id))
theorem ee_all {p : Pos} (ck : CK X) (h : EA X ρ [e] fun ds ρ1 => allK ds fun d => Φ d ρ1) (hg : Gl X "all" := by rfl) (he : starEach [e] X.env = (false, eval e X.env) :: starEach [] X.env := by rfl) : EE X ρ (.Call (.Name "all" p) [e] [] pos) Φ :=
  ee_callB (cr_all ck.calm) (ck.bt _ (by simp [bNames])) (by decide +kernel) (fun F σ H Q S k => h F σ H Q S fun vs H' ds ρ' q => k vs H' ds ρ' (fun F σ H vs Q S r k => by
    obtain ⟨ns, rfl, q⟩ := q
    match r with
    | .cons (.lst e r) .nil => exact ⟨_, ns, rfl, .of (by rw [← r.bools]; exact mask_le _ _ e), k.same S q (.bl _)⟩)) hg (by decide) (by decide) he rfl
@[reducible] def int2K (f : Int → Int → Int) : List PyData → (PyData → Prop) → Prop
  | [.int i, .int j], k => k (.int (f i j))
  | _, _ => False
theorem ee_max {p : Pos} (ck : CK X) (h : EA X ρ [a, b] fun ds ρ1 => int2K max ds fun d => Φ d ρ1) (hg : Gl X "max" := by rfl) (he : starEach [a, b] X.env = (false, eval a X.env) :: starEach [b] X.env := by rfl) (hpl : (backTo pos (starEach [b] X.env)).any (·.1) = false := by rfl) : EE X ρ (.Call (.Name "max" p) [a, b] [] pos) Φ :=
  ee_callB (call_max2 ck.calm) (ck.bt _ (by simp [bNames])) (by decide +kernel) (fun F σ H Q S k => h F σ H Q S fun vs H' ds ρ' q => k vs H' ds ρ' (fun F σ H vs Q S r k => by
    match ds, q, r with
    | [.int i, .int j], q, .cons (.int _) (.cons (.int _) .nil) =>
      refine ⟨i, j, rfl, k.same S (d := .int (if j > i then j else i)) ?_ (.int _)⟩
      have e : (if j > i then j else i) = max i j := by
        split <;> omega
      rw [e]
      exact q)) hg (by decide) (by decide) he hpl
theorem ee_min {p : Pos} (ck : CK X) (h : EA X ρ [a, b] fun ds ρ1 => int2K min ds fun d => Φ d ρ1) (hg : Gl X "min" := by rfl) (he : starEach [a, b] X.env = (false, eval a X.env) :: starEach [b] X.env := by rfl) (hpl : (backTo pos (starEach [b] X.env)).any (·.1) = false := by rfl) : EE X ρ (.Call (.Name "min" p) [a, b] [] pos) Φ :=
  ee_callB (call_min2 ck.calm) (ck.bt _ (by simp [bNames])) (by decide +kernel) (fun F σ H Q S k => h F σ H Q S fun vs H' ds ρ' q => k vs H' ds ρ' (fun F σ H vs Q S r k => by
    match ds, q, r with
    | [.int i, .int j], q, .cons (.int _) (.cons (.int _) .nil) =>
      refine ⟨i, j, rfl, k.same S (d := .int (if j < i then j else i)) ?_ (.int _)⟩
      have e : (if j < i then j else i) = min i j := by
        split <;> omega
      rw [e]
      exact q)) hg (by decide) (by decide) he hpl
@[reducible] def seqK (f : List PyData → PyData) : List PyData → (PyData → Prop) → Prop
  | [.list xs], k => k (f xs)
  | [.tuple xs], k => k (f xs)
  | _, _ => False
theorem ee_tuple {p : Pos} (ck : CK X) (h : EA X ρ [e] fun ds ρ1 => seqK PyData.tuple ds fun d => Φ d ρ1) (hg : Gl X "tuple" := by rfl) (he : starEach [e] X.env = (false, eval e X.env) :: starEach [] X.env := by rfl) : EE X ρ (.Call (.Name "tuple" p) [e] [] pos) Φ :=
  ee_callT call_tuple_of (ck.bt _ (by simp [bNames])) (by decide +kernel) (fun F σ H Q S k => h F σ H Q S fun vs H' ds ρ' q => k vs H' ds ρ' (fun F σ H vs Q S r k => by
    match ds, q, r with
    | [.list xs], q, .cons (.lst e r) .nil => exact ⟨_, _, rfl, .inl ⟨.of (mask_le _ _ e), fun p hp => k.new S hp q fun e => .tup (.inl e) (RpAll.up (mask_same (same_new hp)) _ _ r)⟩⟩
    | [.tuple xs], q, .cons (.tup e r) .nil => exact ⟨_, _, rfl, .inr ⟨.inl (same_rd mask_le e), k.same S q (.tup e r)⟩⟩)) hg (by decide) (by decide) he rfl
theorem ee_list {p : Pos} (ck : CK X) (h : EA X ρ [e] fun ds ρ1 => seqK PyData.list ds fun d => Φ d ρ1) (hg : Gl X "list" := by rfl) (he : starEach [e] X.env = (false, eval e X.env) :: starEach [] X.env := by rfl) : EE X ρ (.Call (.Name "list" p) [e] [] pos) Φ :=
  ee_callT call_list_of (ck.bt _ (by simp [bNames])) (by decide +kernel) (fun F σ H Q S k => h F σ H Q S fun vs H' ds ρ' q => k vs H' ds ρ' (fun F σ H vs Q S r k => by
    match ds, q, r with
    | [.list xs], q, .cons (.lst e r) .nil => exact ⟨_, _, rfl, .inl (.of (mask_le _ _ e)), fun p hp => k.new S hp q fun e => .lst e (RpAll.up (mask_same (same_new hp)) _ _ r)⟩
    | [.tuple xs], q, .cons (.tup e r) .nil => exact ⟨_, _, rfl, .inr (.inl (same_rd mask_le e)), fun p hp => k.new S hp q fun e => .lst e (RpAll.up (mask_same (same_new hp)) _ _ r)⟩)) hg (by decide) (by decide) he rfl
/-- isinstance(e, T) -/
def tyD : PyData → String
  | .none => "NoneType"
  | .bool _ => "bool"
  | .int _ => "int"
  | .str _ => "str"
  | .list _ => "list"
  | .tuple _ => "tuple"
  | .dict _ => "tuple"
theorem Rp.ty {K : PySem.W.Frag} {H : Hp} {v : V} {d : PyData} (r : Rp H v d) : TyX K H v (.type (tyD d)) := by
  cases r with
  | non => exact .base .non
  | bl b => exact .base (.bl b)
  | int i => exact .base (.int i)
  | str x => exact .base (.str x)
  | lst e r => exact .base (.lst e)
  | tup e r => exact e.elim (fun e => .base (.tup e)) fun ⟨_, e⟩ => .fTuple e
  | pln e _ r => exact .fTuple e
  | bar e r => exact .base (.tup e)
theorem ee_isi {p p2 : Pos} {T : String} {x : Str} (ck : CK X) (hm : X.mg x = none) (hv : bootBuiltins x = some (.type T)) (h : EE X ρ e fun d ρ1 => ∃ k, kitB (tyD d) T = some k ∧ Φ (.bool k) ρ1) (hg : Gl X "isinstance" := by rfl) (hgx : Gl X x := by rfl)
    (hn : x ≠ "__name__" := by decide) (hdb : (x == ("__debug__" : Str)) = false := by decide) (he : starEach [e, .Name x p2] X.env = (false, eval e X.env) :: starEach [.Name x p2] X.env := by rfl) (hpl : (backTo pos (starEach [.Name x p2] X.env)).any (·.1) = false := by rfl) :
    EE X ρ (.Call (.Name "isinstance" p) [e, .Name x p2] [] pos) Φ := fun F σ H Q S k =>
  ofPE (pe_callB call_isi hg (ck.bt _ (by simp [bNames])) (by decide +kernel) (pa_cons peW (pa_cons (pe_bltn (v := .ty T) hgx hm hv rfl hn hdb) pa_nil) he) (by decide) (by decide) he hpl)
    (h F σ H _ S fun v H' d ρ' ⟨c, hk, q⟩ S' g r => ⟨v, .ty T, _, _, c, rfl, .ty T, (Rp.up mask_le _ _ r).ty, kit_ty hk, k _ H' _ ρ' q S' g (.bl c)⟩)
end

/-! ### defs of one's own called -/
abbrev DSpec := List PyData → (PyData → Prop) → Prop
def spD (S : DSpec) : Sp := fun vs H Q _ => ∃ (hd : List Addr) (ds : List PyData) (k : PyData → Prop), (∀ a ∈ hd, H a ≠ none) ∧ RpAll (mask hd H) vs ds ∧ S ds k ∧ ∀ d v H', k d → Same H H' → Rp (mask hd H') v d → Q v H'
abbrev SpecB := List PyData → Nat → (PyData → Nat → Prop) → Prop
def spB (S : SpecB) : Sp := fun vs H Q _ => ∃ (hd : List Addr) (b : Addr) (us : List V) (ds : List PyData) (n : Nat) (k : PyData → Nat → Prop), vs = .ref b :: us ∧ b ∉ hd ∧ (∀ a ∈ hd, H a ≠ none) ∧ BagOk H b n ∧ RpAll (mask (b :: hd) H) us ds ∧ S ds n k ∧
  ∀ d n' v H', k d n' → (∀ a o, a ≠ b → H a = some o → H' a = some o) → BagOk H' b n' → Rp (mask (b :: hd) H') v d → Q v H'
def Kn (P : Program) (w : World) (K : PySem.W.Frag) (mg : Str → Option Value) (base : Heap) (k : Nat) (x : Str) (ps : List Str) (sp : Sp) : Prop :=
  ∃ (f : Addr) (fd : FuncData), FnOk P w K mg base CX0 k f fd ps sp ∧ mg x = some (.ref f) ∧ PySem.W.keepIn K (.ref f) = true ∧ Binds K fd ps []
theorem Kn.mono {P : Program} {w : World} {K : PySem.W.Frag} {mg : Str → Option Value} {base : Heap} {j k : Nat} {x : Str} {ps : List Str} {sp : Sp} (h : Kn P w K mg base j x ps sp) (hj : j ≤ k) : Kn P w K mg base k x ps sp := by
  obtain ⟨f, fd, a, b⟩ := h
  exact ⟨f, fd, a.mono hj, b⟩
def Cal (X : Cx) (x : Str) (ps : List Str) (sp : Sp) : Prop := ∃ k, Room k X.A ∧ Kn X.prog X.w X.K X.mg X.base k x ps sp
section
variable {X : Cx} {ρ : List Sl} {e a b c : Expr} {pos : Pos} {Φ : PyData → List Sl → Prop} {Ψ : Bool → List Sl → Prop} {D : DE}
theorem ee_call {x : Str} {ps : List Str} {S : DSpec} {p : Pos} {es : List Expr} (cl : Cal X x ps (spD S)) (h : EA X ρ (e :: es) fun ds ρ1 => S ds fun d => Φ d ρ1) (hg : Gl X x := by rfl)
    (hdb : (x == ("__debug__" : Str)) = false := by decide) (he : starEach (e :: es) X.env = (false, eval e X.env) :: starEach es X.env := by rfl) (hpl : (backTo pos (starEach es X.env)).any (·.1) = false := by rfl) : EE X ρ (.Call (.Name x p) (e :: es) [] pos) Φ := fun F σ H Q St k => by
  obtain ⟨j, hr, f, fd, G, hm, kp, bd⟩ := cl
  refine ofPE (pe_call G hr hg hm kp bd .nil pass0 paW hdb he hpl) (h F σ H _ St fun vs H' ds ρ' q St' g r => ?_)
  rw [List.append_nil]
  exact ⟨F.hd ++ os ρ', ds, _, St'.ad, r, q, fun d v H2 hd e2 r2 => k v H2 d ρ' hd (St'.ext e2) (g.trans (St'.gext e2)) r2⟩
theorem ee_call0 {x : Str} {S : DSpec} {p : Pos} (cl : Cal X x [] (spD S)) (h : S [] fun d => Φ d ρ) (hg : Gl X x := by rfl) (hdb : (x == ("__debug__" : Str)) = false := by decide) : EE X ρ (.Call (.Name x p) [] [] pos) Φ := fun F σ H Q St k => by
  obtain ⟨j, hr, f, fd, G, hm, kp, bd⟩ := cl
  exact ofPE (pe_call0 G hr hg hm kp bd .nil pass0 hdb) ⟨F.hd ++ os ρ, [], _, St.ad, .nil, h, fun d v H2 hd e2 r2 => k v H2 d ρ hd (St.ext e2) (St.gext e2) r2⟩
/-- one own object is changed, the heap may grow -/
theorem SlotsOk.chg {G G2 H H2 : Hp} {g : Addr} {s t : Sl} (gg : Same G G2) (kp : ∀ a o, a ≠ g → H a = some o → H2 a = some o) (ht : t.ad = [g]) (hx : ∀ x, SlotOk G H x t → SlotOk G2 H2 x s) :
    ∀ {σ : L2.St} {ρ : List Sl} {i : Nat}, SlotsOk G H σ ρ → (os ρ).Nodup → ρ[i]? = some t → SlotsOk G2 H2 σ (ρ.set i s)
  | [], [], _, _, _, e => by simp at e
  | [], _ :: _, _, h, _, _ => h.elim
  | _ :: _, [], _, h, _, _ => h.elim
  | x :: xs, u :: r, 0, h, nd, e => by
    rw [List.getElem?_cons_zero] at e; cases e
    obtain ⟨h1, h2, h3⟩ := List.nodup_append.mp nd
    exact ⟨hx x h.1, h.2.up gg fun b m o q => kp b o (fun z => h3 g (by rw [ht]; exact List.mem_singleton.mpr rfl) b m z.symm) q⟩
  | x :: xs, u :: r, i + 1, h, nd, e => by
    rw [List.getElem?_cons_succ] at e
    obtain ⟨h1, h2, h3⟩ := List.nodup_append.mp nd
    exact ⟨h.1.up gg fun b m o q => kp b o (fun z => h3 b m g (os_at e (by rw [ht]; exact List.mem_singleton.mpr rfl)) z) q, SlotsOk.chg gg kp ht hx h.2 h2 e⟩
theorem Stt.chg {F : Fm} {H H2 : Hp} {σ : L2.St} {ρ : List Sl} {i : Nat} {s t : Sl} {g : Addr} (S : Stt F H σ ρ) (e : ρ[i]? = some t) (ht : t.ad = [g]) (hs : s.ad = [g]) (kp : ∀ a o, a ≠ g → H a = some o → H2 a = some o) (hg : H2 g ≠ none)
    (hx : ∀ x, SlotOk (gh F ρ H) H x t → SlotOk (gh F (ρ.set i s) H2) H2 x s) : Stt F H2 σ (ρ.set i s) ∧ Same (gh F ρ H) (gh F (ρ.set i s) H2) := by
  have eo : os (ρ.set i s) = os ρ := os_set_same e (by rw [hs, ht])
  have mo : g ∈ os ρ := os_at e (by rw [ht]; exact List.mem_singleton.mpr rfl)
  have ge : Same (gh F ρ H) (gh F (ρ.set i s) H2) := by
    refine mask_mono (fun a m _ => ?_) fun a o na ea => kp a o (fun z => na (by rw [z]; exact List.mem_append_right _ mo)) ea
    rw [eo] at m
    exact m
  have up : ∀ a, H a ≠ none → H2 a ≠ none := fun a ha => by
    by_cases z : a = g
    · rw [z]; exact hg
    · cases q : H a with
      | none => exact absurd q ha
      | some o => rw [kp a o z q]; exact fun z => nomatch z
  refine ⟨⟨fun a m => up a (S.hd a m), fun a o na ea => ?_, fun a ha => up a (S.dm a ha), by rw [eo]; exact S.nd, fun a m => S.nw a (by rw [← eo]; exact m), fun a m => S.ap a (by rw [← eo]; exact m), S.sl.chg ge kp ht hx S.nd e⟩, ge⟩
  refine kp a o (fun z => ?_) (S.fr a o na ea)
  rcases S.nw g mo with y | y
  · exact na (z ▸ y)
  · rw [z, y] at ea; cases ea
/-- a def that draws from the bag in slot i -/
theorem ee_callG (i : Nat) {x y : Str} {ps : List Str} {S : SpecB} {p py : Pos} {es : List Expr} {g : Addr} {n : Nat} (cl : Cal X x ps (spB S)) (hs : ρ[i]? = some (.bag g n)) (h : EA X ρ es fun ds ρ1 => ∃ n1, ρ1[i]? = some (.bag g n1) ∧ S ds n1 fun d n' => Φ d (ρ1.set i (.bag g n'))) (hN : X.N[i]? = some y := by rfl)
    (hv : Vis X.env.scope y := by first | exact Or.inl rfl | exact Or.inr (Or.inl rfl) | exact Or.inr (Or.inr rfl)) (hg : Gl X x := by rfl) (hd : (y == ("__debug__" : Str)) = false := by decide) (hcd : (y == ("__classdict__" : Str)) = false := by decide)
    (hdb : (x == ("__debug__" : Str)) = false := by decide) (he : starEach (.Name y py :: es) X.env = (false, eval (.Name y py) X.env) :: starEach es X.env := by rfl) (hpl : (backTo pos (starEach es X.env)).any (·.1) = false := by rfl) : EE X ρ (.Call (.Name x p) (.Name y py :: es) [] pos) Φ := fun F σ H Q St k => by
  obtain ⟨j, hr, f, fd, G, hm, kp, bd⟩ := cl
  obtain ⟨z, e1, e2, bo⟩ := St.sl.get hs
  subst e2
  refine ofPE (pe_call G hr hg hm kp bd .nil pass0 (pa_cons (pe_var hN hv hd hcd) paW he) hdb he hpl) ⟨_, e1, h F σ H _ St fun vs H' ds ρ' ⟨n1, hs', q⟩ St' g' r => ?_⟩
  show spB S (.ref g :: (vs ++ [])) H' Q E0
  rw [List.append_nil]
  obtain ⟨z', e1', e2', bo'⟩ := St'.sl.get hs'
  rw [e1] at e1'
  cases e1'
  have mo : g ∈ os ρ' := os_at hs' (List.mem_singleton.mpr rfl)
  refine ⟨(F.hd ++ os ρ').filter fun a => decide (a ≠ g), g, vs, ds, n1, _, rfl, fun m => ?_, fun a m => St'.ad a (List.mem_filter.mp m).1, bo', ?_, q, fun d n' v H2 hk kp2 bo2 r2 => ?_⟩
  · have := of_decide_eq_true (List.mem_filter.mp m).2
    exact this rfl
  · refine RpAll.up (mask_sub fun a m => ?_) _ _ r
    rcases List.mem_cons.mp m with z | z
    · rw [z]; exact List.mem_append_right _ mo
    · exact (List.mem_filter.mp z).1
  · have hg2 : H2 g ≠ none := by
      obtain ⟨z2, w2, t2, eo, hw⟩ := id bo2
      rw [eo]
      exact fun z => nomatch z
    have eo2 : os (ρ'.set i (.bag g n')) = os ρ' := os_set_same hs' rfl
    obtain ⟨S2, ge⟩ := St'.chg (s := .bag g n') hs' rfl rfl kp2 hg2 fun x ⟨ex, _⟩ => ⟨ex, bo2⟩
    refine k v H2 d _ hk S2 (g'.trans ge) (Rp.up (mask_sub fun a m => ?_) _ _ r2)
    rcases List.mem_append.mp m with m | m
    · by_cases z : a = g
      · rw [z]; exact List.mem_cons_self
      · exact List.mem_cons_of_mem _ (List.mem_filter.mpr ⟨List.mem_append_left _ m, decide_eq_true z⟩)
    · rw [eo2] at m
      by_cases z : a = g
      · rw [z]; exact List.mem_cons_self
      · exact List.mem_cons_of_mem _ (List.mem_filter.mpr ⟨List.mem_append_right _ m, decide_eq_true z⟩)
end
end DL

namespace DL
open PySem PySem.Spec PyProof.Rows L2

section
variable {X : Cx} {ρ : List Sl} {e a b c : Expr} {pos : Pos} {Φ : PyData → List Sl → Prop} {Ψ : Bool → List Sl → Prop} {D : DE} {Ω : List Sl → Prop}

/-! ### targets -/
theorem gg_name (j : Nat) {x : Str} {d : PyData} (ck : CK X) (q : Ω (ρ.set j (.dat d))) (hi : X.N[j]? = some x := by rfl) (hx : Loc X.env.scope x := by first | exact Or.inl rfl | exact Or.inr rfl)
    (hf : X.fn x = true ∨ X.env.scope.names.lookup x = some .local := by first | exact .inl rfl | exact .inr rfl) : GG X ρ (.Name x pos) d [j] Ω := fun F σ H v Q S r k =>
  ofPG (pg_name ck.nd hi hx hf) (k _ _ q (S.set j rfl ⟨v, rfl, r⟩) (S.gset j rfl) ⟨List.length_set, fun i hi => List.getElem?_set_ne fun z => hi (by rw [z]; exact List.mem_singleton.mpr rfl)⟩)
theorem ggs_nil (q : Ω ρ) : GGs X ρ [] [] [] Ω := fun F σ H vs Q S r k => by
  cases r
  exact ofPGs pgs_nil ⟨rfl, k _ _ q S (Same.refl _) ⟨rfl, fun _ _ => rfl⟩⟩
theorem ggs_cons {t : Expr} {ts : List Expr} {d : PyData} {ds : List PyData} {js ks : List Nat} (h : GG X ρ t d js fun ρ1 => GGs X ρ1 ts ds ks Ω) (hs : (assignEach (t :: ts) X.env).map (·.2) = assign t X.env :: (assignEach ts X.env).map (·.2) := by rfl) : GGs X ρ (t :: ts) (d :: ds) (js ++ ks) Ω := fun F σ H vs Q S r k => by
  cases r with
  | cons r1 r2 =>
    exact ofPGs (pgs_cons pgW pgsW hs) ⟨_, _, rfl, h F σ H _ _ S r1 fun σ1 ρ1 h1 S1 g1 e1 => h1 F σ1 H _ _ S1 (RpAll.up g1 _ _ r2) fun σ2 ρ2 h2 S2 g2 e2 => k σ2 ρ2 h2 S2 (g1.trans g2) ⟨e2.1.trans e1.1, fun i hi =>
      (e2.2 i fun m => hi (List.mem_append_right _ m)).trans (e1.2 i fun m => hi (List.mem_append_left _ m))⟩⟩
theorem gg_tup {ts : List Expr} {kk : Nat} {ds : List PyData} {js : List Nat} {n : Nat} (ck : CK X) (h : GGs X ρ ts ds js Ω) (hl : ds.length = n := by rfl) (hn : (assignEach ts X.env).length = n := by rfl) (hst : (assignEach ts X.env).findIdx? (·.1) = none := by rfl) :
    GG X ρ (.Tuple ts kk pos) (.tuple ds) js Ω := fun F σ H v Q S r k => by
  cases r with
  | tup e r => exact ofPG (pg_tup ck.calm pgsW hn hst) ⟨_, _, rfl, .inl (same_rd mask_le e), by rw [r.length]; exact hl, h F σ H _ Q S r k⟩

/-! ### what is walked -/
structure JOk (J : It) (G : Hp) (ds : List PyData) : Prop where
  go : ∀ i H d, Same G H → ds[i]? = some d → J.go i H
  yld : ∀ i H d x H', Same G H → ds[i]? = some d → J.yld i H x H' → Same H H' ∧ ∀ l : List Addr, (∀ a ∈ l, H a ≠ none) → (∀ a ∈ l, G a = none) → Rp (mask l H') x d
  stop : ∀ i H, Same G H → ds.length = i → J.stop i H
def II (X : Cx) (ρ : List Sl) (tg iter : Expr) (Θ : List PyData → List Sl → Prop) : Prop :=
  ∃ wi : TI, PI X tg iter wi ∧ ∀ (F : Fm) (σ : L2.St) (H : Hp) (R : It → Hp → Prop), Stt F H σ ρ → (∀ J H1 ds ρ1, Θ ds ρ1 → Stt F H1 σ ρ1 → Same (gh F ρ H) (gh F ρ1 H1) → JOk J (gh F ρ1 H1) ds → R J H1) → wi σ H R
variable {tg : Expr} {Θ : List PyData → List Sl → Prop}
theorem same_mask {l : List Addr} {G H : Hp} (s : Same G H) (hl : ∀ a ∈ l, G a = none) : Same G (mask l H) := fun a o e => by
  rw [mask_out fun m => by rw [hl a m] at e; cases e]
  exact s a o e
theorem SqL.is {K : PySem.W.Frag} {H : Hp} {a : Addr} {vs : List V} (h : H a = some (.lst vs)) : SqL K H a vs := .of h
theorem jok_list {K : PySem.W.Frag} {G : Hp} {l : Addr} {vs : List V} {ds : List PyData} (e : G l = some (.lst vs)) (r : RpAll G vs ds) : JOk (Itl K l) G ds where
  go := fun i H d s hd => by
    obtain ⟨v, hv, _⟩ := r.get hd
    exact ⟨vs, v, .of (s _ _ e), hv⟩
  yld := fun i H d x H' s hd y => by
    obtain ⟨v, hv, rv⟩ := r.get hd
    obtain ⟨e1, h1⟩ := y
    have e2 := h1 vs (.of (s _ _ e))
    rw [hv] at e2; cases e2
    subst e1
    exact ⟨Same.refl _, fun l _ hl => Rp.up (same_mask s hl) _ _ rv⟩
  stop := fun i H s hi => ⟨vs, .of (s _ _ e), by rw [r.length]; exact Nat.le_of_eq hi⟩
theorem jok_tup {K : PySem.W.Frag} {G : Hp} {l : Addr} {vs : List V} {ds : List PyData} (e : Rd G l (.tup vs)) (r : RpAll G vs ds) : JOk (Itt K l) G ds where
  go := fun i H d s hd => by
    obtain ⟨v, hv, _⟩ := r.get hd
    exact ⟨vs, v, .inl (same_rd s e), hv⟩
  yld := fun i H d x H' s hd y => by
    obtain ⟨v, hv, rv⟩ := r.get hd
    obtain ⟨e1, h1⟩ := y
    have e2 := h1 vs (.inl (same_rd s e))
    rw [hv] at e2; cases e2
    subst e1
    exact ⟨Same.refl _, fun l _ hl => Rp.up (same_mask s hl) _ _ rv⟩
  stop := fun i H s hi => ⟨vs, .inl (same_rd s e), by rw [r.length]; exact Nat.le_of_eq hi⟩
theorem ii_list (h : EE X ρ e fun d ρ1 => ∃ ds, d = .list ds ∧ Θ ds ρ1) : II X ρ tg e Θ := ⟨_, pi_list peW, fun F σ H R S k => h F σ H _ S fun v H' d ρ' ⟨ds, ed, q⟩ S' g r => by
  subst ed
  cases r with
  | lst e r => exact ⟨_, rfl, ⟨_, .of (mask_le _ _ e)⟩, k _ H' ds ρ' q S' g (jok_list e r)⟩⟩
theorem ii_tup (h : EE X ρ e fun d ρ1 => ∃ ds, d = .tuple ds ∧ Θ ds ρ1) : II X ρ tg e Θ := ⟨_, pi_tup peW, fun F σ H R S k => h F σ H _ S fun v H' d ρ' ⟨ds, ed, q⟩ S' g r => by
  subst ed
  cases r with
  | tup e r => exact ⟨_, rfl, ⟨_, .inl (same_rd mask_le e)⟩, k _ H' ds ρ' q S' g (jok_tup e r)⟩⟩
def rngD (lo : Int) (n : Nat) : List PyData := (List.range n).map fun (i : Nat) => PyData.int (lo + (i : Int))
theorem rngD_len (lo : Int) (n : Nat) : (rngD lo n).length = n := by unfold rngD; rw [List.length_map, List.length_range]
theorem rngD_get {lo : Int} {n i : Nat} {d : PyData} (h : (rngD lo n)[i]? = some d) : i < n ∧ d = .int (lo + (i : Int)) := by
  unfold rngD at h
  rw [List.getElem?_map] at h
  by_cases hi : i < n
  · rw [List.getElem?_range hi] at h
    exact ⟨hi, (Option.some.inj h).symm⟩
  · rw [List.getElem?_eq_none (by rw [List.length_range]; omega)] at h
    cases h
theorem jok_rng {G : Hp} (lo : Int) (n : Nat) : JOk (Itr lo n) G (rngD lo n) where
  go := fun i H d s hd => (rngD_get hd).1
  yld := fun i H d x H' s hd y => by
    obtain ⟨e1, e2⟩ := y
    subst e1 e2
    rw [(rngD_get hd).2]
    exact ⟨Same.refl _, fun l _ _ => .int _⟩
  stop := fun i H s hi => by rw [rngD_len] at hi; exact Nat.le_of_eq hi
theorem ii_range1 {p : Pos} (ck : CK X) (h : EA X ρ [a] fun ds ρ1 => ∃ n : Int, ds = [.int n] ∧ (-1000000000 ≤ n ∧ n ≤ 1000000000) ∧ Θ (rngD 0 n.toNat) ρ1) (hg : Gl X "range" := by rfl) (hs : starEach [a] X.env = [(false, eval a X.env)] := by rfl) : II X ρ tg (.Call (.Name "range" p) [a] [] pos) Θ :=
  ⟨_, pi_range1 hg (ck.bt _ (by simp [bNames])) paW hs, fun F σ H R S k => h F σ H _ S fun vs H' ds ρ' ⟨n, ed, hn, q⟩ S' g r => by
    subst ed
    match r with
    | .cons (.int _) .nil => exact ⟨n, rfl, by omega, by omega, k _ H' _ ρ' q S' g (jok_rng 0 n.toNat)⟩⟩
theorem ii_range2 {p : Pos} (ck : CK X) (h : EA X ρ [a, b] fun ds ρ1 => ∃ m n : Int, ds = [.int m, .int n] ∧ (-1000000000 ≤ m ∧ m ≤ 1000000000 ∧ -1000000000 ≤ n ∧ n ≤ 1000000000) ∧ Θ (rngD m (n - m).toNat) ρ1) (hg : Gl X "range" := by rfl)
    (hs : starEach [a, b] X.env = [(false, eval a X.env), (false, eval b X.env)] := by rfl) (hs2 : starEach [b] X.env = [(false, eval b X.env)] := by rfl) : II X ρ tg (.Call (.Name "range" p) [a, b] [] pos) Θ :=
  ⟨_, pi_range2 hg (ck.bt _ (by simp [bNames])) paW hs hs2, fun F σ H R S k => h F σ H _ S fun vs H' ds ρ' ⟨m, n, ed, hn, q⟩ S' g r => by
    subst ed
    match r with
    | .cons (.int _) (.cons (.int _) .nil) => exact ⟨m, n, rfl, by omega, k _ H' _ ρ' q S' g (jok_rng m (n - m).toNat)⟩⟩
def zipD (ds es : List PyData) : List PyData := List.zipWith (fun d e => .tuple [d, e]) ds es
theorem zipD_get {ds es : List PyData} {i : Nat} {p : PyData} (h : (zipD ds es)[i]? = some p) : ∃ d e, ds[i]? = some d ∧ es[i]? = some e ∧ p = .tuple [d, e] := by
  unfold zipD at h
  rw [List.getElem?_zipWith] at h
  cases h1 : ds[i]? with
  | none => rw [h1] at h; cases h
  | some d =>
    cases h2 : es[i]? with
    | none => rw [h1, h2] at h; cases h
    | some e =>
      rw [h1, h2] at h
      exact ⟨d, e, rfl, rfl, (Option.some.inj h).symm⟩
theorem rp_pair {G H : Hp} {T : Addr} {x y : V} {d e : PyData} (s : Same G H) (hT : H T = none) (rx : Rp G x d) (ry : Rp G y e) : Same H (upd H T (.tup [x, y])) ∧ ∀ l : List Addr, (∀ a ∈ l, H a ≠ none) → (∀ a ∈ l, G a = none) → Rp (mask l (upd H T (.tup [x, y]))) (.ref T) (.tuple [d, e]) := by
  have s2 := same_new (o := .tup [x, y]) hT
  refine ⟨s2, fun l h1 h2 => .tup (.inl ((mask_out fun m => h1 T m hT).trans upd_same)) ?_⟩
  have s3 := same_mask (s.trans s2) h2
  exact .cons (Rp.up s3 _ _ rx) (.cons (Rp.up s3 _ _ ry) .nil)
theorem jok_zip {K : PySem.W.Frag} {G : Hp} {l m : Addr} {vs us : List V} {ds es : List PyData} (e1 : G l = some (.lst vs)) (e2 : G m = some (.lst us)) (r1 : RpAll G vs ds) (r2 : RpAll G us es) : JOk (Itz K l m) G (zipD ds es) where
  go := fun i H d s hd => by
    obtain ⟨x, y, h1, h2, _⟩ := zipD_get hd
    obtain ⟨v, hv, _⟩ := r1.get h1
    obtain ⟨u, hu, _⟩ := r2.get h2
    exact ⟨vs, us, v, u, .of (s _ _ e1), .of (s _ _ e2), hv, hu⟩
  yld := fun i H d x H' s hd y => by
    obtain ⟨p, q, h1, h2, ed⟩ := zipD_get hd
    obtain ⟨v, hv, rv⟩ := r1.get h1
    obtain ⟨u, hu, ru⟩ := r2.get h2
    obtain ⟨T, x1, y1, ex, hT, eH, f1, f2⟩ := y
    have q1 := f1 vs (.of (s _ _ e1))
    have q2 := f2 us (.of (s _ _ e2))
    rw [hv] at q1; cases q1
    rw [hu] at q2; cases q2
    subst ex eH ed
    exact rp_pair s hT rv ru
  stop := fun i H s hi => ⟨vs, us, .of (s _ _ e1), .of (s _ _ e2), by
    unfold zipD at hi
    rw [List.length_zipWith] at hi
    rw [r1.length, r2.length]
    omega⟩
theorem jok_zipT {K : PySem.W.Frag} {G : Hp} {l m : Addr} {vs us : List V} {ds es : List PyData} (e1 : Rd G l (.tup vs)) (e2 : Rd G m (.tup us)) (r1 : RpAll G vs ds) (r2 : RpAll G us es) : JOk (RZ.ItzT K l m) G (zipD ds es) where
  go := fun i H d s hd => by
    obtain ⟨x, y, h1, h2, _⟩ := zipD_get hd
    obtain ⟨v, hv, _⟩ := r1.get h1
    obtain ⟨u, hu, _⟩ := r2.get h2
    exact ⟨vs, us, v, u, .inl (same_rd s e1), .inl (same_rd s e2), hv, hu⟩
  yld := fun i H d x H' s hd y => by
    obtain ⟨p, q, h1, h2, ed⟩ := zipD_get hd
    obtain ⟨v, hv, rv⟩ := r1.get h1
    obtain ⟨u, hu, ru⟩ := r2.get h2
    obtain ⟨T, x1, y1, ex, hT, eH, f1, f2⟩ := y
    have q1 := f1 vs (.inl (same_rd s e1))
    have q2 := f2 us (.inl (same_rd s e2))
    rw [hv] at q1; cases q1
    rw [hu] at q2; cases q2
    subst ex eH ed
    exact rp_pair s hT rv ru
  stop := fun i H s hi => ⟨vs, us, .inl (same_rd s e1), .inl (same_rd s e2), by
    unfold zipD at hi
    rw [List.length_zipWith] at hi
    rw [r1.length, r2.length]
    omega⟩
@[reducible] def zipK : List PyData → (List PyData → Prop) → Prop
  | [.list xs, .list ys], k => k (zipD xs ys)
  | [.tuple xs, .tuple ys], k => k (zipD xs ys)
  | _, _ => False
theorem ii_zip {p tpos : Pos} {elts : List Expr} {kk : Nat} (ck : CK X) (h : EA X ρ [a, b] fun ds ρ1 => zipK ds fun zs => Θ zs ρ1) (hg : Gl X "zip" := by rfl)
    (hs : starEach [a, b] X.env = (false, eval a X.env) :: starEach [b] X.env := by rfl) (hpl : (backTo pos (starEach [b] X.env)).any (·.1) = false := by rfl) : II X ρ (.Tuple elts kk tpos) (.Call (.Name "zip" p) [a, b] [] pos) Θ :=
  ⟨_, RZ.pi_zipA hg (ck.bt _ (by simp [bNames])) paW hs hpl, fun F σ H R S k => h F σ H _ S fun vs H' ds ρ' q S' g r => by
    match ds, q, r with
    | [.list xs, .list ys], q, .cons (.lst e1 r1) (.cons (.lst e2 r2) .nil) => exact ⟨_, _, _, _, rfl, .inl ⟨.of (mask_le _ _ e1), .of (mask_le _ _ e2), k _ H' _ ρ' q S' g (jok_zip e1 e2 r1 r2)⟩⟩
    | [.tuple xs, .tuple ys], q, .cons (.tup e1 r1) (.cons (.tup e2 r2) .nil) => exact ⟨_, _, _, _, rfl, .inr ⟨.inl (same_rd mask_le e1), .inl (same_rd mask_le e2), k _ H' _ ρ' q S' g (jok_zipT e1 e2 r1 r2)⟩⟩⟩
def enumD (ds : List PyData) : List PyData := ds.mapIdx fun i d => .tuple [.int (i : Int), d]
theorem enumD_get {ds : List PyData} {i : Nat} {p : PyData} (h : (enumD ds)[i]? = some p) : ∃ d, ds[i]? = some d ∧ p = .tuple [.int (i : Int), d] := by
  unfold enumD at h
  rw [List.getElem?_mapIdx] at h
  cases h1 : ds[i]? with
  | none => rw [h1] at h; cases h
  | some d =>
    rw [h1] at h
    exact ⟨d, rfl, (Option.some.inj h).symm⟩
theorem enumD_len (ds : List PyData) : (enumD ds).length = ds.length := by unfold enumD; rw [List.length_mapIdx]
theorem jok_enum {K : PySem.W.Frag} {G : Hp} {l : Addr} {vs : List V} {ds : List PyData} (e1 : G l = some (.lst vs)) (r1 : RpAll G vs ds) : JOk (Ite K l) G (enumD ds) where
  go := fun i H d s hd => by
    obtain ⟨x, h1, _⟩ := enumD_get hd
    obtain ⟨v, hv, _⟩ := r1.get h1
    exact ⟨vs, v, .of (s _ _ e1), hv⟩
  yld := fun i H d x H' s hd y => by
    obtain ⟨p, h1, ed⟩ := enumD_get hd
    obtain ⟨v, hv, rv⟩ := r1.get h1
    obtain ⟨T, x1, ex, hT, eH, f1⟩ := y
    have q1 := f1 vs (.of (s _ _ e1))
    rw [hv] at q1; cases q1
    subst ex eH ed
    exact rp_pair s hT (.int _) rv
  stop := fun i H s hi => ⟨vs, .of (s _ _ e1), by rw [enumD_len] at hi; rw [r1.length]; exact Nat.le_of_eq hi⟩
theorem ii_enumL {p tpos : Pos} {elts : List Expr} {kk : Nat} (ck : CK X) (h : EA X ρ [a] fun ds ρ1 => ∃ xs, ds = [.list xs] ∧ Θ (enumD xs) ρ1) (hg : Gl X "enumerate" := by rfl)
    (hs : starEach [a] X.env = [(false, eval a X.env)] := by rfl) : II X ρ (.Tuple elts kk tpos) (.Call (.Name "enumerate" p) [a] [] pos) Θ :=
  ⟨_, pi_enum hg (ck.bt _ (by simp [bNames])) paW hs, fun F σ H R S k => h F σ H _ S fun vs H' ds ρ' ⟨xs, ed, q⟩ S' g r => by
    subst ed
    match r with
    | .cons (.lst e1 r1) .nil => exact ⟨_, _, rfl, .of (mask_le _ _ e1), k _ H' _ ρ' q S' g (jok_enum e1 r1)⟩⟩

/-! ### list comprehensions that change nothing -/
/-- the slots as a comprehension's block sees them: its own names without a value, what is one's own hidden -/
def hideAt (vs : List Nat) : Nat → List Sl → List Sl
  | _, [] => []
  | i, s :: r => (if i ∈ vs then .non else if s.ad = [] then s else .non) :: hideAt vs (i + 1) r
theorem os_hide (vs : List Nat) : ∀ (i : Nat) (ρ : List Sl), os (hideAt vs i ρ) = []
  | _, [] => rfl
  | i, s :: r => by
    unfold hideAt
    show (if i ∈ vs then Sl.non else if s.ad = [] then s else Sl.non).ad ++ os (hideAt vs (i + 1) r) = []
    rw [os_hide vs (i + 1) r, List.append_nil]
    split
    · rfl
    · split
      · assumption
      · rfl
theorem slots_hide {G H G' H' : Hp} {vs : List Nat} (g : Same G G') : ∀ {σ τ : L2.St} {ρ : List Sl} (i : Nat), SlotsOk G H σ ρ → τ.length = σ.length → (∀ j, i + j ∉ vs → τ[j]? = σ[j]?) → SlotsOk G' H' τ (hideAt vs i ρ)
  | [], [], [], _, _, _, _ => trivial
  | [], _ :: _, _, _, _, l, _ => by simp at l
  | _ :: _, [], _, _, _, l, _ => by simp at l
  | [], _, _ :: _, _, h, _, _ => h.elim
  | _ :: _, _, [], _, h, _, _ => h.elim
  | x :: xs, y :: ys, s :: r, i, h, l, e => by
    unfold hideAt
    refine ⟨?_, slots_hide g (i + 1) h.2 (by simpa using l) fun j hj => ?_⟩
    · by_cases hi : i ∈ vs
      · rw [if_pos hi]; trivial
      · rw [if_neg hi]
        have e0 := e 0 (by simpa using hi)
        simp only [List.getElem?_cons_zero, Option.some.injEq] at e0
        subst e0
        by_cases hs : s.ad = []
        · rw [if_pos hs]
          exact h.1.up g fun a m => by rw [hs] at m; cases m
        · rw [if_neg hs]; trivial
    · have := e (j + 1) (by rw [show i + (j + 1) = i + 1 + j by omega]; exact hj)
      simpa using this
@[reducible] def TTs (X : Cx) (ρ : List Sl) : List Expr → (Bool → List Sl → Prop) → Prop
  | [], Ψ => Ψ true ρ
  | [c], Ψ => ET X ρ c Ψ
  | _, _ => False
def tTs (X : Cx) : List Expr → TT
  | [] => tYes
  | [c] => tT X c
  | _ => fun _ _ _ => False
theorem ptsW : ∀ {ifs : List Expr}, PTs X ifs (tTs X ifs)
  | [] => pts_nil
  | [c] => pts_one ptW
  | _ :: _ :: _ => ⟨fun _ _ _ _ _ _ h => h.elim⟩
theorem tts_run : ∀ {ifs : List Expr} {Ψ : Bool → List Sl → Prop} {ρ : List Sl}, TTs X ρ ifs Ψ → ∀ {F : Fm} {σ : L2.St} {H : Hp}, Stt F H σ ρ → ∀ {Q : Bool → Hp → Prop}, (∀ i H' ρ', Ψ i ρ' → Stt F H' σ ρ' → Same (gh F ρ H) (gh F ρ' H') → Q i H') → tTs X ifs σ H Q
  | [], _, ρ, h, _, _, H, S, _, q => q true H ρ h S (Same.refl _)
  | [c], _, _, h, F, σ, H, S, Q, q => h F σ H _ S fun b H' ρ' hb S' g => q b H' ρ' hb S' g
  | _ :: _ :: _, _, _, h, _, _, _, _, _, _ => h.elim
/-- the contexts of a comprehension's block -/
structure Blk (X : Cx) (scope : Scope) (X' : Cx) : Prop where
  ex : ∃ (s : Shared) (H : Hp) (C : Addr) (cl : List (Str × Addr)) (fp : List Addr), X' = X.blk s H scope (compEnvC scope cl C X.env) fp
theorem CK.blk (ck : CK X) {s : Shared} {H : Hp} {scope : Scope} {env : Env} {fp : List Addr} : CK (X.blk s H scope env fp) := ⟨ck.calm, ck.nd, ck.hu, ck.bt⟩
theorem wipe_at {σ : L2.St} {i : Nat} : ∀ {vs : List Nat}, i ∈ vs → i < σ.length → (wipe σ vs)[i]? = some none
  | [], h, _ => nomatch h
  | v :: vs, h, l => by
    unfold wipe
    by_cases z : v = i
    · subst z
      rw [List.getElem?_set_self (by rw [wipe_length]; exact l)]
    · rw [List.getElem?_set_ne z]
      exact wipe_at ((List.mem_cons.mp h).elim (fun y => absurd y.symm z) id) l
theorem wipe_same {σ τ : L2.St} {vs : List Nat} (l : τ.length = σ.length) (h : ∀ i, i ∉ vs → τ[i]? = σ[i]?) : wipe τ vs = wipe σ vs := by
  refine List.ext_getElem? fun i => ?_
  by_cases m : i ∈ vs
  · by_cases hi : i < σ.length
    · rw [wipe_at m hi, wipe_at m (by omega)]
    · rw [List.getElem?_eq_none (by rw [wipe_length]; omega), List.getElem?_eq_none (by rw [wipe_length]; omega)]
  · rw [wipe_out m, wipe_out m, h i m]
/-- a comprehension's part from an item d on: the target, the tests, the element: it gives o -/
def LcB (X : Cx) (scope : Scope) (ρ0 : List Sl) (tg elt : Expr) (ifs : List Expr) (vs : List Nat) (d : PyData) (o : Option PyData) : Prop :=
  ∃ js : List Nat, (∀ j ∈ js, j ∈ vs) ∧ ∀ (s : Shared) (H : Hp) (C : Addr) (cl : List (Str × Addr)) (fp : List Addr), GG (X.blk s H scope (compEnvC scope cl C X.env) fp) ρ0 tg d js fun ρ2 =>
    ∀ (s : Shared) (H : Hp) (C : Addr) (cl : List (Str × Addr)) (fp : List Addr), TTs (X.blk s H scope (compEnvC scope cl C X.env) fp) ρ2 ifs fun t ρ3 =>
      if t = true then ∀ (s : Shared) (H : Hp) (C : Addr) (cl : List (Str × Addr)) (fp : List Addr), EE (X.blk s H scope (compEnvC scope cl C X.env) fp) ρ3 elt fun y _ => o = some y else o = none
def lcG (X : Cx) (scope : Scope) (tg : Expr) : TG := fun v σ' H' Q' => ∀ (s : Shared) (Hb : Hp) (C : Addr) (cl : List (Str × Addr)) (fp : List Addr), tG (X.blk s Hb scope (compEnvC scope cl C X.env) fp) tg v σ' H' Q'
def lcT (X : Cx) (scope : Scope) (ifs : List Expr) : TT := fun σ' H' Q' => ∀ (s : Shared) (Hb : Hp) (C : Addr) (cl : List (Str × Addr)) (fp : List Addr), tTs (X.blk s Hb scope (compEnvC scope cl C X.env) fp) ifs σ' H' Q'
def lcE (X : Cx) (scope : Scope) (elt : Expr) : TE := fun σ' H' Q' => ∀ (s : Shared) (Hb : Hp) (C : Addr) (cl : List (Str × Addr)) (fp : List Addr), tW (X.blk s Hb scope (compEnvC scope cl C X.env) fp) elt σ' H' Q'
theorem lc_run {J : It} {F : Fm} {σ : L2.St} {H1 : Hp} {ρ1 : List Sl} {ds : List PyData} {scope : Scope} {vs : List Nat} {elt : Expr} {ifs : List Expr} {Q : VK}
    (S1 : Stt F H1 σ ρ1) (jo : JOk J (gh F ρ1 H1) ds) (g : PyData → Option PyData) (hz : ds.length ≤ 1000000) (hb : ∀ d ∈ ds, LcB X scope (hideAt vs 0 ρ1) tg elt ifs vs d (g d))
    (q : ∀ D H', Same H1 H' → Rp (gh F ρ1 H') (.ref D) (.list (ds.filterMap g)) → Q (.ref D) H') :
    ∀ D, H1 D = none → ∃ W : Nat → Nat → Hp → Prop, (∃ m, W 0 m (upd H1 D (.lst []))) ∧ ∀ i m H, W i m H →
      (J.stop i H ∧ Q (.ref D) H) ∨ (J.go i H ∧ ∃ Nx : Hp → Prop, (∀ H', Nx H' → ∃ m', m' < m ∧ W (i + 1) m' H') ∧ ∀ x H', J.yld i H x H' →
        lcG X scope tg x (wipe σ vs) H' fun σ2 H2 => wipe σ2 vs = wipe σ vs ∧ lcT X scope ifs σ2 H2 fun b H3 =>
        if b = true then lcE X scope elt σ2 H3 fun y H4 => ∃ acc, H4 D = some (.lst acc) ∧ acc.length < sizeLine ∧ Nx (upd H4 D (.lst (acc ++ [y]))) else Nx H3) := by
  intro D hD
  have sD := same_new (o := .lst []) hD
  have nD : D ∉ F.hd ++ os ρ1 := fun m => S1.ad D m hD
  refine ⟨fun i m H => m = ds.length - i ∧ i ≤ ds.length ∧ Same H1 H ∧ ∃ us, H D = some (.lst us) ∧ RpAll (mask (D :: (F.hd ++ os ρ1)) H) us ((ds.take i).filterMap g), ⟨ds.length, by omega, Nat.zero_le _, sD, [], upd_same, .nil⟩, ?_⟩
  rintro i m H ⟨rfl, hi, s1, us, eD, rD⟩
  have sG : Same (gh F ρ1 H1) H := mask_le.trans s1
  by_cases hlt : i < ds.length
  · have hd : ds[i]? = some ds[i] := List.getElem?_eq_getElem hlt
    have tk : (ds.take (i + 1)).filterMap g = (ds.take i).filterMap g ++ (g ds[i]).toList := by
      rw [List.take_add_one, hd, List.filterMap_append]
      cases hg : g ds[i] <;> simp [hg]
    refine .inr ⟨jo.go i H _ sG hd, fun H' => Same H1 H' ∧ ∃ us, H' D = some (.lst us) ∧ RpAll (mask (D :: (F.hd ++ os ρ1)) H') us ((ds.take (i + 1)).filterMap g), fun H' ⟨a, b⟩ => ⟨ds.length - (i + 1), by omega, rfl, hlt, a, b⟩, fun x H' y s Hb C cl fp => ?_⟩
    obtain ⟨sH, rx⟩ := jo.yld i H _ x H' sG hd y
    obtain ⟨js, hjs, hb1⟩ := hb _ (List.getElem_mem hlt)
    have up : ∀ a ∈ D :: (F.hd ++ os ρ1), H a ≠ none := fun a ma => by
      rcases List.mem_cons.mp ma with z | z
      · rw [z, eD]; exact fun z => nomatch z
      · cases q0 : H1 a with
        | none => exact absurd q0 (S1.ad a z)
        | some o => rw [s1 a o q0]; exact fun z => nomatch z
    have up' : ∀ a ∈ D :: (F.hd ++ os ρ1), H' a ≠ none := fun a ma => by
      cases q0 : H a with
      | none => exact absurd q0 (up a ma)
      | some o => rw [sH a o q0]; exact fun z => nomatch z
    have mk : ∀ H5, Same H1 H5 → Same (gh F ρ1 H1) (mask (D :: (F.hd ++ os ρ1)) H5) := fun H5 s5 => mask_mono (fun a ma ha => by
      rcases List.mem_cons.mp ma with z | z
      · exact absurd (z ▸ hD) ha
      · exact z) fun a o _ e => s5 a o e
    have S2 : Stt ⟨D :: (F.hd ++ os ρ1), [], H'⟩ H' (wipe σ vs) (hideAt vs 0 ρ1) := by
      have eo := os_hide vs 0 ρ1
      refine ⟨up', fun a o _ e => e, fun a e => e, by rw [eo]; exact List.nodup_nil, (fun a ma => by rw [eo] at ma; cases ma), (fun a ma => by rw [eo] at ma; cases ma), ?_⟩
      refine slots_hide (G := gh F ρ1 H1) (H := H1) ?_ 0 S1.sl (wipe_length σ vs) fun j hj => wipe_out (by simpa using hj)
      show Same (gh F ρ1 H1) (mask (D :: (F.hd ++ os ρ1) ++ os (hideAt vs 0 ρ1)) H')
      rw [eo, List.append_nil]
      exact mk H' (s1.trans sH)
    have rx' : Rp (gh ⟨D :: (F.hd ++ os ρ1), [], H'⟩ (hideAt vs 0 ρ1) H') x ds[i] := by
      show Rp (mask (D :: (F.hd ++ os ρ1) ++ os (hideAt vs 0 ρ1)) H') x ds[i]
      rw [os_hide, List.append_nil]
      refine rx _ up fun a ma => ?_
      rcases List.mem_cons.mp ma with z | z
      · rw [z]; exact (mask_out nD).trans hD
      · exact mask_in z
    refine hb1 s Hb C cl fp _ (wipe σ vs) H' x _ S2 rx' fun σ2 ρ2 h2 S3 g3 e3 => ⟨?_, fun s Hb C cl fp => ?_⟩
    · rw [wipe_same e3.1 fun j hj => e3.2 j fun m => hj (hjs j m)]
      exact wipe_same (wipe_length σ vs) fun j hj => wipe_out hj
    · have fin : ∀ {H3 : Hp} {ρ3 : List Sl}, Stt ⟨D :: (F.hd ++ os ρ1), [], H'⟩ H3 σ2 ρ3 → Same H' H3 := fun S a o e => S.fr a o (fun z => nomatch z) e
      have carry : ∀ {H3 : Hp}, Same H' H3 → H3 D = some (.lst us) ∧ RpAll (mask (D :: (F.hd ++ os ρ1)) H3) us ((ds.take i).filterMap g) := fun s3 => ⟨s3 _ _ (sH _ _ eD), RpAll.up (mask_same (sH.trans s3)) _ _ rD⟩
      refine tts_run (h2 s Hb C cl fp) S3 fun t H3 ρ3 h3 S4 g4 => ?_
      cases t with
      | false =>
        rw [if_neg Bool.false_ne_true] at h3
        obtain ⟨c1, c2⟩ := carry (fin S4)
        refine iteF ⟨(s1.trans sH).trans (fin S4), us, c1, ?_⟩
        rw [tk, h3]
        rw [show (none : Option PyData).toList = [] from rfl, List.append_nil]
        exact c2
      | true =>
        rw [if_pos rfl] at h3
        refine iteT fun s Hb C cl fp => h3 s Hb C cl fp _ σ2 H3 _ S4 fun y H4 d ρ4 hd4 S5 g5 r5 => ?_
        obtain ⟨c1, c2⟩ := carry (fin S5)
        refine ⟨us, c1, big_lt ?_, ?_, us ++ [y], upd_same, ?_⟩
        · have l1 := c2.length
          have l2 := List.length_filterMap_le g (ds.take i)
          rw [List.length_take] at l2
          omega
        · have s5 := (s1.trans sH).trans (fin S5)
          intro a o ea
          rw [upd_ne (ne_of_none ea hD)]
          exact s5 a o ea
        · rw [tk, hd4]
          have em : mask (D :: (F.hd ++ os ρ1)) (upd H4 D (.lst (us ++ [y]))) = mask (D :: (F.hd ++ os ρ1)) H4 := by
            funext a
            by_cases ha : a ∈ D :: (F.hd ++ os ρ1)
            · rw [mask_in ha, mask_in ha]
            · rw [mask_out ha, mask_out ha, upd_ne fun z => ha (by rw [z]; exact List.mem_cons_self)]
          rw [em]
          refine c2.app (.cons (Rp.up (mask_sub fun a ma => List.mem_append_left _ ma) _ _ r5) .nil)
  · have e : i = ds.length := by omega
    subst e
    rw [List.take_length] at rD
    refine .inl ⟨jo.stop _ H sG rfl, q D H s1 (.lst ((mask_out nD).trans eD) (RpAll.up (mask_sub fun a ma => List.mem_cons_of_mem _ ma) _ _ rD))⟩
/-- what a comprehension asks: the items, and how each goes -/
@[reducible] def LcK (X : Cx) (scope : Scope) (tg elt : Expr) (ifs : List Expr) (vs : List Nat) (Φ : PyData → List Sl → Prop) (ds : List PyData) (ρ1 : List Sl) : Prop :=
  ∃ g : PyData → Option PyData, ds.length ≤ 1000000 ∧ (∀ d ∈ ds, LcB X scope (hideAt vs 0 ρ1) tg elt ifs vs d (g d)) ∧ Φ (.list (ds.filterMap g)) ρ1
theorem ee_lc {iter elt : Expr} {ifs : List Expr} {scope : Scope} (own : List (Str × Nat)) (ck : CK X) (ok : BlkOk X.N X.env.scope scope own) (h : II X ρ tg iter fun ds ρ1 => LcK X scope tg elt ifs (own.map (·.2)) Φ ds ρ1)
    (hs : ∀ x, foldedSetIterable iter X.env x = pure x := by intro _; rfl) : EE X ρ (.ListComp elt [⟨tg, iter, ifs, 0⟩] scope pos) Φ := fun F σ H Q S k => by
  obtain ⟨wi, hi, hr⟩ := h
  refine ofPE (pe_lc (g := lcG X scope tg) (tt := lcT X scope ifs) (te := lcE X scope elt) ck.calm ck.nd hi ok (fun s H C cl fp => ⟨fun pins s' σ H' v u Q I r h => pgW.run pins s' σ H' v u Q I r (h s H C cl fp)⟩)
    (fun s H C cl fp => ⟨fun pins s' σ H' Q I h => ptsW.run pins s' σ H' Q I (h s H C cl fp)⟩) (fun s H C cl fp => ⟨fun pins s' σ H' Q I h => peW.run pins s' σ H' Q I (h s H C cl fp)⟩) hs) ?_
  refine hr F σ H _ S fun J H1 ds ρ1 ⟨g, hz, hb, q⟩ S1 g1 jo => ?_
  exact lc_run S1 jo g hz hb fun D H' s1 r => k _ H' _ ρ1 q (S1.ext s1) (g1.trans (S1.gext s1)) r
/-- y = [..] -/
theorem ss_setLc {iter elt : Expr} {ifs : List Expr} {scope : Scope} {y : Str} {py spos : Pos} (j : Nat) (own : List (Str × Nat)) (ck : CK X) (ok : BlkOk X.N X.env.scope scope own) (h : II X ρ tg iter fun ds ρ1 => LcK X scope tg elt ifs (own.map (·.2)) (fun d ρ2 => D.nx (ρ2.set j (.dat d))) ds ρ1)
    (hsw : swapsWith (.ListComp elt [⟨tg, iter, ifs, 0⟩] scope pos) (some (.Name y py)) spos.line X.env = pure true) (hy : X.N[j]? = some y := by rfl) (hyl : X.env.scope.names.lookup y = some .local := by rfl)
    (hs : ∀ x, foldedSetIterable iter X.env x = pure x := by intro _; rfl) : SS X ρ (.Assign [.Name y py] (.ListComp elt [⟨tg, iter, ifs, 0⟩] scope pos) spos) D := fun F σ H E S k => by
  obtain ⟨wi, hi, hr⟩ := h
  refine ofPS (ps_setLc (g := lcG X scope tg) (tt := lcT X scope ifs) (te := lcE X scope elt) ck.calm ck.nd hy hyl hsw hi ok (fun s H C cl fp => ⟨fun pins s' σ H' v u Q I r h => pgW.run pins s' σ H' v u Q I r (h s H C cl fp)⟩)
    (fun s H C cl fp => ⟨fun pins s' σ H' Q I h => ptsW.run pins s' σ H' Q I (h s H C cl fp)⟩) (fun s H C cl fp => ⟨fun pins s' σ H' Q I h => peW.run pins s' σ H' Q I (h s H C cl fp)⟩) hs) ?_
  refine hr F σ H _ S fun J H1 ds ρ1 ⟨g, hz, hb, q⟩ S1 g1 jo => ?_
  refine lc_run (Q := fun x H1 => gName j x σ H1 E.nx) S1 jo g hz hb fun D H' s1 r => ?_
  have S2 := S1.ext s1
  exact k.nx _ _ _ q (S2.set j rfl ⟨_, rfl, r⟩) ((g1.trans (S1.gext s1)).trans (S2.gset j rfl))
/-- .. without tests: each item by f -/
theorem lcK_map {elt : Expr} {scope : Scope} {vs : List Nat} {ds : List PyData} {ρ1 : List Sl} (f : PyData → PyData) (hz : ds.length ≤ 1000000) (js : List Nat) (hjs : ∀ j ∈ js, j ∈ vs)
    (hb : ∀ d ∈ ds, ∀ (s : Shared) (H : Hp) (C : Addr) (cl : List (Str × Addr)) (fp : List Addr), GG (X.blk s H scope (compEnvC scope cl C X.env) fp) (hideAt vs 0 ρ1) tg d js fun ρ2 =>
      ∀ (s : Shared) (H : Hp) (C : Addr) (cl : List (Str × Addr)) (fp : List Addr), EE (X.blk s H scope (compEnvC scope cl C X.env) fp) ρ2 elt fun y _ => f d = y) (q : Φ (.list (ds.map f)) ρ1) : LcK X scope tg elt [] vs Φ ds ρ1 :=
  ⟨fun d => some (f d), hz, fun d hd => ⟨js, hjs, fun s H C cl fp F σ H' v Q S r k => hb d hd s H C cl fp F σ H' v Q S r fun σ' ρ' h => k σ' ρ' fun s H C cl fp => by
    unfold TTs
    exact iteT fun s H C cl fp => (h s H C cl fp).mono fun y _ e => congrArg some e⟩, by rw [show (fun d => some (f d)) = some ∘ f from rfl, List.filterMap_eq_map]; exact q⟩

/-! ### statements -/
theorem bb_nil (q : D.nx ρ) : BB X ρ [] D := fun F σ H E S k => ofPSs pss_nil (k.nx σ H ρ q S (Same.refl _))
theorem bb_cons {st : Stmt} {r : List Stmt} (h : SS X ρ st { D with nx := fun ρ1 => BB X ρ1 r D }) : BB X ρ (st :: r) D := fun F σ H E S k =>
  ofPSs (pss_cons psW pssW) (h F σ H _ S ⟨fun σ' H' ρ' q S' g => q F σ' H' E S' (k.to g), k.rt, k.bk, k.ct⟩)
theorem bb_one {st : Stmt} (h : SS X ρ st D) : BB X ρ [st] D := fun F σ H E S k => ofPSs (pss_one psW) (h F σ H E S k)
/-- an own list becomes a datum -/
theorem bb_freeze (i : Nat) {l : Addr} {ds : List PyData} {r : List Stmt} (hs : ρ[i]? = some (.own l ds)) (h : BB X (ρ.set i (.dat (.list ds))) r D) : BB X ρ r D := fun F σ H E S k => h F σ H E (S.freeze hs) (k.to (S.gset i rfl))
theorem ss_freeze (i : Nat) {l : Addr} {ds : List PyData} {r : Stmt} (hs : ρ[i]? = some (.own l ds)) (h : SS X (ρ.set i (.dat (.list ds))) r D) : SS X ρ r D := fun F σ H E S k => h F σ H E (S.freeze hs) (k.to (S.gset i rfl))
theorem ss_set (j : Nat) {x : Str} {px : Pos} (ck : CK X) (h : EE X ρ e fun d ρ1 => D.nx (ρ1.set j (.dat d))) (hi : X.N[j]? = some x := by rfl) (hx : Loc X.env.scope x := by first | exact Or.inl rfl | exact Or.inr rfl)
    (hs : swapsWith e (some (.Name x px)) pos.line X.env = pure false := by rfl) (hf : X.fn x = true ∨ X.env.scope.names.lookup x = some .local := by first | exact .inl rfl | exact .inr rfl) : SS X ρ (.Assign [.Name x px] e pos) D := fun F σ H E S k =>
  ofPS (ps_set ck.nd hi hx peW hs hf) (h F σ H _ S fun v H' d ρ' q S' g r => k.nx _ _ _ q (S'.set j rfl ⟨v, rfl, r⟩) (g.trans (S'.gset j rfl)))
/-- x = [..], a list of one's own -/
theorem ss_setL (j : Nat) {x : Str} {px p2 : Pos} {es : List Expr} (ck : CK X) (h : EA X ρ es fun ds ρ1 => ds.length ≤ 1000000 ∧ ∀ l, D.nx (ρ1.set j (.own l ds))) (hi : X.N[j]? = some x := by rfl) (hx : Loc X.env.scope x := by first | exact Or.inl rfl | exact Or.inr rfl)
    (hs : swapsWith (.List es p2) (some (.Name x px)) pos.line X.env = pure false := by rfl) (hf : X.fn x = true ∨ X.env.scope.names.lookup x = some .local := by first | exact .inl rfl | exact .inr rfl) : SS X ρ (.Assign [.Name x px] (.List es p2) pos) D := fun F σ H E S k =>
  ofPS (ps_set ck.nd hi hx (pe_lst paW) hs hf) (h F σ H _ S fun vs H' ds ρ' ⟨hl, q⟩ S' g r => ⟨big_le (by rw [r.length]; exact hl), fun p hp => by
    have s2 := same_new (o := .lst vs) hp
    refine k.nx _ _ _ (q p) (S'.new j hp s2 rfl (by rw [upd_same]; exact fun z => nomatch z) ⟨rfl, vs, upd_same, RpAll.up ?_ _ _ r⟩) (g.trans (S'.gnew j hp s2 rfl))
    exact mask_mono (fun b m hb => (List.mem_cons.mp m).elim (fun z => absurd (z ▸ hp) hb) id) fun b o _ q => s2 b o q⟩)
/-- a, b, .. = e, e a tuple -/
theorem ss_asg {tg : Expr} {js : List Nat} (h : EE X ρ e fun d ρ1 => GG X ρ1 tg d js D.nx) (hs : swapsWithSole [tg] e pos.line X.env = pure false := by rfl) (hw : swappedStores [tg] e X.env = pure none := by rfl)
    (h1 : (assignEach [tg] X.env).map (·.2) = [assign tg X.env] := by rfl) : SS X ρ (.Assign [tg] e pos) D := fun F σ H E S k =>
  ofPS (ps_asg peW pgW hs hw h1) (h F σ H _ S fun v H' d ρ' q S' g r => q F σ H' v _ S' r fun σ' ρ2 q2 S2 g2 _ => k.nx _ _ _ q2 S2 (g.trans g2))
theorem ss_par {i j : Nat} {x y : Str} {px py pt : Pos} {kt k2 pt2} (ck : CK X) (h : EA X ρ [a, b] fun ds ρ1 => ∃ d1 d2, ds = [d1, d2] ∧ D.nx ((ρ1.set i (.dat d1)).set j (.dat d2))) (hij : i ≠ j := by decide)
    (hi : X.N[i]? = some x := by rfl) (hj : X.N[j]? = some y := by rfl) (hx : X.env.scope.names.lookup x = some .local := by rfl) (hy : X.env.scope.names.lookup y = some .local := by rfl)
    (hw : swappedStores [.Tuple [.Name x px, .Name y py] kt pt] (.Tuple [a, b] k2 pt2) X.env = pure (some [x, y]) := by rfl)
    (hs : swapsWithSole [.Tuple [.Name x px, .Name y py] kt pt] (.Tuple [a, b] k2 pt2) pos.line X.env = pure false := by rfl) : SS X ρ (.Assign [.Tuple [.Name x px, .Name y py] kt pt] (.Tuple [a, b] k2 pt2) pos) D := fun F σ H E S k =>
  ofPS (ps_par ck.calm ck.nd hi hj hij hx hy paW hw hs) (h F σ H _ S fun vs H' ds ρ' ⟨d1, d2, ed, q⟩ S' g r => by
    subst ed
    match r with
    | .cons r1 (.cons r2 .nil) =>
      have S2 := S'.set i (s := .dat d1) rfl ⟨_, rfl, r1⟩
      have g2 := S'.gset (s := .dat d1) i rfl
      have S3 := S2.set j (s := .dat d2) rfl ⟨_, rfl, Rp.up g2 _ _ r2⟩
      exact ⟨_, _, rfl, k.nx _ _ _ q S3 ((g.trans g2).trans (S2.gset j rfl))⟩)
theorem ss_par3 {i j l : Nat} {x y z : Str} {px py pz pt : Pos} {kt k2 pt2} (ck : CK X) (h : EA X ρ [a, b, c] fun ds ρ1 => ∃ d1 d2 d3, ds = [d1, d2, d3] ∧ D.nx (((ρ1.set i (.dat d1)).set j (.dat d2)).set l (.dat d3))) (hij : i ≠ j := by decide) (hil : i ≠ l := by decide) (hjl : j ≠ l := by decide)
    (hi : X.N[i]? = some x := by rfl) (hj : X.N[j]? = some y := by rfl) (hl : X.N[l]? = some z := by rfl) (hx : X.env.scope.names.lookup x = some .local := by rfl) (hy : X.env.scope.names.lookup y = some .local := by rfl) (hz : X.env.scope.names.lookup z = some .local := by rfl)
    (hw : swappedStores [.Tuple [.Name x px, .Name y py, .Name z pz] kt pt] (.Tuple [a, b, c] k2 pt2) X.env = pure (some [x, y, z]) := by rfl)
    (hs : swapsWithSole [.Tuple [.Name x px, .Name y py, .Name z pz] kt pt] (.Tuple [a, b, c] k2 pt2) pos.line X.env = pure false := by rfl) : SS X ρ (.Assign [.Tuple [.Name x px, .Name y py, .Name z pz] kt pt] (.Tuple [a, b, c] k2 pt2) pos) D := fun F σ H E S k =>
  ofPS (ps_par3 ck.calm ck.nd hi hj hl hij hil hjl hx hy hz paW hw hs) (h F σ H _ S fun vs H' ds ρ' ⟨d1, d2, d3, ed, q⟩ S' g r => by
    subst ed
    match r with
    | .cons r1 (.cons r2 (.cons r3 .nil)) =>
      have S2 := S'.set i (s := .dat d1) rfl ⟨_, rfl, r1⟩
      have g2 := S'.gset (s := .dat d1) i rfl
      have S3 := S2.set j (s := .dat d2) rfl ⟨_, rfl, Rp.up g2 _ _ r2⟩
      have g3 := S2.gset (s := .dat d2) j rfl
      have S4 := S3.set l (s := .dat d3) rfl ⟨_, rfl, Rp.up (g2.trans g3) _ _ r3⟩
      exact ⟨_, _, _, rfl, k.nx _ _ _ q S4 (((g.trans g2).trans g3).trans (S3.gset l rfl))⟩)
theorem ss_ret (h : EE X ρ e D.rt) : SS X ρ (.Return (some e) pos) D := fun F σ H E S k => ofPS (ps_ret peW) (h F σ H _ S fun v H' d ρ' q S' g r => k.rt v σ H' d ρ' q S' g r)
theorem ss_if {t u : List Stmt} (h : ET X ρ c fun b ρ1 => if b = true then BB X ρ1 t D else BB X ρ1 u D) : SS X ρ (.If c t u pos) D := fun F σ H E S k =>
  ofPS (ps_if ptW pssW pssW) (h F σ H _ S fun b H' ρ' q S' g => by
    cases b with
    | true => rw [if_pos rfl] at q; exact iteT (q F σ H' E S' (k.to g))
    | false => rw [if_neg Bool.false_ne_true] at q; exact iteF (q F σ H' E S' (k.to g)))
theorem ss_expr (h : EE X ρ e fun _ ρ1 => D.nx ρ1) (hs : swapsWith e none pos.line X.env = pure false := by rfl) : SS X ρ (.Expr e pos) D := fun F σ H E S k =>
  ofPS (ps_expr peW hs) (h F σ H _ S fun v H' d ρ' q S' g r => k.nx _ _ _ q S' g)
/-- an own list grows -/
theorem ss_app (i : Nat) {x : Str} {px ap cp : Pos} {l : Addr} {ds : List PyData} (hs : ρ[i]? = some (.own l ds)) (h : EE X ρ e fun d ρ1 => ∃ ds', ρ1[i]? = some (.own l ds') ∧ ds'.length < 1000000 ∧ D.nx (ρ1.set i (.own l (ds' ++ [d])))) (hN : X.N[i]? = some x := by rfl)
    (hv : Vis X.env.scope x := by first | exact Or.inl rfl | exact Or.inr (Or.inl rfl) | exact Or.inr (Or.inr rfl)) (hd : (x == ("__debug__" : Str)) = false := by decide) (hcd : (x == ("__classdict__" : Str)) = false := by decide)
    (hw : swapsWith (.Call (.Attribute (.Name x px) "append" ap) [e] [] cp) none pos.line X.env = pure false := by rfl)
    (hfew : ((backTo cp (starEach [e] X.env)).all (fun x => !x.1) && (backToKw cp (keywordEach [] X.env)).all (fun x => x.1.isSome) && decide ([e].length + ([] : List Keyword).length + (if ([] : List Keyword).isEmpty then 0 else 1) < 30)) = true := by rfl)
    (hline : (ap.endLine == cp.line) = true := by rfl) (he : starEach [e] X.env = (false, eval e X.env) :: starEach [] X.env := by rfl) : SS X ρ (.Expr (.Call (.Attribute (.Name x px) "append" ap) [e] [] cp) pos) D := fun F σ H E S k => by
  obtain ⟨y, e1, e2, vs, e3, r3⟩ := S.sl.get hs
  subst e2
  refine ofPS (ps_expr (pe_bm PySem.F.plainAttrs_list PySem.F.slot_list_append PySem.F.type_list_append mt_append (pe_var hN hv hd hcd) (pa_cons peW pa_nil he) rfl hfew hline he rfl) hw) ⟨_, e1, .inl ⟨rfl, _, .of e3⟩, h F σ H _ S fun v H' d ρ' ⟨ds', es, hl, q⟩ S' g r => ?_⟩
  obtain ⟨y', e1', e2', us, e3', r3'⟩ := S'.sl.get es
  rw [e1] at e1'
  cases e1'
  refine ⟨l, us, v, rfl, rfl, e3', big_lt (by rw [r3'.length]; exact hl), ?_⟩
  have em : gh F (ρ'.set i (.own l (ds' ++ [d]))) (upd H' l (.lst (us ++ [v]))) = gh F ρ' H' := by
    have eo : os (ρ'.set i (.own l (ds' ++ [d]))) = os ρ' := os_set_same es rfl
    have mo : l ∈ os ρ' := os_at es (List.mem_singleton.mpr rfl)
    show mask (F.hd ++ os (ρ'.set i (.own l (ds' ++ [d])))) _ = _
    rw [eo]
    funext a
    by_cases ha : a ∈ F.hd ++ os ρ'
    · rw [mask_in ha]; exact (mask_in ha).symm
    · rw [mask_out ha, upd_ne fun z => ha (by rw [z]; exact List.mem_append_right _ mo)]; exact (mask_out ha).symm
  obtain ⟨S2, g2⟩ := S'.chg (s := .own l (ds' ++ [d])) (H2 := upd H' l (.lst (us ++ [v]))) es rfl rfl (fun a o ha e => by rw [upd_ne ha]; exact e) (by rw [upd_same]; exact fun z => nomatch z) fun x ⟨ex, us', e4, r4⟩ => by
    rw [e3'] at e4; cases e4
    refine ⟨ex, _, upd_same, ?_⟩
    rw [em]
    exact r4.app (.cons r .nil)
  exact k.nx _ _ _ q S2 (g.trans g2)
/-- an own list's item stored -/
theorem ss_ixset (i : Nat) {x : Str} {px sp : Pos} {l : Addr} (h : EE X ρ e fun d ρ1 => ∃ ds', ρ1[i]? = some (.own l ds') ∧ EE X ρ1 b fun db ρ2 => ∃ j n ds2, db = .int j ∧ ρ2[i]? = some (.own l ds2) ∧ ixN ds2.length j = some n ∧ D.nx (ρ2.set i (.own l (ds2.set n d)))) (hN : X.N[i]? = some x := by rfl)
    (hv : Vis X.env.scope x := by first | exact Or.inl rfl | exact Or.inr (Or.inl rfl) | exact Or.inr (Or.inr rfl)) (hd : (x == ("__debug__" : Str)) = false := by decide) (hcd : (x == ("__classdict__" : Str)) = false := by decide)
    (ha : ∀ v, assign (.Subscript (.Name x px) b sp) X.env v = (do
      let ov ← holding [v] (eval (.Name x px) X.env)
      let iv ← holding [v, ov] (eval b X.env)
      standAt sp
      holding [v, ov, iv] (setItem ov iv v)
      release [v, ov, iv] []) := by intro _; rfl)
    (hs : swapsWithSole [.Subscript (.Name x px) b sp] e pos.line X.env = pure false := by rfl) (hw : swappedStores [.Subscript (.Name x px) b sp] e X.env = pure none := by rfl)
    (h1 : (assignEach [.Subscript (.Name x px) b sp] X.env).map (·.2) = [assign (.Subscript (.Name x px) b sp) X.env] := by rfl) : SS X ρ (.Assign [.Subscript (.Name x px) b sp] e pos) D := fun F σ H E S k =>
  ofPS (ps_asg peW (pg_sub (pe_var hN hv hd hcd) peW set_list ha) hs hw h1) (h F σ H _ S fun v H1 d ρ1 ⟨ds', es, h1⟩ S1 g1 r1 => by
    obtain ⟨y, e1, e2, us, e3, r3⟩ := S1.sl.get es
    subst e2
    refine ⟨_, e1, h1 F σ H1 _ S1 fun u H2 db ρ2 ⟨j, n, ds2, ej, es2, hn, q⟩ S2 g2 r2 => ?_⟩
    subst ej
    cases r2
    obtain ⟨y', e1', e2', us, e3', r3'⟩ := S2.sl.get es2
    rw [e1] at e1'
    cases e1'
    cases e2'
    refine ⟨l, us, j, n, rfl, rfl, e3', by rw [r3'.length]; exact hn, ?_⟩
    have em : gh F (ρ2.set i (.own l (ds2.set n d))) (upd H2 l (.lst (us.set n v))) = gh F ρ2 H2 := by
      have eo : os (ρ2.set i (.own l (ds2.set n d))) = os ρ2 := os_set_same es2 rfl
      have mo : l ∈ os ρ2 := os_at es2 (List.mem_singleton.mpr rfl)
      show mask (F.hd ++ os (ρ2.set i (.own l (ds2.set n d)))) _ = _
      rw [eo]
      funext a
      by_cases ha : a ∈ F.hd ++ os ρ2
      · rw [mask_in ha]; exact (mask_in ha).symm
      · rw [mask_out ha, upd_ne fun z => ha (by rw [z]; exact List.mem_append_right _ mo)]; exact (mask_out ha).symm
    obtain ⟨S3, g3⟩ := S2.chg (s := .own l (ds2.set n d)) (H2 := upd H2 l (.lst (us.set n v))) es2 rfl rfl (fun a o ha e => by rw [upd_ne ha]; exact e) (by rw [upd_same]; exact fun z => nomatch z) fun x ⟨ex, us', e4, r4⟩ => by
      rw [e3'] at e4; cases e4
      refine ⟨ex, _, upd_same, ?_⟩
      rw [em]
      exact r4.st (Rp.up g2 _ _ r1)
    exact k.nx _ _ _ q S3 ((g1.trans g2).trans g3))

/-! ### loops -/
theorem ss_for {tg iter : Expr} {body : List Stmt} (ck : CK X) (h : II X ρ tg iter fun ds ρ1 => ∃ I : Nat → List Sl → Prop, I 0 ρ1 ∧
      (∀ (i : Nat) d ρ2, ds[i]? = some d → I i ρ2 → ∃ js, GG X ρ2 tg d js fun ρ3 => BB X ρ3 body { D with nx := I (i + 1), ct := I (i + 1), bk := D.nx }) ∧ ∀ ρ2, I ds.length ρ2 → D.nx ρ2)
    (hp : PassesOwn (model X.prog X.w) X.A X.env X.xe := by exact PassesOwn.never) (hs : ∀ x, foldedSetIterable iter X.env x = pure x := by intro _; rfl) : SS X ρ (.For tg iter body [] pos) D := fun F σ H E S k => by
  obtain ⟨wi, hi, hr⟩ := h
  refine ofPS (ps_for hp ck.calm hi pgW pssW hs) (hr F σ H _ S fun J H1 ds ρ1 ⟨I, h0, hst, hd⟩ S1 g1 jo => ?_)
  refine ⟨fun i m σ' H' => m = ds.length - i ∧ i ≤ ds.length ∧ ∃ ρ2, I i ρ2 ∧ Stt F H' σ' ρ2 ∧ Same (gh F ρ1 H1) (gh F ρ2 H'), ⟨ds.length, by omega, Nat.zero_le _, ρ1, h0, S1, Same.refl _⟩, ?_⟩
  rintro i m σ' H' ⟨rfl, hle, ρ2, hI, S2, g2⟩
  by_cases hlt : i < ds.length
  · have hdi : ds[i]? = some ds[i] := List.getElem?_eq_getElem hlt
    have sG : Same (gh F ρ1 H1) H' := g2.trans mask_le
    refine .inr ⟨jo.go i H' _ sG hdi, fun σ3 H3 => ∃ ρ3, I (i + 1) ρ3 ∧ Stt F H3 σ3 ρ3 ∧ Same (gh F ρ1 H1) (gh F ρ3 H3), fun σ3 H3 ⟨ρ3, a, b, c⟩ => ⟨ds.length - (i + 1), by omega, rfl, hlt, ρ3, a, b, c⟩, fun x H3 y => ?_⟩
    obtain ⟨sH, rx⟩ := jo.yld i H' _ x H3 sG hdi y
    obtain ⟨js, gg⟩ := hst i _ ρ2 hdi hI
    have S3 := S2.ext sH
    have rx' : Rp (gh F ρ2 H3) x ds[i] := rx _ S2.ad fun a ma => by
      cases q : gh F ρ1 H1 a with
      | none => rfl
      | some o =>
        have := g2 a o q
        rw [show gh F ρ2 H' a = none from mask_in ma] at this
        cases this
    have g3 := g2.trans (S2.gext sH)
    refine gg F σ' H3 x _ S3 rx' fun σ4 ρ4 hb S4 g4 _ => hb F σ4 H3 _ S4 ⟨fun σ5 H5 ρ5 q S5 g5 => ⟨ρ5, q, S5, (g3.trans g4).trans g5⟩, fun v σ5 H5 d ρ5 q S5 g5 r => k.rt v σ5 H5 d ρ5 q S5 (((g1.trans g3).trans g4).trans g5) r,
      fun σ5 H5 ρ5 q S5 g5 => k.nx σ5 H5 ρ5 q S5 (((g1.trans g3).trans g4).trans g5), fun σ5 H5 ρ5 q S5 g5 => ⟨ρ5, q, S5, (g3.trans g4).trans g5⟩⟩
  · have e : i = ds.length := by omega
    subst e
    exact .inl ⟨jo.stop _ H' (g2.trans mask_le) rfl, k.nx σ' H' ρ2 (hd ρ2 hI) S2 (g1.trans g2)⟩
theorem ss_while {body : List Stmt} (I : Nat → List Sl → Prop) (h0 : ∃ m, I m ρ) (hst : ∀ m ρ1, I m ρ1 → ET X ρ1 c fun t ρ2 => if t = true then BB X ρ2 body { D with nx := fun ρ3 => ∃ m', m' < m ∧ I m' ρ3, ct := fun ρ3 => ∃ m', m' < m ∧ I m' ρ3, bk := D.nx } else D.nx ρ2)
    (hp : PassesOwn (model X.prog X.w) X.A X.env X.xe := by exact PassesOwn.never) : SS X ρ (.While c body [] pos) D := fun F σ H E S k => by
  obtain ⟨m0, h0⟩ := h0
  refine ofPS (ps_while hp ptW pssW) ⟨fun m σ' H' => ∃ ρ1, I m ρ1 ∧ Stt F H' σ' ρ1 ∧ Same (gh F ρ H) (gh F ρ1 H'), ⟨m0, ρ, h0, S, Same.refl _⟩, ?_⟩
  rintro m σ' H' ⟨ρ1, hI, S1, g1⟩
  refine hst m ρ1 hI F σ' H' _ S1 fun t H2 ρ2 q S2 g2 => ?_
  cases t with
  | false =>
    rw [if_neg Bool.false_ne_true] at q
    exact iteF (k.nx σ' H2 ρ2 q S2 (g1.trans g2))
  | true =>
    rw [if_pos rfl] at q
    have g3 := g1.trans g2
    exact iteT ⟨fun σ3 H3 => ∃ m', m' < m ∧ ∃ ρ3, I m' ρ3 ∧ Stt F H3 σ3 ρ3 ∧ Same (gh F ρ H) (gh F ρ3 H3), fun σ3 H3 ⟨m', hm, ρ3, a⟩ => ⟨m', hm, ρ3, a⟩, q F σ' H2 _ S2 ⟨fun σ3 H3 ρ3 ⟨m', hm, hI'⟩ S3 g4 => ⟨m', hm, ρ3, hI', S3, g3.trans g4⟩,
      fun v σ3 H3 d ρ3 hq S3 g4 r => k.rt v σ3 H3 d ρ3 hq S3 (g3.trans g4) r, fun σ3 H3 ρ3 hq S3 g4 => k.nx σ3 H3 ρ3 hq S3 (g3.trans g4), fun σ3 H3 ρ3 ⟨m', hm, hI'⟩ S3 g4 => ⟨m', hm, ρ3, hI', S3, g3.trans g4⟩⟩⟩
end

/-! ### a def by its body -/
theorem slots_start {G H : Hp} : ∀ {ds : List PyData} {vs : List V} (n : Nat), RpAll G vs ds → SlotsOk G H (vs.map some ++ List.replicate n none) (ds.map Sl.dat ++ List.replicate n Sl.non)
  | [], _, n, h => by
    cases h
    show SlotsOk G H (List.replicate n none) (List.replicate n Sl.non)
    induction n with
    | zero => trivial
    | succ n ih => exact ⟨trivial, ih⟩
  | d :: ds, _, n, h => by
    cases h with
    | cons h1 h2 => exact ⟨⟨_, rfl, h1⟩, slots_start n h2⟩
theorem os_start : ∀ (ds : List PyData) (n : Nat), os (ds.map Sl.dat ++ List.replicate n Sl.non) = []
  | [], 0 => rfl
  | [], n + 1 => by
    show [] ++ os (List.map Sl.dat [] ++ List.replicate n Sl.non) = []
    rw [os_start [] n]
    rfl
  | d :: ds, n => by
    show [] ++ os (ds.map Sl.dat ++ List.replicate n Sl.non) = []
    rw [os_start ds n]
    rfl
section
variable {P : Program} {w : World} {K : PySem.W.Frag} {mg : Str → Option Value} {base : Heap}
theorem fn_D {x qual : Str} {st : Stmt} {f : Addr} {fd : FuncData} {N ps : List Str} {k : Nat} {S : DSpec} (F : Fun K x qual st f fd) (sc : FnScope N ps (defScope st)) (hbt : ∀ x ∈ bNames, mg x = none) (len : ∀ ds q, S ds q → ds.length = ps.length)
    (body : ∀ (cdv : Value) (A : Around) (outer : List Env) (s : Shared) (H : Hp) (E : XK) (ds : List PyData) (q : PyData → Prop), Room k (A.deeper (envOfC qual (defScope st) s.heap.objs.size f cdv)) → CK (cxOf CX0 P w K mg base N qual (defScope st) f cdv A outer s H E).nox → S ds q →
      BB (cxOf CX0 P w K mg base N qual (defScope st) f cdv A outer s H E).nox (ds.map Sl.dat ++ List.replicate (N.length - ds.length) Sl.non) (defBody st) { nx := fun _ => q .none, rt := fun d _ => q d }) :
    FnOk P w K mg base CX0 (k + 1) f fd ps (spD S) := by
  refine F.ok sc (fun vs H Q E h => ?_) (fun cdv A outer s H vs Q E hr h => ?_)
  · obtain ⟨hd, ds, q, _, r, hS, _⟩ := h
    rw [r.length, len ds q hS]
  · obtain ⟨hd, ds, q, hh, r, hS, kk⟩ := h
    refine ⟨_, pssW, ?_⟩
    have ck : CK (cxOf CX0 P w K mg base N qual (defScope st) f cdv A outer s H E).nox := ⟨rfl, sc.nd, by
      show (A.deeper (envOfC qual (defScope st) s.heap.objs.size f cdv)).units + 100 < cLine
      have := hr.un
      omega, hbt⟩
    have eo := os_start ds (N.length - ds.length)
    have St : Stt ⟨hd, [], H⟩ H (start N vs) (ds.map Sl.dat ++ List.replicate (N.length - ds.length) Sl.non) := by
      refine ⟨hh, fun a o _ e => e, fun a e => e, by rw [eo]; exact List.nodup_nil, (fun a m => by rw [eo] at m; cases m), (fun a m => by rw [eo] at m; cases m), ?_⟩
      have := slots_start (H := H) (N.length - ds.length) r
      show SlotsOk (mask (hd ++ os _) H) H _ _
      rw [eo, List.append_nil]
      unfold L2.start
      rw [r.length]
      exact this
    refine body cdv A outer s H E ds q hr ck hS ⟨hd, [], H⟩ _ H _ St ⟨fun σ' H' ρ' hq S' g => kk .none .non H' hq (fun a o e => S'.fr a o (fun z => nomatch z) e) .non, fun v σ' H' d ρ' hq S' g r => ?_, fun σ' H' ρ' hq _ _ => hq.elim, fun σ' H' ρ' hq _ _ => hq.elim⟩
    exact kk d v H' hq (fun a o e => S'.fr a o (fun z => nomatch z) e) (Rp.up (mask_sub fun a m => List.mem_append_left _ m) _ _ r)
theorem fn_B {x qual : Str} {st : Stmt} {f : Addr} {fd : FuncData} {N ps : List Str} {k : Nat} {S : SpecB} (F : Fun K x qual st f fd) (sc : FnScope N ps (defScope st)) (hbt : ∀ x ∈ bNames, mg x = none) (len : ∀ ds n q, S ds n q → ds.length + 1 = ps.length)
    (body : ∀ (cdv : Value) (A : Around) (outer : List Env) (s : Shared) (H : Hp) (E : XK) (b : Addr) (ds : List PyData) (n : Nat) (q : PyData → Nat → Prop), Room k (A.deeper (envOfC qual (defScope st) s.heap.objs.size f cdv)) → CK (cxOf CX0 P w K mg base N qual (defScope st) f cdv A outer s H E).nox → S ds n q →
      BB (cxOf CX0 P w K mg base N qual (defScope st) f cdv A outer s H E).nox (.bag b n :: (ds.map Sl.dat ++ List.replicate (N.length - (ds.length + 1)) Sl.non)) (defBody st) { nx := fun _ => False, rt := fun d ρ => ∃ n', ρ[0]? = some (.bag b n') ∧ q d n' }) :
    FnOk P w K mg base CX0 (k + 1) f fd ps (spB S) := by
  refine F.ok sc (fun vs H Q E h => ?_) (fun cdv A outer s H vs Q E hr h => ?_)
  · obtain ⟨hd, b, us, ds, n, q, rfl, _, _, _, r, hS, _⟩ := h
    rw [List.length_cons, r.length, len ds n q hS]
  · obtain ⟨hd, b, us, ds, n, q, rfl, hb, hh, bo, r, hS, kk⟩ := h
    refine ⟨_, pssW, ?_⟩
    have ck : CK (cxOf CX0 P w K mg base N qual (defScope st) f cdv A outer s H E).nox := ⟨rfl, sc.nd, by
      show (A.deeper (envOfC qual (defScope st) s.heap.objs.size f cdv)).units + 100 < cLine
      have := hr.un
      omega, hbt⟩
    have eo : os (.bag b n :: (ds.map Sl.dat ++ List.replicate (N.length - (ds.length + 1)) Sl.non)) = [b] := by
      show [b] ++ os (ds.map Sl.dat ++ List.replicate (N.length - (ds.length + 1)) Sl.non) = [b]
      rw [os_start]
      rfl
    have hbn : H b ≠ none := by
      obtain ⟨z, w', t, e, _⟩ := bo
      rw [e]; exact fun z => nomatch z
    have St : Stt ⟨hd, [b], H⟩ H (start N (.ref b :: us)) (.bag b n :: (ds.map Sl.dat ++ List.replicate (N.length - (ds.length + 1)) Sl.non)) := by
      refine ⟨hh, fun a o _ e => e, fun a e => e, by rw [eo]; simp, (fun a m => by rw [eo] at m; exact .inl m), (fun a m => by rw [eo] at m; rw [List.mem_singleton.mp m]; exact hb), ?_⟩
      have := slots_start (G := mask (b :: hd) H) (H := H) (N.length - (ds.length + 1)) r
      show SlotsOk (mask (hd ++ os _) H) H _ _
      rw [eo]
      unfold L2.start
      rw [List.length_cons, r.length]
      refine ⟨⟨rfl, bo⟩, this.up (mask_sub fun a m => ?_) fun a _ o e => e⟩
      rcases List.mem_append.mp m with m | m
      · exact List.mem_cons_of_mem _ m
      · rw [List.mem_singleton.mp m]; exact List.mem_cons_self
    refine body cdv A outer s H E b ds n q hr ck hS ⟨hd, [b], H⟩ _ H _ St ⟨fun σ' H' ρ' hq _ _ => hq.elim, fun v σ' H' d ρ' ⟨n', e0, hq⟩ S' g r => ?_, fun σ' H' ρ' hq _ _ => hq.elim, fun σ' H' ρ' hq _ _ => hq.elim⟩
    obtain ⟨y, _, _, bo'⟩ := S'.sl.get e0
    refine kk d n' v H' hq (fun a o ha e => S'.fr a o (fun z => ha (List.mem_singleton.mp z)) e) bo' (Rp.up (mask_sub fun a m => ?_) _ _ r)
    rcases List.mem_cons.mp m with z | z
    · rw [z]; exact List.mem_append_right _ (os_at e0 (List.mem_singleton.mpr rfl))
    · exact List.mem_append_left _ z
end
end DL

namespace DL
open PySem PySem.Spec PyProof.Rows L2
section
variable {X : Cx} {ρ : List Sl} {e a b c : Expr} {pos : Pos} {Φ : PyData → List Sl → Prop} {Ψ : Bool → List Sl → Prop} {D : DE}
/-! ### what leaves the slots as they are, by its value -/
theorem ee_M {d : PyData} (h : EE X ρ e fun d' ρ1 => d' = d ∧ ρ1 = ρ) (q : Φ d ρ) : EE X ρ e Φ := h.mono fun d' ρ' ⟨e1, e2⟩ => by rw [e1, e2]; exact q
theorem et_M {t : Bool} (h : ET X ρ e fun c ρ1 => c = t ∧ ρ1 = ρ) (q : Ψ t ρ) : ET X ρ e Ψ := h.mono fun d' ρ' ⟨e1, e2⟩ => by rw [e1, e2]; exact q
theorem ew_andM {r : List Expr} {s t : Bool} (h : ET X ρ a fun c ρ1 => c = s ∧ ρ1 = ρ) (h2 : s = true → EW X ρ (.BoolOp .And (b :: r) pos) fun c ρ1 => c = t ∧ ρ1 = ρ) : EW X ρ (.BoolOp .And (a :: b :: r) pos) fun c ρ1 => c = (s && t) ∧ ρ1 = ρ := by
  refine ew_and (et_M h ?_)
  cases s with
  | true => exact iteT (h2 rfl)
  | false => exact iteF ⟨rfl, rfl⟩
theorem ew_orM {r : List Expr} {s t : Bool} (h : ET X ρ a fun c ρ1 => c = s ∧ ρ1 = ρ) (h2 : s = false → EW X ρ (.BoolOp .Or (b :: r) pos) fun c ρ1 => c = t ∧ ρ1 = ρ) : EW X ρ (.BoolOp .Or (a :: b :: r) pos) fun c ρ1 => c = (s || t) ∧ ρ1 = ρ := by
  refine ew_or (et_M h ?_)
  cases s with
  | true => exact iteT ⟨rfl, rfl⟩
  | false => exact iteF (h2 rfl)
theorem ee_andM {r : List Expr} {s t : Bool} (h : EE X ρ a fun d ρ1 => d = .bool s ∧ ρ1 = ρ) (h2 : s = true → EE X ρ (.BoolOp .And (b :: r) pos) fun d ρ1 => d = .bool t ∧ ρ1 = ρ) : EE X ρ (.BoolOp .And (a :: b :: r) pos) fun d ρ1 => d = .bool (s && t) ∧ ρ1 = ρ := by
  refine ee_and (ee_M h ⟨s, rfl, ?_⟩)
  cases s with
  | true => exact iteT (h2 rfl)
  | false => exact iteF ⟨rfl, rfl⟩
theorem ee_orM {r : List Expr} {s t : Bool} (h : EE X ρ a fun d ρ1 => d = .bool s ∧ ρ1 = ρ) (h2 : s = false → EE X ρ (.BoolOp .Or (b :: r) pos) fun d ρ1 => d = .bool t ∧ ρ1 = ρ) : EE X ρ (.BoolOp .Or (a :: b :: r) pos) fun d ρ1 => d = .bool (s || t) ∧ ρ1 = ρ := by
  refine ee_or (ee_M h ⟨s, rfl, ?_⟩)
  cases s with
  | true => exact iteT ⟨rfl, rfl⟩
  | false => exact iteF (h2 rfl)
theorem ee_ifM {t : Bool} {da db : PyData} (h : ET X ρ c fun c ρ1 => c = t ∧ ρ1 = ρ) (h1 : t = true → EE X ρ a fun d ρ1 => d = da ∧ ρ1 = ρ) (h2 : t = false → EE X ρ b fun d ρ1 => d = db ∧ ρ1 = ρ) : EE X ρ (.IfExp c a b pos) fun d ρ1 => d = (if t = true then da else db) ∧ ρ1 = ρ := by
  refine ee_if (et_M h ?_)
  cases t with
  | true => exact iteT ((h1 rfl).mono fun d ρ' ⟨e, f⟩ => ⟨e.trans (if_pos rfl).symm, f⟩)
  | false => exact iteF ((h2 rfl).mono fun d ρ' ⟨e, f⟩ => ⟨e.trans (if_neg Bool.false_ne_true).symm, f⟩)
theorem ifT {c : Bool} {A B : Prop} (hc : c = true) (h : A) : if c = true then A else B := by rw [if_pos hc]; exact h
theorem ifF {c : Bool} {A B : Prop} (hc : c = false) (h : B) : if c = true then A else B := by rw [hc, if_neg Bool.false_ne_true]; exact h
theorem fin {α : Type} {q : α → Prop} {d d' : α} (h : q d) (e : d' = d) : q d' := by rw [e]; exact h
/-! ### isinstance -/
def isI : PyData → Bool
  | .int _ => true
  | .bool _ => true
  | _ => false
def isB : PyData → Bool
  | .bool _ => true
  | _ => false
def isT : PyData → Bool
  | .tuple _ => true
  | .dict _ => true
  | _ => false
def isL : PyData → Bool
  | .list _ => true
  | _ => false
def isS : PyData → Bool
  | .str _ => true
  | _ => false
theorem kit_int (d : PyData) : kitB (tyD d) "int" = some (isI d) := by cases d <;> (simp only [tyD, isI]; decide +kernel)
theorem kit_bool (d : PyData) : kitB (tyD d) "bool" = some (isB d) := by cases d <;> (simp only [tyD, isB]; decide +kernel)
theorem kit_tup (d : PyData) : kitB (tyD d) "tuple" = some (isT d) := by cases d <;> (simp only [tyD, isT]; decide +kernel)
theorem kit_list (d : PyData) : kitB (tyD d) "list" = some (isL d) := by cases d <;> (simp only [tyD, isL]; decide +kernel)
theorem kit_str (d : PyData) : kitB (tyD d) "str" = some (isS d) := by cases d <;> (simp only [tyD, isS]; decide +kernel)
theorem isT_iff {d : PyData} (h : isT d = true) (n : ∀ x, d ≠ .dict x) : ∃ ds, d = .tuple ds := by cases d <;> first | exact ⟨_, rfl⟩ | exact absurd rfl (n _) | cases h
section
variable {p p2 : Pos} (ck : CK X)
include ck
theorem ee_isInt (h : EE X ρ e fun d ρ1 => Φ (.bool (isI d)) ρ1) (hg : Gl X "isinstance" := by rfl) (hgx : Gl X "int" := by rfl) (he : starEach [e, .Name "int" p2] X.env = (false, eval e X.env) :: starEach [.Name "int" p2] X.env := by rfl) : EE X ρ (.Call (.Name "isinstance" p) [e, .Name "int" p2] [] pos) Φ :=
  ee_isi ck (ck.bt _ (by simp [bNames])) (by decide +kernel) (h.mono fun d _ q => ⟨_, kit_int d, q⟩) hg hgx (by decide) (by decide) he rfl
theorem ee_isBool (h : EE X ρ e fun d ρ1 => Φ (.bool (isB d)) ρ1) (hg : Gl X "isinstance" := by rfl) (hgx : Gl X "bool" := by rfl) (he : starEach [e, .Name "bool" p2] X.env = (false, eval e X.env) :: starEach [.Name "bool" p2] X.env := by rfl) : EE X ρ (.Call (.Name "isinstance" p) [e, .Name "bool" p2] [] pos) Φ :=
  ee_isi ck (ck.bt _ (by simp [bNames])) (by decide +kernel) (h.mono fun d _ q => ⟨_, kit_bool d, q⟩) hg hgx (by decide) (by decide) he rfl
theorem ee_isTup (h : EE X ρ e fun d ρ1 => Φ (.bool (isT d)) ρ1) (hg : Gl X "isinstance" := by rfl) (hgx : Gl X "tuple" := by rfl) (he : starEach [e, .Name "tuple" p2] X.env = (false, eval e X.env) :: starEach [.Name "tuple" p2] X.env := by rfl) : EE X ρ (.Call (.Name "isinstance" p) [e, .Name "tuple" p2] [] pos) Φ :=
  ee_isi ck (ck.bt _ (by simp [bNames])) (by decide +kernel) (h.mono fun d _ q => ⟨_, kit_tup d, q⟩) hg hgx (by decide) (by decide) he rfl
theorem ee_isList (h : EE X ρ e fun d ρ1 => Φ (.bool (isL d)) ρ1) (hg : Gl X "isinstance" := by rfl) (hgx : Gl X "list" := by rfl) (he : starEach [e, .Name "list" p2] X.env = (false, eval e X.env) :: starEach [.Name "list" p2] X.env := by rfl) : EE X ρ (.Call (.Name "isinstance" p) [e, .Name "list" p2] [] pos) Φ :=
  ee_isi ck (ck.bt _ (by simp [bNames])) (by decide +kernel) (h.mono fun d _ q => ⟨_, kit_list d, q⟩) hg hgx (by decide) (by decide) he rfl
theorem ee_isStr (h : EE X ρ e fun d ρ1 => Φ (.bool (isS d)) ρ1) (hg : Gl X "isinstance" := by rfl) (hgx : Gl X "str" := by rfl) (he : starEach [e, .Name "str" p2] X.env = (false, eval e X.env) :: starEach [.Name "str" p2] X.env := by rfl) : EE X ρ (.Call (.Name "isinstance" p) [e, .Name "str" p2] [] pos) Φ :=
  ee_isi ck (ck.bt _ (by simp [bNames])) (by decide +kernel) (h.mono fun d _ q => ⟨_, kit_str d, q⟩) hg hgx (by decide) (by decide) he rfl
end
end
end DL

namespace DL
open PySem PySem.Spec PyProof.Rows L2
/-! ### enumerate of a tuple -/
def IteT (K : PySem.W.Frag) (a : Addr) : It where
  go := fun i H => ∃ (xs : List V) (x : V), SqT K H a xs ∧ xs[i]? = some x
  yld := fun i H v H' => ∃ T x, v = .ref T ∧ H T = none ∧ H' = upd H T (.tup [.int (i : Nat), x]) ∧ ∀ xs, SqT K H a xs → xs[i]? = some x
  stop := fun i H => ∃ xs : List V, SqT K H a xs ∧ xs.length = i
theorem enumT_new {v : Value} {o : Obj} {Hs : Heap → Prop} (B : Begins v o Hs) : Meets (Builtin.«enumerate.__new__» ⟨[.type "enumerate", v], []⟩) (fun _ R s => Hs s.heap ∧
    R (.ok (.ret (.ref (s.heap.push o).objs.size))) { s with heap := (s.heap.push o).push { cls := .type "enumerate", data := .fields #[.none, .bool false, .ref s.heap.objs.size, rawInt 0, .none, .none] } }) :=
  .of_wp fun prog w A R s h => by
    obtain ⟨hp, g, d, tk, os⟩ := s
    obtain ⟨h1, h⟩ := h
    have hsub := sub_enumerate
    have q1 : ∀ {A' : Around} {E : Value → Shared → Prop} {Q : Value → Shared → Prop}, Q (.ref hp.objs.size) ⟨hp.push o, g, d, tk, os⟩ → wpAny (model prog w) A' (pyIter v) Q E ⟨hp, g, d, tk, os⟩ := fun q => B.iter prog w _ _ ⟨hp, g, d, tk, os⟩ _ h1 q
    wp_walk using q1
    refine wpAny_stack_any fun st => wpAny_pure ?_
    split
    · rename_i c _ _ _ _ _
      cases (c == Value.type "enumerate") <;> (wp_walk using q1; exact ⟨_, rfl, h⟩)
    · wp_walk using q1
      exact ⟨_, rfl, h⟩
theorem call_enumT {prog : Program} {w : World} {A : Around} {E : Value → Shared → Prop} {s : Shared} {v : Value} {o : Obj} {Hs : Heap → Prop} {Q : Value → Shared → Prop} (B : Begins v o Hs) (h1 : Hs s.heap)
    (h : ∀ h', IsEnum h' (s.heap.objs.size + 1) s.heap.objs.size 0 .none → h'.get? s.heap.objs.size = some o → (∀ b o, s.heap.get? b = some o → h'.get? b = some o) → Q (.ref (s.heap.objs.size + 1)) { s with heap := h' }) :
    wpAny (model prog w) A (call (.type "enumerate") [v]) Q E s := by
  refine callType_new F.called_enumerate (by decide) (F.typeCall_enumerate_1 _) (F.newCall_enumerate_1 _) (fun obj => F.args_object_init_2 obj _) F.entry_enumerate_new (enumT_new B) ⟨h1, ?_⟩
  have hz : (s.heap.push o).objs.size = s.heap.objs.size + 1 := Heap.size_push ..
  show _ ∧ _
  rw [hz]
  have he : IsEnum ((s.heap.push o).push { cls := .type "enumerate", data := .fields #[.none, .bool false, .ref s.heap.objs.size, rawInt 0, .none, .none] }) (s.heap.objs.size + 1) s.heap.objs.size 0 .none := by
    have q := Heap.get?_push_size (s.heap.push o) (o := { cls := .type "enumerate", data := .fields #[.none, .bool false, .ref s.heap.objs.size, rawInt 0, .none, .none] }) rfl
    rw [hz] at q
    exact q
  exact ⟨⟨_, he, rfl⟩, h _ he (Heap.get?_push_of_some _ (Heap.get?_push_size _ B.free)) fun b o x => Heap.get?_push_of_some _ (Heap.get?_push_of_some _ x)⟩
theorem turn_enumT {P : Program} {w : World} {K : PySem.W.Frag} {elts : List Expr} {kk : Nat} {tpos : Pos} (a e it : Addr) :
    Turn P w K (.Tuple elts kk tpos) (IteT K a) [e, it] e (fun i h => (∃ old, IsEnum h e it ((i : Nat) : Int) old) ∧ h.IsTupleIter it a i ∧ e ≠ it) where
  mem := List.mem_cons_self
  obj := fun i h st b hb => by
    obtain ⟨⟨old, he⟩, ⟨o, ho, hc, hd⟩, _⟩ := st
    rcases List.mem_cons.mp hb with z | z
    · rw [z]; exact ⟨_, he, fun v q => nomatch q⟩
    · rw [List.mem_singleton.mp z]; exact ⟨o, ho, fun v q => by rw [hd] at q; cases q⟩
  keep := fun i h h' st k => by
    obtain ⟨⟨old, he⟩, hi, hne⟩ := st
    exact ⟨⟨old, k e List.mem_cons_self _ he⟩, hi.at fun o q => k it (List.mem_cons_of_mem _ List.mem_cons_self) o q, hne⟩
  item := by
    intro X hP hw hK hc i pins s σ H E I hf st hg
    subst hP hw hK
    obtain ⟨⟨old, he⟩, hit, hne⟩ := st
    obtain ⟨xs, x, hq, hx⟩ := hg
    obtain ⟨its, rv, p, hz⟩ := I.tuple hq
    obtain ⟨u, hu, ru⟩ := rv.get hx
    have hT : s.heap.IsTuple a its.toArray := p
    obtain ⟨oa, hoa, hca, na, hda⟩ := id hT
    obtain ⟨oi, hoi, hci, hdi⟩ := id hit
    have nai : a ≠ it := fun z => by
      rw [z, hoi] at hoa
      cases hoa
      rw [hdi] at hda
      cases hda
    have nae : a ≠ e := fun z => by
      rw [z] at hoa
      have he' := he
      unfold IsEnum at he'
      rw [hoa] at he'
      cases he'
      cases hda
    have hel : e < s.heap.objs.size := Heap.lt_size he
    have hil : it < s.heap.objs.size := Heap.lt_size hoi
    have hh : X.A.in1.handled = none := I.ok.hd hc
    refine wpAny_pyNext_enum_itemD (Draws.tuple hh it a nai its.toArray) he ⟨hit, hT⟩ (by rw [List.size_toArray]; exact (List.getElem?_eq_some_iff.mp hu).1) hne (fun m => by
      rcases List.mem_cons.mp m with z | z
      · exact hne z
      · exact nae (List.mem_singleton.mp z).symm) fun y h' tk hy ho st' hT2 hsz hk => ?_
    have ey : y = u := by
      have hy' : its.toArray[i]? = some y := hy
      rw [List.getElem?_toArray, hu] at hy'
      exact (Option.some.inj hy').symm
    subst ey
    refine ⟨_, rfl, wpAny_letOwnedTupleGo_enum (s := { s with heap := h', toks := tk + 1 }) ho fun h'' he' sb => ?_⟩
    have hT3 : h''.get? s.heap.objs.size = some { cls := .type "tuple", data := .seq #[.int i tk, y] } := (sb.2 _ (Nat.ne_of_gt hel)).trans hT2
    have new : ObjOk X.prog X.w (upd H s.heap.objs.size (.tup [.int (i : Nat), x])) h'' s.heap.objs.size (.tup [.int (i : Nat), x]) :=
      ⟨by show 2 ≤ sizeLine; decide, [.int i tk, y], .cons ⟨_, rfl⟩ (.cons ru .nil), ⟨_, hT3, rfl, _, rfl⟩⟩
    have I1 : Inv X pins σ (upd H s.heap.objs.size (.tup [.int (i : Nat), x])) { s with heap := h'', toks := tk + 1 } :=
      I.turnedNew (ch := [e, it]) (fun b ob hb q => (sb.2 b (fun z => hb (by simp [z]))).trans (hk b ob (fun z => hb (by simp [z])) (fun z => hb (by simp [z])) q)) hf (Nat.le_refl _) new
    refine ⟨.ref s.heap.objs.size, _, I1, rfl, ⟨_, x, rfl, I.hok.fresh (Nat.le_refl _), rfl, fun ys hy => by rw [I.tuple_inj hy hq]; exact hx⟩, ⟨⟨y, ?_⟩, st'.1.at fun o q => (sb.2 it (Ne.symm hne)).trans q, hne⟩, fun b hb => ?_⟩
    · have e1 : ((i + 1 : Nat) : Int) = (i : Int) + 1 := by omega
      rw [e1]; exact he'
    · have hb' : b < s.heap.objs.size := by
        rcases List.mem_cons.mp hb with z | z
        · rw [z]; exact hel
        · rw [List.mem_singleton.mp z]; exact hil
      rw [upd_ne (Nat.ne_of_lt hb')]
      exact (hf b hb).1
  done := by
    intro X hP hw hK hc i pins s σ H E I hf st hg
    subst hP hw hK
    obtain ⟨⟨old, he⟩, hit, hne⟩ := st
    obtain ⟨xs, hq, hx⟩ := hg
    obtain ⟨its, rv, p, hz⟩ := I.tuple hq
    obtain ⟨f0, f1, f2, f3, f4, f5⟩ := hf it (by simp)
    have hl := rv.length
    have hT : s.heap.IsTuple a its.toArray := p
    have hh : X.A.in1.handled = none := I.ok.hd hc
    obtain ⟨oa, hoa, hca, na, hda⟩ := id hT
    obtain ⟨oi, hoi, hci, hdi⟩ := id hit
    have nai : a ≠ it := fun z => by
      rw [z, hoi] at hoa
      cases hoa
      rw [hdi] at hda
      cases hda
    have hi : its.toArray.size = i := by rw [List.size_toArray]; omega
    refine wpAny_pyNext_enum_endD (Draws.tuple hh it a nai its.toArray) he ⟨by rw [hi]; exact hit, hT⟩ fun h' eb => ⟨rfl, I.turned (t' := s.toks) (fun b o hb q => eb b o hb q) f0 f1 f3 f4 f5⟩
  self := fun A i s Q E st h => by
    obtain ⟨⟨_, he⟩, _⟩ := st
    exact wpAny_pyIter_enum he h
def iEnumT (K : PySem.W.Frag) (ta : TA) : TI := fun σ H R => ta σ H fun vs H1 => ∃ a xs, vs = [.ref a] ∧ SqT K H1 a xs ∧ R (IteT K a) H1
theorem pi_enumT {X : Cx} {e : Expr} {ta : TA} {p pos tpos : Pos} {elts : List Expr} {kk : Nat} (hg : Gl X "enumerate") (hm : X.mg "enumerate" = none) (ha : PA X [e] ta) (hs : starEach [e] X.env = [(false, eval e X.env)]) :
    PI X (.Tuple elts kk tpos) (.Call (.Name "enumerate" p) [e] [] pos) (iEnumT X.K ta) := by
  refine ⟨fun pins s σ H R I h => ?_⟩
  refine Call_ (ld_blt I hg hm boot_enumerate (PyProof.Rows.callWith_type1 (thn (ha.run pos pins s σ H _ I h) fun us s1 ⟨vs, H1, I1, r1, q1⟩ => ?_) hs rfl))
  obtain ⟨a, xs, ex, hq, q⟩ := q1
  subst ex
  cases r1 with
  | cons r rr =>
    cases rr
    cases r
    obtain ⟨its, rv, p', hz⟩ := I1.tuple hq
    have hT : s1.heap.IsTuple a its.toArray := p'
    refine call_enumT (begins_tuple a its.toArray) hT fun h' he hit hk => wpAny_pyIter_enum he ?_
    have I2 : Inv X pins σ H1 { s1 with heap := h' } := I1.kept (t' := s1.toks) hk
    refine ⟨s1.heap.objs.size + 1, [s1.heap.objs.size + 1, s1.heap.objs.size], _, _, H1, rfl, I2, turn_enumT a (s1.heap.objs.size + 1) s1.heap.objs.size, ⟨⟨.none, he⟩, ⟨_, hit, rfl, rfl⟩, Nat.succ_ne_self _⟩, fun b hb => ?_, q⟩
    have hle : s1.heap.objs.size ≤ b := by
      rcases List.mem_cons.mp hb with z | z
      · rw [z]; exact Nat.le_add_right _ _
      · rw [List.mem_singleton.mp z]; exact Nat.le_refl _
    exact I1.fpOk hle (I1.hok.fresh hle)
theorem jok_enumT {K : PySem.W.Frag} {G : Hp} {l : Addr} {vs : List V} {ds : List PyData} (e1 : Rd G l (.tup vs)) (r1 : RpAll G vs ds) : JOk (IteT K l) G (enumD ds) where
  go := fun i H d s hd => by
    obtain ⟨x, h1, _⟩ := enumD_get hd
    obtain ⟨v, hv, _⟩ := r1.get h1
    exact ⟨vs, v, .inl (same_rd s e1), hv⟩
  yld := fun i H d x H' s hd y => by
    obtain ⟨p, h1, ed⟩ := enumD_get hd
    obtain ⟨v, hv, rv⟩ := r1.get h1
    obtain ⟨T, x1, ex, hT, eH, f1⟩ := y
    have q1 := f1 vs (.inl (same_rd s e1))
    rw [hv] at q1; cases q1
    subst ex eH ed
    exact rp_pair s hT (.int _) rv
  stop := fun i H s hi => ⟨vs, .inl (same_rd s e1), by rw [enumD_len] at hi; rw [r1.length]; exact hi⟩
section
variable {X : Cx} {ρ : List Sl} {a : Expr} {pos : Pos} {Θ : List PyData → List Sl → Prop} {Φ : PyData → List Sl → Prop}
theorem ii_enumT {p tpos : Pos} {elts : List Expr} {kk : Nat} (ck : CK X) (h : EA X ρ [a] fun ds ρ1 => ∃ xs, ds = [.tuple xs] ∧ Θ (enumD xs) ρ1) (hg : Gl X "enumerate" := by rfl)
    (hs : starEach [a] X.env = [(false, eval a X.env)] := by rfl) : II X ρ (.Tuple elts kk tpos) (.Call (.Name "enumerate" p) [a] [] pos) Θ :=
  ⟨_, pi_enumT hg (ck.bt _ (by simp [bNames])) paW hs, fun F σ H R S k => h F σ H _ S fun vs H' ds ρ' ⟨xs, ed, q⟩ S' g r => by
    subst ed
    match r with
    | .cons (.tup e1 r1) .nil => exact ⟨_, _, rfl, .inl (same_rd mask_le e1), k _ H' _ ρ' q S' g (jok_enumT e1 r1)⟩⟩
/-- a field of a finished object -/
theorem ee_fld (i : Nat) {x f : Str} {px : Pos} {C : Addr} {fs : List (Str × PyData)} {d : PyData} (hs : ρ[i]? = some (.obj C fs)) (cl : Cls X.K C) (na : NoAttr X.K C f) (hf : fs.lookup f = some d) (q : Φ d ρ) (hN : X.N[i]? = some x := by rfl)
    (hv : Vis X.env.scope x := by first | exact Or.inl rfl | exact Or.inr (Or.inl rfl) | exact Or.inr (Or.inr rfl)) (hb : attributeBase (.Name x px) f X.env (eval (.Name x px) X.env) = eval (.Name x px) X.env := by rfl)
    (hd : (x == ("__debug__" : Str)) = false := by decide) (hcd : (x == ("__classdict__" : Str)) = false := by decide) : EE X ρ (.Attribute (.Name x px) f pos) Φ := fun F σ H Q S k => by
  obtain ⟨y, e1, a, e2, dx, vs, e3, fo⟩ := S.sl.get hs
  subst e2
  obtain ⟨v, hl, rv⟩ := fo.get hf
  exact ofPE (pe_fld (pe_var hN hv hd hcd) hb) ⟨_, e1, a, C, dx, vs, v, rfl, mask_le _ _ e3, cl, na, hl, k v H d ρ q S (Same.refl _) rv⟩
end
end DL

namespace DL
open PySem PySem.Spec PyProof.Rows L2
/-! ### list(zip(xs, ys)) of two lists -/
structure ZG (xs ys : Array Value) (lo : Addr) (h : Heap) (as : List Addr) : Prop where
  rise : as.Pairwise (· < ·)
  above : ∀ a ∈ as, lo < a
  pairs : ∀ (j : Nat) (a : Addr), as[j]? = some a → ∃ x y, xs[j]? = some x ∧ ys[j]? = some y ∧ IsPair h a x y
theorem ZG.there {xs ys : Array Value} {lo : Addr} {h : Heap} {as : List Addr} (g : ZG xs ys lo h as) {a : Addr} (ha : a ∈ as) : a < h.objs.size := by
  obtain ⟨j, hj⟩ := List.mem_iff_getElem?.mp ha
  obtain ⟨_, _, _, _, e⟩ := g.pairs j a hj
  exact Heap.lt_size e
/-- the zip after i turns, the tuples that it gave out still held -/
structure ZL (h : Heap) (z TI TO i1 i2 l1 l2 S : Addr) (xs ys : Array Value) (i : Nat) : Prop where
  zip : (i = 0 ∧ IsZip h z TI TO .none ∧ ∃ x y, IsPair h TO x y) ∨ ∃ (T : Addr) (f : Bool) (oT : Obj), IsZipHeld h z TI TO T f ∧ h.get? T = some oT ∧ S < T
  ti : IsPair h TI (.ref i1) (.ref i2)
  h1 : h.IsListIter i1 l1 i
  h2 : h.IsListIter i2 l2 i
  m1 : h.IsList l1 xs
  m2 : h.IsList l2 ys
section
variable {prog : Program} {w : World} {A : Around} {s : Shared} {z TI TO i1 i2 l1 l2 S : Addr} {xs ys : Array Value}
theorem ZL.at {h h' : Heap} {i : Nat} (Z : ZL h z TI TO i1 i2 l1 l2 S xs ys i) (hb : z < S ∧ TI < S ∧ TO < S ∧ i1 < S ∧ i2 < S ∧ l1 < S ∧ l2 < S) (k : ∀ b o, b ≠ S → h.get? b = some o → h'.get? b = some o) : ZL h' z TI TO i1 i2 l1 l2 S xs ys i where
  zip := Z.zip.elim (fun ⟨e, a, x, y, b⟩ => .inl ⟨e, k _ _ (Nat.ne_of_lt hb.1) a, x, y, k _ _ (Nat.ne_of_lt hb.2.2.1) b⟩) fun ⟨T, f, oT, a, b, c⟩ => .inr ⟨T, f, oT, k _ _ (Nat.ne_of_lt hb.1) a, k _ _ (Nat.ne_of_gt c) b, c⟩
  ti := k _ _ (Nat.ne_of_lt hb.2.1) Z.ti
  h1 := Z.h1.at fun o e => k _ _ (Nat.ne_of_lt hb.2.2.2.1) e
  h2 := Z.h2.at fun o e => k _ _ (Nat.ne_of_lt hb.2.2.2.2.1) e
  m1 := Z.m1.at fun o e => k _ _ (Nat.ne_of_lt hb.2.2.2.2.2.1) e
  m2 := Z.m2.at fun o e => k _ _ (Nat.ne_of_lt hb.2.2.2.2.2.2) e
/-- one turn: the pair stands at a new place -/
theorem zl_item {E : Value → Shared → Prop} {i : Nat} {Q : Option Value → Shared → Prop} (D : ZipApart z TI TO i1 i2 l1 l2) (hb : z < S ∧ TI < S ∧ TO < S ∧ i1 < S ∧ i2 < S ∧ l1 < S ∧ l2 < S) (hS : S < s.heap.objs.size) (Z : ZL s.heap z TI TO i1 i2 l1 l2 S xs ys i) (hx : i < xs.size) (hy : i < ys.size)
    (hQ : ∀ h', ZL h' z TI TO i1 i2 l1 l2 S xs ys (i + 1) → (∃ x y, xs[i]? = some x ∧ ys[i]? = some y ∧ IsPair h' s.heap.objs.size x y) → h'.objs.size = s.heap.objs.size + 1 →
      (∀ c o, c ≠ z → c ≠ TO → c ≠ i1 → c ≠ i2 → s.heap.get? c = some o → h'.get? c = some o) → Q (some (.ref s.heap.objs.size)) { s with heap := h' }) : wpAny (model prog w) A (pyNext (.ref z)) Q E s := by
  have ex : xs[i]? = some xs[i] := Array.getElem?_eq_getElem hx
  have ey : ys[i]? = some ys[i] := Array.getElem?_eq_getElem hy
  rcases Z.zip with ⟨_, a, x0, y0, b⟩ | ⟨T, f, oT, a, b, c⟩
  · refine wpAny_pyNext_zip_item D a Z.ti b Z.h1 Z.h2 Z.m1 Z.m2 ex ey fun h' a1 a2 a3 a4 a5 a6 a7 => hQ h' ?_ ⟨_, _, ex, ey, a5⟩ a6 a7
    exact ⟨.inr ⟨s.heap.objs.size, false, _, a1, a5, hS⟩, a7 _ _ D.TIz D.TITO D.TIi1 D.TIi2 Z.ti, a3, a4, Z.m1.at fun o e => a7 _ _ D.l1z D.l1TO D.l1i1 D.l1i2 e, Z.m2.at fun o e => a7 _ _ D.l2z D.l2TO D.l2i1 D.l2i2 e⟩
  · refine wpAny_pyNext_zip_item_held D a b Z.ti Z.h1 Z.h2 Z.m1 Z.m2 ex ey fun h' a1 a3 a4 a5 a6 a7 => hQ h' ?_ ⟨_, _, ex, ey, a5⟩ a6 fun c o c1 _ c3 c4 e => a7 c o c1 c3 c4 e
    exact ⟨.inr ⟨T, true, oT, a1, a7 _ _ (Nat.ne_of_gt (Nat.lt_trans hb.1 c)) (Nat.ne_of_gt (Nat.lt_trans hb.2.2.2.1 c)) (Nat.ne_of_gt (Nat.lt_trans hb.2.2.2.2.1 c)) b, c⟩, a7 _ _ D.TIz D.TIi1 D.TIi2 Z.ti, a3, a4,
      Z.m1.at fun o e => a7 _ _ D.l1z D.l1i1 D.l1i2 e, Z.m2.at fun o e => a7 _ _ D.l2z D.l2i1 D.l2i2 e⟩
theorem zl_done {E : Value → Shared → Prop} {i : Nat} {Q : Option Value → Shared → Prop} (hh : A.handled = none) (D : ZipApart z TI TO i1 i2 l1 l2) (Z : ZL s.heap z TI TO i1 i2 l1 l2 S xs ys i) (hend : xs[i]? = none ∨ ys[i]? = none)
    (hQ : ∀ h', (∀ c o, c ≠ z → c ≠ TO → c ≠ i1 → c ≠ i2 → s.heap.get? c = some o → h'.get? c = some o) → Q none { s with heap := h' }) : wpAny (model prog w) A (pyNext (.ref z)) Q E s := by
  rcases Z.zip with ⟨_, a, x0, y0, b⟩ | ⟨T, f, oT, a, b, c⟩
  · exact wpAny_pyNext_zip_end hh D a Z.ti b Z.h1 Z.h2 Z.m1 Z.m2 hend hQ
  · exact wpAny_pyNext_zip_end_held hh D a b Z.ti Z.h1 Z.h2 Z.m1 Z.m2 hend fun h' k => hQ h' fun c o c1 _ c3 c4 e => k c o c1 c3 c4 e
variable {R : Result → Shared → Prop}
theorem zl_loop (hh : A.handled = none) (D : ZipApart z TI TO i1 i2 l1 l2) (hb : z < S ∧ TI < S ∧ TO < S ∧ i1 < S ∧ i2 < S ∧ l1 < S ∧ l2 < S) (hn : min xs.size ys.size ≤ sizeLine) (res : Value) {h₁ : Heap}
    (hR : ∀ h' tk acc c as, (∀ b o, b ≠ S → b ≠ z → b ≠ TO → b ≠ i1 → b ≠ i2 → h₁.get? b = some o → h'.get? b = some o) → h'.get? S = some { cls := .type "list", dict := none, data := .seq acc c, slots := #[] } → as.length = min xs.size ys.size → ZG xs ys S h' as →
      acc.toList = as.map Value.ref → R (.ok (.ret res)) { s with heap := h', toks := tk }) :
    ∀ (k i : Nat) (h : Heap) (tk c : Nat) (acc : Array Value) (as : List Addr), min xs.size ys.size - i = k → i ≤ min xs.size ys.size → ZL h z TI TO i1 i2 l1 l2 S xs ys i → (∀ b o, b ≠ S → b ≠ z → b ≠ TO → b ≠ i1 → b ≠ i2 → h₁.get? b = some o → h.get? b = some o) →
      h.get? S = some { cls := .type "list", dict := none, data := .seq acc c, slots := #[] } → acc.toList = as.map Value.ref → as.length = i → ZG xs ys S h as →
      codeAny (model prog w) A (.builtin "list.extend.loop" ⟨[.ref S, .ref z, res], []⟩) R { s with heap := h, toks := tk } := by
  have nz : S ≠ z := Nat.ne_of_gt hb.1
  have nTO : S ≠ TO := Nat.ne_of_gt hb.2.2.1
  have n1 : S ≠ i1 := Nat.ne_of_gt hb.2.2.2.1
  have n2 : S ≠ i2 := Nat.ne_of_gt hb.2.2.2.2.1
  have big : ∀ {b : Addr}, S < b → b ≠ S ∧ b ≠ z ∧ b ≠ TO ∧ b ≠ i1 ∧ b ≠ i2 := fun {b} h => ⟨Nat.ne_of_gt h, Nat.ne_of_gt (Nat.lt_trans hb.1 h), Nat.ne_of_gt (Nat.lt_trans hb.2.2.1 h), Nat.ne_of_gt (Nat.lt_trans hb.2.2.2.1 h), Nat.ne_of_gt (Nat.lt_trans hb.2.2.2.2.1 h)⟩
  intro k
  induction k with
  | zero =>
    intro i h tk c acc as hk hi Z hkeep hS hacc hal hG
    refine codeAny_builtin PySem.F.entry_extend_loop ?_
    (rw [Around.under_plainId PySem.F.plain_extend_loop _]; show wpAny _ A.in1 (pyNext (.ref z) >>= _) _ _ _)
    refine wpAny_bind (zl_done (s := { s with heap := h, toks := tk }) (A := A.in1) hh D Z ?_ fun h' he => ?_)
    · by_cases hx : xs.size ≤ ys.size
      · exact .inl (Array.getElem?_eq_none (by omega))
      · exact .inr (Array.getElem?_eq_none (by omega))
    refine wpAny_pure (hR h' tk acc c as (fun b o h1 h2 h3 h4 h5 e => he b o h2 h3 h4 h5 (hkeep b o h1 h2 h3 h4 h5 e)) (he S _ nz nTO n1 n2 hS) (by omega) ⟨hG.rise, hG.above, fun j a hj => ?_⟩ hacc)
    obtain ⟨x, y, e1, e2, e3⟩ := hG.pairs j a hj
    obtain ⟨_, q1, q2, q3, q4⟩ := big (hG.above a (List.mem_of_getElem? hj))
    exact ⟨x, y, e1, e2, he a _ q1 q2 q3 q4 e3⟩
  | succ k ih =>
    intro i h tk c acc as hk hi Z hkeep hS hacc hal hG
    have hsz : acc.size = i := by rw [← Array.length_toList, hacc, List.length_map, hal]
    have hSl : S < h.objs.size := Heap.lt_size hS
    refine codeAny_builtin PySem.F.entry_extend_loop ?_
    (rw [Around.under_plainId PySem.F.plain_extend_loop _]; show wpAny _ A.in1 (pyNext (.ref z) >>= _) _ _ _)
    refine wpAny_bind (zl_item (s := { s with heap := h, toks := tk }) D hb hSl Z (by omega) (by omega) fun h' Z' ⟨x, y, ex, ey, hp⟩ hz hkp => ?_)
    dsimp only at hp hz hkp ⊢
    have hS' := hkp S _ nz nTO n1 n2 hS
    have up : ∀ b o, b ≠ S → h'.get? b = some o → (h'.update S (Obj.mapSeq (·.push (Value.ref h.objs.size)))).get? b = some o := fun b o hb e => (Heap.get?_update_other _ _ (Ne.symm hb)).trans e
    show wpAny _ A.in1 (updateSeq S (·.push (Value.ref h.objs.size)) >>= _) _ _ _
    refine wpAny_bind (wpAny_updateSeq hS' rfl (wpAny_pure ⟨plainId_quiet PySem.F.plain_extend_loop _, ih (i + 1) _ tk _ (acc.push (Value.ref h.objs.size)) (as ++ [h.objs.size]) (by omega) (by omega) (Z'.at hb up)
      (fun b o h1 h2 h3 h4 h5 e => up b o h1 (hkp b o h2 h3 h4 h5 (hkeep b o h1 h2 h3 h4 h5 e))) (Heap.get?_update_self _ hS' rfl) (by rw [Array.toList_push, hacc, List.map_append]; rfl) (by rw [List.length_append, hal]; rfl) ⟨?_, ?_, ?_⟩⟩) (by rw [hsz]; omega) (by show (acc.push (Value.ref h.objs.size)).size ≤ sizeLine + 1; rw [Array.size_push, hsz]; omega))
    · refine List.pairwise_append.mpr ⟨hG.rise, List.pairwise_singleton _ _, fun a ha b hb => by rw [List.mem_singleton.mp hb]; exact hG.there ha⟩
    · intro a ha
      rcases List.mem_append.mp ha with ha | ha
      · exact hG.above a ha
      · rw [List.mem_singleton.mp ha]; exact hSl
    · intro j b hj
      rcases Nat.lt_trichotomy j as.length with h1 | h1 | h1
      · rw [List.getElem?_append_left h1] at hj
        obtain ⟨x', y', f1, f2, f3⟩ := hG.pairs j b hj
        obtain ⟨q0, q1, q2, q3, q4⟩ := big (hG.above b (List.mem_of_getElem? hj))
        exact ⟨x', y', f1, f2, up b _ q0 (hkp b _ q1 q2 q3 q4 f3)⟩
      · subst h1
        have hb' : h.objs.size = b := by simpa using hj
        subst hb'
        exact ⟨x, y, by rw [hal]; exact ex, by rw [hal]; exact ey, up _ _ (Nat.ne_of_gt hSl) hp⟩
      · rw [List.getElem?_eq_none (by rw [List.length_append, List.length_singleton]; omega)] at hj
        cases hj
theorem zip_no_len : typeLookup (.type "zip") "__len__" = pure none := am_miss_of_fast (by decide +kernel)
theorem zip_no_hint : typeLookup (.type "zip") "__length_hint__" = pure none := am_miss_of_fast (by decide +kernel)
theorem zl_hint {E : Value → Shared → Prop} {Q : Bool → Shared → Prop} (hT : s.TypeIs (.ref z) "zip") (h : Q true s) : wpAny (model prog w) A (Builtin.List.listLengthHint (.ref z)) Q E s := by
  unfold Builtin.List.listLengthHint
  refine wpAny_bind (wpAny_specialOf hT zip_no_len ?_)
  refine wpAny_ite_split (fun hab => absurd hab (by decide)) (fun _ => ?_)
  refine wpAny_ite_split (fun hab => absurd hab (by decide)) (fun _ => ?_)
  refine wpAny_bind (wpAny_specialOf hT zip_no_hint ?_)
  exact wpAny_pure h
theorem zl_extend {xs ys : Array Value} (hh : A.handled = none) (D : ZipApart z TI TO i1 i2 l1 l2) (hb : z < S ∧ TI < S ∧ TO < S ∧ i1 < S ∧ i2 < S ∧ l1 < S ∧ l2 < S) (Z : ZL s.heap z TI TO i1 i2 l1 l2 S xs ys 0) (res : Value) (c₀ : Nat) (hS : s.heap.get? S = some { cls := .type "list", data := .seq #[] c₀ })
    (hz : IsZip s.heap z TI TO .none) (hn : min xs.size ys.size ≤ sizeLine)
    (hR : ∀ h' tk acc c as, (∀ b o, b ≠ S → b ≠ z → b ≠ TO → b ≠ i1 → b ≠ i2 → s.heap.get? b = some o → h'.get? b = some o) → h'.get? S = some { cls := .type "list", dict := none, data := .seq acc c, slots := #[] } → as.length = min xs.size ys.size → ZG xs ys S h' as →
      acc.toList = as.map Value.ref → R (.ok (.ret res)) { s with heap := h', toks := tk }) :
    wpAny (model prog w) A.in1 (Builtin.List.listExtendWith (.ref S) (.ref z) res)
      (fun g s' => match g with | .done f => R (.ok f) s' | .again c' => c'.quiet = true ∧ codeAny (model prog w) A c' R s') (fun e s' => R (.error e) s') s := by
  have hT : s.TypeIs (.ref z) "zip" := ⟨_, hz, rfl⟩
  unfold Builtin.List.listExtendWith
  refine wpAny_bind (wpAny_typeOf (T := "zip") hT ?_)
  have h1 : Builtin.List.listSameRef (.ref S) (.ref z) = false := by simp [Builtin.List.listSameRef, Nat.ne_of_gt hb.1]
  have h2 : (Value.type "zip" == Value.type "list") = false := by decide
  have h3 : (Value.type "zip" == Value.type "tuple") = false := by decide
  simp only [h1, h2, h3, Bool.or_false, Bool.false_eq_true, if_false]
  refine wpAny_bind (wpAny_pyIter_zip hz ?_)
  refine wpAny_bind (wpAny_holding (zl_hint hT ?_))
  refine wpAny_ite_split (fun _ => ?_) (fun hf => absurd rfl hf)
  refine wpAny_bind (wpAny_rule ?_)
  refine wpAny_bind ?_
  show wpAny _ _ (updateSeq S (·.push .none) >>= fun _ => updateSeq S (·.pop)) _ _ _
  refine wpAny_bind (wpAny_updateSeq hS rfl ?_)
  have hS₂ := Heap.get?_update_self (Obj.mapSeq (·.push Value.none)) hS rfl
  refine wpAny_updateSeq (hz := by seq_fits) hS₂ rfl ?_
  have hS₃ := Heap.get?_update_self (Obj.mapSeq (·.pop)) hS₂ rfl
  have oth : ∀ b o, b ≠ S → s.heap.get? b = some o → ((s.heap.update S (Obj.mapSeq (·.push Value.none))).update S (Obj.mapSeq (·.pop))).get? b = some o := fun b o hb e => (Heap.get?_update_other _ _ (Ne.symm hb)).trans ((Heap.get?_update_other _ _ (Ne.symm hb)).trans e)
  refine wpAny_pure ⟨plainId_quiet PySem.F.plain_extend_loop _, ?_⟩
  exact zl_loop (h₁ := s.heap) hh D hb hn res hR _ 0 _ s.toks _ #[] [] rfl (Nat.zero_le _) (Z.at hb oth) (fun b o h1 _ _ _ _ e => oth b o h1 e) hS₃ rfl rfl ⟨List.Pairwise.nil, (fun _ ha => nomatch ha), (fun j a hj => by simp at hj)⟩
theorem zl_call {E : Value → Shared → Prop} {xs ys : Array Value} {Q : Value → Shared → Prop} (hh : A.handled = none) (D : ZipApart z TI TO i1 i2 l1 l2) (hb : z < s.heap.objs.size ∧ TI < s.heap.objs.size ∧ TO < s.heap.objs.size ∧ i1 < s.heap.objs.size ∧ i2 < s.heap.objs.size ∧ l1 < s.heap.objs.size ∧ l2 < s.heap.objs.size)
    (Z : ZL s.heap z TI TO i1 i2 l1 l2 s.heap.objs.size xs ys 0) (hz : IsZip s.heap z TI TO .none) (hn : min xs.size ys.size ≤ sizeLine)
    (hQ : ∀ h' tk acc c as, (∀ b o, b ≠ z → b ≠ TO → b ≠ i1 → b ≠ i2 → s.heap.get? b = some o → h'.get? b = some o) → h'.get? s.heap.objs.size = some { cls := .type "list", dict := none, data := .seq acc c, slots := #[] } → as.length = min xs.size ys.size →
      ZG xs ys s.heap.objs.size h' as → acc.toList = as.map Value.ref → Q (.ref s.heap.objs.size) { s with heap := h', toks := tk }) : wpAny (model prog w) A (call (.type "list") [.ref z]) Q E s := by
  refine callType_codes (Q₁ := fun obj s₁ => obj = .ref s.heap.objs.size ∧ s₁ = { s with heap := s.heap.push { cls := .type "list", data := .seq #[] } }) PySem.F.called_list (PySem.F.typeCall_list_1 _) PySem.F.entry_list_init (PySem.code_list_new _ ⟨rfl, rfl⟩) fun obj s₁ h₁ => ?_
  obtain ⟨rfl, rfl⟩ := h₁
  have hS : (s.heap.push { cls := .type "list", data := .seq #[] }).get? s.heap.objs.size = some { cls := .type "list", data := .seq #[] } := Heap.get?_push_size _ rfl
  have up : ∀ b o, s.heap.get? b = some o → (s.heap.push { cls := .type "list", data := .seq #[] }).get? b = some o := fun b o e => Heap.get?_push_of_some _ e
  refine ⟨⟨_, hS, rfl⟩, PySem.F.args_list_init_2 _ _, ?_⟩
  show wpAny _ A.in1.in1 (do let old ← Builtin.List.listItems (.ref s.heap.objs.size); Builtin.List.listUpdate (.ref s.heap.objs.size) (fun _ => #[]); letGo old.toList.reverse; Builtin.List.listExtendWith (.ref s.heap.objs.size) (.ref z) .none) _ _ _
  refine wpAny_bind ?_
  unfold Builtin.List.listItems
  refine wpAny_bind (wpAny_seqItems hS rfl (wpAny_pure ?_))
  show wpAny _ _ (updateSeq s.heap.objs.size (fun _ => #[]) >>= fun _ => letGo (#[] : Array Value).toList.reverse >>= fun _ => Builtin.List.listExtendWith (.ref s.heap.objs.size) (.ref z) .none) _ _ _
  refine wpAny_bind (wpAny_updateSeq hS rfl ?_)
  have hS₂ := Heap.get?_update_self (Obj.mapSeq (fun _ => (#[] : Array Value))) hS rfl
  have oth : ∀ b o, b ≠ s.heap.objs.size → (s.heap.push { cls := .type "list", data := .seq #[] }).get? b = some o → ((s.heap.push { cls := .type "list", data := .seq #[] }).update s.heap.objs.size (Obj.mapSeq (fun _ => (#[] : Array Value)))).get? b = some o :=
    fun b o hb e => (Heap.get?_update_other _ _ (Ne.symm hb)).trans e
  refine wpAny_bind (wpAny_letGo ?_)
  have k2 : ∀ b o, b ≠ s.heap.objs.size → s.heap.get? b = some o → ((s.heap.push { cls := .type "list", data := .seq #[] }).update s.heap.objs.size (Obj.mapSeq (fun _ => (#[] : Array Value)))).get? b = some o := fun b o hb e => oth b o hb (up b o e)
  refine zl_extend (A := A.in1) hh D hb (Z.at hb k2) .none _ hS₂ (k2 _ _ (Nat.ne_of_lt hb.1) hz) hn fun h' tk acc c as hk hS' hl hG hacc => ⟨rfl, hQ h' tk acc c as (fun b o h1 h2 h3 h4 e => hk b o (Nat.ne_of_lt (Heap.lt_size e)) h1 h2 h3 h4 (k2 b o (Nat.ne_of_lt (Heap.lt_size e)) e)) hS' hl hG hacc⟩
end
end DL

namespace DL
open PySem PySem.Spec PyProof.Rows L2
/-! ### list(zip(a, b)) over data -/
def putZ : Hp → List Addr → List (V × V) → Hp
  | H, a :: as, p :: ps => putZ (upd H a (.tup [p.1, p.2])) as ps
  | H, _, _ => H
theorem vals_refs' : ∀ as : List Addr, Vals (as.map V.ref) (as.map Value.ref)
  | [] => .nil
  | _ :: as => .cons rfl (vals_refs' as)
theorem putZ_out {b : Addr} : ∀ (as : List Addr) (ps : List (V × V)) (H : Hp), b ∉ as → putZ H as ps b = H b
  | [], _, _, _ => rfl
  | _ :: _, [], _, _ => rfl
  | a :: as, p :: ps, H, h => by
    unfold putZ
    rw [putZ_out as ps _ (fun z => h (.tail _ z)), upd_ne (fun z => h (by rw [z]; exact .head _))]
theorem putZ_in : ∀ (as : List Addr) (ps : List (V × V)) (H : Hp), as.length = ps.length → as.Nodup → ∀ (j : Nat) (a : Addr), as[j]? = some a → ∃ p, ps[j]? = some p ∧ putZ H as ps a = some (.tup [p.1, p.2])
  | [], _, _, _, _, j, a, e => by simp at e
  | _ :: _, [], _, h, _, _, _, _ => nomatch h
  | a :: as, p :: ps, H, h, hn, 0, b, e => by
    have hn' := List.nodup_cons.mp hn
    rw [List.getElem?_cons_zero] at e; cases e
    refine ⟨p, rfl, ?_⟩
    unfold putZ
    rw [putZ_out as ps _ hn'.1, upd_same]
  | a :: as, p :: ps, H, h, hn, j + 1, b, e => by
    have hn' := List.nodup_cons.mp hn
    rw [List.getElem?_cons_succ] at e
    obtain ⟨q, e1, e2⟩ := putZ_in as ps (upd H a (.tup [p.1, p.2])) (Nat.succ.inj h) hn'.2 j b e
    exact ⟨q, by rw [List.getElem?_cons_succ]; exact e1, e2⟩
section
variable {X : Cx} {e e2 : Expr} {ta : TA} {p p2 pos cpos : Pos}
theorem zip_laid {pins : List (Addr × Obj)} {σ : L2.St} {H : Hp} {s : Shared} {h' : Heap} {tk : Nat} {xs ys : List V} {us ws : List Value} {acc : Array Value} {c : Nat} {S : Addr} {as : List Addr} (I : Inv X pins σ H s) (rx : Vals xs us) (ry : Vals ys ws) (hlen : xs.length ≤ sizeLine)
    (hS0 : s.heap.objs.size ≤ S) (hk : ∀ b o, s.heap.get? b = some o → h'.get? b = some o) (hS : h'.get? S = some { cls := .type "list", dict := none, data := .seq acc c, slots := #[] }) (hl : as.length = min us.toArray.size ws.toArray.size) (hG : ZG us.toArray ws.toArray S h' as) (hacc : acc.toList = as.map Value.ref) :
    ∃ H' : Hp, Same H H' ∧ H S = none ∧ (∀ t ∈ as, H t = none) ∧ S ∉ as ∧ H' S = some (.lst (as.map V.ref)) ∧ (∀ (j : Nat) (t : Addr), as[j]? = some t → ∃ q, (xs.zip ys)[j]? = some q ∧ H' t = some (.tup [q.1, q.2])) ∧ as.length = (xs.zip ys).length ∧ Inv X pins σ H' { s with heap := h', toks := tk } := by
  have lx := rx.length
  have ly := ry.length
  have lz : as.length = (xs.zip ys).length := by rw [hl, List.length_zip, List.size_toArray, List.size_toArray, lx, ly]
  have hSn : S ∉ as := fun z => Nat.lt_irrefl _ (hG.above _ z)
  have nd : as.Nodup := List.Pairwise.imp (fun {a b} (h : a < b) => Nat.ne_of_lt h) hG.rise
  have new : ∀ t ∈ as, H t = none := fun t ht => I.hok.fresh (Nat.le_trans hS0 (Nat.le_of_lt (hG.above t ht)))
  have newS : H S = none := I.hok.fresh hS0
  have atP := putZ_in as (xs.zip ys) (upd H S (.lst (as.map V.ref))) lz nd
  have off : ∀ b, b ∉ as → b ≠ S → putZ (upd H S (.lst (as.map V.ref))) as (xs.zip ys) b = H b := fun b h1 h2 => (putZ_out as _ _ h1).trans (upd_ne h2)
  have low : ∀ b o, s.heap.get? b = some o → b ∉ as ∧ b ≠ S := fun b o e => ⟨fun z => absurd (Heap.lt_size e) (Nat.not_lt.mpr (Nat.le_trans hS0 (Nat.le_of_lt (hG.above b z)))), Nat.ne_of_lt (Nat.lt_of_lt_of_le (Heap.lt_size e) hS0)⟩
  have kp : Same H (putZ (upd H S (.lst (as.map V.ref))) as (xs.zip ys)) := fun b u e =>
    (off b (fun z => by rw [new b z] at e; cases e) (fun z => by rw [z, newS] at e; cases e)).trans e
  have eS : putZ (upd H S (.lst (as.map V.ref))) as (xs.zip ys) S = some (.lst (as.map V.ref)) := (putZ_out as _ _ hSn).trans upd_same
  refine ⟨putZ (upd H S (.lst (as.map V.ref))) as (xs.zip ys), kp, newS, new, hSn, eS, atP, lz, ?_⟩
  refine I.call' (ch := []) rfl ⟨fun b o q _ _ _ => hk b o q, fun b o q _ _ _ => ⟨o.slots, hk b o q⟩, fun b o q n _ => ?_, fun b o q _ => ⟨o, hk b o q⟩, fun b xs q => kp b _ q, fun b o u q => kp b _ q, fun b ps q => ⟨#[], by rw [kp b _ q]; simp⟩⟩ (fun b u q => ?_) I.bare fun b z => by simp at z
  · obtain ⟨z1, z2⟩ := low b o q
    rw [off b z1 z2]
    exact n
  · by_cases hb : b ∈ as
    · obtain ⟨j, hj⟩ := List.mem_iff_getElem?.mp hb
      obtain ⟨pq, e2, e3⟩ := atP j b hj
      rw [e3] at q
      cases q
      obtain ⟨x, y, f1, f2, f3⟩ := hG.pairs j b hj
      obtain ⟨g1, g2⟩ := List.getElem?_zip_eq_some.mp e2
      obtain ⟨u1, m1, r1⟩ := rx.get g1
      obtain ⟨u2, m2, r2⟩ := ry.get g2
      rw [List.getElem?_toArray] at f1 f2
      rw [m1] at f1; cases f1
      rw [m2] at f2; cases f2
      exact ⟨by show 2 ≤ sizeLine; decide, [x, y], .cons r1 (.cons r2 .nil), ⟨_, f3, rfl, _, rfl⟩⟩
    · by_cases hb2 : b = S
      · rw [hb2] at q ⊢
        rw [eS] at q
        cases q
        refine ⟨by rw [List.length_map, lz, List.length_zip]; omega, acc.toList, c, by rw [hacc]; exact vals_refs' as, ?_⟩
        rw [Array.toArray_toList]
        exact hS
      · rw [off b hb hb2] at q
        exact (I.hok b u q).stay (fun d v _ y => hk d v y) (fun d y => kp d _ y) fun d xs y => kp d _ y
def tListZip (K : PySem.W.Frag) (ta : TA) : TE := fun σ H Q => ta σ H fun vs H1 => ∃ a b xs ys, vs = [.ref a, .ref b] ∧ SqL K H1 a xs ∧ SqL K H1 b ys ∧
  ∀ (H' : Hp) (p : Addr) (ts : List Addr), Same H1 H' → H1 p = none → (∀ t ∈ ts, H1 t = none) → p ∉ ts → H' p = some (.lst (ts.map V.ref)) → (∀ (j : Nat) (t : Addr), ts[j]? = some t → ∃ q, (xs.zip ys)[j]? = some q ∧ H' t = some (.tup [q.1, q.2])) → ts.length = (xs.zip ys).length → Q (.ref p) H'
theorem pe_listZip (hc : X.calm = true) (ha : PA X [e, e2] ta) (hg : Gl X "list") (hm : X.mg "list" = none) (hgz : Gl X "zip") (hmz : X.mg "zip" = none)
    (hs : starEach [e, e2] X.env = (false, eval e X.env) :: starEach [e2] X.env := by rfl) (hpl : (backTo cpos (starEach [e2] X.env)).any (·.1) = false := by rfl)
    (na : starEach [.Call (.Name "zip" p2) [e, e2] [] cpos] X.env = (false, eval (.Call (.Name "zip" p2) [e, e2] [] cpos) X.env) :: starEach [] X.env := by rfl) :
    PE X (.Call (.Name "list" p) [.Call (.Name "zip" p2) [e, e2] [] cpos] [] pos) (tListZip X.K ta) := by
  refine ⟨fun pins s σ H Q I h => ?_⟩
  refine Call_ (ld_blt I hg hm boot_list (PyProof.Rows.callWith_type1 (args_cons (Call_ (ld_blt I hgz hmz PyProof.Rows.boot_zip (PyProof.Rows.callWith_type1 (thn (ha.run cpos pins s σ H _ I h) fun us s1 ⟨vs, H1, I1, r1, q1⟩ => ?_) hs hpl))) na) na))
  obtain ⟨a, b, xs, ys, ex, hqx, hqy, q⟩ := q1
  subst ex
  cases r1 with
  | cons r rr =>
    cases rr with
    | cons r' rr =>
      cases rr
      cases r
      cases r'
      obtain ⟨its, rv, p1, z1⟩ := I1.list hqx
      obtain ⟨its2, rv2, p2, z2⟩ := I1.list hqy
      refine call_zip_2 p1.isList p2.isList fun h' hz hTI hTO h1 h2 hsz hk => args_nil ?_
      have I2 : Inv X pins σ H1 { s1 with heap := h' } := I1.kept (t' := s1.toks) hk
      have lb : s1.heap.objs.size + 4 < h'.objs.size ∧ s1.heap.objs.size + 2 < h'.objs.size ∧ s1.heap.objs.size + 3 < h'.objs.size ∧ s1.heap.objs.size < h'.objs.size ∧ s1.heap.objs.size + 1 < h'.objs.size ∧ a < h'.objs.size ∧ b < h'.objs.size := by
        have q1 := p1.lt
        have q2 := p2.lt
        rw [hsz]
        exact ⟨by omega, by omega, by omega, by omega, by omega, Nat.lt_of_lt_of_le q1 (Nat.le_add_right _ _), Nat.lt_of_lt_of_le q2 (Nat.le_add_right _ _)⟩
      refine zl_call (s := { s1 with heap := h' }) (I1.ok.hd hc) (PySem.W.ktu_apart s1.heap.objs.size a b p1.lt p2.lt) lb ⟨.inl ⟨rfl, hz, _, _, hTO⟩, hTI, h1, h2, p1.isList.at fun o e => hk _ _ e, p2.isList.at fun o e => hk _ _ e⟩ hz (by
        have e1 := rv.length
        have e2 : its.toArray.size = its.length := List.size_toArray
        have e3 := z1
        exact Nat.le_trans (Nat.min_le_left _ _) (by rw [e2, ← e1]; exact e3)) fun h2' tk acc c as hk2 hS hl hG hacc => ?_
      have ap := PySem.W.ktu_apart s1.heap.objs.size a b p1.lt p2.lt
      obtain ⟨H', k1, k2, k3, k4, k5, k6, k7, J⟩ := zip_laid (tk := tk) (h' := h2') (S := h'.objs.size) I1 rv rv2 z1 (by omega) (fun b o e => hk2 b o (Nat.ne_of_lt (Nat.lt_of_lt_of_le (Heap.lt_size e) (Nat.le_add_right _ _))) (Nat.ne_of_lt (Nat.lt_of_lt_of_le (Heap.lt_size e) (Nat.le_add_right _ _))) (Nat.ne_of_lt (Heap.lt_size e)) (Nat.ne_of_lt (Nat.lt_of_lt_of_le (Heap.lt_size e) (Nat.le_add_right _ _))) (hk b o e)) hS hl hG hacc
      exact ⟨.ref _, H', J, rfl, q H' _ as k1 k2 k3 k4 k5 k6 k7⟩
variable {ρ : List Sl} {Φ : PyData → List Sl → Prop}
theorem rp_zip {G : Hp} : ∀ {ts : List Addr} {vs us : List V} {ds es : List PyData}, RpAll G vs ds → RpAll G us es → (∀ (j : Nat) (t : Addr), ts[j]? = some t → ∃ q, (vs.zip us)[j]? = some q ∧ G t = some (.tup [q.1, q.2])) → ts.length = (vs.zip us).length → RpAll G (ts.map V.ref) (zipD ds es)
  | [], [], _, [], _, .nil, _, _, _ => .nil
  | _ :: _, [], _, [], _, .nil, _, _, h => nomatch h
  | [], _ :: _, [], _ :: _, [], .cons _ _, .nil, _, _ => .nil
  | _ :: _, _ :: _, [], _ :: _, [], .cons _ _, .nil, _, h => nomatch h
  | [], _ :: _, _ :: _, _ :: _, _ :: _, .cons _ _, .cons _ _, _, h => nomatch h
  | t :: ts, v :: vs, u :: us, d :: ds, e :: es, .cons r1 r2, .cons r3 r4, hp, h => by
    obtain ⟨q, e1, e2⟩ := hp 0 t rfl
    rw [List.zip_cons_cons, List.getElem?_cons_zero] at e1
    cases e1
    exact .cons (.tup (.inl e2) (.cons r1 (.cons r3 .nil))) (rp_zip r2 r4 (fun j t' ht => by
      obtain ⟨q, e1, e2⟩ := hp (j + 1) t' ht
      exact ⟨q, by rw [List.zip_cons_cons, List.getElem?_cons_succ] at e1; exact e1, e2⟩) (by simpa using h))
theorem ee_listZip (ck : CK X) (h : EA X ρ [e, e2] fun ds ρ1 => ∃ xs ys, ds = [.list xs, .list ys] ∧ Φ (.list (zipD xs ys)) ρ1) (hg : Gl X "list" := by rfl) (hgz : Gl X "zip" := by rfl)
    (hs : starEach [e, e2] X.env = (false, eval e X.env) :: starEach [e2] X.env := by rfl) (hpl : (backTo cpos (starEach [e2] X.env)).any (·.1) = false := by rfl)
    (na : starEach [.Call (.Name "zip" p2) [e, e2] [] cpos] X.env = (false, eval (.Call (.Name "zip" p2) [e, e2] [] cpos) X.env) :: starEach [] X.env := by rfl) :
    EE X ρ (.Call (.Name "list" p) [.Call (.Name "zip" p2) [e, e2] [] cpos] [] pos) Φ := fun F σ H Q S k =>
  ofPE (pe_listZip ck.calm paW hg (ck.bt _ (by simp [bNames])) hgz (ck.bt _ (by simp [bNames])) hs hpl na) (h F σ H _ S fun vs H1 ds ρ1 ⟨xs, ys, ed, q⟩ S1 g r => by
    subst ed
    match r with
    | .cons (.lst e1 r1) (.cons (.lst e2 r2) .nil) =>
      refine ⟨_, _, _, _, rfl, .of (mask_le _ _ e1), .of (mask_le _ _ e2), fun H' p ts s hp hts hpn hpl hpr hlen => ?_⟩
      have S2 := S1.ext s
      have g2 : Same (gh F ρ1 H1) (gh F ρ1 H') := mask_same s
      have out : ∀ b, H1 b = none → gh F ρ1 H' b = H' b := fun b hb => mask_out fun m => S1.ad b m hb
      refine k _ H' _ ρ1 q S2 (g.trans g2) (.lst ((out p hp).trans hpl) (rp_zip (RpAll.up g2 _ _ r1) (RpAll.up g2 _ _ r2) (fun j t ht => ?_) hlen))
      obtain ⟨q, e1, e2⟩ := hpr j t ht
      exact ⟨q, e1, (out t (hts t (List.mem_of_getElem? ht))).trans e2⟩)
end
end DL

namespace DL
open PySem PySem.Spec PyProof.Rows L2
section
variable {X : Cx} {ρ : List Sl} {e a b c : Expr} {pos : Pos} {Φ : PyData → List Sl → Prop} {Θ : List PyData → List Sl → Prop}
theorem ii_zip2T {p tpos : Pos} {elts : List Expr} {kk : Nat} (ck : CK X) (h : EA X ρ [a, b] fun ds ρ1 => ∃ xs ys, ds = [.tuple xs, .tuple ys] ∧ Θ (zipD xs ys) ρ1) (hg : Gl X "zip" := by rfl)
    (hs : starEach [a, b] X.env = (false, eval a X.env) :: starEach [b] X.env := by rfl) (hpl : (backTo pos (starEach [b] X.env)).any (·.1) = false := by rfl) : II X ρ (.Tuple elts kk tpos) (.Call (.Name "zip" p) [a, b] [] pos) Θ :=
  ii_zip ck (fun F σ H Q S k => h F σ H Q S fun vs H' ds ρ' ⟨xs, ys, e, q⟩ => k vs H' ds ρ' (by subst e; exact q)) hg hs hpl
theorem ii_zip2L {p tpos : Pos} {elts : List Expr} {kk : Nat} (ck : CK X) (h : EA X ρ [a, b] fun ds ρ1 => ∃ xs ys, ds = [.list xs, .list ys] ∧ Θ (zipD xs ys) ρ1) (hg : Gl X "zip" := by rfl)
    (hs : starEach [a, b] X.env = (false, eval a X.env) :: starEach [b] X.env := by rfl) (hpl : (backTo pos (starEach [b] X.env)).any (·.1) = false := by rfl) : II X ρ (.Tuple elts kk tpos) (.Call (.Name "zip" p) [a, b] [] pos) Θ :=
  ii_zip ck (fun F σ H Q S k => h F σ H Q S fun vs H' ds ρ' ⟨xs, ys, e, q⟩ => k vs H' ds ρ' (by subst e; exact q)) hg hs hpl
end
end DL

namespace DL
open PySem PySem.Spec PyProof.Rows L2
/-! ### an object under way -/
section
variable {F : Fm} {H H2 : Hp} {σ : L2.St} {ρ : List Sl} {i : Nat} {s t : Sl}
theorem SlotsOk.chgS {G G2 H H2 : Hp} (gg : Same G G2) (kp : ∀ a o, a ∉ t.ad → H a = some o → H2 a = some o) (hx : ∀ x, SlotOk G H x t → SlotOk G2 H2 x s) :
    ∀ {σ : L2.St} {ρ : List Sl} {i : Nat}, SlotsOk G H σ ρ → (os ρ).Nodup → ρ[i]? = some t → SlotsOk G2 H2 σ (ρ.set i s)
  | [], [], _, _, _, e => by simp at e
  | [], _ :: _, _, h, _, _ => h.elim
  | _ :: _, [], _, h, _, _ => h.elim
  | x :: xs, u :: r, 0, h, nd, e => by
    rw [List.getElem?_cons_zero] at e; cases e
    obtain ⟨_, _, h3⟩ := List.nodup_append.mp nd
    exact ⟨hx x h.1, h.2.up gg fun b m o q => kp b o (fun z => h3 b z b m rfl) q⟩
  | x :: xs, u :: r, i + 1, h, nd, e => by
    rw [List.getElem?_cons_succ] at e
    obtain ⟨_, h2, h3⟩ := List.nodup_append.mp nd
    exact ⟨h.1.up gg fun b m o q => kp b o (fun z => h3 b m b (os_at e z) rfl) q, SlotsOk.chgS gg kp hx h.2 h2 e⟩
theorem os_sw : ∀ {ρ : List Sl} {i : Nat} {s t : Sl} {H : Hp}, (∀ a ∈ os ρ, H a ≠ none) → (os ρ).Nodup → ρ[i]? = some t → s.ad.Nodup → (∀ a ∈ s.ad, a ∈ t.ad ∨ H a = none) → (os (ρ.set i s)).Nodup
  | [], _, _, _, _, _, _, e, _, _ => by simp at e
  | u :: r, 0, s, t, H, lv, nd, e, ns, sub => by
    rw [List.getElem?_cons_zero] at e; cases e
    obtain ⟨_, h2, h3⟩ := List.nodup_append.mp nd
    refine List.nodup_append.mpr ⟨ns, h2, fun a ma b mb z => ?_⟩
    rcases sub a ma with y | y
    · exact h3 a y b mb z
    · exact lv b (List.mem_append_right _ mb) (z ▸ y)
  | u :: r, i + 1, s, t, H, lv, nd, e, ns, sub => by
    rw [List.getElem?_cons_succ] at e
    obtain ⟨h1, h2, h3⟩ := List.nodup_append.mp nd
    refine List.nodup_append.mpr ⟨h1, os_sw (fun a m => lv a (List.mem_append_right _ m)) h2 e ns sub, fun a ma b mb z => ?_⟩
    rcases os_set_sub mb with y | y
    · rcases sub b y with w | w
      · exact h3 a ma b (os_at e w) z
      · exact lv a (List.mem_append_left _ ma) (z ▸ w)
    · exact h3 a ma b y z
theorem os_nd : ∀ {ρ : List Sl} {i : Nat} {t : Sl}, (os ρ).Nodup → ρ[i]? = some t → t.ad.Nodup
  | [], _, _, _, e => by simp at e
  | u :: r, 0, t, h, e => by
    rw [List.getElem?_cons_zero] at e; cases e
    exact (List.nodup_append.mp h).1
  | u :: r, i + 1, t, h, e => by
    rw [List.getElem?_cons_succ] at e
    exact os_nd (List.nodup_append.mp h).2.1 e
theorem Stt.chgS (S : Stt F H σ ρ) (e : ρ[i]? = some t) (kp : ∀ a o, a ∉ t.ad → H a = some o → H2 a = some o) (lv : ∀ a ∈ t.ad, H2 a ≠ none) (ns : s.ad.Nodup) (sub : ∀ a ∈ s.ad, a ∈ t.ad ∨ H a = none)
    (hx : Same (gh F ρ H) (gh F (ρ.set i s) H2) → ∀ x, SlotOk (gh F ρ H) H x t → SlotOk (gh F (ρ.set i s) H2) H2 x s) : Stt F H2 σ (ρ.set i s) ∧ Same (gh F ρ H) (gh F (ρ.set i s) H2) := by
  have tin : ∀ a ∈ t.ad, a ∈ os ρ := fun a m => os_at e m
  have sin : ∀ a ∈ os (ρ.set i s), a ∈ os ρ ∨ H a = none := fun a m => (os_set_sub m).elim (fun y => (sub a y).imp (tin a) id) .inl
  have ge : Same (gh F ρ H) (gh F (ρ.set i s) H2) := by
    refine mask_mono (fun a m hn => ?_) fun a o na ea => kp a o (fun z => na (List.mem_append_right _ (tin a z))) ea
    rcases List.mem_append.mp m with m | m
    · exact List.mem_append_left _ m
    · exact (sin a m).elim (List.mem_append_right _) fun z => absurd z hn
  have up : ∀ a, H a ≠ none → H2 a ≠ none := fun a ha => by
    by_cases z : a ∈ t.ad
    · exact lv a z
    · cases q : H a with
      | none => exact absurd q ha
      | some o => rw [kp a o z q]; exact fun z => nomatch z
  refine ⟨⟨fun a m => up a (S.hd a m), fun a o na ea => ?_, fun a ha => up a (S.dm a ha), os_sw S.sl.ad S.nd e ns sub, fun a m => ?_, fun a m z => ?_, S.sl.chgS ge kp (hx ge) S.nd e⟩, ge⟩
  · refine kp a o (fun z => ?_) (S.fr a o na ea)
    rcases S.nw a (tin a z) with y | y
    · exact na y
    · rw [y] at ea; cases ea
  · rcases sin a m with y | y
    · exact S.nw a y
    · cases q : F.H0 a with
      | none => exact .inr rfl
      | some o => exact absurd y (S.dm a (by rw [q]; exact fun z => nomatch z))
  · rcases sin a m with y | y
    · exact S.ap a y z
    · exact S.hd a z y
end
/-! fields -/
def setFd (f : Str) (d : Fd) : List (Str × Fd) → List (Str × Fd)
  | [] => [(f, d)]
  | (g, x) :: r => if g = f then (g, d) :: r else (g, x) :: setFd f d r
theorem FdOk.len {G H : Hp} : ∀ {vs : List (Str × V)} {fs : List (Str × Fd)}, FdOk G H vs fs → vs.length = fs.length
  | [], [], _ => rfl
  | v :: vs, (n, .dat d) :: ds, h => congrArg Nat.succ (FdOk.len h.2)
  | v :: vs, (n, .own a xs) :: ds, h => congrArg Nat.succ (FdOk.len h.2)
  | [], _ :: _, h => h.elim
  | _ :: _, [], h => h.elim
theorem FdOk.dat {G H : Hp} : ∀ {vs : List (Str × V)} {fs : List (Str × Fd)} {n : Str} {d : PyData}, FdOk G H vs fs → fs.lookup n = some (.dat d) → ∃ v, vs.lookup n = some v ∧ Rp G v d
  | [], [], _, _, _, e => by simp at e
  | (m, v) :: vs, (m', .dat d') :: ds, n, d, h, e => by
    have e1 : m = m' := h.1.1
    subst e1
    rw [List.lookup_cons] at e ⊢
    cases q : n == m with
    | true => rw [q] at e; cases e; exact ⟨v, rfl, h.1.2⟩
    | false => rw [q] at e; exact FdOk.dat h.2 e
  | (m, v) :: vs, (m', .own a xs) :: ds, n, d, h, e => by
    have e1 : m = m' := h.1.1
    subst e1
    rw [List.lookup_cons] at e ⊢
    cases q : n == m with
    | true => rw [q] at e; cases e
    | false => rw [q] at e; exact FdOk.dat h.2 e
  | [], _ :: _, _, _, h, _ => h.elim
  | _ :: _, [], _, _, h, _ => h.elim
theorem FdOk.own {G H : Hp} : ∀ {vs : List (Str × V)} {fs : List (Str × Fd)} {n : Str} {a : Addr} {xs : List PyData}, FdOk G H vs fs → fs.lookup n = some (.own a xs) → vs.lookup n = some (.ref a) ∧ (∃ us, H a = some (.lst us) ∧ RpAll G us xs) ∧ a ∈ fdA fs
  | [], [], _, _, _, _, e => by simp at e
  | (m, v) :: vs, (m', .dat d') :: ds, n, a, xs, h, e => by
    have e1 : m = m' := h.1.1
    subst e1
    rw [List.lookup_cons] at e ⊢
    cases q : n == m with
    | true => rw [q] at e; cases e
    | false => rw [q] at e; obtain ⟨q1, q2, q3⟩ := FdOk.own h.2 e; exact ⟨q1, q2, q3⟩
  | (m, v) :: vs, (m', .own b ys) :: ds, n, a, xs, h, e => by
    have e1 : m = m' := h.1.1
    subst e1
    rw [List.lookup_cons] at e ⊢
    cases q : n == m with
    | true => rw [q] at e; cases e; exact ⟨congrArg some h.1.2.1, h.1.2.2, .head _⟩
    | false => rw [q] at e; obtain ⟨q1, q2, q3⟩ := FdOk.own h.2 e; exact ⟨q1, q2, .tail _ q3⟩
  | [], _ :: _, _, _, _, h, _ => h.elim
  | _ :: _, [], _, _, _, h, _ => h.elim
theorem FdOk.no {G H : Hp} : ∀ {vs : List (Str × V)} {fs : List (Str × Fd)} {n : Str}, FdOk G H vs fs → fs.lookup n = none → vs.lookup n = none
  | [], [], _, _, _ => rfl
  | (m, v) :: vs, (m', .dat d') :: ds, n, h, e => by
    have e1 : m = m' := h.1.1
    subst e1
    rw [List.lookup_cons] at e ⊢
    cases q : n == m with
    | true => rw [q] at e; cases e
    | false => rw [q] at e; exact FdOk.no h.2 e
  | (m, v) :: vs, (m', .own b ys) :: ds, n, h, e => by
    have e1 : m = m' := h.1.1
    subst e1
    rw [List.lookup_cons] at e ⊢
    cases q : n == m with
    | true => rw [q] at e; cases e
    | false => rw [q] at e; exact FdOk.no h.2 e
  | [], _ :: _, _, h, _ => h.elim
  | _ :: _, [], _, h, _ => h.elim
/-- a field is put: data, or a list of one's own -/
def FvOk (G H : Hp) (v : V) : Fd → Prop
  | .dat d => Rp G v d
  | .own a xs => v = .ref a ∧ ∃ us, H a = some (.lst us) ∧ RpAll G us xs
theorem FdOk.put {G H : Hp} {f : Str} {v : V} {d : Fd} (q : FvOk G H v d) : ∀ {vs : List (Str × V)} {fs : List (Str × Fd)}, FdOk G H vs fs → FdOk G H (putF f v vs) (setFd f d fs)
  | [], [], _ => by
    cases d with
    | dat d => exact ⟨⟨rfl, q⟩, trivial⟩
    | own a xs => exact ⟨⟨rfl, q⟩, trivial⟩
  | (m, w) :: vs, (n, .dat e) :: ds, h => by
    have e1 : m = n := h.1.1
    subst e1
    unfold putF setFd
    by_cases z : m = f
    · rw [if_pos z, if_pos z]
      cases d with
      | dat d => exact ⟨⟨rfl, q⟩, h.2⟩
      | own a xs => exact ⟨⟨rfl, q⟩, h.2⟩
    · rw [if_neg z, if_neg z]
      exact ⟨h.1, FdOk.put q h.2⟩
  | (m, w) :: vs, (n, .own b ys) :: ds, h => by
    have e1 : m = n := h.1.1
    subst e1
    unfold putF setFd
    by_cases z : m = f
    · rw [if_pos z, if_pos z]
      cases d with
      | dat d => exact ⟨⟨rfl, q⟩, h.2⟩
      | own a xs => exact ⟨⟨rfl, q⟩, h.2⟩
    · rw [if_neg z, if_neg z]
      exact ⟨h.1, FdOk.put q h.2⟩
  | [], _ :: _, h => h.elim
  | _ :: _, [], h => h.elim
/-- one's own lists, one of them written -/
theorem FdOk.wr {G H H2 : Hp} {f : Str} {a : Addr} {xs ys : List PyData} {us : List V} (e2 : H2 a = some (.lst us)) (r2 : RpAll G us ys) (kp : ∀ b o, b ≠ a → H b = some o → H2 b = some o) : ∀ {vs : List (Str × V)} {fs : List (Str × Fd)}, FdOk G H vs fs → (fdA fs).Nodup → fs.lookup f = some (.own a xs) → FdOk G H2 vs (setFd f (.own a ys) fs)
  | [], [], _, _, e => by simp at e
  | (m, w) :: vs, (n, .dat e) :: ds, h, nd, el => by
    have e1 : m = n := h.1.1
    subst e1
    rw [List.lookup_cons] at el
    unfold setFd
    by_cases z : m = f
    · subst z
      rw [beq_self_eq_true] at el; cases el
    · rw [show (f == m) = false from beq_eq_false_iff_ne.mpr (Ne.symm z)] at el
      rw [if_neg z]
      exact ⟨h.1, FdOk.wr e2 r2 kp h.2 nd el⟩
  | (m, w) :: vs, (n, .own b zs) :: ds, h, nd, el => by
    have e1 : m = n := h.1.1
    subst e1
    have nd' := List.nodup_cons.mp nd
    rw [List.lookup_cons] at el
    unfold setFd
    by_cases z : m = f
    · subst z
      rw [beq_self_eq_true] at el; cases el
      rw [if_pos rfl]
      exact ⟨⟨rfl, h.1.2.1, us, e2, r2⟩, h.2.up (Same.refl _) fun c mc o q => kp c o (fun y => nd'.1 (y ▸ mc)) q⟩
    · rw [show (f == m) = false from beq_eq_false_iff_ne.mpr (Ne.symm z)] at el
      rw [if_neg z]
      have nb : b ≠ a := fun y => nd'.1 (y ▸ (FdOk.own h.2 el).2.2)
      obtain ⟨h1, h2, us', h3, h4⟩ := h.1
      exact ⟨⟨h1, h2, us', kp b _ nb h3, h4⟩, FdOk.wr e2 r2 kp h.2 nd'.2 el⟩
  | [], _ :: _, h, _, _ => h.elim
  | _ :: _, [], h, _, _ => h.elim
theorem fdA_own {f : Str} {a : Addr} {xs ys : List PyData} : ∀ {fs : List (Str × Fd)}, fs.lookup f = some (.own a xs) → fdA (setFd f (.own a ys) fs) = fdA fs
  | [], e => by simp at e
  | (n, .dat e) :: ds, el => by
    rw [List.lookup_cons] at el
    unfold setFd
    by_cases z : n = f
    · subst z
      rw [beq_self_eq_true] at el; cases el
    · rw [show (f == n) = false from beq_eq_false_iff_ne.mpr (Ne.symm z)] at el
      rw [if_neg z]
      exact fdA_own el
  | (n, .own b zs) :: ds, el => by
    rw [List.lookup_cons] at el
    unfold setFd
    by_cases z : n = f
    · subst z
      rw [beq_self_eq_true] at el; cases el
      rw [if_pos rfl]
      rfl
    · rw [show (f == n) = false from beq_eq_false_iff_ne.mpr (Ne.symm z)] at el
      rw [if_neg z]
      exact congrArg (List.cons b) (fdA_own el)
theorem fdA_dat {f : Str} {d : PyData} : ∀ {fs : List (Str × Fd)}, (∀ a ∈ fdA (setFd f (.dat d) fs), a ∈ fdA fs) ∧ ((fdA fs).Nodup → (fdA (setFd f (.dat d) fs)).Nodup)
  | [] => ⟨(fun _ m => nomatch m), fun _ => List.nodup_nil⟩
  | (n, .dat e) :: ds => by
    unfold setFd
    by_cases z : n = f
    · rw [if_pos z]; exact ⟨fun a m => m, fun h => h⟩
    · rw [if_neg z]; exact fdA_dat
  | (n, .own b zs) :: ds => by
    unfold setFd
    by_cases z : n = f
    · rw [if_pos z]; exact ⟨fun a m => .tail _ m, fun h => (List.nodup_cons.mp h).2⟩
    · rw [if_neg z]
      obtain ⟨i1, i2⟩ := fdA_dat (f := f) (d := d) (fs := ds)
      exact ⟨fun a m => (List.mem_cons.mp m).elim (fun y => y ▸ .head _) fun y => .tail _ (i1 a y), fun h => List.nodup_cons.mpr ⟨fun y => (List.nodup_cons.mp h).1 (i1 _ y), i2 (List.nodup_cons.mp h).2⟩⟩
theorem fdA_new {f : Str} {a : Addr} {ys : List PyData} : ∀ {fs : List (Str × Fd)}, (∀ b ∈ fdA (setFd f (.own a ys) fs), b = a ∨ b ∈ fdA fs) ∧ ((fdA fs).Nodup → a ∉ fdA fs → (fdA (setFd f (.own a ys) fs)).Nodup)
  | [] => ⟨fun b m => .inl (List.mem_singleton.mp m), fun _ _ => by simp [setFd, fdA]⟩
  | (n, .dat e) :: ds => by
    unfold setFd
    by_cases z : n = f
    · rw [if_pos z]; exact ⟨fun b m => List.mem_cons.mp m, fun h k => List.nodup_cons.mpr ⟨k, h⟩⟩
    · rw [if_neg z]; exact fdA_new
  | (n, .own b zs) :: ds => by
    unfold setFd
    by_cases z : n = f
    · rw [if_pos z]; exact ⟨fun c m => (List.mem_cons.mp m).imp id fun y => .tail _ y, fun h k => List.nodup_cons.mpr ⟨fun y => k (.tail _ y), (List.nodup_cons.mp h).2⟩⟩
    · rw [if_neg z]
      obtain ⟨i1, i2⟩ := fdA_new (f := f) (a := a) (ys := ys) (fs := ds)
      exact ⟨fun c m => (List.mem_cons.mp m).elim (fun y => .inr (y ▸ .head _)) fun y => (i1 c y).imp id fun w => .tail _ w,
        fun h k => List.nodup_cons.mpr ⟨fun y => (i1 b y).elim (fun w => k (w ▸ .head _)) (List.nodup_cons.mp h).1, i2 (List.nodup_cons.mp h).2 fun y => k (.tail _ y)⟩⟩
/-- what of the text its class must have -/
structure CB (K : PySem.W.Frag) (C : Addr) (ns : List Str) : Prop where
  cls : Cls K C
  na : ∀ f ∈ ns, NoAttr K C f
section
variable {X : Cx} {o : Expr} {ta : TE} {f : Str} {pos : Pos}
theorem pg_fld (ha : PE X o ta) : PG X (.Attribute o f pos) (fun v σ H Q => ta σ H fun x H1 => ∃ a C dx fs, x = .ref a ∧ H1 a = some (.ins C dx fs) ∧ Cls X.K C ∧ NoAttr X.K C f ∧ fs.length < 1000 ∧ Q σ (upd H1 a (.ins C dx (putF f v fs)))) := by
  refine ⟨fun pins s σ H v u Q I r h => ?_⟩
  refine PySem.W.kas_attr (thn (ha.run pins s σ H _ I h) fun ov s2 ⟨x, H2, I2, rx, a, C, dx, fs, ex, ea, c, n, l, q2⟩ => ?_)
  subst ex
  obtain rfl : ov = Value.ref a := rx
  exact setattr_ok I2 ea c n l r fun s3 I3 => ⟨σ, _, I3, q2⟩
end
section
variable {X : Cx} {ρ : List Sl} {e b : Expr} {pos : Pos} {Φ : PyData → List Sl → Prop} {D : DE} {x f : Str} {px ap sp : Pos} {p C : Addr} {fs : List (Str × Fd)}
/-- self.f, a datum -/
theorem ee_oF (i : Nat) {d : PyData} (hs : ρ[i]? = some (.bo p C fs)) (cl : Cls X.K C) (na : NoAttr X.K C f) (hf : fs.lookup f = some (.dat d)) (q : Φ d ρ) (hN : X.N[i]? = some x := by rfl)
    (hv : Vis X.env.scope x := by first | exact Or.inl rfl | exact Or.inr (Or.inl rfl) | exact Or.inr (Or.inr rfl)) (hb : attributeBase (.Name x px) f X.env (eval (.Name x px) X.env) = eval (.Name x px) X.env := by rfl)
    (hd : (x == ("__debug__" : Str)) = false := by decide) (hcd : (x == ("__classdict__" : Str)) = false := by decide) : EE X ρ (.Attribute (.Name x px) f pos) Φ := fun F σ H Q S k => by
  obtain ⟨y, e1, e2, dx, vs, e3, fo⟩ := S.sl.get hs
  subst e2
  obtain ⟨v, hl, rv⟩ := fo.dat hf
  exact ofPE (pe_fld (pe_var hN hv hd hcd) hb) ⟨_, e1, p, C, dx, vs, v, rfl, e3, cl, na, hl, k v H d ρ q S (Same.refl _) rv⟩
/-- self.f[b], f a list of its own -/
theorem ee_oIx (i : Nat) {a : Addr} {ds : List PyData} (hs : ρ[i]? = some (.bo p C fs)) (cl : Cls X.K C) (na : NoAttr X.K C f) (hf : fs.lookup f = some (.own a ds))
    (h : EE X ρ b fun db ρ2 => ∃ j d fs2 ds2, db = .int j ∧ ρ2[i]? = some (.bo p C fs2) ∧ fs2.lookup f = some (.own a ds2) ∧ atI ds2 j = some d ∧ Φ d ρ2) (hN : X.N[i]? = some x := by rfl)
    (hv : Vis X.env.scope x := by first | exact Or.inl rfl | exact Or.inr (Or.inl rfl) | exact Or.inr (Or.inr rfl)) (hb : attributeBase (.Name x px) f X.env (eval (.Name x px) X.env) = eval (.Name x px) X.env := by rfl)
    (hp : PlainIx b := by exact fun _ _ => rfl) (hd : (x == ("__debug__" : Str)) = false := by decide) (hcd : (x == ("__classdict__" : Str)) = false := by decide) : EE X ρ (.Subscript (.Attribute (.Name x px) f ap) b pos) Φ := fun F σ H Q S k => by
  obtain ⟨y, e1, e2, dx, vs, e3, fo⟩ := S.sl.get hs
  subst e2
  obtain ⟨hl, _, _⟩ := fo.own hf
  refine ofPE (pe_ix ix_list (pe_fld (pe_var hN hv hd hcd) hb) peW hp) ⟨_, e1, p, C, dx, vs, _, rfl, e3, cl, na, hl, h F σ H _ S fun v H2 db ρ2 ⟨j, d, fs2, ds2, ej, es, hf2, ea, q⟩ S2 g r2 => ?_⟩
  subst ej
  cases r2
  obtain ⟨y', e1', e2', dx', vs', e3', fo'⟩ := S2.sl.get es
  obtain ⟨_, ⟨us, e4, r4⟩, _⟩ := fo'.own hf2
  obtain ⟨v, ev, rv⟩ := r4.at ea
  exact ⟨_, _, _, v, rfl, rfl, .of e4, ev, k v H2 d ρ2 q S2 g rv⟩
/-- self.f[b] = e -/
theorem ss_oIx (i : Nat) {a : Addr} {p C : Addr} (cl : Cls X.K C) (na : NoAttr X.K C f) (h : EE X ρ e fun d ρ1 => ∃ fs ds, ρ1[i]? = some (.bo p C fs) ∧ fs.lookup f = some (.own a ds) ∧ EE X ρ1 b fun db ρ2 => ∃ j n fs2 ds2, db = .int j ∧ ρ2[i]? = some (.bo p C fs2) ∧ fs2.lookup f = some (.own a ds2) ∧ ixN ds2.length j = some n ∧ D.nx (ρ2.set i (.bo p C (setFd f (.own a (ds2.set n d)) fs2))))
    (hN : X.N[i]? = some x := by rfl) (hv : Vis X.env.scope x := by first | exact Or.inl rfl | exact Or.inr (Or.inl rfl) | exact Or.inr (Or.inr rfl)) (hb : attributeBase (.Name x px) f X.env (eval (.Name x px) X.env) = eval (.Name x px) X.env := by rfl)
    (hd : (x == ("__debug__" : Str)) = false := by decide) (hcd : (x == ("__classdict__" : Str)) = false := by decide)
    (ha : ∀ v, assign (.Subscript (.Attribute (.Name x px) f ap) b sp) X.env v = (do
      let ov ← holding [v] (eval (.Attribute (.Name x px) f ap) X.env)
      let iv ← holding [v, ov] (eval b X.env)
      standAt sp
      holding [v, ov, iv] (setItem ov iv v)
      release [v, ov, iv] []) := by intro _; rfl)
    (hs : swapsWithSole [.Subscript (.Attribute (.Name x px) f ap) b sp] e pos.line X.env = pure false := by rfl) (hw : swappedStores [.Subscript (.Attribute (.Name x px) f ap) b sp] e X.env = pure none := by rfl)
    (h1 : (assignEach [.Subscript (.Attribute (.Name x px) f ap) b sp] X.env).map (·.2) = [assign (.Subscript (.Attribute (.Name x px) f ap) b sp) X.env] := by rfl) : SS X ρ (.Assign [.Subscript (.Attribute (.Name x px) f ap) b sp] e pos) D := fun F σ H E S k =>
  ofPS (ps_asg peW (pg_sub (pe_fld (pe_var hN hv hd hcd) hb) peW set_list ha) hs hw h1) (h F σ H _ S fun v H1 d ρ1 ⟨fs, ds, es, hf, h1⟩ S1 g1 r1 => by
    obtain ⟨y, e1, e2, dx, vs, e3, fo⟩ := S1.sl.get es
    subst e2
    obtain ⟨hl, _, _⟩ := fo.own hf
    refine ⟨_, e1, p, C, dx, vs, _, rfl, e3, cl, na, hl, h1 F σ H1 _ S1 fun u H2 db ρ2 ⟨j, n, fs2, ds2, ej, es2, hf2, hn, q⟩ S2 g2 r2 => ?_⟩
    subst ej
    cases r2
    obtain ⟨y', e1', e2', dx', vs', e3', fo'⟩ := S2.sl.get es2
    obtain ⟨_, ⟨us, e4, r4⟩, ma⟩ := fo'.own hf2
    refine ⟨a, us, j, n, rfl, rfl, e4, by rw [r4.length]; exact hn, ?_⟩
    have nd : (p :: fdA fs2).Nodup := os_nd S2.nd es2
    have nd' := List.nodup_cons.mp nd
    have npa : p ≠ a := fun z => nd'.1 (z ▸ ma)
    have ead : (Sl.bo p C (setFd f (.own a (ds2.set n d)) fs2)).ad = p :: fdA fs2 := congrArg (List.cons p) (fdA_own hf2)
    obtain ⟨S3, g3⟩ := S2.chgS (s := .bo p C (setFd f (.own a (ds2.set n d)) fs2)) (H2 := upd H2 a (.lst (us.set n v))) es2 (fun b o nb eb => by rw [upd_ne fun z => nb (by rw [z]; exact .tail _ ma)]; exact eb)
      (fun b mb => by
        by_cases z : b = a
        · rw [z, upd_same]; exact fun z => nomatch z
        · rw [upd_ne z]; exact S2.sl.ad b (os_at es2 mb)) (by rw [ead]; exact nd) (fun b mb => .inl (by rw [ead] at mb; exact mb))
      fun ge x' ⟨ex, dx2, vs2, e5, fo5⟩ => ⟨ex, dx2, vs2, by rw [upd_ne npa]; exact e5, FdOk.wr upd_same ((RpAll.up ge _ _ r4).st (Rp.up (g2.trans ge) _ _ r1)) (fun b o nb eb => by rw [upd_ne nb]; exact eb) (fo5.up ge fun _ _ _ e => e) nd'.2 hf2⟩
    exact k.nx _ _ _ q S3 ((g1.trans g2).trans g3))
/-- self.f = e, a datum -/
theorem ss_oF (i : Nat) {p C : Addr} (cl : Cls X.K C) (na : NoAttr X.K C f) (h : EE X ρ e fun d ρ1 => ∃ fs, ρ1[i]? = some (.bo p C fs) ∧ fs.length < 1000 ∧ D.nx (ρ1.set i (.bo p C (setFd f (.dat d) fs))))
    (hN : X.N[i]? = some x := by rfl) (hv : Vis X.env.scope x := by first | exact Or.inl rfl | exact Or.inr (Or.inl rfl) | exact Or.inr (Or.inr rfl)) (hd : (x == ("__debug__" : Str)) = false := by decide) (hcd : (x == ("__classdict__" : Str)) = false := by decide)
    (hs : swapsWith e (some (.Attribute (.Name x px) f ap)) pos.line X.env = pure false := by rfl) : SS X ρ (.Assign [.Attribute (.Name x px) f ap] e pos) D := fun F σ H E S k =>
  ofPS (ps_fld (pe_var hN hv hd hcd) peW hs) (h F σ H _ S fun v H1 d ρ1 ⟨fs, es, hl, q⟩ S1 g1 r1 => by
    obtain ⟨y, e1, e2, dx, vs, e3, fo⟩ := S1.sl.get es
    subst e2
    refine ⟨_, e1, p, C, dx, vs, rfl, e3, cl, na, by rw [fo.len]; exact hl, ?_⟩
    have nd := os_nd S1.nd es
    have nd' := List.nodup_cons.mp nd
    obtain ⟨S3, g3⟩ := S1.chgS (s := .bo p C (setFd f (.dat d) fs)) (H2 := upd H1 p (.ins C dx (putF f v vs))) es (fun b o nb eb => by rw [upd_ne fun z => nb (by rw [z]; exact .head _)]; exact eb)
      (fun b mb => by
        by_cases z : b = p
        · rw [z, upd_same]; exact fun z => nomatch z
        · rw [upd_ne z]; exact S1.sl.ad b (os_at es mb)) (List.nodup_cons.mpr ⟨fun z => nd'.1 (fdA_dat.1 _ z), fdA_dat.2 nd'.2⟩) (fun b mb => .inl ((List.mem_cons.mp mb).elim (fun z => z ▸ .head _) fun z => .tail _ (fdA_dat.1 _ z)))
      fun ge x' ⟨ex, dx2, vs2, e5, fo5⟩ => by
        rw [e3] at e5; cases e5
        exact ⟨ex, dx, _, upd_same, FdOk.put (d := .dat d) (Rp.up ge _ _ r1) (fo5.up ge fun b mb o eb => by rw [upd_ne fun z => nd'.1 (by rw [← z]; exact mb)]; exact eb)⟩
    exact k.nx _ _ _ q S3 (g1.trans g3))
end
end DL

namespace DL
open PySem PySem.Spec PyProof.Rows L2
theorem os_set_sub2 : ∀ {ρ : List Sl} {i : Nat} {s t : Sl} {a : Addr}, (os ρ).Nodup → ρ[i]? = some t → a ∈ os (ρ.set i s) → a ∈ s.ad ∨ (a ∈ os ρ ∧ a ∉ t.ad)
  | [], _, _, _, _, _, e, _ => by simp at e
  | u :: r, 0, s, t, a, nd, e, m => by
    rw [List.getElem?_cons_zero] at e; cases e
    obtain ⟨_, _, h3⟩ := List.nodup_append.mp nd
    exact (List.mem_append.mp m).elim .inl fun z => .inr ⟨List.mem_append_right _ z, fun y => h3 a y a z rfl⟩
  | u :: r, i + 1, s, t, a, nd, e, m => by
    rw [List.getElem?_cons_succ] at e
    obtain ⟨_, h2, h3⟩ := List.nodup_append.mp nd
    rcases List.mem_append.mp m with z | z
    · exact .inr ⟨List.mem_append_left _ z, fun y => h3 a z a (os_at e y) rfl⟩
    · exact (os_set_sub2 h2 e z).imp id fun ⟨y, w⟩ => ⟨List.mem_append_right _ y, w⟩
section
variable {F : Fm} {H : Hp} {σ : L2.St} {ρ : List Sl} {i : Nat} {p C dx : Addr} {fs : List (Str × Fd)} {vs : List (Str × V)} {f : Str}
theorem Stt.putD {v : V} {d : PyData} (S : Stt F H σ ρ) (es : ρ[i]? = some (.bo p C fs)) (e3 : H p = some (.ins C dx vs)) (r : Rp (gh F ρ H) v d) :
    Stt F (upd H p (.ins C dx (putF f v vs))) σ (ρ.set i (.bo p C (setFd f (.dat d) fs))) ∧ Same (gh F ρ H) (gh F (ρ.set i (.bo p C (setFd f (.dat d) fs))) (upd H p (.ins C dx (putF f v vs)))) := by
  have nd' := List.nodup_cons.mp (os_nd S.nd es)
  refine S.chgS (s := .bo p C (setFd f (.dat d) fs)) es (fun b o nb eb => by rw [upd_ne fun z => nb (by rw [z]; exact .head _)]; exact eb)
    (fun b mb => by
      by_cases z : b = p
      · rw [z, upd_same]; exact fun z => nomatch z
      · rw [upd_ne z]; exact S.sl.ad b (os_at es mb)) (List.nodup_cons.mpr ⟨fun z => nd'.1 (fdA_dat.1 _ z), fdA_dat.2 nd'.2⟩) (fun b mb => .inl ((List.mem_cons.mp mb).elim (fun z => z ▸ .head _) fun z => .tail _ (fdA_dat.1 _ z)))
    fun ge x' ⟨ex, dx2, vs2, e5, fo5⟩ => by
      rw [e3] at e5; cases e5
      exact ⟨ex, dx, _, upd_same, FdOk.put (d := .dat d) (Rp.up ge _ _ r) (fo5.up ge fun b mb o eb => by rw [upd_ne fun z => nd'.1 (by rw [← z]; exact mb)]; exact eb)⟩
/-- a new list of its own is put -/
theorem Stt.putO {q : Addr} {us : List V} {ds : List PyData} (S : Stt F H σ ρ) (es : ρ[i]? = some (.bo p C fs)) (e3 : H p = some (.ins C dx vs)) (hq : H q = none) (r : RpAll (gh F ρ H) us ds) :
    Stt F (upd (upd H q (.lst us)) p (.ins C dx (putF f (.ref q) vs))) σ (ρ.set i (.bo p C (setFd f (.own q ds) fs))) ∧ Same (gh F ρ H) (gh F (ρ.set i (.bo p C (setFd f (.own q ds) fs))) (upd (upd H q (.lst us)) p (.ins C dx (putF f (.ref q) vs)))) := by
  have nd' := List.nodup_cons.mp (os_nd S.nd es)
  have npq : p ≠ q := fun z => by rw [z, hq] at e3; cases e3
  have nq : ∀ b ∈ p :: fdA fs, b ≠ q := fun b mb z => S.sl.ad b (os_at es mb) (z ▸ hq)
  refine S.chgS (s := .bo p C (setFd f (.own q ds) fs)) es (fun b o nb eb => by rw [upd_ne fun z => nb (by rw [z]; exact .head _), upd_ne (ne_of_none eb hq)]; exact eb)
    (fun b mb => by
      by_cases z : b = p
      · rw [z, upd_same]; exact fun z => nomatch z
      · rw [upd_ne z, upd_ne (nq b mb)]; exact S.sl.ad b (os_at es mb))
    (List.nodup_cons.mpr ⟨fun z => (fdA_new.1 _ z).elim npq nd'.1, fdA_new.2 nd'.2 fun z => nq q (.tail _ z) rfl⟩)
    (fun b mb => (List.mem_cons.mp mb).elim (fun z => .inl (z ▸ .head _)) fun z => (fdA_new.1 _ z).elim (fun y => .inr (y ▸ hq)) fun y => .inl (.tail _ y))
    fun ge x' ⟨ex, dx2, vs2, e5, fo5⟩ => by
      rw [e3] at e5; cases e5
      exact ⟨ex, dx, _, upd_same, FdOk.put (d := .own q ds) ⟨rfl, us, by rw [upd_ne (Ne.symm npq), upd_same], RpAll.up ge _ _ r⟩ (fo5.up ge fun b mb o eb => by rw [upd_ne fun z => nd'.1 (by rw [← z]; exact mb), upd_ne (nq b (.tail _ mb))]; exact eb)⟩
end
abbrev SpecM := List (Str × Fd) → List PyData → (PyData → List (Str × Fd) → Prop) → Prop
def spM (C : Addr) (S : SpecM) : Sp := fun vs H Q _ => ∃ (hd : List Addr) (p dx : Addr) (us : List V) (fs : List (Str × Fd)) (fv : List (Str × V)) (ds : List PyData) (k : PyData → List (Str × Fd) → Prop), vs = .ref p :: us ∧ (∀ a ∈ p :: fdA fs, a ∉ hd) ∧ (p :: fdA fs).Nodup ∧ (∀ a ∈ hd, H a ≠ none) ∧
  H p = some (.ins C dx fv) ∧ FdOk (mask (hd ++ p :: fdA fs) H) H fv fs ∧ RpAll (mask (hd ++ p :: fdA fs) H) us ds ∧ S fs ds k ∧
  ∀ d fs' v H', k d fs' → (∀ a o, a ∉ p :: fdA fs → H a = some o → H' a = some o) → (∀ a, H a ≠ none → H' a ≠ none) → (p :: fdA fs').Nodup → (∀ a ∈ p :: fdA fs', a ∈ p :: fdA fs ∨ H a = none) →
    (∃ dx fv, H' p = some (.ins C dx fv) ∧ FdOk (mask (hd ++ p :: fdA fs') H') H' fv fs') → Rp (mask (hd ++ p :: fdA fs') H') v d → Q v H'
def CalM (X : Cx) (C : Addr) (m : Str) (ps : List Str) (sp : Sp) : Prop := ∃ (k : Nat) (f : Addr) (fd : FuncData), Room k X.A ∧ FnOk X.prog X.w X.K X.mg X.base CX0 k f fd ps sp ∧ Meth X.K C m f ∧ Binds X.K fd ps []
def spF (C : Addr) (S : List (Str × PyData) → (PyData → Prop) → Prop) : Sp := fun vs H Q _ => ∃ (hd : List Addr) (a : Addr) (fs : List (Str × PyData)) (k : PyData → Prop), vs = [.ref a] ∧ (∀ a ∈ hd, H a ≠ none) ∧ ObjAt (mask hd H) a C fs ∧ S fs k ∧ ∀ d v H', k d → Same H H' → Rp (mask hd H') v d → Q v H'
def frz : List (Str × Fd) → List (Str × PyData)
  | [] => []
  | (n, .dat d) :: r => (n, d) :: frz r
  | (n, .own _ ds) :: r => (n, .list ds) :: frz r
theorem FdOk.frz {G G' H : Hp} (g : Same G G') : ∀ {vs : List (Str × V)} {fs : List (Str × Fd)}, FdOk G H vs fs → (∀ a ∈ fdA fs, ∀ o, H a = some o → G' a = some o) → FsOk G' vs (frz fs)
  | [], [], _, _ => trivial
  | v :: vs, (n, .dat d) :: ds, h, k => ⟨⟨h.1.1, Rp.up g _ _ h.1.2⟩, FdOk.frz g h.2 k⟩
  | v :: vs, (n, .own a xs) :: ds, h, k => ⟨⟨h.1.1, by
    obtain ⟨_, e, us, e2, r⟩ := h.1
    rw [e]
    exact .lst (k a (.head _) _ e2) (RpAll.up g _ _ r)⟩, FdOk.frz g h.2 fun b m => k b (.tail _ m)⟩
  | [], _ :: _, h, _ => h.elim
  | _ :: _, [], h, _ => h.elim
/-- an expression that gives a finished object -/
def EN (X : Cx) (ρ : List Sl) (e : Expr) (C : Addr) (Ψ : List (Str × PyData) → List Sl → Prop) : Prop :=
  ∀ (F : Fm) (σ : L2.St) (H : Hp) (Q : VK), Stt F H σ ρ → (∀ a H' fs ρ', Ψ fs ρ' → Stt F H' σ ρ' → Same (gh F ρ H) (gh F ρ' H') → ObjAt (gh F ρ' H') a C fs → Q (.ref a) H') → tW X e σ H Q
section
variable {X : Cx} {ρ : List Sl} {e b c : Expr} {pos : Pos} {Φ : PyData → List Sl → Prop} {D : DE} {x f g m : Str} {px ap ap2 bp lp tp sp cp p2 : Pos} {p C : Addr} {fs : List (Str × Fd)} {ps : List Str} {Ψ : List (Str × PyData) → List Sl → Prop}
/-- self.f = [c] * e -/
theorem ss_oRep (i : Nat) {p C : Addr} (cl : Cls X.K C) (na : NoAttr X.K C f) (h : EE X ρ c fun dc ρ0 => EE X ρ0 e fun d ρ1 => ∃ n fs, d = .int n ∧ (n ≤ 1000000 ∧ -1000000 ≤ n) ∧ ρ1[i]? = some (.bo p C fs) ∧ fs.length < 1000 ∧ ∀ a, D.nx (ρ1.set i (.bo p C (setFd f (.own a (List.replicate n.toNat dc)) fs))))
    (hN : X.N[i]? = some x := by rfl) (hv : Vis X.env.scope x := by first | exact Or.inl rfl | exact Or.inr (Or.inl rfl) | exact Or.inr (Or.inr rfl)) (hd : (x == ("__debug__" : Str)) = false := by decide) (hcd : (x == ("__classdict__" : Str)) = false := by decide)
    (he : starEach [c] X.env = (false, eval c X.env) :: starEach [] X.env := by rfl)
    (hs : swapsWith (.BinOp (.List [c] lp) .Mult e bp) (some (.Attribute (.Name x px) f ap)) pos.line X.env = pure false := by rfl) : SS X ρ (.Assign [.Attribute (.Name x px) f ap] (.BinOp (.List [c] lp) .Mult e bp) pos) D := fun F σ H E S k =>
  ofPS (ps_fld (pe_var hN hv hd hcd) (pe_op op_rep (pe_lst (pa_cons peW pa_nil he)) peW) hs) (h F σ H _ S fun v H1 dc ρ0 h1 S1 g1 r1 => ⟨by show 1 ≤ sizeLine; decide, fun l hl => by
    have s2 := same_new (o := .lst [v]) hl
    have S2 := S1.ext s2
    refine h1 F σ _ _ S2 fun u H3 d ρ1 ⟨n, fs, ed, hn, es, hlen, q⟩ S3 g3 r3 => ?_
    subst ed
    cases r3
    have el : gh F ρ0 (upd H1 l (.lst [v])) l = some (.lst [v]) := (mask_out fun m => S1.ad l m hl).trans upd_same
    have el3 : H3 l = some (.lst [v]) := mask_le _ _ (g3 _ _ el)
    have rv := Rp.up ((S1.gext s2).trans g3) _ _ r1
    refine ⟨l, n, [v], rfl, rfl, el3, by omega, by omega, ?_, fun q' hq => ?_⟩
    · have : [v].length * n.toNat ≤ 1000000 := by rw [List.length_singleton, Nat.one_mul]; omega
      exact big_le this
    · obtain ⟨y, e1, e2, dx, vs, e3, fo⟩ := S3.sl.get es
      subst e2
      have npq : p ≠ q' := fun z => by rw [z, hq] at e3; cases e3
      refine ⟨_, e1, p, C, dx, vs, rfl, by rw [upd_ne npq]; exact e3, cl, na, by rw [fo.len]; exact hlen, ?_⟩
      have er : (List.replicate n.toNat [v]).flatten = List.replicate n.toNat v := List.flatten_replicate_singleton
      rw [er]
      obtain ⟨S4, g4⟩ := S3.putO (f := f) es e3 hq (RpAll.rep rv n.toNat)
      exact k.nx _ _ _ (q q') S4 (((g1.trans (S1.gext s2)).trans g3).trans g4)⟩)
/-- self.f, self.g = e -/
theorem ss_oF2 (i : Nat) {kk : Nat} {p C : Addr} (ck : CK X) (cl : Cls X.K C) (na : NoAttr X.K C f) (na2 : NoAttr X.K C g) (h : EE X ρ e fun d ρ1 => ∃ d1 d2 fs, d = .tuple [d1, d2] ∧ ρ1[i]? = some (.bo p C fs) ∧ fs.length < 900 ∧ D.nx ((ρ1.set i (.bo p C (setFd f (.dat d1) fs))).set i (.bo p C (setFd g (.dat d2) (setFd f (.dat d1) fs)))))
    (hN : X.N[i]? = some x := by rfl) (hv : Vis X.env.scope x := by first | exact Or.inl rfl | exact Or.inr (Or.inl rfl) | exact Or.inr (Or.inr rfl)) (hd : (x == ("__debug__" : Str)) = false := by decide) (hcd : (x == ("__classdict__" : Str)) = false := by decide)
    (hn : (assignEach [.Attribute (.Name x px) f ap, .Attribute (.Name x p2) g ap2] X.env).length = 2 := by rfl) (hst : (assignEach [.Attribute (.Name x px) f ap, .Attribute (.Name x p2) g ap2] X.env).findIdx? (·.1) = none := by rfl)
    (ha1 : (assignEach [.Attribute (.Name x px) f ap, .Attribute (.Name x p2) g ap2] X.env).map (·.2) = assign (.Attribute (.Name x px) f ap) X.env :: (assignEach [.Attribute (.Name x p2) g ap2] X.env).map (·.2) := by rfl)
    (ha2 : (assignEach [.Attribute (.Name x p2) g ap2] X.env).map (·.2) = assign (.Attribute (.Name x p2) g ap2) X.env :: (assignEach [] X.env).map (·.2) := by rfl)
    (hs : swapsWithSole [.Tuple [.Attribute (.Name x px) f ap, .Attribute (.Name x p2) g ap2] kk tp] e pos.line X.env = pure false := by rfl) (hw : swappedStores [.Tuple [.Attribute (.Name x px) f ap, .Attribute (.Name x p2) g ap2] kk tp] e X.env = pure none := by rfl)
    (h1 : (assignEach [.Tuple [.Attribute (.Name x px) f ap, .Attribute (.Name x p2) g ap2] kk tp] X.env).map (·.2) = [assign (.Tuple [.Attribute (.Name x px) f ap, .Attribute (.Name x p2) g ap2] kk tp) X.env] := by rfl) :
    SS X ρ (.Assign [.Tuple [.Attribute (.Name x px) f ap, .Attribute (.Name x p2) g ap2] kk tp] e pos) D := fun F σ H E S k =>
  ofPS (ps_asg peW (pg_tup ck.calm (pgs_cons (pg_fld (pe_var hN hv hd hcd)) (pgs_cons (pg_fld (pe_var hN hv hd hcd)) pgs_nil ha2) ha1) hn hst) hs hw h1) (h F σ H _ S fun v H1 d ρ1 ⟨d1, d2, fs, ed, es, hl, q⟩ S1 g1 r1 => by
    subst ed
    cases r1 with
    | tup et ra =>
    rename_i xs
    obtain ⟨v1, v2, ex, r1, r2⟩ : ∃ v1 v2, xs = [v1, v2] ∧ Rp (gh F ρ1 H1) v1 d1 ∧ Rp (gh F ρ1 H1) v2 d2 := by
      cases ra with
      | cons r1 r2 =>
        cases r2 with
        | cons r2 r3 =>
          cases r3
          exact ⟨_, _, rfl, r1, r2⟩
    subst ex
    have et2 : SqT X.K _ _ _ := .inl (same_rd mask_le et)
    · 
      obtain ⟨y, e1, e2, dx, vs, e3, fo⟩ := S1.sl.get es
      subst e2
      obtain ⟨S2, g2⟩ := S1.putD (f := f) es e3 r1
      have es2 : (ρ1.set i (Sl.bo p C (setFd f (.dat d1) fs)))[i]? = some (.bo p C (setFd f (.dat d1) fs)) := by
        rw [List.getElem?_set_self (by have := (List.getElem?_eq_some_iff.mp es).1; exact this)]
      obtain ⟨y', e1', e2', dx', vs', e3', fo'⟩ := S2.sl.get es2
      rw [upd_same] at e3'; cases e3'
      obtain ⟨S3, g3⟩ := S2.putD (f := g) es2 upd_same (Rp.up g2 _ _ r2)
      have lp : (putF f v1 vs).length < 1000 := by have := length_putF f v1 vs; have := fo.len; omega
      exact ⟨_, _, rfl, et2, rfl, _, _, rfl, ⟨_, e1, p, C, dx, vs, rfl, e3, cl, na, by rw [fo.len]; omega, _, _, rfl, ⟨_, e1, p, C, dx, _, rfl, upd_same, cl, na2, lp, rfl, k.nx _ _ _ q S3 ((g1.trans g2).trans g3)⟩⟩⟩)
/-- self.m(e, ..) -/
theorem ee_meth (i : Nat) {S : SpecM} {es : List Expr} {pl : Sem Bool} (cl : Cls X.K C) (cm : CalM X C m ps (spM C S)) (hs : ρ[i]? = some (.bo p C fs)) (nm : fs.lookup m = none) (h : EA X ρ (e :: es) fun ds ρ1 => ∃ fs1, ρ1[i]? = some (.bo p C fs1) ∧ S fs1 ds fun d fs2 => Φ d (ρ1.set i (.bo p C fs2)))
    (hN : X.N[i]? = some x := by rfl) (hv : Vis X.env.scope x := by first | exact Or.inl rfl | exact Or.inr (Or.inl rfl) | exact Or.inr (Or.inr rfl)) (hd : (x == ("__debug__" : Str)) = false := by decide) (hcd : (x == ("__classdict__" : Str)) = false := by decide)
    (hst : starEach (e :: es) X.env = (false, eval e X.env) :: starEach es X.env := by rfl) (hpl : (backTo pos (starEach es X.env)).any (·.1) = false := by rfl)
    (ht : eval (.Call (.Attribute (.Name x px) m ap) (e :: es) [] pos) X.env = (do
      let ov ← eval (.Name x px) X.env
      standAt ap.atName
      let (f, first) ← holding [ov] (getMethod ov m pl)
      callWith pos f first (backTo pos (starEach (e :: es) X.env)) (backToKw pos (keywordEach [] X.env))) := by rfl) : EE X ρ (.Call (.Attribute (.Name x px) m ap) (e :: es) [] pos) Φ := fun F σ H Q St k => by
  obtain ⟨j, f, fd, hr, G, me, bd⟩ := cm
  obtain ⟨y, e1, e2, dx, fv, e3, fo⟩ := St.sl.get hs
  subst e2
  refine ofPE (pe_meth (pe_var hN hv hd hcd) cl me G hr bd .nil pass0 paW hst hpl ht) ⟨_, e1, p, dx, fv, rfl, e3, fo.no nm, h F σ H _ St fun vs H' ds ρ' ⟨fs1, es, q⟩ St' g' r => ?_⟩
  rw [List.append_nil]
  obtain ⟨y', e1', e2', dx', fv', e3', fo'⟩ := St'.sl.get es
  have nd := os_nd St'.nd es
  have mo : ∀ a ∈ p :: fdA fs1, a ∈ os ρ' := fun a ma => os_at es ma
  have cov : ∀ a ∈ F.hd ++ os ρ', a ∈ (F.hd ++ os ρ').filter (fun a => decide (a ∉ p :: fdA fs1)) ++ p :: fdA fs1 := fun a ma => by
    by_cases z : a ∈ p :: fdA fs1
    · exact List.mem_append_right _ z
    · exact List.mem_append_left _ (List.mem_filter.mpr ⟨ma, decide_eq_true z⟩)
  have cov2 : ∀ a ∈ (F.hd ++ os ρ').filter (fun a => decide (a ∉ p :: fdA fs1)) ++ p :: fdA fs1, a ∈ F.hd ++ os ρ' := fun a ma =>
    (List.mem_append.mp ma).elim (fun z => (List.mem_filter.mp z).1) fun z => List.mem_append_right _ (mo a z)
  refine ⟨(F.hd ++ os ρ').filter fun a => decide (a ∉ p :: fdA fs1), p, dx', vs, fs1, fv', ds, _, rfl, fun a ma hf => of_decide_eq_true (List.mem_filter.mp hf).2 ma, nd, fun a ma => St'.ad a (List.mem_filter.mp ma).1, e3', fo'.up (mask_sub cov2) fun _ _ _ e => e, RpAll.up (mask_sub cov2) _ _ r, q, fun d fs2 v H2 hk kp lv nd2 sub ⟨dx2, fv2, e4, fo4⟩ r2 => ?_⟩
  have cov3 : ∀ a ∈ F.hd ++ os (ρ'.set i (.bo p C fs2)), a ∈ (F.hd ++ os ρ').filter (fun a => decide (a ∉ p :: fdA fs1)) ++ p :: fdA fs2 := fun a ma => by
    rcases List.mem_append.mp ma with z | z
    · refine List.mem_append_left _ (List.mem_filter.mpr ⟨List.mem_append_left _ z, decide_eq_true fun y => St'.ap a (mo a y) z⟩)
    · rcases os_set_sub2 St'.nd es z with y | ⟨y, w⟩
      · exact List.mem_append_right _ y
      · exact List.mem_append_left _ (List.mem_filter.mpr ⟨List.mem_append_right _ y, decide_eq_true w⟩)
  obtain ⟨S2, ge⟩ := St'.chgS (s := .bo p C fs2) es kp (fun a ma => lv a (St'.sl.ad a (mo a ma))) nd2 sub fun _ x' ⟨ex, _⟩ => ⟨ex, dx2, fv2, e4, fo4.up (mask_sub cov3) fun _ _ _ e => e⟩
  exact k v H2 d _ hk S2 (g'.trans ge) (Rp.up (mask_sub cov3) _ _ r2)
/-! finished objects -/
theorem en_var (i : Nat) {fs : List (Str × PyData)} (hs : ρ[i]? = some (.obj C fs)) (q : Ψ fs ρ) (hN : X.N[i]? = some x := by rfl) (hv : Vis X.env.scope x := by first | exact Or.inl rfl | exact Or.inr (Or.inl rfl) | exact Or.inr (Or.inr rfl))
    (hd : (x == ("__debug__" : Str)) = false := by decide) (hcd : (x == ("__classdict__" : Str)) = false := by decide) : EN X ρ (.Name x px) C Ψ := fun F σ H Q S k => by
  obtain ⟨y, e1, a, e2, fo⟩ := S.sl.get hs
  subst e2
  exact ofPE (pe_var hN hv hd hcd) ⟨_, e1, k a H fs ρ q S (Same.refl _) fo⟩
/-- C(e, ..): made, its __init__ run -/
def CalK (X : Cx) (x : Str) (C : Addr) (ps : List Str) (sp : Sp) : Prop := ∃ (k : Nat) (f : Addr) (fd : FuncData), Room (k + 1) X.A ∧ Mk X.K C f ∧ FnOk X.prog X.w X.K X.mg X.base CX0 k f fd ps sp ∧ X.mg x = some (.ref C) ∧ Binds X.K fd ps []
theorem en_make {S : SpecM} {es : List Expr} (cm : CalK X x C ps (spM C S)) (h : EA X ρ (e :: es) fun ds ρ1 => S [] ds fun d fs => d = .none ∧ Ψ (frz fs) ρ1) (hg : Gl X x := by rfl)
    (hdb : (x == ("__debug__" : Str)) = false := by decide) (he : starEach (e :: es) X.env = (false, eval e X.env) :: starEach es X.env := by rfl) (hpl : (backTo pos (starEach es X.env)).any (·.1) = false := by rfl) : EN X ρ (.Call (.Name x px) (e :: es) [] pos) C Ψ := fun F σ H Q St k => by
  obtain ⟨j, f, fd, hr, M, G, hm, bd⟩ := cm
  refine ofPE (pe_make M G hr hg hm bd .nil pass0 paW hdb he hpl) (h F σ H _ St fun vs H' ds ρ' q St' g' r => fun p dx hp hdx hne => ?_)
  rw [List.append_nil]
  have s1 : Same H' (upd (upd H' dx (.own p)) p (.ins C dx [])) := (same_new hdx).trans (same_new (by rw [upd_ne (Ne.symm hne)]; exact hp))
  have S1 := St'.ext s1
  have np : p ∉ F.hd ++ os ρ' := fun m => St'.ad p m hp
  refine ⟨F.hd ++ os ρ', p, dx, vs, [], [], ds, _, rfl, (fun a ma => by rw [List.mem_singleton.mp ma]; exact np), by simp [fdA], S1.ad, upd_same, trivial, RpAll.up ?_ _ _ r, q, fun d fs2 v H2 ⟨ed, hk⟩ kp lv nd2 sub ⟨dx2, fv2, e4, fo4⟩ r2 => ?_⟩
  · exact mask_mono (fun a ma ha => (List.mem_append.mp ma).elim id fun z => absurd hp (by rw [← List.mem_singleton.mp z]; exact ha)) fun a o _ e => s1 a o e
  · subst ed
    cases r2
    refine ⟨rfl, ?_⟩
    have s3 : Same H' H2 := fun a o e => kp a o (fun z => by rw [List.mem_singleton.mp z, hp] at e; cases e) (s1 a o e)
    have S3 := St'.ext s3
    refine k p H2 _ ρ' hk S3 (g'.trans (St'.gext s3)) ⟨dx2, fv2, (mask_out np).trans e4, fo4.frz (mask_sub fun a ma => List.mem_append_left _ ma) fun a ma o e => (mask_out fun z => ?_).trans e⟩
    rcases sub a (.tail _ ma) with y | y
    · rw [List.mem_singleton.mp y] at z; exact np z
    · exact S1.ad a z y
theorem ss_setO (j : Nat) (ck : CK X) (h : EN X ρ e C fun fs ρ1 => D.nx (ρ1.set j (.obj C fs))) (hi : X.N[j]? = some x := by rfl) (hx : Loc X.env.scope x := by first | exact Or.inl rfl | exact Or.inr rfl)
    (hs : swapsWith e (some (.Name x px)) pos.line X.env = pure false := by rfl) (hf : X.fn x = true ∨ X.env.scope.names.lookup x = some .local := by first | exact .inl rfl | exact .inr rfl) : SS X ρ (.Assign [.Name x px] e pos) D := fun F σ H E S k =>
  ofPS (ps_set ck.nd hi hx peW hs hf) (h F σ H _ S fun a H' fs ρ' q S' g o => k.nx _ _ _ q (S'.set j rfl ⟨a, rfl, o⟩) (g.trans (S'.gset j rfl)))
theorem ee_meth0 {S : List (Str × PyData) → (PyData → Prop) → Prop} {pl : Sem Bool} (cl : Cls X.K C) (cm : CalM X C m ps (spF C S)) (h : EN X ρ e C fun fs ρ1 => fs.lookup m = none ∧ S fs fun d => Φ d ρ1)
    (ht : eval (.Call (.Attribute e m ap) [] [] pos) X.env = (do
      let ov ← eval e X.env
      standAt ap.atName
      let (f, first) ← holding [ov] (getMethod ov m pl)
      callWith pos f first (backTo pos (starEach [] X.env)) (backToKw pos (keywordEach [] X.env))) := by rfl) : EE X ρ (.Call (.Attribute e m ap) [] [] pos) Φ := fun F σ H Q St k => by
  obtain ⟨j, f, fd, hr, G, me, bd⟩ := cm
  refine ofPE (pe_meth0 peW cl me G hr bd .nil pass0 ht) (h F σ H _ St fun a H' fs ρ' ⟨nm, q⟩ St' g' o => ?_)
  obtain ⟨dx, fv, e3, fo⟩ := id o
  have no : ∀ {vs : List (Str × V)} {fs : List (Str × PyData)}, FsOk (gh F ρ' H') vs fs → fs.lookup m = none → vs.lookup m = none := by
    intro vs
    induction vs with
    | nil => intro fs _ _; rfl
    | cons v vs ih =>
      intro fs h e
      cases fs with
      | nil => exact h.elim
      | cons d ds =>
        obtain ⟨n, v⟩ := v
        obtain ⟨n', d⟩ := d
        have e1 : n = n' := h.1.1
        subst e1
        rw [List.lookup_cons] at e ⊢
        cases q : m == n with
        | true => rw [q] at e; cases e
        | false => rw [q] at e; exact ih h.2 e
  exact ⟨a, dx, fv, rfl, mask_le _ _ e3, no fo nm, F.hd ++ os ρ', a, fs, _, rfl, St'.ad, o, q, fun d v H2 hk s2 r2 => k v H2 d ρ' hk (St'.ext s2) (g'.trans (St'.gext s2)) r2⟩
end
section
variable {P : Program} {w : World} {K : PySem.W.Frag} {mg : Str → Option Value} {base : Heap}
theorem fn_M {x qual : Str} {st : Stmt} {f C : Addr} {fd : FuncData} {N ps : List Str} {k : Nat} {S : SpecM} (F : Fun K x qual st f fd) (sc : FnScope N ps (defScope st)) (hbt : ∀ x ∈ bNames, mg x = none) (len : ∀ fs ds q, S fs ds q → ds.length + 1 = ps.length)
    (body : ∀ (cdv : Value) (A : Around) (outer : List Env) (s : Shared) (H : Hp) (E : XK) (p : Addr) (fs : List (Str × Fd)) (ds : List PyData) (q : PyData → List (Str × Fd) → Prop), Room k (A.deeper (envOfC qual (defScope st) s.heap.objs.size f cdv)) → CK (cxOf CX0 P w K mg base N qual (defScope st) f cdv A outer s H E).nox → S fs ds q →
      BB (cxOf CX0 P w K mg base N qual (defScope st) f cdv A outer s H E).nox (.bo p C fs :: (ds.map Sl.dat ++ List.replicate (N.length - (ds.length + 1)) Sl.non)) (defBody st) { nx := fun ρ => ∃ fs', ρ[0]? = some (.bo p C fs') ∧ q .none fs', rt := fun d ρ => ∃ fs', ρ[0]? = some (.bo p C fs') ∧ q d fs' }) :
    FnOk P w K mg base CX0 (k + 1) f fd ps (spM C S) := by
  refine F.ok sc (fun vs H Q E h => ?_) (fun cdv A outer s H vs Q E hr h => ?_)
  · obtain ⟨hd, p, dx, us, fs, fv, ds, q, rfl, _, _, _, _, _, r, hS, _⟩ := h
    rw [List.length_cons, r.length, len fs ds q hS]
  · obtain ⟨hd, p, dx, us, fs, fv, ds, q, rfl, hap, hnd, hh, hp, ho, r, hS, kk⟩ := h
    refine ⟨_, pssW, ?_⟩
    have ck : CK (cxOf CX0 P w K mg base N qual (defScope st) f cdv A outer s H E).nox := ⟨rfl, sc.nd, by
      show (A.deeper (envOfC qual (defScope st) s.heap.objs.size f cdv)).units + 100 < cLine
      have := hr.un
      omega, hbt⟩
    have eo : os (.bo p C fs :: (ds.map Sl.dat ++ List.replicate (N.length - (ds.length + 1)) Sl.non)) = p :: fdA fs := by
      show (p :: fdA fs) ++ os (ds.map Sl.dat ++ List.replicate (N.length - (ds.length + 1)) Sl.non) = _
      rw [os_start, List.append_nil]
    have St : Stt ⟨hd, p :: fdA fs, H⟩ H (start N (.ref p :: us)) (.bo p C fs :: (ds.map Sl.dat ++ List.replicate (N.length - (ds.length + 1)) Sl.non)) := by
      refine ⟨hh, fun a o _ e => e, fun a e => e, by rw [eo]; exact hnd, (fun a m => by rw [eo] at m; exact .inl m), (fun a m => by rw [eo] at m; exact hap a m), ?_⟩
      have := slots_start (G := mask (hd ++ p :: fdA fs) H) (H := H) (N.length - (ds.length + 1)) r
      show SlotsOk (mask (hd ++ os _) H) H _ _
      rw [eo]
      unfold L2.start
      rw [List.length_cons, r.length]
      exact ⟨⟨rfl, dx, fv, hp, ho⟩, this⟩
    have last : ∀ (σ' : L2.St) (H' : Hp) (d : PyData) (v : V) (ρ' : List Sl) (fs' : List (Str × Fd)), ρ'[0]? = some (.bo p C fs') → q d fs' → Stt ⟨hd, p :: fdA fs, H⟩ H' σ' ρ' → Rp (gh ⟨hd, p :: fdA fs, H⟩ ρ' H') v d → Q v H' := fun σ' H' d v ρ' fs' e0 hq S' r' => by
      obtain ⟨y, _, _, dx', fv', e3', fo'⟩ := S'.sl.get e0
      have mo : ∀ a ∈ p :: fdA fs', a ∈ os ρ' := fun a ma => os_at e0 ma
      have sub : Same (gh ⟨hd, p :: fdA fs, H⟩ ρ' H') (mask (hd ++ p :: fdA fs') H') := mask_sub fun a ma => (List.mem_append.mp ma).elim (fun z => List.mem_append_left _ z) fun z => List.mem_append_right _ (mo a z)
      exact kk d fs' v H' hq (fun a o na e => S'.fr a o na e) S'.dm (os_nd S'.nd e0) (fun a ma => S'.nw a (mo a ma)) ⟨dx', fv', e3', fo'.up sub fun _ _ _ e => e⟩ (Rp.up sub _ _ r')
    exact body cdv A outer s H E p fs ds q hr ck hS ⟨hd, p :: fdA fs, H⟩ _ H _ St ⟨fun σ' H' ρ' ⟨fs', e0, hq⟩ S' g => last σ' H' .none .non ρ' fs' e0 hq S' .non, fun v σ' H' d ρ' ⟨fs', e0, hq⟩ S' g r => last σ' H' d v ρ' fs' e0 hq S' r, fun σ' H' ρ' hq _ _ => hq.elim, fun σ' H' ρ' hq _ _ => hq.elim⟩
theorem fn_F {x qual : Str} {st : Stmt} {f C : Addr} {fd : FuncData} {N ps : List Str} {k : Nat} {S : List (Str × PyData) → (PyData → Prop) → Prop} (F : Fun K x qual st f fd) (sc : FnScope N ps (defScope st)) (hbt : ∀ x ∈ bNames, mg x = none) (len : ps.length = 1)
    (body : ∀ (cdv : Value) (A : Around) (outer : List Env) (s : Shared) (H : Hp) (E : XK) (fs : List (Str × PyData)) (q : PyData → Prop), Room k (A.deeper (envOfC qual (defScope st) s.heap.objs.size f cdv)) → CK (cxOf CX0 P w K mg base N qual (defScope st) f cdv A outer s H E).nox → S fs q →
      BB (cxOf CX0 P w K mg base N qual (defScope st) f cdv A outer s H E).nox (.obj C fs :: List.replicate (N.length - 1) Sl.non) (defBody st) { nx := fun _ => q .none, rt := fun d _ => q d }) :
    FnOk P w K mg base CX0 (k + 1) f fd ps (spF C S) := by
  refine F.ok sc (fun vs H Q E h => ?_) (fun cdv A outer s H vs Q E hr h => ?_)
  · obtain ⟨hd, a, fs, q, rfl, _⟩ := h
    rw [len]; rfl
  · obtain ⟨hd, a, fs, q, rfl, hh, ho, hS, kk⟩ := h
    refine ⟨_, pssW, ?_⟩
    have ck : CK (cxOf CX0 P w K mg base N qual (defScope st) f cdv A outer s H E).nox := ⟨rfl, sc.nd, by
      show (A.deeper (envOfC qual (defScope st) s.heap.objs.size f cdv)).units + 100 < cLine
      have := hr.un
      omega, hbt⟩
    have eo : os (.obj C fs :: List.replicate (N.length - 1) Sl.non) = [] := by
      show [] ++ os (List.replicate (N.length - 1) Sl.non) = []
      exact os_start [] _
    have St : Stt ⟨hd, [], H⟩ H (start N [.ref a]) (.obj C fs :: List.replicate (N.length - 1) Sl.non) := by
      refine ⟨hh, fun a o _ e => e, fun a e => e, by rw [eo]; exact List.nodup_nil, (fun a m => by rw [eo] at m; cases m), (fun a m => by rw [eo] at m; cases m), ?_⟩
      have := slots_start (G := mask hd H) (H := H) (N.length - 1) .nil
      show SlotsOk (mask (hd ++ os _) H) H _ _
      rw [eo, List.append_nil]
      exact ⟨⟨a, rfl, ho⟩, this⟩
    refine body cdv A outer s H E fs q hr ck hS ⟨hd, [], H⟩ _ H _ St ⟨fun σ' H' ρ' hq S' g => kk .none .non H' hq (fun a o e => S'.fr a o (fun z => nomatch z) e) .non, fun v σ' H' d ρ' hq S' g r => ?_, fun σ' H' ρ' hq _ _ => hq.elim, fun σ' H' ρ' hq _ _ => hq.elim⟩
    exact kk d v H' hq (fun a o e => S'.fr a o (fun z => nomatch z) e) (Rp.up (mask_sub fun a m => List.mem_append_left _ m) _ _ r)
end
end DL

namespace DL
open PySem PySem.Spec PyProof.Rows L2
/-! ### range downwards; two copies of an object's lists -/
def rngN (hi : Int) (n : Nat) : List PyData := (List.range n).map fun (i : Nat) => PyData.int (hi + (i : Int) * (-1))
theorem rngN_len (hi : Int) (n : Nat) : (rngN hi n).length = n := by unfold rngN; rw [List.length_map, List.length_range]
theorem rngN_get {hi : Int} {n i : Nat} {d : PyData} (h : (rngN hi n)[i]? = some d) : i < n ∧ d = .int (hi + (i : Int) * (-1)) := by
  unfold rngN at h
  rw [List.getElem?_map] at h
  by_cases hh : i < n
  · rw [List.getElem?_range hh] at h
    exact ⟨hh, (Option.some.inj h).symm⟩
  · rw [List.getElem?_eq_none (by rw [List.length_range]; omega)] at h
    cases h
theorem jok_rngN {G : Hp} (hi : Int) (n : Nat) : JOk (Itc hi (-1) n) G (rngN hi n) where
  go := fun i H d s hd => (rngN_get hd).1
  yld := fun i H d x H' s hd ⟨e1, e2⟩ => by
    subst e1 e2
    rw [(rngN_get hd).2]
    exact ⟨Same.refl _, fun l _ _ => .int _⟩
  stop := fun i H s hh => by rw [rngN_len] at hh; exact Nat.le_of_eq hh
section
variable {X : Cx} {ρ : List Sl} {tg a b c : Expr} {pos : Pos} {Θ : List PyData → List Sl → Prop} {D : DE}
theorem ii_rangeN {p : Pos} (ck : CK X) (h : EA X ρ [a, b, c] fun ds ρ1 => ∃ m n : Int, ds = [.int m, .int n, .int (-1)] ∧ (-1000000000 ≤ m ∧ m ≤ 1000000000 ∧ -1000000000 ≤ n ∧ n ≤ 1000000000) ∧ Θ (rngN m (m - n).toNat) ρ1) (hg : Gl X "range" := by rfl)
    (hs : starEach [a, b, c] X.env = (false, eval a X.env) :: starEach [b, c] X.env := by rfl) (hpl : (backTo pos (starEach [b, c] X.env)).any (·.1) = false := by rfl) : II X ρ tg (.Call (.Name "range" p) [a, b, c] [] pos) Θ :=
  ⟨_, pi_range3 hg (ck.bt _ (by simp [bNames])) paW hs hpl, fun F σ H R S k => h F σ H _ S fun vs H' ds ρ' ⟨m, n, ed, hn, q⟩ S' g r => by
    subst ed
    match r with
    | .cons (.int _) (.cons (.int _) (.cons (.int _) .nil)) => exact ⟨m, n, -1, (m - n).toNat, rfl, .neg (by omega) (by omega) (by omega) (by omega), k _ H' _ ρ' q S' g (jok_rngN m (m - n).toNat)⟩⟩
/-- a, b = list(o.f), list(o.g) -/
theorem ss_parLL (i j1 j2 : Nat) {x y1 y2 f g : Str} {C : Addr} {fs : List (Str × PyData)} {xs ys : List PyData} {p1 p2 q1 q2 a1 a2 c1 c2 py1 py2 pt : Pos} {kt k2 pt2} (ck : CK X) (hs : ρ[i]? = some (.obj C fs)) (cl : Cls X.K C) (na1 : NoAttr X.K C f) (na2 : NoAttr X.K C g)
    (hf : fs.lookup f = some (.list xs)) (hg : fs.lookup g = some (.list ys)) (q : ∀ l m, D.nx ((ρ.set j1 (.own l xs)).set j2 (.own m ys))) (hN : X.N[i]? = some x := by rfl)
    (hv : Vis X.env.scope x := by first | exact Or.inl rfl | exact Or.inr (Or.inl rfl) | exact Or.inr (Or.inr rfl)) (hb1 : attributeBase (.Name x p1) f X.env (eval (.Name x p1) X.env) = eval (.Name x p1) X.env := by rfl) (hb2 : attributeBase (.Name x p2) g X.env (eval (.Name x p2) X.env) = eval (.Name x p2) X.env := by rfl)
    (hd : (x == ("__debug__" : Str)) = false := by decide) (hcd : (x == ("__classdict__" : Str)) = false := by decide) (hgl : Gl X "list" := by rfl) (hij : j1 ≠ j2 := by decide)
    (hi : X.N[j1]? = some y1 := by rfl) (hj : X.N[j2]? = some y2 := by rfl) (hx : X.env.scope.names.lookup y1 = some .local := by rfl) (hy : X.env.scope.names.lookup y2 = some .local := by rfl)
    (s1 : starEach [.Attribute (.Name x p1) f a1] X.env = (false, eval (.Attribute (.Name x p1) f a1) X.env) :: starEach [] X.env := by rfl) (s2 : starEach [.Attribute (.Name x p2) g a2] X.env = (false, eval (.Attribute (.Name x p2) g a2) X.env) :: starEach [] X.env := by rfl)
    (s3 : starEach [.Call (.Name "list" q1) [.Attribute (.Name x p1) f a1] [] c1, .Call (.Name "list" q2) [.Attribute (.Name x p2) g a2] [] c2] X.env = (false, eval (.Call (.Name "list" q1) [.Attribute (.Name x p1) f a1] [] c1) X.env) :: starEach [.Call (.Name "list" q2) [.Attribute (.Name x p2) g a2] [] c2] X.env := by rfl)
    (s4 : starEach [.Call (.Name "list" q2) [.Attribute (.Name x p2) g a2] [] c2] X.env = (false, eval (.Call (.Name "list" q2) [.Attribute (.Name x p2) g a2] [] c2) X.env) :: starEach [] X.env := by rfl)
    (hw : swappedStores [.Tuple [.Name y1 py1, .Name y2 py2] kt pt] (.Tuple [.Call (.Name "list" q1) [.Attribute (.Name x p1) f a1] [] c1, .Call (.Name "list" q2) [.Attribute (.Name x p2) g a2] [] c2] k2 pt2) X.env = pure (some [y1, y2]) := by rfl)
    (hsw : swapsWithSole [.Tuple [.Name y1 py1, .Name y2 py2] kt pt] (.Tuple [.Call (.Name "list" q1) [.Attribute (.Name x p1) f a1] [] c1, .Call (.Name "list" q2) [.Attribute (.Name x p2) g a2] [] c2] k2 pt2) pos.line X.env = pure false := by rfl) :
    SS X ρ (.Assign [.Tuple [.Name y1 py1, .Name y2 py2] kt pt] (.Tuple [.Call (.Name "list" q1) [.Attribute (.Name x p1) f a1] [] c1, .Call (.Name "list" q2) [.Attribute (.Name x p2) g a2] [] c2] k2 pt2) pos) D := fun F σ H E S k => by
  obtain ⟨z, e1, a, e2, dx, vs, e3, fo⟩ := S.sl.get hs
  subst e2
  obtain ⟨v1, hl1, r1⟩ := fo.get hf
  obtain ⟨v2, hl2, r2⟩ := fo.get hg
  cases r1 with
  | lst ea ra =>
  rename_i la us1
  cases r2 with
  | lst eb rb =>
  rename_i lb us2
  have bl : X.mg "list" = none := ck.bt _ (by simp [bNames])
  refine ofPS (ps_par ck.calm ck.nd hi hj hij hx hy (pa_cons (pe_callTy call_list_of hgl bl (by decide +kernel) (pa_cons (pe_fld (pe_var hN hv hd hcd) hb1) pa_nil s1) (by decide) (by decide) s1 rfl) (pa_cons (pe_callTy call_list_of hgl bl (by decide +kernel) (pa_cons (pe_fld (pe_var hN hv hd hcd) hb2) pa_nil s2) (by decide) (by decide) s2 rfl) pa_nil s4) s3) hw hsw) ?_
  have e3' := mask_le _ _ e3
  refine ⟨_, e1, a, C, dx, vs, _, rfl, e3', cl, na1, hl1, la, us1, rfl, .inl (.of (mask_le _ _ ea)), fun l hl => ?_⟩
  have t1 := same_new (o := .lst us1) hl
  refine ⟨_, e1, a, C, dx, vs, _, rfl, t1 _ _ e3', cl, na2, hl2, lb, us2, rfl, .inl (.of (t1 _ _ (mask_le _ _ eb))), fun m hm => ?_⟩
  have t2 := same_new (o := .lst us2) hm
  have hlm : l ≠ m := fun z => by rw [← z, upd_same] at hm; cases hm
  have gl : ∀ b o, gh F ρ H b = some o → b ≠ l := fun b o q z => by rw [z] at q; have := mask_le _ _ q; rw [hl] at this; cases this
  have S1 := S.new (s := .own l xs) (v := .ref l) j1 hl t1 rfl (by rw [upd_same]; exact fun z => nomatch z) ⟨rfl, us1, upd_same, RpAll.up (mask_mono (fun b mb hb => (List.mem_cons.mp mb).elim (fun z => absurd (z ▸ hl) hb) id) fun b o _ q => t1 b o q) _ _ ra⟩
  have G1 := S.gnew (s := .own l xs) j1 hl t1 rfl
  have S2 := S1.new (s := .own m ys) (v := .ref m) j2 hm t2 rfl (by rw [upd_same]; exact fun z => nomatch z) ⟨rfl, us2, upd_same, RpAll.up (G1.trans (mask_mono (fun b mb hb => (List.mem_cons.mp mb).elim (fun z => absurd (z ▸ hm) hb) id) fun b o _ q => t2 b o q)) _ _ rb⟩
  exact ⟨_, _, rfl, k.nx _ _ _ (q l m) S2 (G1.trans (S1.gnew j2 hm t2 rfl))⟩
end
end DL

namespace DL
open PySem PySem.Spec PyProof.Rows L2
/-! ### dicts of ints -/
theorem valV_kvI (k : Int) : ∀ kvs : List (Int × Int), valV (kvI kvs) (Sum.inl k) = (kvs.lookup k).map V.int
  | [] => rfl
  | (a, b) :: r => by
    rw [List.lookup_cons]
    show valV ((Sum.inl a, V.int b) :: kvI r) (Sum.inl k) = _
    by_cases h : k = a
    · rw [valV_pos (by rw [h]), h, beq_self_eq_true]; rfl
    · rw [valV_neg (fun z => h (Sum.inl.inj z).symm), valV_kvI k r, beq_eq_false_iff_ne.mpr h]
theorem kvI_len (kvs : List (Int × Int)) : (kvI kvs).length = kvs.length := List.length_map _
theorem putK_kvI {kvs : List (Int × Int)} {k v : Int} (h : kvs.lookup k = none) : putK (kvI kvs) (Sum.inl k) (.int v) = kvI (kvs ++ [(k, v)]) := by
  rw [putK_new _ (by rw [valV_kvI, h]; rfl)]
  unfold kvI
  rw [List.map_append]
  rfl
section
variable {prog : Program} {w : World} {A : Around} {E : Value → Shared → Prop} {s : Shared} {v d : Addr} {Q : Value → Shared → Prop}
theorem sumv_raw {κ : Type} [DecidableEq κ] {knd : KeyKind prog w κ} {kvs : List (κ × Value)} {ep : Nat} (hh : A.handled = none) (hv : s.heap.get? v = some { cls := .type "dict_values", data := .fields #[.ref d] }) (hat : s.heap.DictAt knd d kvs ep) (val : Nat → Int)
    (hval : ∀ (i : Nat) (u : Value), (∃ k, kvs[i]? = some (k, u)) → ∃ t : Tok, u = Value.int (val i) t) (h : ∀ (h' : Heap) (tk : Nat) (t' : Tok), (∀ b o, s.heap.get? b = some o → h'.get? b = some o) → Q (.int (preSum val kvs.length) t') { s with heap := h', toks := tk }) :
    wpAny (model prog w) A (call (.builtin "sum") [.ref v]) Q E s := by
  have K := PySem.W.kdl_values (prog := prog) (w := w) (r := v) (d := d) (knd := knd) (kvs := kvs) (ep := ep)
  have hok : (s.heap.get? v = some { cls := .type "dict_values", data := .fields #[.ref d] } ∧ s.heap.DictAt knd d kvs ep) := ⟨hv, hat⟩
  refine call_sum_walkAnyS ?_
  obtain ⟨oI, St, hit, W, st⟩ := K.iter A.in1 s hh ⟨⟨_, hv, rfl, rfl⟩, hat⟩
  refine hit _ _ ⟨s.heap.objs.size, _, _, _, kvs.length, _, _, val, rfl, W.toS, st, fun b hb => ?_, hval, fun s' t' hm => ?_⟩
  · show b < (s.heap.push oI).objs.size
    rw [size_push']
    rcases List.mem_cons.mp hb with e | hb
    · rw [e]; exact Nat.lt_succ_self _
    · rw [List.mem_singleton.mp hb]; exact Nat.lt_succ_of_lt hat.lt_size
  · have hk : ∀ b o, s.heap.get? b = some o → s'.heap.get? b = some o := fun b o e => hm.heap b o (fun hI => absurd (Heap.lt_size e) (by rw [List.mem_singleton.mp hI]; exact Nat.lt_irrefl _)) (Heap.get?_push_of_some _ e)
    rw [Moved.eq_with hm]
    exact h s'.heap s'.toks t' hk
end
theorem preSum_getD (f : Nat → Int) : ∀ (ns : List Int), (∀ i, f i = ns.getD i 0) → ∀ n, n ≤ ns.length → preSum f n = (ns.take n).sum
  | _, _, 0, _ => rfl
  | ns, hf, n + 1, hn => by
    show preSum f n + f n = _
    rw [preSum_getD f ns hf n (Nat.le_of_succ_le hn), hf n, List.take_succ, List.getElem?_eq_getElem hn, List.sum_append, List.getD_eq_getElem?_getD, List.getElem?_eq_getElem hn]
    simp
section
variable {X : Cx} {ρ : List Sl} {e b c : Expr} {pos px py ap cp mp qp : Pos} {Φ : PyData → List Sl → Prop} {Ψ : Bool → List Sl → Prop} {D : DE} {x y : Str} {kvs : List (Int × Int)}
/-- sum(o.values()), a dict of ints -/
def tSumV (td : TE) : TE := fun σ H Q => td σ H fun x H1 => ∃ a kvs, x = V.ref a ∧ H1 a = some (.dK (kvI kvs)) ∧ Q (.int (kvs.map (·.2)).sum) H1
theorem pe_sumV {o : Expr} {td : TE} (hc : X.calm = true) (hg : Gl X "sum") (hm : X.mg "sum" = none) (hd : PE X o td) (hbase : attributeBase o "values" X.env (eval o X.env) = eval o X.env := by rfl) (hline : (ap.endLine == mp.line) = true := by rfl)
    (hse : starEach [Expr.Call (.Attribute o "values" ap) [] [] mp] X.env = [(false, eval (Expr.Call (.Attribute o "values" ap) [] [] mp) X.env)] := by rfl) :
    PE X (.Call (.Name "sum" px) [.Call (.Attribute o "values" ap) [] [] mp] [] pos) (tSumV td) := by
  refine ⟨fun pins s σ H Q I h => wpAny_Call_Name_kw (ld_blt I hg hm (u := .builtin "sum") (by first | rfl | decide +kernel) ?_ (by first | decide +kernel | decide) (by first | decide +kernel | decide))⟩
  rw [hse]
  refine PySem.callWith_builtin1 (wpAny_Call_method0_late hbase hline (thn (hd.run pins s σ H _ I h) fun u s1 ⟨x, H1, I1, r1, a, kvs, ex, ha, q⟩ => ?_))
  subst ex
  obtain rfl : u = Value.ref a := r1
  obtain ⟨_, hsys, vs, rel, dof⟩ := dk_of I1.hok ha
  obtain ⟨ep, dat⟩ := dof.dictAt
  obtain ⟨ob, es, ho, ex, hdat, hko, hpr, hnd⟩ := id dat
  refine ⟨"dict", "dict.values", F.plainAttrs_dict, F.slot_dict_values, F.type_dict_values, ⟨ob, ho, ex.1⟩, fun b e => (by cases e; exact ⟨ob, ho, ex.2.1⟩), Calls.callWith_builtin rfl (PySem.evalArgs_none ?_)⟩
  refine call_meetsIn F.slot_dict_values ⟨ob, ho, ex.1⟩ F.entry_dict_values (F.args_dict_values_1 _) (meets_dict_values (mixKind X.prog X.w) a hsys) ⟨⟨vs, dof⟩, ?_⟩
  have hlv : vs.length = kvs.length := (KV.length rel).symm.trans (kvI_len kvs)
  refine sumv_raw (s := { s1 with heap := s1.heap.push { cls := .type "dict_values", data := .fields #[.ref a] } }) (knd := mixKind X.prog X.w) (kvs := vs) (ep := ep) (d := a) (A := X.A) (I1.ok.hd hc) (Heap.get?_push_size _ rfl) (dat.keep fun b u e => Heap.get?_push_of_some _ e) (fun i => (kvs.map (·.2)).getD i 0) (fun i u ⟨k, hk⟩ => ?_) fun h' tk t' hk => ?_
  · obtain ⟨x, h1, h2⟩ := KV.at' rel hk
    have h3 : (kvs.map fun p => ((Sum.inl p.1 : Key), V.int p.2))[i]? = some (k, x) := h1
    rw [List.getElem?_map] at h3
    cases q : kvs[i]? with
    | none => rw [q] at h3; cases h3
    | some p =>
      rw [q] at h3
      cases h3
      obtain ⟨t, e3⟩ := h2
      refine ⟨t, ?_⟩
      rw [e3, List.getD_eq_getElem?_getD, List.getElem?_map, q] <;> rfl
  · have hk2 : ∀ b u, s1.heap.get? b = some u → h'.get? b = some u := fun b u e => hk b u (Heap.get?_push_of_some _ e)
    refine ⟨.int _, H1, I1.kept (t' := tk) hk2, ⟨t', rfl⟩, ?_⟩
    rw [preSum_getD _ (kvs.map (·.2)) (fun i => rfl) vs.length (by rw [List.length_map, hlv]; exact Nat.le_refl _), hlv, ← List.length_map (f := (·.2)), List.take_length]
    exact q
theorem ee_sumV (i : Nat) (ck : CK X) (hs : ρ[i]? = some (.fI kvs)) (q : Φ (.int (kvs.map (·.2)).sum) ρ) (hN : X.N[i]? = some x := by rfl) (hv : Vis X.env.scope x := by first | exact Or.inl rfl | exact Or.inr (Or.inl rfl) | exact Or.inr (Or.inr rfl))
    (hd : (x == ("__debug__" : Str)) = false := by decide) (hcd : (x == ("__classdict__" : Str)) = false := by decide) (hg : Gl X "sum" := by rfl) (hbase : attributeBase (.Name x py) "values" X.env (eval (.Name x py) X.env) = eval (.Name x py) X.env := by rfl) (hline : (ap.endLine == mp.line) = true := by rfl)
    (hse : starEach [Expr.Call (.Attribute (.Name x py) "values" ap) [] [] mp] X.env = [(false, eval (Expr.Call (.Attribute (.Name x py) "values" ap) [] [] mp) X.env)] := by rfl) :
    EE X ρ (.Call (.Name "sum" px) [.Call (.Attribute (.Name x py) "values" ap) [] [] mp] [] pos) Φ := fun F σ H Q S k => by
  obtain ⟨z, e1, a, e2, e3⟩ := S.sl.get hs
  subst e2
  exact ofPE (pe_sumV ck.calm hg (ck.bt _ (by simp [bNames])) (pe_var hN hv hd hcd) hbase hline hse) ⟨_, e1, a, kvs, rfl, mask_le _ _ e3, k _ H _ ρ q S (Same.refl _) (.int _)⟩
/-- table[e] -/
theorem ee_dgetF (i : Nat) (ck : CK X) (hs : ρ[i]? = some (.fI kvs)) (h : EE X ρ e fun d ρ1 => ∃ n v, d = .int n ∧ kvs.lookup n = some v ∧ Φ (.int v) ρ1) (hN : X.N[i]? = some x := by rfl) (hv : Vis X.env.scope x := by first | exact Or.inl rfl | exact Or.inr (Or.inl rfl) | exact Or.inr (Or.inr rfl))
    (hp : NoSl e := by exact fun _ _ => rfl) (hd : (x == ("__debug__" : Str)) = false := by decide) (hcd : (x == ("__classdict__" : Str)) = false := by decide) : EE X ρ (.Subscript (.Name x px) e pos) Φ := fun F σ H Q S k => by
  obtain ⟨z, e1, a, e2, e3⟩ := S.sl.get hs
  subst e2
  refine ofPE (pe_dget (by have := ck.hu; omega) (pe_var hN hv hd hcd) peW hp) ⟨_, e1, h F σ H _ S fun u H2 d ρ1 ⟨n, v, ed, hl, q⟩ S2 g r => ?_⟩
  subst ed
  cases r
  have e4 : H2 a = some (.dK (kvI kvs)) := mask_le _ _ (g _ _ e3)
  exact ⟨a, .int v, rfl, by have := DGet.k (k := Sum.inl n) e4; rw [valV_kvI, hl] at this; exact this, k _ H2 _ ρ1 q S2 g (.int v)⟩
/-- e in table -/
theorem et_dinF (i : Nat) (ck : CK X) (h : EE X ρ e fun d ρ1 => ∃ n kvs, d = .int n ∧ ρ1[i]? = some (.fI kvs) ∧ Ψ (kvs.lookup n).isSome ρ1) (hN : X.N[i]? = some x := by rfl) (hv : Vis X.env.scope x := by first | exact Or.inl rfl | exact Or.inr (Or.inl rfl) | exact Or.inr (Or.inr rfl))
    (hd : (x == ("__debug__" : Str)) = false := by decide) (hcd : (x == ("__classdict__" : Str)) = false := by decide) (hb : behindInMarks .In (.Name x px) = false := by first | exact nobehind _ (by decide) (by decide) | rfl) : ET X ρ (.Compare e [.In] [.Name x px] pos) Ψ := fun F σ H Q S k =>
  ofPT (pt_cmp (pc_din (by have := ck.hu; omega) peW (pe_var hN hv hd hcd)) hb) (h F σ H _ S fun u H2 d ρ1 ⟨n, kvs, ed, hs, q⟩ S2 g r => by
    subst ed
    cases r
    obtain ⟨z, e1, a, e2, e3⟩ := S2.sl.get hs
    subst e2
    have e4 : H2 a = some (.dK (kvI kvs)) := mask_le _ _ e3
    refine ⟨_, e1, a, _, rfl, DGet.k (k := Sum.inl n) e4, _, rfl, ?_⟩
    rw [valV_kvI, Option.isSome_map]
    exact k _ H2 ρ1 q S2 g)
/-- x = {} -/
theorem ss_setDE (j : Nat) (ck : CK X) (q : ∀ a, D.nx (ρ.set j (.dI a []))) (hi : X.N[j]? = some x := by rfl) (hx : Loc X.env.scope x := by first | exact Or.inl rfl | exact Or.inr rfl)
    (hs : swapsWith (.Dict [] [] py) (some (.Name x px)) pos.line X.env = pure false := by rfl) (hf : X.fn x = true ∨ X.env.scope.names.lookup x = some .local := by first | exact .inl rfl | exact .inr rfl) : SS X ρ (.Assign [.Name x px] (.Dict [] [] py) pos) D := fun F σ H E S k =>
  ofPS (ps_set ck.nd hi hx pe_dnewK hs hf) fun p hp => by
    have s2 := same_new (o := .dK []) hp
    exact k.nx _ _ _ (q p) (S.new j hp s2 rfl (by rw [upd_same]; exact fun z => nomatch z) ⟨rfl, upd_same⟩) (S.gnew j hp s2 rfl)
/-- x = {m: n} -/
theorem ss_setD1 (j : Nat) {m n : Int} {j1 j2} {p1 p2 : Pos} (ck : CK X) (q : D.nx (ρ.set j (.fI [(m, n)]))) (hi : X.N[j]? = some x := by rfl) (hx : Loc X.env.scope x := by first | exact Or.inl rfl | exact Or.inr rfl)
    (hs : swapsWith (.Dict [some (.Constant (.int m) j1 p1)] [.Constant (.int n) j2 p2] py) (some (.Name x px)) pos.line X.env = pure false := by rfl) (hf : X.fn x = true ∨ X.env.scope.names.lookup x = some .local := by first | exact .inl rfl | exact .inr rfl) :
    SS X ρ (.Assign [.Name x px] (.Dict [some (.Constant (.int m) j1 p1)] [.Constant (.int n) j2 p2] py) pos) D := fun F σ H E S k =>
  ofPS (ps_set ck.nd hi hx (pe_disp (pps_cons pe_int pe_int pps_nil) rfl rfl (by simp) (by show 1 ≤ 15; decide)) hs hf) fun p hp => ⟨upd_same, [(Sum.inl m, .int n)], rfl, (by show 1 ≤ 15; decide), by
    have e1 : upd (upd H p (.dK [])) p (.dK (mergeK [] [(Sum.inl m, V.int n)])) = upd H p (.dK (kvI [(m, n)])) := by
      funext b
      by_cases z : b = p
      · rw [z, upd_same, upd_same]; rfl
      · rw [upd_ne z, upd_ne z, upd_ne z]
    rw [e1]
    have s2 := same_new (o := .dK (kvI [(m, n)])) hp
    have S2 := S.ext s2
    exact k.nx _ _ _ q (S2.set j (s := .fI [(m, n)]) rfl ⟨p, rfl, (mask_out fun z => S.ad p z hp).trans upd_same⟩) ((S.gext s2).trans (S2.gset j rfl))⟩
/-- later[b] = e, a new key -/
theorem ss_dput (i : Nat) {a : Addr} (ck : CK X) (h : EE X ρ e fun d ρ1 => ∃ v kvs, d = .int v ∧ ρ1[i]? = some (.dI a kvs) ∧ EE X ρ1 b fun db ρ2 => ∃ n kvs2, db = .int n ∧ ρ2[i]? = some (.dI a kvs2) ∧ kvs2.lookup n = none ∧ kvs2.length < 1000000 ∧ D.nx (ρ2.set i (.dI a (kvs2 ++ [(n, v)]))))
    (hN : X.N[i]? = some x := by rfl) (hv : Vis X.env.scope x := by first | exact Or.inl rfl | exact Or.inr (Or.inl rfl) | exact Or.inr (Or.inr rfl)) (hd : (x == ("__debug__" : Str)) = false := by decide) (hcd : (x == ("__classdict__" : Str)) = false := by decide)
    (hs : swapsWith e (some (.Subscript (.Name x px) b ap)) pos.line X.env = pure false := by rfl) : SS X ρ (.Assign [.Subscript (.Name x px) b ap] e pos) D := fun F σ H E S k =>
  ofPS (ps_dput (by have := ck.hu; omega) (pe_var hN hv hd hcd) peW peW hs) (h F σ H _ S fun u H1 d ρ1 ⟨v, kvs, ed, es, h1⟩ S1 g1 r1 => by
    subst ed
    cases r1
    obtain ⟨z, e1, e2, e3⟩ := S1.sl.get es
    subst e2
    refine ⟨_, e1, h1 F σ H1 _ S1 fun u H2 db ρ2 ⟨n, kvs2, ed, es2, hl, hz, q⟩ S2 g2 r2 => ?_⟩
    subst ed
    cases r2
    obtain ⟨z', e1', e2', e3'⟩ := S2.sl.get es2
    refine ⟨a, _, rfl, DPut.k (k := Sum.inl n) (v := .int v) e3' (big_lt (by rw [kvI_len]; exact hz)), ?_⟩
    rw [putK_kvI hl]
    obtain ⟨S3, g3⟩ := S2.chg (s := .dI a (kvs2 ++ [(n, v)])) (H2 := upd H2 a (.dK (kvI (kvs2 ++ [(n, v)])))) es2 rfl rfl (fun b o hb e => by rw [upd_ne hb]; exact e) (by rw [upd_same]; exact fun z => nomatch z) fun x' ⟨ex, _⟩ => ⟨ex, upd_same⟩
    exact k.nx _ _ _ q S3 ((g1.trans g2).trans g3))
/-- x = y, y a dict of one's own: both frozen -/
theorem ss_moveD (i j : Nat) {a : Addr} (ck : CK X) (hs : ρ[j]? = some (.dI a kvs)) (q : D.nx ((ρ.set j (.fI kvs)).set i (.fI kvs))) (hi : X.N[i]? = some x := by rfl) (hx : Loc X.env.scope x := by first | exact Or.inl rfl | exact Or.inr rfl)
    (hN : X.N[j]? = some y := by rfl) (hv : Vis X.env.scope y := by first | exact Or.inl rfl | exact Or.inr (Or.inl rfl) | exact Or.inr (Or.inr rfl)) (hd : (y == ("__debug__" : Str)) = false := by decide) (hcd : (y == ("__classdict__" : Str)) = false := by decide)
    (hsw : swapsWith (.Name y py) (some (.Name x px)) pos.line X.env = pure false := by rfl) (hf : X.fn x = true ∨ X.env.scope.names.lookup x = some .local := by first | exact .inl rfl | exact .inr rfl) : SS X ρ (.Assign [.Name x px] (.Name y py) pos) D := fun F σ H E S k => by
  obtain ⟨z, e1, e2, e3⟩ := S.sl.get hs
  subst e2
  have gm : gh F (ρ.set j (.fI kvs)) H a = some (.dK (kvI kvs)) := by
    refine (mask_out fun m => ?_).trans e3
    rcases List.mem_append.mp m with m | m
    · exact S.ap a (os_at hs (List.mem_singleton.mpr rfl)) m
    · exact os_gone S.nd hs (List.mem_singleton.mpr rfl) rfl m
  have S1 := S.wk (s := .fI kvs) j rfl fun x' hx' => by
    rw [e1] at hx'; cases hx'
    exact ⟨a, rfl, gm⟩
  have g1 := S.gset (s := .fI kvs) (H := H) j (ρ := ρ) rfl
  exact ofPS (ps_set ck.nd hi hx (pe_var hN hv hd hcd) hsw hf) ⟨_, e1, k.nx _ _ _ q (S1.set i (s := .fI kvs) rfl ⟨a, rfl, gm⟩) (g1.trans (S1.gset i rfl))⟩
end
end DL

namespace DL
open PySem PySem.Spec PyProof.Rows L2
/-! ### data that may be compared -/
structure Shp (n : Nat) (d : PyData) : Prop where
  lay : d.canLay0 = true
  dp : d.depth ≤ n
theorem shp_all {n : Nat} : ∀ {ds : List PyData}, (∀ d ∈ ds, Shp n d) → PyData.canLayAll0 ds = true ∧ PyData.depthAll ds ≤ n
  | [], _ => ⟨rfl, by simp [PyData.depthAll]⟩
  | d :: ds, h => by
    obtain ⟨h1, h2⟩ := shp_all fun e he => h e (.tail _ he)
    have h3 := h d (.head _)
    have h4 := h3.lay
    have h5 := h3.dp
    refine ⟨by simp [PyData.canLayAll0, h1, h4], ?_⟩
    simp only [PyData.depthAll]
    omega
theorem shp_int {n : Nat} (i : Int) : Shp n (.int i) := ⟨rfl, by simp [PyData.depth]⟩
theorem shp_bool {n : Nat} (i : Bool) : Shp n (.bool i) := ⟨rfl, by simp [PyData.depth]⟩
theorem shp_none {n : Nat} : Shp n .none := ⟨rfl, by simp [PyData.depth]⟩
theorem shp_list {n : Nat} {ds : List PyData} (h : ∀ d ∈ ds, Shp n d) : Shp (n + 1) (.list ds) := ⟨by
  obtain ⟨h1, _⟩ := shp_all h
  simpa [PyData.canLay0] using h1, by
  obtain ⟨_, h2⟩ := shp_all h
  simp only [PyData.depth]; omega⟩
theorem shp_tup {n : Nat} {ds : List PyData} (h : ∀ d ∈ ds, Shp n d) : Shp (n + 1) (.tuple ds) := ⟨by
  obtain ⟨h1, _⟩ := shp_all h
  simpa [PyData.canLay0] using h1, by
  obtain ⟨_, h2⟩ := shp_all h
  simp only [PyData.depth]; omega⟩
theorem Shp.ok {n : Nat} {d : PyData} (h : Shp n d) (hn : n ≤ 64 := by decide) : SeqAt.shaped d = true := by
  unfold SeqAt.shaped
  rw [h.lay, decide_eq_true (Nat.le_trans h.dp hn)]
  rfl
theorem Shp.refl {n : Nat} {d : PyData} (h : Shp n d) : PyData.eqv d d = true := PySem.SeqAt.eqv_refl d h.lay
theorem shp_ints (l : List Int) : Shp 1 (.list (l.map PyData.int)) := shp_list fun d hd => by
  obtain ⟨i, _, rfl⟩ := List.mem_map.mp hd
  exact shp_int i
theorem shp_tints (l : List Int) : Shp 1 (.tuple (l.map PyData.int)) := shp_tup fun d hd => by
  obtain ⟨i, _, rfl⟩ := List.mem_map.mp hd
  exact shp_int i
theorem shp_pair (a b : Int) : Shp 1 (.tuple [.int a, .int b]) := shp_tints [a, b]
theorem shp_pairs (l : List (Int × Int)) : Shp 2 (.list (l.map fun p => .tuple [.int p.1, .int p.2])) := shp_list fun d hd => by
  obtain ⟨i, _, rfl⟩ := List.mem_map.mp hd
  exact shp_pair _ _
theorem shp_tpairs (l : List (Int × Int)) : Shp 2 (.tuple (l.map fun p => .tuple [.int p.1, .int p.2])) := shp_tup fun d hd => by
  obtain ⟨i, _, rfl⟩ := List.mem_map.mp hd
  exact shp_pair _ _
/-- == of the same -/
theorem eqK_self {n : Nat} {d e : PyData} {k : Bool → Prop} (h : Shp n d) (hn : n ≤ 64) (e1 : d = e) (q : k true) : eqK d e k := by
  subst e1
  cases d with
  | int i => show k (decide (i = i)); rw [decide_eq_true rfl]; exact q
  | bool i => show k (decide (i = i)); rw [decide_eq_true rfl]; exact q
  | none => exact ⟨⟨h.ok hn, h.ok hn⟩, by rw [h.refl]; exact q⟩
  | str i => exact ⟨⟨h.ok hn, h.ok hn⟩, by rw [h.refl]; exact q⟩
  | list i => exact ⟨⟨h.ok hn, h.ok hn⟩, by rw [h.refl]; exact q⟩
  | tuple i => exact ⟨⟨h.ok hn, h.ok hn⟩, by rw [h.refl]; exact q⟩
  | dict i => exact ⟨⟨h.ok hn, h.ok hn⟩, by rw [h.refl]; exact q⟩
end DL

namespace DL
open PySem PySem.Spec PyProof.Rows L2
/-! ### bags: opened, made, gone over -/
def bagN : Nat := 2 ^ 59
section
variable {X : Cx} {ρ : List Sl} {sts : List Stmt} {b : Addr} {n : Nat} {q : PyData → Nat → Prop}
theorem slots_swap {G H : Hp} {s t : Sl} : ∀ {σ : L2.St} {ρ : List Sl} {i : Nat}, SlotsOk G H σ ρ → ρ[i]? = some t → (∀ x, SlotOk G H x t → SlotOk G H x s) → SlotsOk G H σ (ρ.set i s)
  | [], [], _, _, e, _ => by simp at e
  | [], _ :: _, _, h, _, _ => h.elim
  | _ :: _, [], _, h, _, _ => h.elim
  | x :: xs, u :: r, 0, h, e, k => by
    rw [List.getElem?_cons_zero] at e; cases e
    exact ⟨k x h.1, h.2⟩
  | x :: xs, u :: r, i + 1, h, e, k => by
    rw [List.getElem?_cons_succ] at e
    exact ⟨h.1, slots_swap h.2 e k⟩
theorem Stt.swap {F : Fm} {H : Hp} {σ : L2.St} {i : Nat} {s t : Sl} (S : Stt F H σ ρ) (e : ρ[i]? = some t) (ha : s.ad = t.ad) (k : ∀ G x, SlotOk G H x t → SlotOk G H x s) : Stt F H σ (ρ.set i s) ∧ gh F (ρ.set i s) H = gh F ρ H := by
  have eo : os (ρ.set i s) = os ρ := os_set_same e ha
  refine ⟨⟨S.hd, S.fr, S.dm, by rw [eo]; exact S.nd, fun a m => S.nw a (by rw [← eo]; exact m), fun a m => S.ap a (by rw [← eo]; exact m), ?_⟩, by unfold gh; rw [eo]⟩
  rw [show gh F (ρ.set i s) H = gh F ρ H by unfold gh; rw [eo]]
  exact slots_swap S.sl e (k _)
structure BagV (z w t : Int) (n : Nat) : Prop where
  w0 : 0 ≤ w
  w1 : w < bagP
  t0 : 0 ≤ t
  t1 : t + (n : Int) ≤ 2 ^ 60
/-- a def's body, its bag open -/
theorem bb_open (h : ∀ z w t : Int, BagV z w t n → BB X (.own b [.int z, .int w, .int t] :: ρ) sts { nx := fun _ => False, rt := fun d ρ' => ∃ z w t n', ρ'[0]? = some (.own b [.int z, .int w, .int t]) ∧ BagV z w t n' ∧ q d n' }) :
    BB X (.bag b n :: ρ) sts { nx := fun _ => False, rt := fun d ρ' => ∃ n', ρ'[0]? = some (.bag b n') ∧ q d n' } := fun F σ H E S k => by
  obtain ⟨x, e0, ex, z, w, t, e, h1, h2, h3, h4⟩ := S.sl.get (i := 0) rfl
  obtain ⟨S1, g1⟩ := S.swap (i := 0) (s := .own b [.int z, .int w, .int t]) rfl rfl fun G x ⟨ex, z', w', t', e', _⟩ => by
    rw [e] at e'; cases e'
    exact ⟨ex, _, e, .cons (.int _) (.cons (.int _) (.cons (.int _) .nil))⟩
  refine h z w t ⟨h1, h2, h3, h4⟩ F σ H E S1 ⟨fun _ _ _ z => z.elim, fun v σ' H' d ρ' ⟨z, w, t, n', es, ⟨a1, a2, a3, a4⟩, hq⟩ S' g r => ?_, fun _ _ _ z => z.elim, fun _ _ _ z => z.elim⟩
  obtain ⟨S2, g2⟩ := S'.swap (i := 0) (s := .bag b n') es rfl fun G x ⟨ex, us, e', r'⟩ => ⟨ex, z, w, t, by
    match us, r' with
    | [_, _, _], .cons (.int _) (.cons (.int _) (.cons (.int _) .nil)) => exact e', a1, a2, a3, a4⟩
  refine k.rt v σ' H' d _ ⟨n', by rw [List.getElem?_set_self (List.getElem?_eq_some_iff.mp es).1], hq⟩ S2 ?_ (by rw [g2]; exact r)
  rw [g2]
  exact (show Same (gh F (.bag b n :: ρ) H) (gh F ρ' H') from g)
end
/-! _law_well: a new bag -/
def spW : Sp := fun vs H Q _ => ∃ c t : Int, vs = [.int c, .int t] ∧ (0 ≤ t ∧ t ≤ 2 ^ 59) ∧ ∀ p H', Same H H' → H p = none → BagOk H' p bagN → Q (.ref p) H'
/-- _law_bags: a list of new bags -/
def spBags (K : PySem.W.Frag) : Sp := fun vs H Q _ => ∃ (a : Addr) (ns : List Int) (m : Int), vs = [.ref a, .int m] ∧ SqL K H a (ns.map V.int) ∧ ns.length ≤ 63 ∧ (0 ≤ m ∧ m ≤ 60) ∧
  ∀ (D : Addr) (bs : List Addr) (H' : Hp), Same H H' → H' D = some (.lst (bs.map V.ref)) → bs.Nodup → D ∉ bs → (∀ b ∈ bs, BagOk H' b bagN) → Q (.ref D) H'
theorem non_slots {G H : Hp} : ∀ (σ : L2.St), SlotsOk G H σ (List.replicate σ.length Sl.non)
  | [] => trivial
  | _ :: r => ⟨trivial, non_slots r⟩
theorem os_non : ∀ n, os (List.replicate n Sl.non) = [] := fun n => os_start [] n
theorem os_bag (j : Nat) (b : Addr) (k : Nat) : ∀ (n : Nat), j < n → os ((List.replicate n Sl.non).set j (.bag b k)) = [b] := by
  induction j with
  | zero =>
    intro n h
    cases n with
    | zero => exact absurd h (Nat.lt_irrefl 0)
    | succ n =>
      show [b] ++ os (List.replicate n Sl.non) = [b]
      rw [os_non]; rfl
  | succ j ih =>
    intro n h
    cases n with
    | zero => exact absurd h (Nat.not_lt_zero _)
    | succ n =>
      show [] ++ os ((List.replicate n Sl.non).set j (.bag b k)) = [b]
      rw [ih n (Nat.lt_of_succ_lt_succ h)]; rfl
section
variable {X : Cx} {sts rest : List Stmt}
/-- a block from nothing -/
theorem bb_raw {σ : L2.St} {H : Hp} {Q : VK} (h : BB X (List.replicate σ.length Sl.non) rest { nx := fun _ => False, rt := fun d _ => d = .bool true }) (q : ∀ H', Q (.bl true) H') (E : Ends) (he : E.rt = Q) : tB X rest E σ H := by
  refine h ⟨[], [], H⟩ σ H E ⟨(fun _ m => nomatch m), fun a o _ e => e, fun a e => e, by rw [os_non]; exact List.nodup_nil, (fun a m => by rw [os_non] at m; cases m), (fun a m => by rw [os_non] at m; cases m), non_slots σ⟩ ⟨fun _ _ _ z => z.elim, fun v σ' H' d ρ' hd S' g r => ?_, fun _ _ _ z => z.elim, fun _ _ _ z => z.elim⟩
  subst hd
  cases r
  rw [he]
  exact q H'
/-- one turn of the law's loop: the bag alone is known -/
theorem bag_turn {σ : L2.St} {H : Hp} {j : Nat} {b : Addr} (hj : j < σ.length) (bo : BagOk H b bagN) (h : BB X ((List.replicate σ.length Sl.non).set j (.bag b bagN)) sts { nx := fun ρ => ρ.length = σ.length, rt := fun _ _ => False }) {E : Ends}
    (k : ∀ σ' H', σ'.length = σ.length → (∀ a o, a ≠ b → H a = some o → H' a = some o) → E.nx σ' H') : tB X sts E (σ.set j (some (.ref b))) H := by
  have eo := os_bag j b bagN σ.length hj
  refine h ⟨[], [b], H⟩ _ H E ⟨(fun _ m => nomatch m), fun a o _ e => e, fun a e => e, by rw [eo]; simp, (fun a m => by rw [eo] at m; exact .inl m), (fun a m z => nomatch z), (non_slots σ).set j (s := .bag b bagN) ⟨rfl, bo⟩⟩ ⟨fun σ' H' ρ' hl S' g => k σ' H' (S'.len.trans hl) fun a o ha e => S'.fr a o (fun z => ha (List.mem_singleton.mp z)) e, fun _ _ _ _ _ z => z.elim, fun _ _ _ z => z.elim, fun _ _ _ z => z.elim⟩
/-- for bag in _law_bags(script, m): the turns, then the rest -/
theorem law_loop {σ : L2.St} {H : Hp} {i j : Nat} {x y f : Str} {px py pf p1 cp pos : Pos} {m : Int} {jc : Nat} {a : Addr} {ns : List Int} {ps : List Str} {E : Ends} (ck : CK X) (cl : Cal X f ps (spBags X.K)) (hn : ns.length ≤ 63) (hm : 0 ≤ m ∧ m ≤ 60) (hσ : σ[i]? = some (some (.ref a))) (hS : SqL X.K H a (ns.map V.int)) (hj : j < σ.length)
    (body : ∀ b, BB X ((List.replicate σ.length Sl.non).set j (.bag b bagN)) sts { nx := fun ρ => ρ.length = σ.length, rt := fun _ _ => False })
    (hrest : BB X (List.replicate σ.length Sl.non) rest { nx := fun _ => False, rt := fun d _ => d = .bool true }) (q : ∀ H', E.rt (.bl true) H') (hN : X.N[i]? = some y := by rfl) (hx : X.N[j]? = some x := by rfl)
    (hv : Vis X.env.scope y := by first | exact Or.inl rfl | exact Or.inr (Or.inl rfl) | exact Or.inr (Or.inr rfl)) (hd : (y == ("__debug__" : Str)) = false := by decide) (hcd : (y == ("__classdict__" : Str)) = false := by decide) (hl : Loc X.env.scope x := by first | exact Or.inl rfl | exact Or.inr rfl)
    (hg : Gl X f := by rfl) (hdb : (f == ("__debug__" : Str)) = false := by decide) (s1 : starEach [.Name y py, .Constant (.int m) jc p1] X.env = (false, eval (.Name y py) X.env) :: starEach [.Constant (.int m) jc p1] X.env := by rfl) (s2 : starEach [.Constant (.int m) jc p1] X.env = (false, eval (.Constant (.int m) jc p1) X.env) :: starEach [] X.env := by rfl)
    (hpl : (backTo cp (starEach [.Constant (.int m) jc p1] X.env)).any (·.1) = false := by rfl) (hp : PassesOwn (model X.prog X.w) X.A X.env X.xe := by exact PassesOwn.never) (hf : X.fn x = true ∨ X.env.scope.names.lookup x = some .local := by first | exact .inl rfl | exact .inr rfl)
    (hs : ∀ v, foldedSetIterable (.Call (.Name f pf) [.Name y py, .Constant (.int m) jc p1] [] cp) X.env v = pure v := by intro _; rfl) :
    tB X (.For (.Name x px) (.Call (.Name f pf) [.Name y py, .Constant (.int m) jc p1] [] cp) sts [] pos :: rest) E σ H := by
  obtain ⟨k, hr, fa, fd, G, hmg, kp, bd⟩ := cl
  refine ofPSs (pss_cons (ps_for hp ck.calm (pi_list (pe_call G hr hg hmg kp bd .nil pass0 (pa_cons (pe_var hN hv hd hcd) (pa_cons pe_int pa_nil s2) s1) hdb s1 hpl)) (pg_name ck.nd hx hl hf) pssW hs) pssW) ?_
  refine ⟨_, hσ, a, ns, m, rfl, hS, hn, hm, fun D bs H' sH eD nd nD hb => ⟨D, rfl, ⟨_, .of eD⟩, ?_⟩⟩
  refine for_list (K := X.K) (a := D) (xs := bs.map V.ref) (fun i σ' H2 => σ'.length = σ.length ∧ H2 D = some (.lst (bs.map V.ref)) ∧ ∀ (l : Nat) (b : Addr), i ≤ l → bs[l]? = some b → BagOk H2 b bagN) ⟨rfl, eD, fun l b _ e => hb b (List.mem_of_getElem? e)⟩ (fun i σ' H2 _ h => .of h.2.1) ?_ ?_
  · rintro i v σ' H2 hi ⟨l, e2, hb2⟩
    rw [List.getElem?_map] at hi
    cases q0 : bs[i]? with
    | none => rw [q0] at hi; cases hi
    | some b =>
    rw [q0] at hi
    cases hi
    refine bag_turn (by rw [l]; exact hj) (hb2 i b (Nat.le_refl _) q0) (by rw [l]; exact body b) fun σ3 H3 l3 fr => ⟨l3.trans l, fr D _ (fun z => nD (z ▸ List.mem_of_getElem? q0)) e2, fun l' b' hl' e' => ?_⟩
    obtain ⟨z, w, t, e, r⟩ := hb2 l' b' (Nat.le_of_succ_le hl') e'
    refine ⟨z, w, t, fr b' _ (fun z => ?_) e, r⟩
    obtain ⟨g1, g2⟩ := List.getElem?_eq_some_iff.mp q0
    obtain ⟨g3, g4⟩ := List.getElem?_eq_some_iff.mp e'
    have := (List.nodup_iff_pairwise_ne.mp nd)
    have h4 := List.pairwise_iff_getElem.mp this i l' g1 g3 hl'
    rw [g2, g4] at h4
    exact h4 z.symm
  · rintro σ' H2 ⟨l, _, _⟩
    exact bb_raw (Q := E.rt) (by rw [l]; exact hrest) q _ rfl
end
end DL

namespace DL
open PySem PySem.Spec PyProof.Rows L2
/-! ### a comprehension that draws from a bag -/
theorem os_set_nil : ∀ {ρ : List Sl} {i : Nat} {s : Sl}, os ρ = [] → i < ρ.length → os (ρ.set i s) = s.ad
  | [], _, _, _, h => absurd h (Nat.not_lt_zero _)
  | t :: r, 0, s, e, _ => by
    have e2 : t.ad ++ os r = [] := e
    show s.ad ++ os r = s.ad
    rw [(List.append_eq_nil_iff.mp e2).2, List.append_nil]
  | t :: r, i + 1, s, e, h => by
    have e2 : t.ad ++ os r = [] := e
    show t.ad ++ os (r.set i s) = s.ad
    rw [(List.append_eq_nil_iff.mp e2).1, os_set_nil (List.append_eq_nil_iff.mp e2).2 (Nat.lt_of_succ_lt_succ h)]; rfl
theorem hide_len (vs : List Nat) : ∀ (i : Nat) (ρ : List Sl), (hideAt vs i ρ).length = ρ.length
  | _, [] => rfl
  | i, s :: r => congrArg Nat.succ (hide_len vs (i + 1) r)
section
variable {X : Cx} {ρ : List Sl} {pos : Pos} {Φ : PyData → List Sl → Prop} {tg : Expr}
def LcD (X : Cx) (scope : Scope) (ρ0 : List Sl) (tg elt : Expr) (vs : List Nat) (d : PyData) (Ξ : PyData → List Sl → Prop) : Prop :=
  ∃ js : List Nat, (∀ j ∈ js, j ∈ vs) ∧ ∀ (s : Shared) (H : Hp) (C : Addr) (cl : List (Str × Addr)) (fp : List Addr), GG (X.blk s H scope (compEnvC scope cl C X.env) fp) ρ0 tg d js fun ρ2 =>
    ∀ (s : Shared) (H : Hp) (C : Addr) (cl : List (Str × Addr)) (fp : List Addr), EE (X.blk s H scope (compEnvC scope cl C X.env) fp) ρ2 elt Ξ
@[reducible] def LcKB (X : Cx) (scope : Scope) (tg elt : Expr) (vs : List Nat) (i : Nat) (g : Addr) (Φ : PyData → List Sl → Prop) (ds : List PyData) (ρ1 : List Sl) : Prop :=
  ∃ n0, ρ1[i]? = some (.bag g n0) ∧ i ∉ vs ∧ ds.length ≤ 1000000 ∧ ∃ I : Nat → List PyData → Nat → Prop, I 0 [] n0 ∧
    (∀ k d acc n, ds[k]? = some d → acc.length = k → I k acc n → LcD X scope ((hideAt vs 0 ρ1).set i (.bag g n)) tg elt vs d fun y ρ3 => ∃ n', ρ3[i]? = some (.bag g n') ∧ I (k + 1) (acc ++ [y]) n') ∧
    ∀ acc n, acc.length = ds.length → I ds.length acc n → Φ (.list acc) (ρ1.set i (.bag g n))
theorem ee_lcB {iter elt : Expr} {scope : Scope} (i : Nat) {g : Addr} (own : List (Str × Nat)) (ck : CK X) (ok : BlkOk X.N X.env.scope scope own) (h : II X ρ tg iter fun ds ρ1 => LcKB X scope tg elt (own.map (·.2)) i g Φ ds ρ1)
    (hs : ∀ x, foldedSetIterable iter X.env x = pure x := by intro _; rfl) : EE X ρ (.ListComp elt [⟨tg, iter, [], 0⟩] scope pos) Φ := fun F σ H Q S k => by
  obtain ⟨wi, hi, hr⟩ := h
  refine ofPE (pe_lc (g := lcG X scope tg) (tt := tYes) (te := lcE X scope elt) ck.calm ck.nd hi ok (fun s H C cl fp => ⟨fun pins s' σ H' v u Q I r h => pgW.run pins s' σ H' v u Q I r (h s H C cl fp)⟩)
    (fun s H C cl fp => pts_nil) (fun s H C cl fp => ⟨fun pins s' σ H' Q I h => peW.run pins s' σ H' Q I (h s H C cl fp)⟩) hs) ?_
  refine hr F σ H _ S fun J H1 ds ρ1 ⟨n0, hb0, hiv, hz, Iv, iv0, hst, hen⟩ S1 g1 jo => ?_
  generalize own.map (·.2) = vs at *
  intro D hD
  have sD := same_new (o := .lst []) hD
  have nD : D ∉ F.hd ++ os ρ1 := fun m => S1.ad D m hD
  have mo : g ∈ os ρ1 := os_at hb0 (List.mem_singleton.mpr rfl)
  have Dg : D ≠ g := fun z => nD (z ▸ List.mem_append_right _ mo)
  have ghd : g ∉ F.hd := S1.ap g mo
  obtain ⟨x0, ex0, ex1, bo0⟩ := S1.sl.get hb0
  subst ex1
  have li : i < ρ1.length := (List.getElem?_eq_some_iff.mp hb0).1
  refine ⟨fun k m H => m = ds.length - k ∧ k ≤ ds.length ∧ (∀ a o, a ≠ g → H1 a = some o → H a = some o) ∧ ∃ us acc n, H D = some (.lst us) ∧ BagOk H g n ∧ Iv k acc n ∧ acc.length = k ∧ RpAll (mask (D :: (F.hd ++ os ρ1)) H) us acc, ⟨ds.length, by omega, Nat.zero_le _, fun a o _ e => sD a o e, [], [], n0, upd_same, by
    obtain ⟨z, w, t, e, r⟩ := bo0
    exact ⟨z, w, t, sD _ _ e, r⟩, iv0, rfl, .nil⟩, ?_⟩
  rintro k' m H ⟨rfl, hk, s1, us, acc, n, eD, bo, hI, la, rD⟩
  have sG : Same (gh F ρ1 H1) H := fun a o e => by
    obtain ⟨na, ea⟩ := mask_some e
    exact s1 a o (fun z => na (z ▸ List.mem_append_right _ mo)) ea
  by_cases hlt : k' < ds.length
  · have hd : ds[k']? = some ds[k'] := List.getElem?_eq_getElem hlt
    refine .inr ⟨jo.go k' H _ sG hd, fun H' => (∀ a o, a ≠ g → H1 a = some o → H' a = some o) ∧ ∃ us acc n, H' D = some (.lst us) ∧ BagOk H' g n ∧ Iv (k' + 1) acc n ∧ acc.length = k' + 1 ∧ RpAll (mask (D :: (F.hd ++ os ρ1)) H') us acc, fun H' ⟨a, b⟩ => ⟨ds.length - (k' + 1), by omega, rfl, hlt, a, b⟩, fun x H' y s Hb C cl fp => ?_⟩
    obtain ⟨sH, rx⟩ := jo.yld k' H _ x H' sG hd y
    obtain ⟨js, hjs, hb1⟩ := hst k' _ acc n hd la hI
    have up1 : ∀ a, H1 a ≠ none → H a ≠ none := fun a ha => by
      by_cases z : a = g
      · obtain ⟨z1, w1, t1, e1, _⟩ := bo
        rw [z, e1]; exact fun z => nomatch z
      · cases q0 : H1 a with
        | none => exact absurd q0 ha
        | some o => rw [s1 a o z q0]; exact fun z => nomatch z
    have up : ∀ a ∈ D :: (F.hd ++ os ρ1), H a ≠ none := fun a ma => by
      rcases List.mem_cons.mp ma with z | z
      · rw [z, eD]; exact fun z => nomatch z
      · exact up1 a (S1.ad a z)
    have up' : ∀ a ∈ D :: (F.hd ++ os ρ1), H' a ≠ none := fun a ma => by
      cases q0 : H a with
      | none => exact absurd q0 (up a ma)
      | some o => rw [sH a o q0]; exact fun z => nomatch z
    have bo' : BagOk H' g n := by
      obtain ⟨z1, w1, t1, e1, r⟩ := bo
      exact ⟨z1, w1, t1, sH _ _ e1, r⟩
    have eo : os ((hideAt vs 0 ρ1).set i (.bag g n)) = [g] := os_set_nil (os_hide vs 0 ρ1) (by rw [hide_len]; exact li)
    -- the hidden ones, without the bag
    let hd' := (D :: (F.hd ++ os ρ1)).filter fun a => decide (a ≠ g)
    have hd'g : g ∉ hd' := fun m => of_decide_eq_true (List.mem_filter.mp m).2 rfl
    have cov : ∀ {ρ' : List Sl} {n'' : Nat}, ρ'[i]? = some (.bag g n'') → ∀ a, a ∈ D :: (F.hd ++ os ρ1) → a ∈ hd' ++ os ρ' := fun {ρ' n''} e a ma => by
      by_cases z : a = g
      · rw [z]; exact List.mem_append_right _ (os_at e (List.mem_singleton.mpr rfl))
      · exact List.mem_append_left _ (List.mem_filter.mpr ⟨ma, decide_eq_true z⟩)
    have em : ∀ H5 : Hp, gh ⟨hd', [g], H'⟩ ((hideAt vs 0 ρ1).set i (.bag g n)) H5 = mask (D :: (F.hd ++ os ρ1)) H5 := fun H5 => by
      funext a
      show mask (hd' ++ os _) H5 a = _
      rw [eo]
      by_cases ha : a ∈ D :: (F.hd ++ os ρ1)
      · rw [mask_in ha]
        refine mask_in ?_
        by_cases z : a = g
        · rw [z]; exact List.mem_append_right _ (List.mem_singleton.mpr rfl)
        · exact List.mem_append_left _ (List.mem_filter.mpr ⟨ha, decide_eq_true z⟩)
      · rw [mask_out ha]
        refine mask_out fun m => ha ?_
        rcases List.mem_append.mp m with z | z
        · exact (List.mem_filter.mp z).1
        · rw [List.mem_singleton.mp z]; exact List.mem_cons_of_mem _ (List.mem_append_right _ mo)
    have mk : Same (gh F ρ1 H1) (mask (D :: (F.hd ++ os ρ1)) H') := fun a o e => by
      obtain ⟨na, ea⟩ := mask_some e
      have : a ∉ D :: (F.hd ++ os ρ1) := fun m => by
        rcases List.mem_cons.mp m with z | z
        · rw [z, hD] at ea; cases ea
        · exact na z
      rw [mask_out this]
      exact sH a o (sG a o e)
    have S2 : Stt ⟨hd', [g], H'⟩ H' (wipe σ vs) ((hideAt vs 0 ρ1).set i (.bag g n)) := by
      refine ⟨fun a ma => up' a (List.mem_filter.mp ma).1, fun a o _ e => e, fun a e => e, by rw [eo]; simp, (fun a ma => by rw [eo] at ma; exact .inl ma), (fun a ma => by rw [eo] at ma; rw [List.mem_singleton.mp ma]; exact hd'g), ?_⟩
      have h1 : SlotsOk (gh ⟨hd', [g], H'⟩ ((hideAt vs 0 ρ1).set i (.bag g n)) H') H' (wipe σ vs) (hideAt vs 0 ρ1) := by
        refine slots_hide (G := gh F ρ1 H1) (H := H1) ?_ 0 S1.sl (wipe_length σ vs) fun j hj => wipe_out (by simpa using hj)
        rw [em]; exact mk
      have h2 := h1.set i (x := some (.ref g)) (s := .bag g n) ⟨rfl, bo'⟩
      have ew : (wipe σ vs)[i]? = some (some (V.ref g)) := (wipe_out hiv).trans ex0
      have ew2 : (wipe σ vs).set i (some (V.ref g)) = wipe σ vs := by
        apply List.ext_getElem?
        intro j
        rw [List.getElem?_set]
        by_cases z : i = j
        · subst z
          rw [if_pos rfl, if_pos (List.getElem?_eq_some_iff.mp ew).1, ew]
        · rw [if_neg z]
      rw [ew2] at h2
      exact h2
    have rx' : Rp (gh ⟨hd', [g], H'⟩ ((hideAt vs 0 ρ1).set i (.bag g n)) H') x ds[k'] := by
      rw [em]
      refine rx _ up fun a ma => ?_
      rcases List.mem_cons.mp ma with z | z
      · rw [z]; exact (mask_out nD).trans hD
      · exact mask_in z
    refine hb1 s Hb C cl fp _ (wipe σ vs) H' x _ S2 rx' fun σ2 ρ2 h2 S3 g3 e3 => ⟨?_, ?_⟩
    · rw [wipe_same e3.1 fun j hj => e3.2 j fun m => hj (hjs j m)]
      exact wipe_same (wipe_length σ vs) fun j hj => wipe_out hj
    · unfold tYes
      dsimp only
      rw [if_pos rfl]
      refine fun s Hb C cl fp => h2 s Hb C cl fp _ σ2 H' _ S3 fun y H4 d ρ4 ⟨n', hb4, hI4⟩ S5 g5 r5 => ?_
      have fr : ∀ a o, a ≠ g → H' a = some o → H4 a = some o := fun a o ha e => S5.fr a o (fun z => ha (List.mem_singleton.mp z)) e
      obtain ⟨_, _, _, bo4⟩ := S5.sl.get hb4
      have eD4 : H4 D = some (.lst us) := fr _ _ Dg (sH _ _ eD)
      have c2 : RpAll (mask (D :: (F.hd ++ os ρ1)) H4) us acc := RpAll.up (fun a o e => by
        obtain ⟨na, ea⟩ := mask_some e
        rw [mask_out na]
        exact fr a o (fun z => na (by rw [z]; exact List.mem_cons_of_mem _ (List.mem_append_right _ mo))) (sH a o ea)) _ _ rD
      have em2 : mask (D :: (F.hd ++ os ρ1)) (upd H4 D (.lst (us ++ [y]))) = mask (D :: (F.hd ++ os ρ1)) H4 := by
        funext a
        by_cases ha : a ∈ D :: (F.hd ++ os ρ1)
        · rw [mask_in ha, mask_in ha]
        · rw [mask_out ha, mask_out ha, upd_ne fun z => ha (by rw [z]; exact List.mem_cons_self)]
      refine ⟨us, eD4, big_lt (by rw [c2.length]; omega), fun a o ha ea => ?_, us ++ [y], acc ++ [d], n', upd_same, ?_, hI4, by rw [List.length_append, la]; rfl, ?_⟩
      · rw [upd_ne (ne_of_none ea hD)]
        exact fr a o ha (sH a o (s1 a o ha ea))
      · obtain ⟨z1, w1, t1, e1, r⟩ := bo4
        exact ⟨z1, w1, t1, by rw [upd_ne fun z => Dg z.symm]; exact e1, r⟩
      · rw [em2]
        exact c2.app (.cons (Rp.up (mask_sub (cov hb4)) _ _ r5) .nil)
  · have e : k' = ds.length := by omega
    subst e
    refine .inl ⟨jo.stop _ H sG rfl, ?_⟩
    have hg2 : H g ≠ none := by
      obtain ⟨z2, w2, t2, eo, hw⟩ := id bo
      rw [eo]
      exact fun z => nomatch z
    have eo2 : os (ρ1.set i (.bag g n)) = os ρ1 := os_set_same hb0 rfl
    obtain ⟨S2, ge⟩ := S1.chg (s := .bag g n) (H2 := H) hb0 rfl rfl s1 hg2 fun x ⟨ex, _⟩ => ⟨ex, bo⟩
    refine k _ H _ _ (hen acc n la hI) S2 (g1.trans ge) (.lst ?_ (RpAll.up (mask_sub fun a ma => ?_) _ _ rD))
    · rw [show gh F (ρ1.set i (.bag g n)) H = mask (F.hd ++ os ρ1) H by unfold gh; rw [eo2]]
      exact (mask_out nD).trans eD
    · rw [eo2] at ma
      exact List.mem_cons_of_mem _ ma
end
end DL

namespace DL
open PySem PySem.Spec PyProof.Rows L2
/-! ### isinstance(x, (bool, list, tuple)); equality of data -/
def isBLT (d : PyData) : Bool := isB d || (isL d || isT d)
theorem kit_blt (K : PySem.W.Frag) (d : PyData) : PySem.W.kitAny K (.type (tyD d)) [.type "bool", .type "list", .type "tuple"] = some (isBLT d) := by
  refine kitAny_cons (kit_ty (kit_bool d)) (fun h1 => ?_) (fun h1 => by unfold isBLT; rw [h1]; rfl)
  refine kitAny_cons (kit_ty (kit_list d)) (fun h2 => ?_) (fun h2 => by unfold isBLT; rw [h2, h1]; rfl)
  refine kitAny_cons (kit_ty (kit_tup d)) (fun h3 => ?_) (fun h3 => by unfold isBLT; rw [h3, h2, h1]; rfl)
  unfold isBLT; rw [h3, h2, h1]; exact kitAny_nil
section
variable {X : Cx} {ρ : List Sl} {e : Expr} {pos : Pos} {Φ : PyData → List Sl → Prop}
theorem ee_isBLT {p p1 p2 p3 pt : Pos} {kt} (ck : CK X) (h : EE X ρ e fun d ρ1 => Φ (.bool (isBLT d)) ρ1) (hg : Gl X "isinstance" := by rfl) (g1 : Gl X "bool" := by rfl) (g2 : Gl X "list" := by rfl) (g3 : Gl X "tuple" := by rfl)
    (he : starEach [e, .Tuple [.Name "bool" p1, .Name "list" p2, .Name "tuple" p3] kt pt] X.env = (false, eval e X.env) :: starEach [.Tuple [.Name "bool" p1, .Name "list" p2, .Name "tuple" p3] kt pt] X.env := by rfl) : EE X ρ (.Call (.Name "isinstance" p) [e, .Tuple [.Name "bool" p1, .Name "list" p2, .Name "tuple" p3] kt pt] [] pos) Φ := fun F σ H Q S k =>
  ofPE (pe_callB call_isiT hg (ck.bt _ (by simp [bNames])) (by decide +kernel) (pa_cons peW (pa_cons (pe_tup (pa_cons (pe_bltn (v := .ty "bool") g1 (ck.bt _ (by simp [bNames])) (by decide +kernel) rfl) (pa_cons (pe_bltn (v := .ty "list") g2 (ck.bt _ (by simp [bNames])) (by decide +kernel) rfl) (pa_cons (pe_bltn (v := .ty "tuple") g3 (ck.bt _ (by simp [bNames])) (by decide +kernel) rfl) pa_nil)))) pa_nil) he) (by decide) (by decide) he rfl)
    (h F σ H _ S fun v H' d ρ' q S' g r => ⟨big_le (by decide), fun tp hp => ⟨v, tp, _, _, _, _, rfl, upd_same, .cons (.ty _) (.cons (.ty _) (.cons (.ty _) .nil)), (Rp.up (mask_le.trans (same_new hp)) _ _ r).ty, kit_blt _ d, k _ _ _ ρ' q (S'.ext (same_new hp)) (g.trans (S'.gext (same_new hp))) (.bl _)⟩⟩)
end
/-- equal data, as a test -/
noncomputable def dEq (a b : PyData) : Bool := @decide (a = b) (Classical.propDecidable _)
theorem dEq_t {a b : PyData} (h : a = b) : dEq a b = true := by unfold dEq; exact @decide_eq_true _ (_) h
theorem dEq_f {a b : PyData} (h : a ≠ b) : dEq a b = false := by unfold dEq; exact @decide_eq_false _ (_) h
theorem dEq_of {a b : PyData} {r : Bool} (h : r = true ↔ a = b) : r = dEq a b := by
  cases r with
  | true => exact (dEq_t (h.mp rfl)).symm
  | false => exact (dEq_f fun e => nomatch h.mpr e).symm
theorem dEq_iff {a b : PyData} : dEq a b = true ↔ a = b := by unfold dEq; exact @decide_eq_true_iff _ (_)
/-- data of whole numbers, yes and no, none; lists, tuples of such, n deep -/
def Nst : Nat → PyData → Prop
  | _, .int _ => True
  | _, .bool _ => True
  | _, .none => True
  | n + 1, .list xs => xs.length ≤ 1000000 ∧ ∀ x ∈ xs, Nst n x
  | n + 1, .tuple xs => xs.length ≤ 1000000 ∧ ∀ x ∈ xs, Nst n x
  | _, _ => False
end DL

namespace DL
open PySem PySem.Spec PyProof.Rows L2 HT
/-! ### t[::-1], t a tuple -/
section
variable {prog : Program} {w : World} {A : Around} {E : Value → Shared → Prop} {s : Shared}
theorem back_places (n : Nat) : Builtin.Slice.slicePlaces ((n : Int) - 1) (-1) (-1) = n := by
  unfold Builtin.Slice.slicePlaces
  rw [if_neg (by decide)]
  by_cases h : (n : Int) - 1 > -1
  · rw [if_pos h, show (-(-1) : Int) = 1 by decide, Int.ediv_one]; omega
  · rw [if_neg h]; omega
theorem back_slice {sl : Addr} {vs : Value} {n : Nat} {Q : Int × Int × Nat → Shared → Prop} (sh : s.heap.IsSliceOf sl .none .none vs) (sp : IsPart vs (some (-1))) (q : Q ((n : Int) - 1, -1, n) s) :
    wpAny (model prog w) A (Builtin.Slice.sliceApplied (.ref sl) (pure (n : Int))) Q E s := by
  obtain ⟨ob, a1, a2, a3⟩ := sh
  unfold Builtin.Slice.sliceApplied Builtin.Slice.sliceFields
  refine wpAny_bind (wpAny_bind (wpAny_field a1 a3 (x := Value.none) rfl (wpAny_bind (wpAny_field a1 a3 (x := Value.none) rfl (wpAny_bind (wpAny_field a1 a3 (x := vs) rfl (wpAny_pure ?_)))))))
  refine wpAny_bind (slicePart_ sp ?_)
  show wpAny _ _ (if ((-1 : Int) == 0) = true then _ else _) _ _ s
  rw [if_neg (show ¬ ((-1 : Int) == 0) = true by decide)]
  refine wpAny_bind (slicePart_none (wpAny_bind (slicePart_none (wpAny_bind (wpAny_pure ?_)))))
  show wpAny _ _ (pure ((n : Int) - 1, (-1 : Int), Builtin.Slice.slicePlaces ((n : Int) - 1) (-1) (-1))) _ _ s
  rw [back_places]
  exact wpAny_pure q
theorem fm_congr {α β : Type} {f g : α → Option β} : ∀ l : List α, (∀ x ∈ l, f x = g x) → l.filterMap f = l.filterMap g
  | [], _ => rfl
  | x :: r, h => by
    rw [List.filterMap_cons, List.filterMap_cons, h x (.head _), fm_congr r fun y hy => h y (.tail _ hy)]
theorem back_pick (xs : Array Value) : ((List.range xs.size).filterMap fun (m : Nat) => xs[(((xs.size : Int) - 1) + (m : Int) * (-1)).toNat]?).toArray = xs.toList.reverse.toArray := by
  have e1 : ((List.range xs.size).filterMap fun (m : Nat) => xs[(((xs.size : Int) - 1) + (m : Int) * (-1)).toNat]?) = ((List.range xs.size).map fun k => xs.size - 1 - k).filterMap (xs[·]?) := by
    rw [List.filterMap_map]
    refine fm_congr _ fun m hm => ?_
    have hm := List.mem_range.mp hm
    show _ = xs[xs.size - 1 - m]?
    rw [show (((xs.size : Int) - 1) + (m : Int) * (-1)).toNat = xs.size - 1 - m by omega]
  rw [e1, PySem.W.krv_range, List.filterMap_reverse, PySem.W.krv_all]
theorem back_item {t sl : Addr} {xs : Array Value} {vs : Value} {Q : Value → Shared → Prop} (tp : IsTup s.heap t xs) (sh : s.heap.IsSliceOf sl .none .none vs) (sp : IsPart vs (some (-1)))
    (q : Q (.ref s.heap.objs.size) { s with heap := s.heap.push { cls := .type "tuple", data := .seq xs.toList.reverse.toArray } }) (zx : xs.size ≤ sizeLine) : wpAny (model prog w) A (getItem (.ref t) (.ref sl)) Q E s := by
  have fit : sizeOk (.seq xs.toList.reverse.toArray) := by
    show xs.toList.reverse.toArray.size ≤ sizeLine
    rw [List.size_toArray, List.length_reverse, Array.length_toList]
    exact zx
  obtain ⟨ob, a1, a2, a3⟩ := id sh
  have st : s.TypeIs (.ref sl) "slice" := ⟨ob, a1, a2⟩
  unfold getItem
  try with_reducible refine wpAny_holding ?_
  try refine wpAny_bind (wpAny_pure ?_)
  refine wpAny_bind (wpAny_sequenceKey tp.typeIs (by decide) ?_)
  refine wpAny_bind (wpAny_callSpecial?_slot (name := Str.ofString "__getitem__") tp.typeIs PyProof.Rows.slot_tuple_getitem (wpAny_call_entry PyProof.Rows.slot_tuple_getitem tp.typeIs entry_tuple_getitem ?_ (args_tuple_getitem _ _)))
  show wpAny _ _ (Builtin.Tuple.tupleItemsOf (.ref t) >>= _) _ _ s
  refine wpAny_bind (tupleItemsOf_ tp (wpAny_bind (wpAny_typeOf st ?_)))
  rw [if_pos (show (_ : Bool) = true by decide)]
  refine wpAny_bind (back_slice sh sp ?_)
  show wpAny _ _ (if ((((xs.size : Nat) : Int) - 1) == 0 && (-1 : Int) == 1 && xs.size == xs.size) = true then _ else _) _ _ s
  rw [if_neg (by rw [show ((-1 : Int) == 1) = false by decide, Bool.and_false, Bool.false_and]; exact Bool.false_ne_true), back_pick]
  first
    | exact wpAny_bind (m := Builtin.Tuple.tupleExact _) (wpAny_newObj_type (wpAny_pure ⟨_, rfl, wpAny_pure q⟩) fit)
    | exact wpAny_bind (m := Builtin.Tuple.tupleExact _) (wpAny_newObj_type (wpAny_bind (wpAny_pure (wpAny_pure ⟨_, rfl, wpAny_pure q⟩))) fit)
    | exact wpAny_bind (wpAny_bind (m := Builtin.Tuple.tupleExact _) (wpAny_newObj_type (wpAny_pure (wpAny_pure ⟨_, rfl, wpAny_pure q⟩)) fit))
    | exact wpAny_bind (wpAny_bind (m := Builtin.Tuple.tupleExact _) (wpAny_newObj_type (wpAny_pure ⟨_, rfl, wpAny_pure q⟩) fit))
end
section
variable {X : Cx}
def tBackT (K : PySem.W.Frag) (te : TE) : TE := fun σ H Q => te σ H fun x H1 => ∃ a xs, x = .ref a ∧ SqT K H1 a xs ∧ ∀ p, H1 p = none → Q (.ref p) (upd H1 p (.tup xs.reverse))
theorem pe_backT {e : Expr} {te : TE} {k : Nat} {p1 p2 p3 pos : Pos} (pe : PE X e te) : PE X (.Subscript e (.Slice none none (some (.UnaryOp .USub (.Constant (.int 1) k p1) p2)) p3) pos) (tBackT X.K te) := ⟨fun pins s σ H Q I0 h => by
  refine Subscript_ (thn (pe.run pins s σ H _ I0 h) fun v s1 ⟨x, H1, J1, r1, a, xs, ex, sq, q⟩ => ?_)
  subst ex
  cases r1
  have part : PO X (some (.UnaryOp .USub (.Constant (.int 1) k p1) p2)) (tPart (tUn (rU fun i => .int (-i)) (tC (.int 1)))) := po_some (pe_un un_neg pe_int)
  refine wpAny_Slice (thn (po_none.run pins s1 σ H1 (fun o G => o = none ∧ G = H1) J1 ⟨rfl, rfl⟩) fun b1 s2 ⟨o1, G1, J2, c1, d1, f1⟩ => ?_)
  subst d1 f1
  refine thn (po_none.run pins s2 σ _ (fun o G => o = none ∧ G = G1) J2 ⟨rfl, rfl⟩) fun b2 s3 ⟨o2, G2, J3, c2, d2, f2⟩ => ?_
  subst d2 f2
  refine thn (part.run pins s3 σ _ (fun o G => o = some (-1) ∧ G = G2) J3 ⟨1, rfl, -1, rfl, rfl, rfl⟩) fun b3 s4 ⟨o3, G3, J4, c3, d3, f3⟩ => ?_
  subst d3 f3
  cases c1
  cases c2
  have J5 : Inv X pins σ G3 { s4 with heap := s4.heap.push { cls := .type "slice", data := .fields #[.none, .none, b3] } } := J4.kept (t' := s4.toks) fun b ob z => Heap.get?_push_of_some _ z
  obtain ⟨its, r, tp, zx⟩ := J5.tuple sq
  have ln := r.length
  show wpAny (model X.prog X.w) X.A (subscriptTail e (.Slice none none (some (.UnaryOp .USub (.Constant (.int 1) k p1) p2)) p3) (.ref a) (.ref s4.heap.objs.size)) (EP X pins σ Q) X.xe { s4 with heap := s4.heap.push { cls := .type "slice", data := .fields #[.none, .none, b3] } }
  refine tail_any (ops := [.ref a, .ref s4.heap.objs.size]) tp.typeIs (PyProof.Rows.slot_tuple_getitem.lookup) ?_ (by with_unfolding_all rfl)
  refine back_item tp (Heap.IsSliceOf.new _ .none .none b3) c3 ?_ (by rw [List.size_toArray]; omega)
  refine ⟨.ref _, _, J5.laid (t' := s4.toks) (o := .tup xs.reverse) (fun b ob z => Heap.get?_push_of_some _ z) (Nat.le_refl _) ?_, rfl, q _ (J5.hok.fresh (Nat.le_refl _))⟩
  exact ⟨by rw [List.length_reverse]; exact zx, _, r.reverse, IsTup.new _ _⟩⟩
variable {ρ : List Sl} {e : Expr} {pos : Pos} {Φ : PyData → List Sl → Prop}
theorem ee_back {k : Nat} {p1 p2 p3 : Pos} (h : EE X ρ e fun d ρ1 => ∃ xs, d = .tuple xs ∧ Φ (.tuple xs.reverse) ρ1) : EE X ρ (.Subscript e (.Slice none none (some (.UnaryOp .USub (.Constant (.int 1) k p1) p2)) p3) pos) Φ := fun F σ H Q S k =>
  ofPE (pe_backT peW) (h F σ H _ S fun v H' d ρ' ⟨xs, ed, q⟩ S' g r => by
    subst ed
    cases r with
    | tup e1 r1 => exact ⟨_, _, rfl, .inl (same_rd mask_le e1), fun p hp => (k.to g).new S' hp q fun e => .tup (.inl e) (RpAll.up (mask_same (same_new hp)) _ _ r1).rv⟩)
end
end DL

namespace DL
open PySem PySem.Spec PyProof.Rows L2
/-! ### statements ahead of the law's loop: the script's slot is kept -/
theorem tB_pre {X : Cx} {st : Stmt} {rest : List Stmt} {a : Addr} {n : Nat} {σ : L2.St} {H : Hp} {E : Ends} (l : σ.length = n + 1) (hσ : σ[0]? = some (some (.ref a)))
    (h : SS X (.raw (.ref a) :: List.replicate n .non) st { nx := fun ρ => ρ.length = n + 1 ∧ ρ[0]? = some (.raw (.ref a)), rt := fun _ _ => False })
    (k : ∀ σ' H', σ'.length = n + 1 → σ'[0]? = some (some (.ref a)) → Same H H' → tB X rest E σ' H') : tB X (st :: rest) E σ H := by
  match σ, l, hσ with
  | x :: σ, l, hσ =>
    have l' : σ.length = n := Nat.succ.inj l
    have ex : x = some (.ref a) := Option.some.inj hσ
    subst ex
    subst l'
    have eo : os (.raw (.ref a) :: List.replicate σ.length Sl.non) = [] := os_non _
    refine ofPSs (pss_cons psW pssW) (h ⟨[], [], H⟩ _ H _ ⟨(fun _ m => nomatch m), fun a o _ e => e, fun a e => e, by rw [eo]; exact List.nodup_nil, (fun a m => by rw [eo] at m; cases m), (fun a m => by rw [eo] at m; cases m), ⟨rfl, non_slots σ⟩⟩
      ⟨fun σ' H' ρ' hr S' g => k σ' H' (S'.len.trans hr.1) ?_ (fun a o e => S'.fr a o (fun z => nomatch z) e), fun _ _ _ _ _ z => z.elim, fun _ _ _ z => z.elim, fun _ _ _ z => z.elim⟩)
    obtain ⟨y, e, q⟩ := S'.sl.get hr.2
    rw [e, show y = some (V.ref a) from q]
end DL

namespace DL
open PySem PySem.Spec PyProof.Rows L2
/-! ### sum of a tuple, sorted, a list's membership, an own list against [] -/
section
variable {X : Cx} {ρ : List Sl} {e a b : Expr} {pos : Pos} {Φ : PyData → List Sl → Prop}
theorem cr_sumT (hc : X.calm = true) : CallR X (.builtin "sum") (fun vs H Q => ∃ (a : Addr) (ns : List Int), vs = [V.ref a] ∧ SqT X.K H a (ns.map V.int) ∧ Q (.int ns.sum) H) := by
  intro pins s σ H vs us Q I r h
  obtain ⟨a, ns, rfl, hs, q⟩ := h
  obtain ⟨its, rv, ht, _⟩ := I.tuple hs
  rw [Vals.ref1 r]
  have hi := rv.ints
  obtain ⟨xs, e⟩ := hi.allInts.items
  have hn : PySem.numsOf (PySem.intItems xs).toList = ns := by rw [← e]; exact hi.numsOf
  rw [PySem.nums_intItems] at hn
  rw [e] at ht
  refine PySem.W.ktm_sumG (I.ok.hd hc) ht fun h' tk t' hk => ?_
  have q' : Q (.int (PySem.preSum (PySem.numAt xs) xs.size)) H := by
    rw [PySem.preSum_eq, List.take_of_length_le (by simp), hn]
    exact q
  exact ⟨.int _, H, I.kept hk, ⟨_, rfl⟩, q'⟩
@[reducible] def sumTK (ds : List PyData) (k : PyData → Prop) : Prop := ∃ ns : List Int, ds = [.tuple (ns.map .int)] ∧ k (.int ns.sum)
theorem ee_sumT {p : Pos} (ck : CK X) (h : EA X ρ [e] fun ds ρ1 => sumTK ds fun d => Φ d ρ1) (hg : Gl X "sum" := by rfl) (he : starEach [e] X.env = (false, eval e X.env) :: starEach [] X.env := by rfl) : EE X ρ (.Call (.Name "sum" p) [e] [] pos) Φ :=
  ee_callB (cr_sumT ck.calm) (ck.bt _ (by simp [bNames])) (by decide +kernel) (fun F σ H Q S k => h F σ H Q S fun vs H' ds ρ' q => k vs H' ds ρ' (fun F σ H vs Q S r k => by
    obtain ⟨ns, rfl, q⟩ := q
    match r with
    | .cons (.tup e r) .nil => exact ⟨_, ns, rfl, .inl (by rw [← r.ints]; exact same_rd mask_le e), k.same S q (.int _)⟩)) hg (by decide) (by decide) he rfl
@[reducible] def sortK (ds : List PyData) (k : PyData → Prop) : Prop := ∃ ns : List Int, ds = [.list (ns.map .int)] ∧ ∀ ms : List Int, ms.Perm ns → ms.Pairwise (· ≤ ·) → k (.list (ms.map .int))
theorem ee_sorted {p : Pos} (ck : CK X) (h : EA X ρ [e] fun ds ρ1 => sortK ds fun d => Φ d ρ1) (hg : Gl X "sorted" := by rfl) (he : starEach [e] X.env = (false, eval e X.env) :: starEach [] X.env := by rfl) : EE X ρ (.Call (.Name "sorted" p) [e] [] pos) Φ :=
  ee_callB cr_sortedI (ck.bt _ (by simp [bNames])) (by decide +kernel) (fun F σ H Q S k => h F σ H Q S fun vs H' ds ρ' q => k vs H' ds ρ' (fun F σ H vs Q S r k => by
    obtain ⟨ns, rfl, q⟩ := q
    match r with
    | .cons (.lst e r) .nil =>
      exact ⟨_, ns, rfl, .of (by rw [← r.ints]; exact mask_le _ _ e), fun ms p hp hw hn => k.new S hn (q ms hp hw) fun e => .lst e (RpAll.ofInts ms)⟩)) hg (by decide) (by decide) he rfl
theorem br_in (ck : CK X) {da : PyData} {ds : List PyData} {k : Bool → Prop} (h : (SeqAt.shaped da = true ∧ SeqAt.shaped (.list ds) = true) ∧ k (ds.any fun z => PyData.eqv z da)) : BR X .In da (.list ds) k := fun F σ H ρ x y S rx ry =>
  ⟨_, op_inD (by have := ck.hu; omega), fun Q q => ⟨da, ds, (Rp.up mask_le _ _ rx).dp (lay_of h.1.1), (Rp.up mask_le _ _ ry).dp (lay_of h.1.2), h.1.1, h.1.2, q _ h.2⟩⟩
/-- found != [], found a list of one's own -/
theorem et_ownNe (i : Nat) {x : Str} {p2 p3 : Pos} {l : Addr} {ds : List PyData} {Ψ : Bool → List Sl → Prop} (ck : CK X) (hs : ρ[i]? = some (.own l ds)) (hsh : SeqAt.shaped (.list ds) = true) (q : Ψ (!PyData.eqv (.list ds) (.list [])) ρ) (hN : X.N[i]? = some x := by rfl)
    (hv : Vis X.env.scope x := by first | exact Or.inl rfl | exact Or.inr (Or.inl rfl) | exact Or.inr (Or.inr rfl)) (hd : (x == ("__debug__" : Str)) = false := by decide) (hcd : (x == ("__classdict__" : Str)) = false := by decide) : ET X ρ (.Compare (.Name x p2) [.NotEq] [.List [] p3] pos) Ψ := fun F σ H Q S k => by
  obtain ⟨y, e1, e2, vs, e3, r3⟩ := S.sl.get hs
  subst e2
  refine ofPT (pt_cmpR (op_neD (by have := ck.hu; omega)) (pe_var hN hv hd hcd) (pe_lst pa_nil) rfl) ⟨_, e1, (by show 0 ≤ sizeLine; exact Nat.zero_le _), fun p hp => ?_⟩
  have s2 := same_new (o := .lst []) hp
  have S2 := S.ext s2
  refine ⟨.list ds, .list [], .lst (.of (s2 _ _ e3)) ((RpAll.up (mask_le.trans s2) _ _ r3).dp (by have := lay_of hsh; simpa [PyData.canLay0] using this)), .lst (.of upd_same) .nil, hsh, by decide, ⟨_, rfl, k _ _ ρ q S2 (S.gext s2)⟩⟩
end
end DL

namespace DL
open PySem PySem.Spec PyProof.Rows L2
/-! ### a list that was just made grows: nothing else knows it -/
/-- no lists in it: it reads the same where all lists are hidden -/
theorem rd_mask {H : Hp} {l : List Addr} {a : Addr} {u : HO} (h : Rd H a u) (n : a ∉ l) : Rd (mask l H) a u := h.elim (fun e => .inl ((mask_out n).trans e)) fun ⟨o, e⟩ => .inr ⟨o, (mask_out n).trans e⟩
def TupO (d : PyData) : Prop := ∀ (G : Hp) (v : V) (l : List Addr), Rp G v d → (∀ a ∈ l, ∃ xs, G a = some (.lst xs)) → Rp (mask l G) v d
theorem tupO_int (i : Int) : TupO (.int i) := fun G v l r _ => by cases r; exact .int i
theorem tupO_tup {ds : List PyData} (h : ∀ d ∈ ds, TupO d) : TupO (.tuple ds) := fun G v l r hl => by
  cases r with
  | tup e r =>
    refine .tup (rd_mask e fun m => ?_) ?_
    · obtain ⟨xs, e'⟩ := hl _ m
      rcases e with e | ⟨o, e⟩ <;> (rw [e] at e'; cases e')
    · have : ∀ {ds : List PyData} {vs : List V}, RpAll G vs ds → (∀ d ∈ ds, TupO d) → RpAll (mask l G) vs ds := by
        intro ds vs r
        induction ds generalizing vs with
        | nil => intro _; cases r; exact .nil
        | cons d ds ih =>
          intro h
          cases r with
          | cons r1 r2 => exact .cons (h d (.head _) G _ l r1 hl) (ih r2 fun x hx => h x (.tail _ hx))
      exact this r h
/-- slots, some of them left out; those that stay hold no lists -/
inductive Thin : List Sl → List Sl → Prop
  | nil : Thin [] []
  | out {s : Sl} {ρ ρA : List Sl} : Thin ρ ρA → Thin (s :: ρ) (.non :: ρA)
  | keep {d : PyData} {ρ ρA : List Sl} : TupO d → Thin ρ ρA → Thin (.dat d :: ρ) (.dat d :: ρA)
theorem Thin.os {ρ ρA : List Sl} (t : Thin ρ ρA) : DL.os ρA = [] := by
  induction t with
  | nil => rfl
  | out _ ih => exact ih
  | keep _ _ ih => exact ih
theorem Thin.slots {G H : Hp} {l : List Addr} (hl : ∀ a ∈ l, ∃ xs, G a = some (.lst xs)) {ρ ρA : List Sl} (t : Thin ρ ρA) : ∀ {σ : L2.St}, SlotsOk G H σ ρ → SlotsOk (mask l G) H σ ρA := by
  induction t with
  | nil => intro σ h; cases σ with
    | nil => trivial
    | cons _ _ => exact h.elim
  | out _ ih =>
    intro σ h
    cases σ with
    | nil => exact h.elim
    | cons x σ => exact ⟨trivial, ih h.2⟩
  | keep td _ ih =>
    intro σ h
    cases σ with
    | nil => exact h.elim
    | cons x σ =>
      obtain ⟨v, e, r⟩ := h.1
      exact ⟨⟨v, e, td _ _ _ r hl⟩, ih h.2⟩
/-- the lists that stand in a heap, up to a size -/
noncomputable def listsIn (n : Nat) (H : Hp) : List Addr := (List.range n).filter fun a => @decide (∃ xs, H a = some (.lst xs)) (Classical.propDecidable _)
theorem listsIn_iff {n : Nat} {H : Hp} {a : Addr} : a ∈ listsIn n H ↔ a < n ∧ ∃ xs, H a = some (.lst xs) := by
  unfold listsIn
  rw [List.mem_filter, List.mem_range, @decide_eq_true_iff _ (Classical.propDecidable _)]
theorem mask_app (l m : List Addr) (H : Hp) : mask (l ++ m) H = mask m (mask l H) := by
  funext a
  by_cases h1 : a ∈ l
  · rw [mask_in (List.mem_append_left _ h1)]
    by_cases h2 : a ∈ m
    · rw [mask_in h2]
    · rw [mask_out h2, mask_in h1]
  · by_cases h2 : a ∈ m
    · rw [mask_in (List.mem_append_right _ h2), mask_in h2]
    · rw [mask_out fun z => (List.mem_append.mp z).elim h1 h2, mask_out h2, mask_out h1]
section
variable {X : Cx} {ρ ρA : List Sl} {D : DE}
/-- arguments that see no lists: the lists they give are new -/
theorem ta_fresh {es : List Expr} {ds : List PyData} {F : Fm} {σ : L2.St} {H : Hp} {Q : List V → Hp → Prop} (S : Stt F H σ ρ) (ho : os ρ = []) (th : Thin ρ ρA) (h : EA X ρA es fun ds' ρ' => ds' = ds ∧ ρ' = ρA)
    (q : ∀ vs H1, Same H H1 → RpAll (mask F.hd H1) vs ds → (∀ v ∈ vs, ∀ p ws, v = .ref p → H1 p = some (.lst ws) → p ∉ F.hd ∧ H p = none) → Q vs H1) : tA X es σ H Q := by
  unfold tA
  intro pos pins s I
  have eG : gh F ρ H = mask F.hd H := by unfold gh; rw [ho, List.append_nil]
  let L := (listsIn s.heap.objs.size H).filter fun a => decide (a ∉ F.hd)
  have mL : ∀ a, a ∈ L → (∃ xs, H a = some (.lst xs)) ∧ a ∉ F.hd := fun a m => ⟨(listsIn_iff.mp (List.mem_filter.mp m).1).2, of_decide_eq_true (List.mem_filter.mp m).2⟩
  have eA : ∀ H' : Hp, gh ⟨F.hd ++ L, [], H⟩ ρA H' = mask L (mask F.hd H') := fun H' => by
    show mask (F.hd ++ L ++ os ρA) H' = _
    rw [th.os, List.append_nil, mask_app]
  have SA : Stt ⟨F.hd ++ L, [], H⟩ H σ ρA := by
    refine ⟨fun a m => ?_, fun a o _ e => e, fun a e => e, by rw [th.os]; exact List.nodup_nil, (fun a m => by rw [th.os] at m; cases m), (fun a m => by rw [th.os] at m; cases m), ?_⟩
    · rcases List.mem_append.mp m with z | z
      · exact S.hd a z
      · obtain ⟨⟨xs, e⟩, _⟩ := mL a z
        rw [e]; exact fun y => nomatch y
    · rw [eA]
      have := S.sl
      rw [eG] at this
      refine th.slots (fun a m => ?_) this
      obtain ⟨⟨xs, e⟩, n⟩ := mL a m
      exact ⟨xs, (mask_out n).trans e⟩
  have w := h ⟨F.hd ++ L, [], H⟩ σ H Q SA fun vs H1 ds' ρ' ⟨e1, e2⟩ S1 g1 r1 => by
    subst e1
    subst e2
    rw [eA] at r1
    have sm : Same H H1 := fun a o e => S1.fr a o (fun z => nomatch z) e
    refine q vs H1 sm (RpAll.up mask_le _ _ r1) fun v hv p ws ev ep => ?_
    have : ∀ {ds : List PyData} {vs : List V}, RpAll (mask L (mask F.hd H1)) vs ds → V.ref p ∈ vs → p ∉ F.hd ∧ p ∉ L := by
      intro ds vs r
      induction ds generalizing vs with
      | nil => intro m; cases r; cases m
      | cons d ds ih =>
        intro m
        cases r with
        | cons r1 r2 =>
          rcases List.mem_cons.mp m with z | z
          · rw [← z] at r1
            have : mask L (mask F.hd H1) p ≠ none := by
              cases r1 with
              | lst e _ => rw [e]; exact fun y => nomatch y
              | tup e _ => rcases e with e | ⟨o, e⟩ <;> (rw [e]; exact fun y => nomatch y)
              | pln e _ _ => rw [e]; exact fun y => nomatch y
              | bar e _ => rw [e]; exact fun y => nomatch y
            refine ⟨fun y => this ?_, fun y => this (mask_in y)⟩
            by_cases z2 : p ∈ L
            · exact mask_in z2
            · rw [mask_out z2, mask_in y]
          · exact ih r2 z
    obtain ⟨a1, a2⟩ := this r1 (by rw [← ev]; exact hv)
    refine ⟨a1, ?_⟩
    cases hp : H p with
    | none => rfl
    | some o =>
      exfalso
      have e1 := sm p o hp
      rw [ep] at e1
      cases e1
      have lt : p < s.heap.objs.size := by
        rcases Nat.lt_or_ge p s.heap.objs.size with y | y
        · exact y
        · rw [I.hok.fresh y] at hp; cases hp
      exact a2 (List.mem_filter.mpr ⟨listsIn_iff.mpr ⟨lt, ws, hp⟩, decide_eq_true a1⟩)
  unfold tA at w
  exact w pos pins s I
theorem bb_forget (i : Nat) {b : Addr} {n : Nat} {r : List Stmt} (hs : ρ[i]? = some (.bag b n)) (h : BB X (ρ.set i .non) r D) : BB X ρ r D := fun F σ H E S k =>
  h F σ H E (S.wk i rfl fun _ _ => trivial) (k.to (S.gset i rfl))
/-- told = [e0, e1, e2]; if c: ..; if told[0] is not None: told[0].append(None) -/
theorem bb_loose (j : Nat) {x : Str} {px p2 p4 p5 p6 p7 p8 p9 pa pb pc pd pe pos pos2 pos3 epos : Pos} {k0 k1 k2 k3 : Nat} {e0 e1 e2 c : Expr} {ret : List Stmt} {d0 d1 d2 : PyData} (ck : CK X) (ho : os ρ = []) (hj : j < ρ.length) (th : Thin ρ ρA)
    (h1 : EA X ρA [e0, e1, e2] fun ds ρ' => ds = [d0, d1, d2] ∧ ρ' = ρA) (hd0 : d0 = .none ∨ ∃ us, d0 = .list us ∧ us.length < 1000000)
    (h2 : ET X (ρ.set j (.dat (.list [d0, d1, d2]))) c fun b ρ' => b = false ∧ ρ' = ρ.set j (.dat (.list [d0, d1, d2]))) (q : D.nx (ρ.set j .non))
    (hi : X.N[j]? = some x := by rfl) (hx : Loc X.env.scope x := by first | exact Or.inl rfl | exact Or.inr rfl) (hs : swapsWith (.List [e0, e1, e2] p2) (some (.Name x px)) pos.line X.env = pure false := by rfl) (hf : X.fn x = true ∨ X.env.scope.names.lookup x = some .local := by first | exact .inl rfl | exact .inr rfl)
    (hv : Vis X.env.scope x := by first | exact Or.inl rfl | exact Or.inr (Or.inl rfl) | exact Or.inr (Or.inr rfl)) (hd : (x == ("__debug__" : Str)) = false := by decide) (hcd : (x == ("__classdict__" : Str)) = false := by decide)
    (hbase : attributeBase (.Subscript (.Name x p8) (.Constant (.int 0) k2 p9) pa) "append" X.env (eval (.Subscript (.Name x p8) (.Constant (.int 0) k2 p9) pa) X.env) = eval (.Subscript (.Name x p8) (.Constant (.int 0) k2 p9) pa) X.env := by rfl)
    (hfew : ((backTo pd (starEach [.Constant .none k3 pc] X.env)).all (fun x => !x.1) && (backToKw pd (keywordEach [] X.env)).all (fun x => x.1.isSome) && decide ([Expr.Constant .none k3 pc].length + ([] : List Keyword).length + (if ([] : List Keyword).isEmpty then 0 else 1) < 30)) = true := by rfl)
    (hline : (pb.endLine == pd.line) = true := by rfl) (he : starEach [.Constant .none k3 pc] X.env = (false, eval (.Constant .none k3 pc) X.env) :: starEach [] X.env := by rfl)
    (hw : swapsWith (.Call (.Attribute (.Subscript (.Name x p8) (.Constant (.int 0) k2 p9) pa) "append" pb) [.Constant .none k3 pc] [] pd) none pe.line X.env = pure false := by rfl) :
    BB X ρ [.Assign [.Name x px] (.List [e0, e1, e2] p2) pos, .If c ret [] pos2, .If (.Compare (.Subscript (.Name x p4) (.Constant (.int 0) k0 p5) p6) [.IsNot] [.Constant .none k1 p7] epos)
      [.Expr (.Call (.Attribute (.Subscript (.Name x p8) (.Constant (.int 0) k2 p9) pa) "append" pb) [.Constant .none k3 pc] [] pd) pe] [] pos3] D := fun F σ H E S k => by
  refine ofPSs (pss_cons (ps_set ck.nd hi hx (pe_lst paW) hs hf) (pss_cons (ps_if ptW pssW pssW) (pss_cons (ps_if ptW pssW pssW) pssW))) ?_
  refine ta_fresh S ho th h1 fun vs H1 sm r1 fr => ?_
  refine ⟨big_le (by rw [r1.length]; show 3 ≤ 1000000; decide), fun t ht => ?_⟩
  have s1 := same_new (o := .lst vs) ht
  have tF : t ∉ F.hd := fun m => by
    have := S.hd t m
    cases q0 : H t with
    | none => exact this q0
    | some o => rw [sm t o q0] at ht; cases ht
  have oB : os (ρ.set j (.dat (.list [d0, d1, d2]))) = [] := by
    have : ∀ a, a ∉ os (ρ.set j (.dat (.list [d0, d1, d2]))) := fun a m => by
      rcases os_set_sub m with z | z
      · cases z
      · rw [ho] at z; cases z
    exact List.eq_nil_iff_forall_not_mem.mpr this
  have gB : ∀ (hd : List Addr) (po : List Addr) (H0 H' : Hp), gh ⟨hd, po, H0⟩ (ρ.set j (.dat (.list [d0, d1, d2]))) H' = mask hd H' := fun hd po H0 H' => by unfold gh; rw [oB, List.append_nil]
  have eG : gh F ρ H = mask F.hd H := by unfold gh; rw [ho, List.append_nil]
  have sH : Same H (upd H1 t (.lst vs)) := sm.trans s1
  have SB : Stt ⟨F.hd, [], upd H1 t (.lst vs)⟩ (upd H1 t (.lst vs)) (σ.set j (some (.ref t))) (ρ.set j (.dat (.list [d0, d1, d2]))) := by
    refine ⟨fun a m => ?_, fun a o _ e => e, fun a e => e, by rw [oB]; exact List.nodup_nil, (fun a m => by rw [oB] at m; cases m), (fun a m => by rw [oB] at m; cases m), ?_⟩
    · cases q0 : H a with
      | none => exact absurd q0 (S.hd a m)
      | some o => rw [sH a o q0]; exact fun z => nomatch z
    · rw [gB]
      have sl := S.sl
      rw [eG] at sl
      have up := sl.up (H' := upd H1 t (.lst vs)) (mask_same sH) fun a m => by rw [ho] at m; cases m
      exact up.set j (s := .dat (.list [d0, d1, d2])) ⟨_, rfl, .lst ((mask_out tF).trans upd_same) (RpAll.up (mask_same s1) _ _ r1)⟩
  refine h2 _ _ _ _ SB fun b H2 ρ' ⟨eb, eρ⟩ S2 g2 => ?_
  subst eb
  subst eρ
  refine iteF (ofPSs pss_nil ?_)
  have m2 : Same (upd H1 t (.lst vs)) H2 := fun a o e => S2.fr a o (fun z => nomatch z) e
  have SB2 : Stt ⟨F.hd, [], H2⟩ H2 (σ.set j (some (.ref t))) (ρ.set j (.dat (.list [d0, d1, d2]))) := ⟨S2.hd, fun a o _ e => e, fun a e => e, S2.nd, (fun a m => by rw [oB] at m; cases m), S2.ap, S2.sl⟩
  have tst : ET X (ρ.set j (.dat (.list [d0, d1, d2]))) (.Compare (.Subscript (.Name x p4) (.Constant (.int 0) k0 p5) p6) [.IsNot] [.Constant .none k1 p7] epos) fun b ρ' => b = (!isNone d0) ∧ ρ' = ρ.set j (.dat (.list [d0, d1, d2])) :=
    et_cmp <| ee_ix <| ee_var j (List.getElem?_set_self hj) (hN := hi) (hv := hv) (hd := hd) (hcd := hcd) <| ee_int <| ⟨d0, rfl, ee_non <| br_notN ⟨rfl, rfl⟩⟩
  refine tst _ _ _ _ SB2 fun b H3 ρ' ⟨eb, eρ⟩ S3 g3 => ?_
  subst eb
  subst eρ
  have m3 : Same H2 H3 := fun a o e => S3.fr a o (fun z => nomatch z) e
  have sH3 : Same H H3 := (sH.trans m2).trans m3
  have fin : ∀ H', Same H H' → E.nx (σ.set j (some (.ref t))) H' := fun H' s' => by
    have S5 := (S.ext s').set j (s := .non) (v := .ref t) rfl trivial
    exact k.nx _ _ _ q S5 ((S.gext s').trans ((S.ext s').gset j rfl))
  have et : H3 t = some (.lst vs) := m3 _ _ (m2 _ _ upd_same)
  rcases hd0 with z | ⟨us, z, lu⟩
  · subst z
    exact iteF (ofPSs pss_nil (ofPSs pss_nil (fin H3 sH3)))
  · subst z
    refine iteT (ofPSs (pss_one (ps_expr (pe_bm PySem.F.plainAttrs_list PySem.F.slot_list_append PySem.F.type_list_append mt_append (pe_ix ix_list (pe_var hi hv hd hcd) pe_int (fun _ _ => rfl)) (pa_cons pe_non pa_nil he) hbase hfew hline he rfl) hw)) ?_)
    match r1 with
    | .cons (.lst (a := p) (xs := ws) ep rp) (.cons _ (.cons _ .nil)) =>
      have ep' : H1 p = some (.lst ws) := mask_le _ _ ep
      obtain ⟨pF, pn⟩ := fr _ (.head _) p ws rfl ep'
      have ep3 : H3 p = some (.lst ws) := m3 _ _ (m2 _ _ (s1 _ _ ep'))
      have lj : j < σ.length := by rw [S.len]; exact hj
      refine ⟨.ref t, List.getElem?_set_self lj, t, _, 0, .ref p, rfl, rfl, .of et, rfl, .inl ⟨rfl, _, .of ep3⟩, p, ws, .non, rfl, rfl, ep3, big_lt (by rw [rp.length]; exact lu), ?_⟩
      refine ofPSs pss_nil (fin _ fun a o e => ?_)
      rw [upd_ne fun z => by rw [z, pn] at e; cases e]
      exact sH3 a o e
end
end DL

namespace DL
open PySem PySem.Spec PyProof.Rows L2
/-! ### max, min of a pair -/
section
variable {prog : Program} {w : World} {A : Around} {E : Value → Shared → Prop} {s : Shared}
theorem max_tup {t : Addr} {xs : Array (Int × Tok)} {Q : Value → Shared → Prop} (hh : A.handled = none) (tp : s.heap.IsTuple t (intItems xs)) (ne : 0 < xs.size)
    (q : ∀ i h' tk u, i < xs.size → (∀ j, j < xs.size → numAt xs j ≤ numAt xs i) → (∀ b o, s.heap.get? b = some o → h'.get? b = some o) → Q (.int (numAt xs i) u) { s with heap := h', toks := tk }) : wpAny (model prog w) A (call (.builtin "max") [.ref t]) Q E s := by
  obtain ⟨o, ho, hc, n, hd⟩ := id tp
  have nt : t ≠ s.heap.objs.size := Nat.ne_of_lt (Heap.lt_size ho)
  refine call_max_walk (wpAny_pyIter_tuple tp ?_)
  refine ⟨_, _, _, _, _, _, _, rfl, Walks.tuple (A := A.in1) hh _ t nt (intItems xs), ⟨⟨_, Heap.get?_push_size _ rfl, rfl, rfl⟩, tp.at fun o e => Heap.get?_push_of_some _ e⟩, fun b hb => ?_, by simpa [intItems] using ne, CmpOf.ints_gt (numAt xs) (fun _ _ => intItems_at), fun v h' tk hP hk => ?_⟩
  · rcases List.mem_cons.mp hb with rfl | hb
    · exact Heap.lt_size (Heap.get?_push_size _ rfl)
    · obtain rfl := List.mem_singleton.mp hb
      exact Heap.lt_size (Heap.get?_push_of_some _ ho)
  · have hP' : (intItems xs)[argBest (fun i j => decide (numAt xs i > numAt xs j)) (xs.size - 1)]? = some v := by simpa [intItems] using hP
    obtain ⟨u, rfl⟩ := intItems_at hP'
    obtain ⟨h1, h2⟩ := argBest_gt (numAt xs) (xs.size - 1)
    exact q _ h' tk u (by omega) (fun j hj => h2 j (by omega)) fun b o e => hk b o (fun hm => absurd (Heap.lt_size e) ((List.mem_singleton.mp hm) ▸ Nat.lt_irrefl _)) (Heap.get?_push_of_some _ e)
theorem min_tup {t : Addr} {xs : Array (Int × Tok)} {Q : Value → Shared → Prop} (hh : A.handled = none) (tp : s.heap.IsTuple t (intItems xs)) (ne : 0 < xs.size)
    (q : ∀ i h' tk u, i < xs.size → (∀ j, j < xs.size → numAt xs i ≤ numAt xs j) → (∀ b o, s.heap.get? b = some o → h'.get? b = some o) → Q (.int (numAt xs i) u) { s with heap := h', toks := tk }) : wpAny (model prog w) A (call (.builtin "min") [.ref t]) Q E s := by
  obtain ⟨o, ho, hc, n, hd⟩ := id tp
  have nt : t ≠ s.heap.objs.size := Nat.ne_of_lt (Heap.lt_size ho)
  refine call_min_walk (wpAny_pyIter_tuple tp ?_)
  refine ⟨_, _, _, _, _, _, _, rfl, Walks.tuple (A := A.in1) hh _ t nt (intItems xs), ⟨⟨_, Heap.get?_push_size _ rfl, rfl, rfl⟩, tp.at fun o e => Heap.get?_push_of_some _ e⟩, fun b hb => ?_, by simpa [intItems] using ne, CmpOf.ints_lt (numAt xs) (fun _ _ => intItems_at), fun v h' tk hP hk => ?_⟩
  · rcases List.mem_cons.mp hb with rfl | hb
    · exact Heap.lt_size (Heap.get?_push_size _ rfl)
    · obtain rfl := List.mem_singleton.mp hb
      exact Heap.lt_size (Heap.get?_push_of_some _ ho)
  · have hP' : (intItems xs)[argBest (fun i j => decide (numAt xs i < numAt xs j)) (xs.size - 1)]? = some v := by simpa [intItems] using hP
    obtain ⟨u, rfl⟩ := intItems_at hP'
    obtain ⟨h1, h2⟩ := argBest_lt (numAt xs) (xs.size - 1)
    exact q _ h' tk u (by omega) (fun j hj => h2 j (by omega)) fun b o e => hk b o (fun hm => absurd (Heap.lt_size e) ((List.mem_singleton.mp hm) ▸ Nat.lt_irrefl _)) (Heap.get?_push_of_some _ e)
end
theorem num2 {xs : Array (Int × Tok)} {i j : Int} (h : (intItems xs).toList = xs.toList.map (fun p => Value.int p.1 p.2)) (hn : xs.toList.map (·.1) = [i, j]) : xs.size = 2 ∧ numAt xs 0 = i ∧ numAt xs 1 = j := by
  have l : xs.size = 2 := by
    have := congrArg List.length hn
    rw [List.length_map, Array.length_toList] at this
    exact this
  refine ⟨l, ?_, ?_⟩
  · rw [numAt_eq, hn]; rfl
  · rw [numAt_eq, hn]; rfl
section
variable {X : Cx} {ρ : List Sl} {e : Expr} {pos : Pos} {Φ : PyData → List Sl → Prop}
def rMaxT (K : PySem.W.Frag) : List V → Hp → VK → Prop := fun vs H Q => ∃ (a : Addr) (i j : Int), vs = [V.ref a] ∧ SqT K H a [.int i, .int j] ∧ Q (.int (max i j)) H
def rMinT (K : PySem.W.Frag) : List V → Hp → VK → Prop := fun vs H Q => ∃ (a : Addr) (i j : Int), vs = [V.ref a] ∧ SqT K H a [.int i, .int j] ∧ Q (.int (min i j)) H
theorem cr_maxT (hc : X.calm = true) : CallR X (.builtin "max") (rMaxT X.K) := by
  intro pins s σ H vs us Q I r h
  obtain ⟨a, i, j, rfl, hs, q⟩ := h
  obtain ⟨its, rv, ht, _⟩ := I.tuple hs
  rw [Vals.ref1 r]
  have hi : IntsAre its [i, j] := Vals.ints (ns := [i, j]) rv
  obtain ⟨xs, e⟩ := hi.allInts.items
  have hn : numsOf (intItems xs).toList = [i, j] := by rw [← e]; exact hi.numsOf
  rw [nums_intItems] at hn
  rw [e] at ht
  obtain ⟨l, n0, n1⟩ := num2 (i := i) (j := j) (by simp [intItems]) hn
  refine max_tup (I.ok.hd hc) ht (by omega) fun b h' tk u hb best hk => ?_
  have b0 := best 0 (by omega)
  have b1 := best 1 (by omega)
  have : numAt xs b = max i j := by
    have : b = 0 ∨ b = 1 := by omega
    rcases this with rfl | rfl <;> omega
  rw [this]
  exact ⟨.int _, H, I.kept hk, ⟨_, rfl⟩, q⟩
theorem cr_minT (hc : X.calm = true) : CallR X (.builtin "min") (rMinT X.K) := by
  intro pins s σ H vs us Q I r h
  obtain ⟨a, i, j, rfl, hs, q⟩ := h
  obtain ⟨its, rv, ht, _⟩ := I.tuple hs
  rw [Vals.ref1 r]
  have hi : IntsAre its [i, j] := Vals.ints (ns := [i, j]) rv
  obtain ⟨xs, e⟩ := hi.allInts.items
  have hn : numsOf (intItems xs).toList = [i, j] := by rw [← e]; exact hi.numsOf
  rw [nums_intItems] at hn
  rw [e] at ht
  obtain ⟨l, n0, n1⟩ := num2 (i := i) (j := j) (by simp [intItems]) hn
  refine min_tup (I.ok.hd hc) ht (by omega) fun b h' tk u hb best hk => ?_
  have b0 := best 0 (by omega)
  have b1 := best 1 (by omega)
  have : numAt xs b = min i j := by
    have : b = 0 ∨ b = 1 := by omega
    rcases this with rfl | rfl <;> omega
  rw [this]
  exact ⟨.int _, H, I.kept hk, ⟨_, rfl⟩, q⟩
@[reducible] def pairK (f : Int → Int → Int) (ds : List PyData) (k : PyData → Prop) : Prop := ∃ i j : Int, ds = [.tuple [.int i, .int j]] ∧ k (.int (f i j))
theorem ee_maxT {p : Pos} (ck : CK X) (h : EA X ρ [e] fun ds ρ1 => pairK max ds fun d => Φ d ρ1) (hg : Gl X "max" := by rfl) (he : starEach [e] X.env = (false, eval e X.env) :: starEach [] X.env := by rfl) : EE X ρ (.Call (.Name "max" p) [e] [] pos) Φ :=
  ee_callB (cr_maxT ck.calm) (ck.bt _ (by simp [bNames])) (by decide +kernel) (fun F σ H Q S k => h F σ H Q S fun vs H' ds ρ' q => k vs H' ds ρ' (fun F σ H vs Q S r k => by
    obtain ⟨i, j, rfl, q⟩ := q
    match r with
    | .cons (.tup e r) .nil => exact ⟨_, i, j, rfl, .inl (same_rd mask_le (by rw [RpAll.ints (ns := [i, j]) r] at e; exact e)), k.same S q (.int _)⟩)) hg (by decide) (by decide) he rfl
theorem ee_minT {p : Pos} (ck : CK X) (h : EA X ρ [e] fun ds ρ1 => pairK min ds fun d => Φ d ρ1) (hg : Gl X "min" := by rfl) (he : starEach [e] X.env = (false, eval e X.env) :: starEach [] X.env := by rfl) : EE X ρ (.Call (.Name "min" p) [e] [] pos) Φ :=
  ee_callB (cr_minT ck.calm) (ck.bt _ (by simp [bNames])) (by decide +kernel) (fun F σ H Q S k => h F σ H Q S fun vs H' ds ρ' q => k vs H' ds ρ' (fun F σ H vs Q S r k => by
    obtain ⟨i, j, rfl, q⟩ := q
    match r with
    | .cons (.tup e r) .nil => exact ⟨_, i, j, rfl, .inl (same_rd mask_le (by rw [RpAll.ints (ns := [i, j]) r] at e; exact e)), k.same S q (.int _)⟩)) hg (by decide) (by decide) he rfl
end
end DL

namespace DL
open PySem PySem.Spec PyProof.Rows L2
/-! ### tuples that are known to be plain, or tracked as such -/
def tTupP (t : TA) : TE := fun σ H Q => t σ H fun xs H1 => xs.length ≤ sizeLine ∧ ∀ p ob, H1 p = none → ob.dict = none → Q (.ref p) (upd H1 p (.frz ob (.tup xs)))
theorem pe_tupP {X : Cx} {es : List Expr} {t : TA} {x1} {pos : Pos} (h : PA X es t) : PE X (.Tuple es x1 pos) (tTupP t) := by
  refine ⟨fun pins s σ H Q I hq => ?_⟩
  refine wpAny_Tuple_spliced (thn (h.run pos pins s σ H _ I hq) fun us s1 ⟨xs, H1, I1, r, z, q⟩ => ⟨by rw [← r.length]; exact z, ?_⟩)
  have hf : H1 s1.heap.objs.size = none := I1.hok.fresh (Nat.le_refl _)
  refine ⟨.ref s1.heap.objs.size, _, I1.laid (t' := s1.toks) (o := .frz { cls := .type "tuple", data := .seq us.toArray } (.tup xs)) (fun b u e => Heap.get?_push_of_some _ e) (Nat.le_refl _) ?_, rfl, q _ _ hf rfl⟩
  exact ⟨Heap.get?_push_size _ rfl, z, us, r, ⟨_, Heap.get?_push_size _ rfl, rfl, _, rfl⟩⟩
def rCatP (K : PySem.W.Frag) : R2 := fun x y H Q => ∃ a b xs ys, x = .ref a ∧ y = .ref b ∧ SqT K H a xs ∧ SqT K H b ys ∧ xs.length + ys.length ≤ sizeLine ∧
  (xs = [] → Q (.ref b) H) ∧ (xs ≠ [] → ys = [] → Q (.ref a) H) ∧ (xs ≠ [] → ys ≠ [] → ∀ p ob, H p = none → ob.dict = none → Q (.ref p) (upd H p (.frz ob (.tup (xs ++ ys)))))
theorem op_catP {X : Cx} : OpR X (binaryOp .Add) (rCatP X.K) := by
  intro pins s σ H x y v u Q I rx ry h
  obtain ⟨a, b, xs, ys, rfl, rfl, ha, hb, hz, q0, q1, q2⟩ := h
  cases rx
  cases ry
  obtain ⟨its, r1, p1, _⟩ := I.tuple ha
  obtain ⟨its2, r2, p2, _⟩ := I.tuple hb
  by_cases hx : xs = []
  · subst hx
    cases r1
    exact cat_tup0 p1 p2 ⟨.ref b, H, I, rfl, q0 rfl⟩
  · refine HT.cat_tup p1 p2 (fun z => hx (r1.nil_iff.mp z)) (fun z => ⟨.ref a, H, I, rfl, q1 hx (r2.nil_iff.mp z)⟩) (fun z => ?_) (by rw [← r1.length, ← r2.length]; exact hz)
    refine ⟨.ref s.heap.objs.size, _, I.laid (t' := s.toks) (o := .frz { cls := .type "tuple", data := .seq (its ++ its2).toArray } (.tup (xs ++ ys))) (fun b ob q => Heap.get?_push_of_some _ q) (Nat.le_refl _) ?_, rfl, q2 hx (fun w => z (r2.nil_iff.mpr w)) _ _ (I.hok.fresh (Nat.le_refl _)) rfl⟩
    exact ⟨Heap.get?_push_size _ rfl, by rw [List.length_append]; exact hz, _, r1.append r2, IsTup.new _ _⟩
def rSlP (K : PySem.W.Frag) : V → Option Int → Option Int → Hp → VK → Prop := fun x lo hi H Q => ∃ a xs, x = .ref a ∧ SqT K H a xs ∧
  (HT.sIx xs.length 0 lo = 0 ∧ HT.sIx xs.length xs.length hi = xs.length → Q (.ref a) H) ∧ (¬ (HT.sIx xs.length 0 lo = 0 ∧ HT.sIx xs.length xs.length hi = xs.length) → ∀ p ob, H p = none → ob.dict = none → Q (.ref p) (upd H p (.frz ob (.tup (cutV xs lo hi)))))
theorem sl_tupP {X : Cx} : SlR X (rSlP X.K) := by
  intro pins s σ H x v vl vu lo hi sl Q I rx hs pl pu h
  obtain ⟨a, xs, rfl, hx, q1, q2⟩ := h
  cases rx
  obtain ⟨its, r, ht, hz⟩ := I.tuple hx
  have hlen : its.toArray.size = xs.length := by rw [List.size_toArray]; exact r.length.symm
  refine ⟨"tuple", _, PyProof.Rows.slot_tuple_getitem.lookup, ht.typeIs, ?_⟩
  by_cases hw : HT.sIx xs.length 0 lo = 0 ∧ HT.sIx xs.length xs.length hi = xs.length
  · exact getItem_tuple_whole ht hs pl pu (by rw [hlen]; exact hw) ⟨.ref a, H, I, rfl, q1 hw⟩
  · refine HT.getItem_tuple_cut ht hs pl pu (by rw [hlen]; exact hw) ?_ (by rw [hlen]; exact hz)
    rw [hlen]
    refine ⟨.ref s.heap.objs.size, _, I.laid (t' := s.toks) (o := .frz { cls := .type "tuple", data := .seq ((its.toArray.toList.drop (HT.sIx xs.length 0 lo)).take (HT.sIx xs.length xs.length hi - HT.sIx xs.length 0 lo)).toArray } (.tup (cutV xs lo hi))) (fun b ob q => Heap.get?_push_of_some _ q) (Nat.le_refl _) ?_, rfl, q2 hw _ _ (I.hok.fresh (Nat.le_refl _)) rfl⟩
    exact ⟨Heap.get?_push_size _ rfl, Nat.le_trans (cutV_length xs lo hi) hz, _, (r.drop (HT.sIx xs.length 0 lo)).take (HT.sIx xs.length xs.length hi - HT.sIx xs.length 0 lo), IsTup.new _ _⟩
theorem cr_tupleP {X : Cx} : CallR X (.type "tuple") (fun xs H Q => ∃ p ys, xs = [.ref p] ∧ SqL X.K H p ys ∧ ∀ l ob, H l = none → ob.dict = none → Q (.ref l) (upd H l (.frz ob (.tup ys)))) := by
  intro pins s σ H xs us Q I r h
  obtain ⟨p, ys, rfl, hq, q⟩ := h
  obtain ⟨u, rfl, rx⟩ := vals1 r
  cases rx
  obtain ⟨its, r', pl, hz⟩ := I.list hq
  have hlen := r'.length
  refine call_tuple_list pl.isList (fun h' kp => ?_) (by simp only [List.size_toArray] <;> omega)
  have I1 : Inv X pins σ H { s with heap := h' } := I.kept (t' := s.toks) kp
  have I2 := I1.laid (a := h'.objs.size) (t' := s.toks) (o := .frz { cls := .type "tuple", data := .seq its.toArray } (.tup ys)) (h' := h'.push { cls := .type "tuple", data := .seq its.toArray }) (fun b o e => Heap.get?_push_of_some _ e) (Nat.le_refl _) ⟨Heap.get?_push_size _ rfl, hz, its, r', IsTup.new _ _⟩
  exact ⟨.ref h'.objs.size, _, I2, rfl, q _ _ (I1.hok.fresh (Nat.le_refl _)) rfl⟩
section
variable {X : Cx} {ρ : List Sl} {e f a b c : Expr} {pos px py ap cp mp : Pos} {Φ : PyData → List Sl → Prop} {Ψ : Bool → List Sl → Prop} {D : DE} {x y : Str}
/-- a name read, its mark left out -/
theorem ee_varU (i : Nat) {x : Str} {d d' : PyData} (u : Un d d') (hs : ρ[i]? = some (.dat d)) (q : Φ d' ρ) (hN : X.N[i]? = some x := by rfl) (hv : Vis X.env.scope x := by first | exact Or.inl rfl | exact Or.inr (Or.inl rfl) | exact Or.inr (Or.inr rfl))
    (hd : (x == ("__debug__" : Str)) = false := by decide) (hcd : (x == ("__classdict__" : Str)) = false := by decide) : EE X ρ (.Name x pos) Φ := fun F σ H Q S k => by
  obtain ⟨y, e1, v, e2, r⟩ := S.sl.get hs
  subst e2
  exact ofPE (pe_var hN hv hd hcd) ⟨v, e1, k v H d' ρ q S (Same.refl _) (Rp.un u r)⟩
/-- any reading, its mark left out -/
theorem ee_un (h : EE X ρ e fun d ρ1 => ∃ d', Un d d' ∧ Φ d' ρ1) : EE X ρ e Φ := fun F σ H Q S k => h F σ H Q S fun v H' d ρ' ⟨d', u, q⟩ S' g r => k v H' d' ρ' q S' g (Rp.un u r)
theorem ee_tupP {es : List Expr} {x1} (h : EA X ρ es fun ds ρ1 => ds.length ≤ 1000000 ∧ Φ (pt ds) ρ1) : EE X ρ (.Tuple es x1 pos) Φ := fun F σ H Q S k =>
  ofPE (pe_tupP paW) (h F σ H _ S fun vs H' ds ρ' ⟨l, q⟩ S' g r => ⟨big_le (by rw [r.length]; exact l), fun p ob hp hd => (k.to g).new S' hp q fun e => .pln e hd (RpAll.up (mask_same (same_new hp)) _ _ r)⟩)
theorem ee_tupB {es : List Expr} {x1} (h : EA X ρ es fun ds ρ1 => ds.length ≤ 1000000 ∧ Φ (bt ds) ρ1) : EE X ρ (.Tuple es x1 pos) Φ := fun F σ H Q S k =>
  ofPE (pe_tup paW) (h F σ H _ S fun vs H' ds ρ' ⟨l, q⟩ S' g r => ⟨big_le (by rw [r.length]; exact l), fun p hp => (k.to g).new S' hp q fun e => .bar e (RpAll.up (mask_same (same_new hp)) _ _ r)⟩)
theorem ee_addP (h : EE X ρ a fun da ρ1 => EE X ρ1 b fun db ρ2 => ∃ xs ys, da = pt xs ∧ db = pt ys ∧ xs.length + ys.length ≤ 1000000 ∧ Φ (pt (xs ++ ys)) ρ2) : EE X ρ (.BinOp a .Add b pos) Φ := by
  refine ee_op op_catP (h.mono fun da ρ1 h1 => h1.mono fun db ρ2 h2 => fun F σ H x y Q S rx ry k => ?_)
  obtain ⟨xs, ys, rfl, rfl, hl, q⟩ := h2
  cases rx with
  | pln e1 n1 r1 =>
    cases ry with
    | pln e2 n2 r2 =>
      have l1 := r1.length
      have l2 := r2.length
      refine ⟨_, _, _, _, rfl, rfl, .inl (.inr ⟨_, mask_le _ _ e1⟩), .inl (.inr ⟨_, mask_le _ _ e2⟩), big_le (by rw [l1, l2]; exact hl), fun z => ?_, fun _ z => ?_, fun _ _ p ob hp hd => ?_⟩
      · subst z
        cases r1
        exact k.same S q (.pln e2 n2 r2)
      · subst z
        cases r2
        rw [List.append_nil] at q
        exact k.same S q (.pln e1 n1 r1)
      · exact k.new S hp q fun e => .pln e hd ((RpAll.up (mask_same (same_new hp)) _ _ r1).app (RpAll.up (mask_same (same_new hp)) _ _ r2))
theorem ee_slP {lo hi : Option Expr} {p2 : Pos} (h : EE X ρ a fun da ρ1 => EO X ρ1 lo fun l ρ2 => EO X ρ2 hi fun u ρ3 => ∃ xs, da = pt xs ∧ Φ (pt (cutD xs l u)) ρ3) : EE X ρ (.Subscript a (.Slice lo hi none p2) pos) Φ := fun F σ H Q S k =>
  ofPE (pe_slice sl_tupP peW (poW lo) (poW hi)) (h F σ H _ S fun v H1 da ρ1 h1 S1 g1 r1 => eo_run h1 S1 fun l H2 ρ2 h2 S2 g2 => eo_run h2 S2 fun u H3 ρ3 h3 S3 g3 => by
    have r3 := Rp.up (g2.trans g3) _ _ r1
    have k3 := k.to ((g1.trans g2).trans g3)
    obtain ⟨xs, rfl, h4⟩ := h3
    cases r3 with
    | pln e n r =>
      refine ⟨_, _, rfl, .inl (.inr ⟨_, mask_le _ _ e⟩), fun hw => ?_, fun _ p ob hp hd => k3.new S3 hp h4 fun e => .pln e hd (RpAll.up (mask_same (same_new hp)) _ _ (r.cut l u))⟩
      rw [r.length] at hw
      rw [cut_whole hw] at h4
      exact k3.same S3 h4 (.pln e n r))
theorem ee_tupleP {p : Pos} (ck : CK X) (h : EA X ρ [e] fun ds ρ1 => ∃ xs, ds = [.list xs] ∧ Φ (pt xs) ρ1) (hg : Gl X "tuple" := by rfl) (he : starEach [e] X.env = (false, eval e X.env) :: starEach [] X.env := by rfl) : EE X ρ (.Call (.Name "tuple" p) [e] [] pos) Φ :=
  ee_callT cr_tupleP (ck.bt _ (by simp [bNames])) (by decide +kernel) (fun F σ H Q S k => h F σ H Q S fun vs H' ds ρ' q => k vs H' ds ρ' (fun F σ H vs Q S r k => by
    obtain ⟨xs, rfl, q⟩ := q
    match r with
    | .cons (.lst e r) .nil => exact ⟨_, _, rfl, .of (mask_le _ _ e), fun p ob hp hd => k.new S hp q fun e => .pln e hd (RpAll.up (mask_same (same_new hp)) _ _ r)⟩)) hg (by decide) (by decide) he rfl
end
/-! ### dict(t) of a plain tuple of pairs -/
theorem pairs_of2 {X : Cx} {pins : List (Addr × Obj)} {σ : L2.St} {H : Hp} {s : Shared} (I : Inv X pins σ H s) : ∀ {ps : List Addr} {kvs : List (Key × V)}, Paired (fun p kv => SqT X.K H p [kV kv.1, kv.2]) ps kvs →
    ∃ (prs : List (Key × Value)) (vvs : List (Value × Value)), KV kvs prs ∧ prs.length = ps.length ∧ vvs.length = ps.length ∧ ∀ (j : Nat) (k v : Value), vvs[j]? = some (k, v) → ∃ (b : Addr) (κ : Key), ps[j]? = some b ∧ prs[j]? = some (κ, v) ∧ IsTup s.heap b #[k, v] ∧ keyIs κ k = true
  | _, _, .nil => ⟨[], [], .nil, rfl, rfl, fun j k v e => by simp at e⟩
  | _, _, .cons (a := p) (b := kv) h t => by
    obtain ⟨prs, vvs, r, hl, hl2, hp⟩ := pairs_of2 I t
    obtain ⟨its, rv, ht, _⟩ := I.tuple h
    obtain ⟨u, y, ei, ru, ry⟩ := vals2 rv
    subst ei
    refine ⟨(kv.1, y) :: prs, (u, y) :: vvs, .cons ⟨rfl, ry⟩ r, by rw [List.length_cons, List.length_cons, hl], by rw [List.length_cons, List.length_cons, hl2], fun j k v e => ?_⟩
    cases j with
    | zero =>
      have e' : (u, y) = (k, v) := Option.some.inj e
      cases e'
      exact ⟨p, kv.1, rfl, rfl, ht, kV_is (P := X.prog) (w := X.w) ru⟩
    | succ j =>
      obtain ⟨b, κ, e1, e2, e3, e4⟩ := hp j k v (by simpa using e)
      exact ⟨b, κ, by simpa using e1, by simpa using e2, e3, e4⟩
theorem cr_dictT {X : Cx} (hcalm : X.calm = true) : CallR X (.type "dict") (fun xs H Q => ∃ (a : Addr) (o : Obj) (ps : List Addr) (kvs : List (Key × V)), xs = [.ref a] ∧ H a = some (.frz o (.tup (ps.map V.ref))) ∧ o.dict = none ∧ Paired (fun p kv => SqT X.K H p [kV kv.1, kv.2]) ps kvs ∧
    ∀ p, H p = none → Q (.ref p) (upd H p (.dK (mergeK [] kvs)))) := by
  intro pins s σ H xs us Q I r q
  obtain ⟨a, o, ps, kvs, ex, ha, hdn, hp, q⟩ := q
  subst ex
  obtain ⟨u, eu, rx⟩ := vals1 r
  subst eu
  cases rx
  obtain ⟨ho, hz, its, rv, o', ho', hc, n, hdat⟩ := (show ObjOk X.prog X.w H s.heap a (.frz o (.tup (ps.map V.ref))) from I.hok a _ ha)
  rw [ho] at ho'; cases ho'
  have ei := refs_at rv
  subst ei
  rw [List.length_map] at hz
  obtain ⟨prs, vvs, rel, hl, hl2, hpr⟩ := pairs_of2 I hp
  refine PySem.call_dict_pairs (knd := mixKind X.prog X.w) (kvs := prs) (PairArg.tuple a (ps.map Value.ref).toArray (fun j => ps.getD j 0) vvs) (I.ok.hd hcalm) ⟨⟨o, n, ho, hc, hdn, hdat⟩, by simp [hl2], fun j k v e => ?_⟩ ⟨by rw [hl, hl2], fun i key v e => ?_⟩ (by rw [hl2]; exact hz) fun h' tk hd' k => ?_
  · obtain ⟨b, κ, e1, _, e3, _⟩ := hpr j k v e
    refine ⟨by simp [e1], .inl ?_⟩
    obtain ⟨ob, h1, h2, m, h3⟩ := e3
    show s.heap.IsTuple (ps.getD j 0) #[k, v]
    rw [List.getD_eq_getElem?_getD, e1]
    exact ⟨ob, h1, h2, m, h3⟩
  · obtain ⟨b, κ, _, e2, _, e4⟩ := hpr i key v e
    exact ⟨κ, e2, e4⟩
  · have hm : (s.heap.objs.size == sysModules) = false := beq_eq_false_iff_ne.mpr (Nat.ne_of_gt I.big)
    have hlen : (mergeK [] kvs).length ≤ sizeLine := by
      refine Nat.le_trans (length_mergeK kvs []) ?_
      rw [List.length_nil, Nat.zero_add, rel.length, hl]
      exact hz
    exact ⟨.ref s.heap.objs.size, upd H s.heap.objs.size (.dK (mergeK [] kvs)), I.laid (t' := tk) (fun b o e => k b o (fun z => nomatch z) e) (Nat.le_refl _) (show ObjOk X.prog X.w _ _ _ (.dK (mergeK [] kvs)) from ⟨hlen, hm, merged [] prs, KV.merge rel .nil, hd'⟩), rfl, q _ (I.hok.fresh (Nat.le_refl _))⟩
def dPr (p : Int × Int) : PyData := .tuple [.int p.1, .int p.2]
theorem pairs_rp {K : PySem.W.Frag} {G H : Hp} (s : Same G H) : ∀ {kvs : List (Int × Int)} {vs : List V}, RpAll G vs (kvs.map dPr) → ∃ ps : List Addr, vs = ps.map V.ref ∧ Paired (fun p (kv : Key × V) => SqT K H p [kV kv.1, kv.2]) ps (kvI kvs)
  | [], _, h => by cases h; exact ⟨[], rfl, .nil⟩
  | p :: kvs, _, h => by
    cases h with
    | cons h1 h2 =>
      obtain ⟨ps, e, q⟩ := pairs_rp (K := K) s h2
      have h1 : Rp G _ (.tuple [.int p.1, .int p.2]) := h1
      cases h1 with
      | tup e1 r1 =>
        have := RpAll.ints (ns := [p.1, p.2]) r1
        subst this
        refine ⟨_ :: ps, by rw [e]; rfl, .cons ?_ q⟩
        exact .inl (same_rd s e1)
theorem merge_kvI : ∀ (kvs acc : List (Int × Int)), (kvs.map (·.1)).Nodup → (∀ p ∈ kvs, acc.lookup p.1 = none) → mergeK (kvI acc) (kvI kvs) = kvI (acc ++ kvs)
  | [], acc, _, _ => by rw [List.append_nil]; rfl
  | p :: kvs, acc, nd, h => by
    rw [List.map_cons, List.nodup_cons] at nd
    show mergeK (putK (kvI acc) (Sum.inl p.1) (V.int p.2)) (kvI kvs) = _
    rw [putK_kvI (h p (.head _)), merge_kvI kvs (acc ++ [(p.1, p.2)]) nd.2 fun q hq => ?_, List.append_assoc]
    · rfl
    · rw [List.lookup_append, h q (.tail _ hq)]
      have : q.1 ≠ p.1 := fun z => nd.1 (z ▸ List.mem_map_of_mem hq)
      rw [List.lookup_cons, beq_eq_false_iff_ne.mpr this]; rfl
section
variable {X : Cx} {ρ : List Sl} {e f a b c : Expr} {pos px py ap cp mp : Pos} {Φ : PyData → List Sl → Prop} {Ψ : Bool → List Sl → Prop} {D : DE} {x y : Str}
theorem ss_setDT (j : Nat) {p p2 : Pos} (ck : CK X) (h : EE X ρ e fun d ρ1 => ∃ kvs : List (Int × Int), d = pt (kvs.map dPr) ∧ (kvs.map (·.1)).Nodup ∧ D.nx (ρ1.set j (.fI kvs))) (hi : X.N[j]? = some x := by rfl) (hx : Loc X.env.scope x := by first | exact Or.inl rfl | exact Or.inr rfl)
    (hg : Gl X "dict" := by rfl) (he : starEach [e] X.env = (false, eval e X.env) :: starEach [] X.env := by rfl)
    (hs : swapsWith (.Call (.Name "dict" p) [e] [] p2) (some (.Name x px)) pos.line X.env = pure false := by rfl) (hf : X.fn x = true ∨ X.env.scope.names.lookup x = some .local := by first | exact .inl rfl | exact .inr rfl) : SS X ρ (.Assign [.Name x px] (.Call (.Name "dict" p) [e] [] p2) pos) D := fun F σ H E S k =>
  ofPS (ps_set ck.nd hi hx (pe_callTy (cr_dictT ck.calm) hg (ck.bt _ (by simp [bNames])) (by decide +kernel) (pa_cons peW pa_nil he) (by decide) (by decide) he rfl) hs hf) (h F σ H _ S fun v H1 d ρ1 ⟨kvs, ed, nd, q⟩ S1 g1 r1 => by
    subst ed
    cases r1 with
    | pln e1 n1 r1 =>
      obtain ⟨ps, ev, hp⟩ := pairs_rp (K := X.K) (H := H1) mask_le r1
      subst ev
      refine ⟨_, _, ps, kvI kvs, rfl, mask_le _ _ e1, n1, hp, fun p hp => ?_⟩
      have em : mergeK [] (kvI kvs) = kvI kvs := merge_kvI kvs [] nd fun _ _ => rfl
      rw [em]
      have s2 := same_new (o := .dK (kvI kvs)) hp
      have S2 := S1.ext s2
      exact k.nx _ _ _ q (S2.set j (s := .fI kvs) rfl ⟨p, rfl, (mask_out fun z => S1.ad p z hp).trans upd_same⟩) ((g1.trans (S1.gext s2)).trans (S2.gset j rfl)))
/-- table.get(e, f) -/
theorem ee_getF (i : Nat) {kvs : List (Int × Int)} (ck : CK X) (hs : ρ[i]? = some (.fI kvs)) (h : EE X ρ e fun d ρ1 => ∃ n, d = .int n ∧ EE X ρ1 f fun d2 ρ2 => ∃ m, d2 = .int m ∧ Φ (.int ((kvs.lookup n).getD m)) ρ2) (m : M2 X (.Name x px) "get" ap e f pos) (hN : X.N[i]? = some x := by rfl) (hv : Vis X.env.scope x := by first | exact Or.inl rfl | exact Or.inr (Or.inl rfl) | exact Or.inr (Or.inr rfl))
    (hd : (x == ("__debug__" : Str)) = false := by decide) (hcd : (x == ("__classdict__" : Str)) = false := by decide) : EE X ρ (.Call (.Attribute (.Name x px) "get" ap) [e, f] [] pos) Φ := fun F σ H Q S k => by
  obtain ⟨z, e1, a, e2, e3⟩ := S.sl.get hs
  subst e2
  refine ofPE (pe_dget2 (by have := ck.hu; omega) (pe_var hN hv hd hcd) peW peW m) ⟨_, e1, a, rfl, .inl ⟨_, .inl (mask_le _ _ e3)⟩, h F σ H _ S fun u H2 d ρ1 ⟨n, ed, h1⟩ S2 g2 r2 => h1 F σ H2 _ S2 fun u3 H3 d3 ρ3 ⟨m, ed3, q⟩ S3 g3 r3 => ?_⟩
  subst ed ed3
  cases r2
  cases r3
  have e4 : H3 a = some (.dK (kvI kvs)) := mask_le _ _ (g3 _ _ (g2 _ _ e3))
  refine ⟨_, DGet.k (k := Sum.inl n) e4, ?_⟩
  rw [valV_kvI]
  have : ((kvs.lookup n).map V.int).getD (V.int m) = V.int ((kvs.lookup n).getD m) := by cases kvs.lookup n <;> rfl
  rw [this]
  exact k _ H3 _ _ q S3 (g2.trans g3) (.int _)
end
end DL

namespace DL
open PySem PySem.Spec PyProof.Rows L2
/-! ### dicts whose keys are pairs of ints -/
abbrev kP (p : Int × Int) : List Key := [Sum.inl p.1, Sum.inl p.2]
theorem kP_ne {a b : Int × Int} (h : a ≠ b) : kP a ≠ kP b := fun z => h (by
  have z1 := (List.cons.inj z)
  have z2 := (List.cons.inj z1.2).1
  exact Prod.ext (Sum.inl.inj z1.1) (Sum.inl.inj z2))
theorem valV_kvP (k : Int × Int) : ∀ kvs : List ((Int × Int) × Int), valV (kvP kvs) (kP k) = (kvs.lookup k).map V.int
  | [] => rfl
  | (a, b) :: r => by
    rw [List.lookup_cons]
    show valV ((kP a, V.int b) :: kvP r) (kP k) = _
    by_cases h : k = a
    · rw [valV_pos (by rw [h]), h, beq_self_eq_true]; rfl
    · rw [valV_neg (fun z => kP_ne (fun y => h y.symm) z), valV_kvP k r, beq_eq_false_iff_ne.mpr h]
theorem kvP_len (kvs : List ((Int × Int) × Int)) : (kvP kvs).length = kvs.length := List.length_map _
theorem kP_V (k : Int × Int) : (kP k).map kV = [V.int k.1, V.int k.2] := rfl
/-- {k: v}, its key a new tuple -/
def tDispT (trs : List (TE × TE)) : TE := fun σ H Q => ∀ p, H p = none → tPairs trs σ (upd H p (.dT [])) fun ps H2 => H2 p = some (.dT []) ∧ ∃ (b : Addr) (k : List Key) (v : V), ps = [(.ref b, v)] ∧ H2 b = some (.tup (k.map kV)) ∧ Q (.ref p) (upd H2 p (.dT [(k, v)]))
theorem pe_dispT {X : Cx} {pos : Pos} {keys : List (Option Expr)} {values : List Expr} {trs : List (TE × TE)} (hu : X.A.units < cLine) (h : PPs X pos keys values trs) (hall : keys.all (·.isSome) = true) (hl : keys.length = values.length) (h0 : keys ≠ [])
    (h15 : keys.length ≤ 15) : PE X (.Dict keys values pos) (tDispT trs) := by
  refine ⟨fun pins s σ H Q I q => ?_⟩
  have hn := I.hok.fresh (Nat.le_refl s.heap.objs.size)
  have I1 := I.laid (a := s.heap.objs.size) (o := .dT []) (h' := s.heap.push { cls := .type "dict", data := .dict #[] }) (t' := s.toks) (fun _ _ q => Heap.get?_push_of_some _ q) (Nat.le_refl _) (dt_empty s.heap I.big)
  have hlen := pairTrees_length keys values X.env pos hall hl
  have hne : pairTrees keys values X.env pos ≠ [] := fun he => by
    rw [he] at hlen
    exact h0 (List.length_eq_zero_iff.mp hlen.symm)
  rw [arm_eval_Dict, zip_pairTrees keys values X.env pos hall hl, dictDisplay_pairs (pairTrees keys values X.env pos) hne (by omega)]
  refine wpAny_bind (wpAny_standAt (wpAny_bind (wpAny_subDictH (knd := tupleKind (mixKind X.prog X.w)) (Q := fun d s' => wpAny (model X.prog X.w) X.A (pure (Value.ref d)) (EP X pins σ Q) X.xe s') hu (by omega)
    (thn (h.run pins _ σ _ _ I1 (q _ hn)) fun ws s2 ⟨ps, H2, I2, rel, e, b, k, v, ep, eb, q2⟩ => ?_))))
  subst ep
  cases rel with
  | @cons pv w _ ws r t =>
    cases t
    obtain ⟨w1, w2⟩ := w
    obtain ⟨r1, r2⟩ := r
    obtain rfl : w1 = Value.ref b := r1
    obtain ⟨z, hd, xs0, r0, dd⟩ := dt_of I2.hok e
    cases r0
    refine ⟨[(k, b, w2)], ⟨rfl, rfl, key_of I2.hok eb, trivial⟩, dd, fun h' tk dd' hs => wpAny_pure ⟨.ref s.heap.objs.size, _, ?_, rfl, q2⟩⟩
    obtain ⟨o, es, ep, g1, g2, g3, g4, _, g6⟩ := dd'
    refine d_write (t' := tk) I2 (by rw [e]; exact True.intro) hs ⟨o, g1⟩ ⟨by show 1 ≤ sizeLine; decide, hd, [(k, b, w2)], .cons ⟨rfl, ?_, r2⟩ .nil, o, es, ep, g1, g2, g3, g4, g6⟩
    rw [upd_ne (ne_of eb e (fun z => nomatch z))]
    exact eb
section
variable {X : Cx} {ρ : List Sl} {e f a b c : Expr} {pos px py ap cp mp : Pos} {Φ : PyData → List Sl → Prop} {Ψ : Bool → List Sl → Prop} {D : DE} {x y : Str} {kvs : List ((Int × Int) × Int)}
/-- x, y = {(m, -n): c}, d -/
theorem ss_parDP {i j : Nat} {m n c d : Int} {pt kt k2 pt2 j1 p1 j2 p2 p3 k3 p4 j4 p5 p6 j5 p7} (ck : CK X) (q : ∀ a, D.nx ((ρ.set i (.dP a [((m, -n), c)])).set j (.dat (.int d)))) (hi : X.N[i]? = some x := by rfl) (hj : X.N[j]? = some y := by rfl) (hx : Loc X.env.scope x := by first | exact Or.inl rfl | exact Or.inr rfl)
    (hfx : X.fn x = true ∨ X.env.scope.names.lookup x = some .local := by first | exact .inl rfl | exact .inr rfl) (hy : Loc X.env.scope y := by first | exact Or.inl rfl | exact Or.inr rfl) (hfy : X.fn y = true ∨ X.env.scope.names.lookup y = some .local := by first | exact .inl rfl | exact .inr rfl)
    (hs : swapsWithSole [.Tuple [.Name x px, .Name y py] kt pt] (.Tuple [.Dict [some (.Tuple [.Constant (.int m) j1 p1, .UnaryOp .USub (.Constant (.int n) j2 p2) p3] k3 p4)] [.Constant (.int c) j4 p5] p6, .Constant (.int d) j5 p7] k2 pt2) pos.line X.env = pure false := by rfl)
    (hw : swappedStores [.Tuple [.Name x px, .Name y py] kt pt] (.Tuple [.Dict [some (.Tuple [.Constant (.int m) j1 p1, .UnaryOp .USub (.Constant (.int n) j2 p2) p3] k3 p4)] [.Constant (.int c) j4 p5] p6, .Constant (.int d) j5 p7] k2 pt2) X.env = pure none := by rfl)
    (h1 : (assignEach [.Tuple [.Name x px, .Name y py] kt pt] X.env).map (·.2) = [assign (.Tuple [.Name x px, .Name y py] kt pt) X.env] := by rfl)
    (ha1 : (assignEach [.Name x px, .Name y py] X.env).map (·.2) = assign (.Name x px) X.env :: (assignEach [.Name y py] X.env).map (·.2) := by rfl) (ha2 : (assignEach [.Name y py] X.env).map (·.2) = assign (.Name y py) X.env :: (assignEach [] X.env).map (·.2) := by rfl)
    (hn : (assignEach [.Name x px, .Name y py] X.env).length = 2 := by rfl) (hst : (assignEach [.Name x px, .Name y py] X.env).findIdx? (·.1) = none := by rfl) :
    SS X ρ (.Assign [.Tuple [.Name x px, .Name y py] kt pt] (.Tuple [.Dict [some (.Tuple [.Constant (.int m) j1 p1, .UnaryOp .USub (.Constant (.int n) j2 p2) p3] k3 p4)] [.Constant (.int c) j4 p5] p6, .Constant (.int d) j5 p7] k2 pt2) pos) D := fun F σ H E S k =>
  ofPS (ps_asg (pe_tup (pa_cons (pe_dispT (by have := ck.hu; omega) (pps_cons (pe_tup (pa_cons pe_int (pa_cons (pe_un un_neg pe_int) pa_nil))) pe_int pps_nil) rfl rfl (by simp) (by show 1 ≤ 15; decide)) (pa_cons pe_int pa_nil)))
    (pg_tup ck.calm (pgs_cons (pg_name ck.nd hi hx hfx) (pgs_cons (pg_name ck.nd hj hy hfy) pgs_nil ha2) ha1) hn hst) hs hw h1) (fun p hp => ⟨n, rfl, by show 2 ≤ sizeLine; decide, fun q0 hq => by
      have np : q0 ≠ p := fun z => by rw [z, upd_same] at hq; cases hq
      refine ⟨by rw [upd_ne (fun z => np z.symm)]; exact upd_same, q0, kP (m, -n), .int c, rfl, upd_same, by show 2 ≤ sizeLine; decide, fun t ht => ⟨t, _, rfl, .of upd_same, rfl, _, _, rfl, _, _, rfl, rfl, ?_⟩⟩
      have nt : t ≠ p := fun z => by rw [z, upd_same] at ht; cases ht
      have nq : t ≠ q0 := fun z => by rw [z, upd_ne np, upd_same] at ht; cases ht
      have hqn : H q0 = none := by rw [upd_ne np] at hq; exact hq
      have htn : H t = none := by rw [upd_ne nt, upd_ne nq, upd_ne nt] at ht; exact ht
      have sm : Same H (upd (upd (upd (upd H p (.dT [])) q0 (.tup [.int m, .int (-n)])) p (.dT [(kP (m, -n), .int c)])) t (.tup [.ref p, .int d])) := fun b o eb => by
        rw [upd_ne (ne_of_none eb htn), upd_ne (ne_of_none eb hp), upd_ne (ne_of_none eb hqn), upd_ne (ne_of_none eb hp)]; exact eb
      have e4 : (upd (upd (upd (upd H p (.dT [])) q0 (.tup [.int m, .int (-n)])) p (.dT [(kP (m, -n), .int c)])) t (.tup [.ref p, .int d])) p = some (.dT (kvP [((m, -n), c)])) := by
        rw [upd_ne (fun z => nt z.symm), upd_same]; rfl
      have S2 := S.new (s := .dP p [((m, -n), c)]) (v := .ref p) i hp sm rfl (by rw [e4]; exact fun z => nomatch z) ⟨rfl, e4⟩
      have g2 := S.gnew (s := .dP p [((m, -n), c)]) i hp sm rfl
      exact k.nx _ _ _ (q p) (S2.set j (s := .dat (.int d)) rfl ⟨_, rfl, .int d⟩) (g2.trans (S2.gset j rfl))⟩)
/-- x = {} -/
theorem ss_setDEP (j : Nat) (ck : CK X) (q : ∀ a, D.nx (ρ.set j (.dP a []))) (hi : X.N[j]? = some x := by rfl) (hx : Loc X.env.scope x := by first | exact Or.inl rfl | exact Or.inr rfl)
    (hs : swapsWith (.Dict [] [] py) (some (.Name x px)) pos.line X.env = pure false := by rfl) (hf : X.fn x = true ∨ X.env.scope.names.lookup x = some .local := by first | exact .inl rfl | exact .inr rfl) : SS X ρ (.Assign [.Name x px] (.Dict [] [] py) pos) D := fun F σ H E S k =>
  ofPS (ps_set ck.nd hi hx pe_dnewT hs hf) fun p hp => by
    have s2 := same_new (o := .dT []) hp
    exact k.nx _ _ _ (q p) (S.new j hp s2 rfl (by rw [upd_same]; exact fun z => nomatch z) ⟨rfl, upd_same⟩) (S.gnew j hp s2 rfl)
/-- x[b, c], the dict walked -/
theorem ee_dgetP (i : Nat) {es : List Expr} {kk tp} {al : Addr} {od : Obj} (ck : CK X) (hs : ρ[i]? = some (.lP al od kvs)) (h : EA X ρ es fun ds ρ1 => ∃ m n v, ds = [.int m, .int n] ∧ ρ1[i]? = some (.lP al od kvs) ∧ kvs.lookup (m, n) = some v ∧ Φ (.int v) ρ1)
    (hN : X.N[i]? = some x := by rfl) (hv : Vis X.env.scope x := by first | exact Or.inl rfl | exact Or.inr (Or.inl rfl) | exact Or.inr (Or.inr rfl)) (hp : NoSl (.Tuple es kk tp) := by exact fun _ _ => rfl)
    (hd : (x == ("__debug__" : Str)) = false := by decide) (hcd : (x == ("__classdict__" : Str)) = false := by decide) : EE X ρ (.Subscript (.Name x px) (.Tuple es kk tp) pos) Φ := fun F σ H Q S k => by
  obtain ⟨z, e1, e2, e3⟩ := S.sl.get hs
  subst e2
  refine ofPE (pe_dget (by have := ck.hu; omega) (pe_var hN hv hd hcd) (pe_tup paW) hp) ⟨_, e1, h F σ H _ S fun vs H2 ds ρ1 ⟨m, n, v, ed, es1, hl, q⟩ S2 g r => ⟨by rw [r.length, ed]; show 2 ≤ sizeLine; decide, fun t ht => ?_⟩⟩
  subst ed
  have := RpAll.ints (ns := [m, n]) r
  subst this
  obtain ⟨z', e1', e2', e3'⟩ := S2.sl.get es1
  have s2 := same_new (o := .tup [V.int m, V.int n]) ht
  refine ⟨al, .int v, rfl, .inr ⟨kvP kvs, kP (m, n), t, .inr ⟨od, s2 _ _ e3'⟩, rfl, upd_same, ?_⟩, k _ _ _ ρ1 q (S2.ext s2) (g.trans (S2.gext s2)) (.int v)⟩
  rw [valV_kvP, hl]; rfl
/-- x.get(e, f) -/
theorem ee_getP (i : Nat) {al : Addr} (ck : CK X) (hs : ρ[i]? = some (.dP al kvs)) (h : EE X ρ e fun d ρ1 => ∃ m n, d = bt [.int m, .int n] ∧ EE X ρ1 f fun d2 ρ2 => ∃ z, d2 = .int z ∧ ρ2[i]? = some (.dP al kvs) ∧ Φ (.int ((kvs.lookup (m, n)).getD z)) ρ2) (m : M2 X (.Name x px) "get" ap e f pos) (hN : X.N[i]? = some x := by rfl) (hv : Vis X.env.scope x := by first | exact Or.inl rfl | exact Or.inr (Or.inl rfl) | exact Or.inr (Or.inr rfl))
    (hd : (x == ("__debug__" : Str)) = false := by decide) (hcd : (x == ("__classdict__" : Str)) = false := by decide) : EE X ρ (.Call (.Attribute (.Name x px) "get" ap) [e, f] [] pos) Φ := fun F σ H Q S k => by
  obtain ⟨z, e1, e2, e3⟩ := S.sl.get hs
  subst e2
  refine ofPE (pe_dget2 (by have := ck.hu; omega) (pe_var hN hv hd hcd) peW peW m) ⟨_, e1, al, rfl, .inr ⟨_, .inl e3⟩, h F σ H _ S fun u H2 d ρ1 ⟨m, n, ed, h1⟩ S2 g2 r2 => h1 F σ H2 _ S2 fun u3 H3 d3 ρ3 ⟨z0, ed3, es3, q⟩ S3 g3 r3 => ?_⟩
  subst ed ed3
  cases r3
  obtain ⟨z', e1', e2', e3'⟩ := S3.sl.get es3
  cases r2 with
  | bar eb rb =>
    have := RpAll.ints (ns := [m, n]) rb
    subst this
    refine ⟨_, DGet.t (k := kP (m, n)) e3' (mask_le _ _ (g3 _ _ eb)), ?_⟩
    rw [valV_kvP]
    have : ((kvs.lookup (m, n)).map V.int).getD (V.int z0) = V.int ((kvs.lookup (m, n)).getD z0) := by cases kvs.lookup (m, n) <;> rfl
    rw [this]
    exact k _ H3 _ _ q S3 (g2.trans g3) (.int _)
/-- x[b] = e -/
theorem ss_dputP (i : Nat) {al : Addr} (ck : CK X) (h : EE X ρ e fun d ρ1 => ∃ v, d = .int v ∧ ρ1[i]? = some (.dP al kvs) ∧ EE X ρ1 b fun db ρ2 => ∃ m n kvs', db = bt [.int m, .int n] ∧ ρ2[i]? = some (.dP al kvs) ∧ kvs.length < 1000000 ∧ putK (kvP kvs) (kP (m, n)) (.int v) = kvP kvs' ∧ D.nx (ρ2.set i (.dP al kvs')))
    (hN : X.N[i]? = some x := by rfl) (hv : Vis X.env.scope x := by first | exact Or.inl rfl | exact Or.inr (Or.inl rfl) | exact Or.inr (Or.inr rfl)) (hd : (x == ("__debug__" : Str)) = false := by decide) (hcd : (x == ("__classdict__" : Str)) = false := by decide)
    (hs : swapsWith e (some (.Subscript (.Name x px) b ap)) pos.line X.env = pure false := by rfl) : SS X ρ (.Assign [.Subscript (.Name x px) b ap] e pos) D := fun F σ H E S k =>
  ofPS (ps_dput (by have := ck.hu; omega) (pe_var hN hv hd hcd) peW peW hs) (h F σ H _ S fun u H1 d ρ1 ⟨v, ed, es, h1⟩ S1 g1 r1 => by
    subst ed
    cases r1
    obtain ⟨z, e1, e2, e3⟩ := S1.sl.get es
    subst e2
    refine ⟨_, e1, h1 F σ H1 _ S1 fun u H2 db ρ2 ⟨m, n, kvs', ed, es2, hz, hput, q⟩ S2 g2 r2 => ?_⟩
    subst ed
    cases r2 with
    | bar eb rb =>
      have := RpAll.ints (ns := [m, n]) rb
      subst this
      obtain ⟨z', e1', e2', e3'⟩ := S2.sl.get es2
      refine ⟨al, _, rfl, DPut.t (k := kP (m, n)) (v := .int v) e3' (mask_le _ _ eb) (big_lt (by rw [kvP_len]; exact hz)), ?_⟩
      rw [hput]
      obtain ⟨S3, g3⟩ := S2.chg (s := .dP al kvs') (H2 := upd H2 al (.dT (kvP kvs'))) es2 rfl rfl (fun b o hb e => by rw [upd_ne hb]; exact e) (by rw [upd_same]; exact fun z => nomatch z) fun x' ⟨ex, _⟩ => ⟨ex, upd_same⟩
      exact k.nx _ _ _ q S3 ((g1.trans g2).trans g3))
theorem Stt.moveP {F : Fm} {σ : L2.St} {H : Hp} {i j : Nat} {al : Addr} (S : Stt F H σ ρ) (hs : ρ[j]? = some (.dP al kvs)) (e3 : H al = some (.dT (kvP kvs))) : Stt F H (σ.set i (some (.ref al))) (((ρ.set i .non).set j .non).set i (.dP al kvs)) ∧ Same (gh F ρ H) (gh F (((ρ.set i .non).set j .non).set i (.dP al kvs)) H) := by
  have m0 : al ∈ os ρ := os_at hs (List.mem_singleton.mpr rfl)
  have nd1 : (os (ρ.set j .non)).Nodup := os_set_out S.nd rfl
  have no1 : al ∉ os (ρ.set j .non) := os_gone S.nd hs (List.mem_singleton.mpr rfl) rfl
  have sub1 : ∀ b, b ∈ os (ρ.set j .non) → b ∈ os ρ := fun b m => (os_set_sub m).elim (fun z => nomatch z) id
  have ec : ((ρ.set i .non).set j .non).set i (.dP al kvs) = (ρ.set j .non).set i (.dP al kvs) := by
    by_cases hij : i = j
    · subst hij; simp [List.set_set]
    · rw [List.set_comm _ _ (fun z => hij z), List.set_set]
  rw [ec]
  have sub : ∀ b, b ∈ os ((ρ.set j .non).set i (.dP al kvs)) → b ∈ os ρ := fun b m => (os_set_sub m).elim (fun z => by rw [List.mem_singleton.mp z]; exact m0) (sub1 b)
  have g : Same (gh F ρ H) (gh F ((ρ.set j .non).set i (.dP al kvs)) H) := mask_sub fun a m => (List.mem_append.mp m).elim (List.mem_append_left _) fun z => List.mem_append_right _ (sub a z)
  refine ⟨⟨S.hd, S.fr, S.dm, os_set_nodup nd1 (by show [al].Nodup; simp) (fun a m => by rw [List.mem_singleton.mp m]; exact no1), fun a m => S.nw a (sub a m), fun a m => S.ap a (sub a m), ?_⟩, g⟩
  have h2 := S.sl.up (G' := gh F ((ρ.set j .non).set i (.dP al kvs)) H) (H' := H) g fun _ _ _ e => e
  obtain ⟨z, e1, _⟩ := S.sl.get hs
  have h3 : SlotsOk (gh F ((ρ.set j .non).set i (.dP al kvs)) H) H σ (ρ.set j .non) := by
    have h4 := h2.set j (x := z) (s := .non) trivial
    have hj : j < σ.length := (List.getElem?_eq_some_iff.mp e1).1
    have : σ.set j z = σ := by
      have ez : σ[j] = z := (List.getElem?_eq_some_iff.mp e1).2
      rw [← ez, List.set_getElem_self]
    rw [this] at h4
    exact h4
  exact h3.set i ⟨rfl, e3⟩
/-- x = y, a dict of one's own: y is not read any more -/
theorem ss_moveDP (i j : Nat) {al : Addr} (ck : CK X) (hs : ρ[j]? = some (.dP al kvs)) (q : D.nx (((ρ.set i .non).set j .non).set i (.dP al kvs))) (hi : X.N[i]? = some x := by rfl) (hx : Loc X.env.scope x := by first | exact Or.inl rfl | exact Or.inr rfl)
    (hN : X.N[j]? = some y := by rfl) (hv : Vis X.env.scope y := by first | exact Or.inl rfl | exact Or.inr (Or.inl rfl) | exact Or.inr (Or.inr rfl)) (hd : (y == ("__debug__" : Str)) = false := by decide) (hcd : (y == ("__classdict__" : Str)) = false := by decide)
    (hsw : swapsWith (.Name y py) (some (.Name x px)) pos.line X.env = pure false := by rfl) (hf : X.fn x = true ∨ X.env.scope.names.lookup x = some .local := by first | exact .inl rfl | exact .inr rfl) : SS X ρ (.Assign [.Name x px] (.Name y py) pos) D := fun F σ H E S k => by
  obtain ⟨z, e1, e2, e3⟩ := S.sl.get hs
  subst e2
  obtain ⟨S2, g2⟩ := S.moveP (i := i) hs e3
  exact ofPS (ps_set ck.nd hi hx (pe_var hN hv hd hcd) hsw hf) ⟨_, e1, k.nx _ _ _ q S2 g2⟩
end
end DL

namespace DL
open PySem PySem.Spec PyProof.Rows L2
/-! ### a dict with pairs for keys is walked -/
theorem kvP_at {kvs : List ((Int × Int) × Int)} {i : Nat} {k : List Key} {v : V} (h : (kvP kvs)[i]? = some (k, v)) : ∃ p : (Int × Int) × Int, kvs[i]? = some p ∧ k = kP p.1 ∧ v = .int p.2 := by
  unfold kvP at h
  rw [List.getElem?_map] at h
  cases q : kvs[i]? with
  | none => rw [q] at h; cases h
  | some p => rw [q] at h; cases h; exact ⟨p, rfl, rfl, rfl⟩
section
variable {X : Cx} {ρ : List Sl} {e f a b c : Expr} {pos px py ap cp mp : Pos} {Φ : PyData → List Sl → Prop} {Ψ : Bool → List Sl → Prop} {D : DE} {x y : Str} {kvs : List ((Int × Int) × Int)}
theorem Stt.lockP {F : Fm} {σ : L2.St} {H : Hp} {i : Nat} {al : Addr} (S : Stt F H σ ρ) (hs : ρ[i]? = some (.dP al kvs)) (od : Obj) : Stt F (upd H al (.frz od (.dT (kvP kvs)))) σ (ρ.set i (.lP al od kvs)) ∧ Same (gh F ρ H) (gh F (ρ.set i (.lP al od kvs)) (upd H al (.frz od (.dT (kvP kvs))))) :=
  S.chg (s := .lP al od kvs) hs rfl rfl (fun b o hb e => by rw [upd_ne hb]; exact e) (by rw [upd_same]; exact fun z => nomatch z) fun x' ⟨ex, _⟩ => ⟨ex, upd_same⟩
theorem Stt.openP {F : Fm} {σ : L2.St} {H : Hp} {i : Nat} {al : Addr} {od : Obj} (S : Stt F H σ ρ) (hs : ρ[i]? = some (.lP al od kvs)) : Stt F (upd H al (.dT (kvP kvs))) σ (ρ.set i (.dP al kvs)) ∧ Same (gh F ρ H) (gh F (ρ.set i (.dP al kvs)) (upd H al (.dT (kvP kvs)))) :=
  S.chg (s := .dP al kvs) hs rfl rfl (fun b o hb e => by rw [upd_ne hb]; exact e) (by rw [upd_same]; exact fun z => nomatch z) fun x' ⟨ex, _⟩ => ⟨ex, upd_same⟩
/-- for t1, t2 in x: neither break nor return within -/
theorem ss_forP (i : Nat) {ts : List Expr} {kk tp} {body : List Stmt} {al : Addr} (ck : CK X) (hs : ρ[i]? = some (.dP al kvs)) (h : ∀ od : Obj, ∃ I : Nat → List Sl → Prop, I 0 (ρ.set i (.lP al od kvs)) ∧ (∀ n ρ2, I n ρ2 → ρ2[i]? = some (.lP al od kvs)) ∧
      (∀ (n : Nat) (p : (Int × Int) × Int) ρ2, kvs[n]? = some p → I n ρ2 → ∃ js, GGs X ρ2 ts [.int p.1.1, .int p.1.2] js fun ρ3 => BB X ρ3 body { nx := I (n + 1), rt := fun _ _ => False, ct := I (n + 1) }) ∧ ∀ ρ2, I kvs.length ρ2 → D.nx (ρ2.set i (.dP al kvs)))
    (hN : X.N[i]? = some x := by rfl) (hv : Vis X.env.scope x := by first | exact Or.inl rfl | exact Or.inr (Or.inl rfl) | exact Or.inr (Or.inr rfl)) (hd : (x == ("__debug__" : Str)) = false := by decide) (hcd : (x == ("__classdict__" : Str)) = false := by decide)
    (hn : (assignEach ts X.env).length = 2 := by rfl) (hst : (assignEach ts X.env).findIdx? (·.1) = none := by rfl)
    (hp : PassesOwn (model X.prog X.w) X.A X.env X.xe := by exact PassesOwn.never) (hfs : ∀ z, foldedSetIterable (.Name x px) X.env z = pure z := by intro _; rfl) : SS X ρ (.For (.Tuple ts kk tp) (.Name x px) body [] pos) D := fun F σ H E S k => by
  obtain ⟨z, e1, e2, e3⟩ := S.sl.get hs
  subst e2
  refine ofPS (ps_lock (ps_for hp ck.calm (pi_keys (pe_var hN hv hd hcd)) (pg_tup ck.calm pgsW hn hst) pssW hfs)) ⟨al, _, e3, trivial, fun od => ⟨_, e1, al, od, rfl, .inr ⟨_, upd_same, ?_⟩⟩⟩
  obtain ⟨S0, g0⟩ := S.lockP hs od
  obtain ⟨I, h0, hI, hst', hend⟩ := h od
  generalize hρ0 : ρ.set i (.lP al od kvs) = ρ0 at *
  generalize hH0 : upd H al (.frz od (.dT (kvP kvs))) = H0 at *
  refine ⟨fun n m σ' H' => m = kvs.length - n ∧ n ≤ kvs.length ∧ ∃ ρ2, I n ρ2 ∧ Stt F H' σ' ρ2 ∧ Same (gh F ρ0 H0) (gh F ρ2 H'), ⟨kvs.length, by omega, Nat.zero_le _, ρ0, h0, S0, Same.refl _⟩, ?_⟩
  rintro n m σ' H' ⟨rfl, hle, ρ2, hI2, S2, g2⟩
  have es := hI n ρ2 hI2
  obtain ⟨z', e1', e2', e3'⟩ := S2.sl.get es
  by_cases hlt : n < kvs.length
  · refine .inr ⟨⟨e3', by rw [kvP_len]; exact hlt⟩, fun σ3 H3 => ∃ ρ3, I (n + 1) ρ3 ∧ Stt F H3 σ3 ρ3 ∧ Same (gh F ρ0 H0) (gh F ρ3 H3), fun σ3 H3 ⟨ρ3, a, b, c⟩ => ⟨kvs.length - (n + 1), by omega, rfl, hlt, ρ3, a, b, c⟩, fun xv H3 y => ?_⟩
    obtain ⟨rfl, k', v', q', ek, rfl, eq'⟩ := y
    obtain ⟨p, hp', rfl, rfl⟩ := kvP_at ek
    obtain ⟨js, gg⟩ := hst' n p ρ2 hp' hI2
    refine ⟨q', _, rfl, .of eq', rfl, ?_⟩
    rw [kP_V]
    refine gg F σ' H3 _ _ S2 (.cons (.int _) (.cons (.int _) .nil)) fun σ4 ρ4 hb S4 g4 _ => hb F σ4 H3 _ S4 ⟨fun σ5 H5 ρ5 q S5 g5 => ⟨ρ5, q, S5, (g2.trans g4).trans g5⟩, fun v σ5 H5 d ρ5 q _ _ _ => q.elim, fun σ5 H5 ρ5 q _ _ => q.elim, fun σ5 H5 ρ5 q S5 g5 => ⟨ρ5, q, S5, (g2.trans g4).trans g5⟩⟩
  · have e : n = kvs.length := by omega
    subst e
    refine .inl ⟨⟨e3', by rw [kvP_len]; exact Nat.le_refl _⟩, e3', ?_⟩
    obtain ⟨S3, g3⟩ := S2.openP es
    exact k.nx _ _ _ (hend ρ2 hI2) S3 ((g0.trans g2).trans g3)
theorem lookup_nd {β : Type} : ∀ {kvs : List ((Int × Int) × β)}, (kvs.Pairwise fun a b => a.1 ≠ b.1) → ∀ {i : Nat} {p : (Int × Int) × β}, kvs[i]? = some p → kvs.lookup p.1 = some p.2
  | [], _, i, p, h => by simp at h
  | q :: r, nd, 0, p, h => by
    rw [List.getElem?_cons_zero] at h; cases h
    rw [List.lookup_cons, beq_self_eq_true]
  | q :: r, nd, i + 1, p, h => by
    rw [List.getElem?_cons_succ] at h
    have nd' := List.pairwise_cons.mp nd
    have := nd'.1 p (List.mem_of_getElem? h)
    rw [List.lookup_cons, beq_eq_false_iff_ne.mpr (fun z => this z.symm)]
    exact lookup_nd nd'.2 h
/-- [x[y] for y in x] -/
theorem ee_valsP (i jm : Nat) {scope : Scope} {p1 p2 p3 p4 p5 : Pos} {al : Addr} (ck : CK X) (own : List (Str × Nat)) (ok : BlkOk X.N X.env.scope scope own) (how : own.map (·.2) = [jm]) (hij : i ≠ jm) (hjm : jm < ρ.length) (hs : ρ[i]? = some (.dP al kvs)) (nd : kvs.Pairwise fun a b => a.1 ≠ b.1) (hl : kvs.length ≤ 1000000) (q : Φ (.list (kvs.map fun p => .int p.2)) ρ)
    (hN : X.N[i]? = some x := by rfl) (hv : Vis X.env.scope x := by first | exact Or.inl rfl | exact Or.inr (Or.inl rfl) | exact Or.inr (Or.inr rfl)) (hd : (x == ("__debug__" : Str)) = false := by decide) (hcd : (x == ("__classdict__" : Str)) = false := by decide)
    (hvb : ∀ (s : Shared) (H : Hp) (C : Addr) (cl : List (Str × Addr)) (fp : List Addr), Vis (X.blk s H scope (compEnvC scope cl C X.env) fp).env.scope x := by intro _ _ _ _ _; first | exact Or.inl rfl | exact Or.inr (Or.inl rfl) | exact Or.inr (Or.inr rfl))
    (hNm : X.N[jm]? = some y := by rfl) (hym : ∀ (s : Shared) (H : Hp) (C : Addr) (cl : List (Str × Addr)) (fp : List Addr), Loc (X.blk s H scope (compEnvC scope cl C X.env) fp).env.scope y := by intro _ _ _ _ _; first | exact Or.inl rfl | exact Or.inr rfl) (hyf : ∀ (s : Shared) (H : Hp) (C : Addr) (cl : List (Str × Addr)) (fp : List Addr), (X.blk s H scope (compEnvC scope cl C X.env) fp).env.scope.names.lookup y = some .local := by intro _ _ _ _ _; rfl) (hyv : ∀ (s : Shared) (H : Hp) (C : Addr) (cl : List (Str × Addr)) (fp : List Addr), Vis (X.blk s H scope (compEnvC scope cl C X.env) fp).env.scope y := by intro _ _ _ _ _; first | exact Or.inl rfl | exact Or.inr (Or.inl rfl) | exact Or.inr (Or.inr rfl))
    (hyd : (y == ("__debug__" : Str)) = false := by decide) (hycd : (y == ("__classdict__" : Str)) = false := by decide)
    (hfs : ∀ z, foldedSetIterable (.Name x p4) X.env z = pure z := by intro _; rfl) : EE X ρ (.ListComp (.Subscript (.Name x p1) (.Name y p2) p3) [⟨.Name y p5, .Name x p4, [], 0⟩] scope pos) Φ := fun F σ H Q S k => by
  obtain ⟨z, e1, e2, e3⟩ := S.sl.get hs
  subst e2
  have hu1 : X.A.units + 1 < cLine := by have := ck.hu; omega
  refine ofPE (pe_lock (pe_lc (g := gName jm) (tt := tYes) (te := tDGet (tVar i) (tVar jm)) ck.calm ck.nd (pi_keys (pe_var hN hv hd hcd)) ok (fun s H C cl fp => pg_name ck.blk.nd hNm (hym s H C cl fp) (.inr (hyf s H C cl fp))) (fun s H C cl fp => pts_nil) (fun s H C cl fp => pe_dget hu1 (pe_var hN (hvb s H C cl fp) hd hcd) (pe_var hNm (hyv s H C cl fp) hyd hycd) (fun _ _ => rfl)) hfs)) ⟨al, _, e3, trivial, fun od => ⟨_, e1, al, od, rfl, .inr ⟨_, upd_same, ?_⟩⟩⟩
  obtain ⟨S0, g0⟩ := S.lockP hs od
  rw [how]
  intro Dl hD
  have e0 : upd H al (.frz od (.dT (kvP kvs))) al = some (.frz od (.dT (kvP kvs))) := upd_same
  generalize hH0 : upd H al (.frz od (.dT (kvP kvs))) = H0 at *
  have eo : os (ρ.set i (.lP al od kvs)) = os ρ := os_set_same hs rfl
  have nD : Dl ∉ F.hd ++ os ρ := fun m => S0.ad Dl (by rw [eo]; exact m) hD
  have nal : al ≠ Dl := fun z => by rw [z, hD] at e0; cases e0
  refine ⟨fun n m H1 => m = kvs.length - n ∧ n ≤ kvs.length ∧ Same H0 H1 ∧ H1 Dl = some (.lst ((kvs.take n).map fun p => V.int p.2)), ⟨kvs.length, by omega, Nat.zero_le _, same_new hD, upd_same⟩, ?_⟩
  rintro n m H1 ⟨rfl, hle, s1, eD⟩
  have e4 := s1 _ _ e0
  by_cases hlt : n < kvs.length
  · refine .inr ⟨⟨e4, by rw [kvP_len]; exact hlt⟩, fun H2 => Same H0 H2 ∧ H2 Dl = some (.lst ((kvs.take (n + 1)).map fun p => V.int p.2)), fun H2 ⟨a, b⟩ => ⟨kvs.length - (n + 1), by omega, rfl, hlt, a, b⟩, fun xv H2 y => ?_⟩
    obtain ⟨rfl, k', v', q', ek, rfl, eq'⟩ := y
    obtain ⟨p, hp', rfl, rfl⟩ := kvP_at ek
    have hjl : jm < (wipe σ [jm]).length := by rw [wipe_length, S.len]; exact hjm
    refine ⟨?_, ?_⟩
    rotate_left
    · unfold tYes
      dsimp only
      rw [if_pos rfl]
      refine ⟨_, ?_, _, ?_, al, .int p.2, rfl, .inr ⟨kvP kvs, kP p.1, q', .inr ⟨od, e4⟩, rfl, eq', ?_⟩, _, eD, ?_, ?_, ?_⟩
      · rw [List.getElem?_set_ne (fun z => hij z.symm), wipe_out (by simpa using hij)]
        exact e1
      · exact List.getElem?_set_self hjl
      · rw [valV_kvP, lookup_nd nd hp']; rfl
      · rw [List.length_map, List.length_take]
        exact big_lt (by omega)
      · intro a o ea
        rw [upd_ne (ne_of_none ea hD)]
        exact s1 a o ea
      · rw [upd_same, List.take_succ, hp', List.map_append]; rfl
    · rw [wipe_same (σ := wipe σ [jm]) List.length_set fun j hj => List.getElem?_set_ne fun z => hj (by rw [z]; exact List.mem_singleton.mpr rfl)]
      exact wipe_same (wipe_length σ [jm]) fun j hj => wipe_out hj
  · have e : n = kvs.length := by omega
    subst e
    rw [List.take_length] at eD
    refine .inl ⟨⟨e4, by rw [kvP_len]; exact Nat.le_refl _⟩, e4, ?_⟩
    have S1 := S0.ext s1
    have es1 : (ρ.set i (Sl.lP al od kvs))[i]? = some (.lP al od kvs) := List.getElem?_set_self (List.getElem?_eq_some_iff.mp hs).1
    obtain ⟨S3, g3⟩ := S1.openP es1
    have eρ : (ρ.set i (Sl.lP al od kvs)).set i (.dP al kvs) = ρ := by
      rw [List.set_set]
      have := (List.getElem?_eq_some_iff.mp hs).2
      rw [← this, List.set_getElem_self]
    rw [eρ] at S3 g3
    refine k _ _ _ ρ q S3 ((g0.trans (S0.gext s1)).trans g3) ?_
    have rr : ∀ l : List ((Int × Int) × Int), RpAll (gh F ρ (upd H1 al (.dT (kvP kvs)))) (l.map fun p => V.int p.2) (l.map fun p => PyData.int p.2) := fun l => by
      induction l with
      | nil => exact .nil
      | cons a l ih => exact .cons (.int _) ih
    exact .lst ((mask_out nD).trans ((upd_ne fun z => nal z.symm).trans eD)) (rr kvs)
end
end DL

namespace DL
open PySem PySem.Spec PyProof.Rows L2
/-! ### zip walked by one name: each pair stays out -/
abbrev ZO (h : Heap) (z TI TO : Addr) (v : Value) (f : Bool) : Prop := h.get? z = some { cls := .type "zip", dict := none, data := .fields #[v, .bool f, .bool false, .ref TI, .ref TO], slots := #[] }
/-- the pair that was given out before is not to be seen any more -/
def Free (prog : Program) (w : World) (s : Shared) (z : Addr) : Prop := ∀ (A : Around) (E : Value → Shared → Prop) (Q : Bool → Shared → Prop), Q true s → wpAny (model prog w) A (Builtin.SmallTypes.ownedTupleIsFree (.ref z)) Q E s
section
variable {prog : Program} {w : World} {A : Around} {E : Value → Shared → Prop} {s : Shared} {z TI TO i1 i2 l1 l2 : Addr} {k : Nat} {xs ys : Array Value} {v x y a b : Value} {f : Bool}
theorem free_none (hz : ZO s.heap z TI TO .none f) : Free prog w s z := fun A E Q q => by
  unfold Builtin.SmallTypes.ownedTupleIsFree
  exact wpAny_bind (wpAny_field hz rfl (x := .none) rfl (wpAny_pure q))
theorem dead_load {T : Addr} {Q : Option Obj → Shared → Prop} (hT : s.heap.get? T = none) (q : Q none s) : wpAny (model prog w) A (loadIfAlive T) Q E s := by
  have q' : Q (s.heap.get? T) s := by rw [hT]; exact q
  exact fun _ _ _ => q'
theorem free_dead {T : Addr} (hz : ZO s.heap z TI TO (rawInt T) f) (hT : s.heap.get? T = none) : Free prog w s z := fun A E Q q => by
  unfold Builtin.SmallTypes.ownedTupleIsFree
  refine wpAny_bind (wpAny_field hz rfl (x := rawInt T) rfl ?_); show wpAny _ _ (loadIfAlive ((T : Int).toNat) >>= _) _ _ _
  rw [Int.toNat_natCast]
  refine wpAny_bind (dead_load hT ?_); simp only [Option.isNone_none, if_true]
  exact wpAny_pure q
theorem zfree_item {Q : Value → Shared → Prop} (Ap : ZipApart z TI TO i1 i2 l1 l2) (hz : ZO s.heap z TI TO v f) (fr : Free prog w s z) (hTI : IsPair s.heap TI (.ref i1) (.ref i2)) (hTO : IsPair s.heap TO a b) (g1 : s.heap.IsListIter i1 l1 k) (g2 : s.heap.IsListIter i2 l2 k) (m1 : s.heap.IsList l1 xs) (m2 : s.heap.IsList l2 ys) (ex : xs[k]? = some x) (ey : ys[k]? = some y)
    (hQ : ∀ h', ZO h' z TI TO (rawInt s.heap.objs.size) false → IsPair h' TO x y → h'.IsListIter i1 l1 (k + 1) → h'.IsListIter i2 l2 (k + 1) → IsPair h' s.heap.objs.size x y → h'.objs.size = s.heap.objs.size + 1 → (∀ c o, c ≠ z → c ≠ TO → c ≠ i1 → c ≠ i2 → s.heap.get? c = some o → h'.get? c = some o) → Q (.ref s.heap.objs.size) { s with heap := h' }) :
    wpAny (model prog w) A (Builtin.«zip.__next__» ⟨[.ref z], []⟩) (fun fin s' => ∃ v, fin = .done (.ret v) ∧ Q v s') E s := by
  show wpAny _ A (field (.ref z) 2 >>= _) _ E s
  refine wpAny_bind (wpAny_field hz rfl (x := .bool false) rfl ?_); show wpAny _ A (field (.ref z) 3 >>= _) _ E s
  refine wpAny_bind (wpAny_field hz rfl (x := .ref TI) rfl (wpAny_bind (wpAny_seqItems hTI rfl ?_)))
  show wpAny _ A (Builtin.SmallTypes.ownedTupleIsFree (.ref z) >>= _) _ E s
  refine wpAny_bind (fr A E _ ?_); simp only [if_true]
  refine wpAny_bind (wpAny_rule (wpAny_bind (wpAny_field hz rfl (x := .ref TO) rfl (wpAny_bind (wpAny_setField_rec hz (by simp) fun p1 zp1 sp1 => ?_)))))
  replace zp1 : ZO p1 z TI TO .ellipsis f := zp1
  refine wpAny_bind ?_; simp only [List.zipIdx_cons, List.zipIdx_nil, List.forIn_cons, List.forIn_nil]
  refine wpAny_bind (wpAny_bind (wpAny_onRaise ?_)); show wpAny _ A (Builtin.SmallTypes.nextOf (.ref i1) >>= _) _ _ _
  refine wpAny_bind (wpAny_nextOf_list_item (g1.extBut sp1.extBut Ap.i1z) (m1.extBut sp1.extBut Ap.l1z) ex fun p2 gp2 sp2 => wpAny_pure ?_)
  have tp2 : IsPair p2 TO a b := sp2.extBut _ _ Ap.TOi1 (sp1.extBut _ _ Ap.TOz hTO)
  refine wpAny_bind (wpAny_seqItems tp2 rfl (wpAny_bind (wpAny_updateSeq_pair tp2 fun p3 tp3 sp3 => ?_)))
  replace tp3 : IsPair p3 TO x b := tp3
  refine wpAny_bind (wpAny_letGo (wpAny_pure (wpAny_bind (wpAny_bind (wpAny_onRaise ?_))))); show wpAny _ A (Builtin.SmallTypes.nextOf (.ref i2) >>= _) _ _ _
  have gp3 := ((g2.extBut sp1.extBut Ap.i2z).extBut sp2.extBut Ap.i12.symm).extBut sp3.extBut Ap.TOi2.symm
  have mp3 := ((m2.extBut sp1.extBut Ap.l2z).extBut sp2.extBut Ap.l2i1).extBut sp3.extBut Ap.l2TO
  refine wpAny_bind (wpAny_nextOf_list_item gp3 mp3 ey fun p4 gp4 sp4 => wpAny_pure ?_)
  have tp4 : IsPair p4 TO x b := sp4.extBut _ _ Ap.TOi2 tp3
  refine wpAny_bind (wpAny_seqItems tp4 rfl (wpAny_bind (wpAny_updateSeq_pair tp4 fun p5 tp5 sp5 => ?_)))
  replace tp5 : IsPair p5 TO x y := tp5
  refine wpAny_bind (wpAny_letGo (wpAny_pure (wpAny_pure (wpAny_bind (wpAny_seqItems tp5 rfl (wpAny_bind (wpAny_newTuple ?_)))))))
  have esz : p5.objs.size = s.heap.objs.size := by rw [sp5.1, sp4.1, sp3.1, sp2.1, sp1.1]
  have zp5 : ZO p5 z TI TO .ellipsis f := sp5.extBut _ _ Ap.TOz.symm (sp4.extBut _ _ Ap.i2z.symm (sp3.extBut _ _ Ap.TOz.symm (sp2.extBut _ _ Ap.i1z.symm zp1)))
  have kp5 : ∀ c o, c ≠ z → c ≠ TO → c ≠ i1 → c ≠ i2 → s.heap.get? c = some o → p5.get? c = some o := fun c o d1 d2 d3 d4 e => sp5.extBut _ _ d2 (sp4.extBut _ _ d4 (sp3.extBut _ _ d2 (sp2.extBut _ _ d3 (sp1.extBut _ _ d1 e))))
  have gq1 : p5.IsListIter i1 l1 (k + 1) := ((gp2.extBut sp3.extBut Ap.TOi1.symm).extBut sp4.extBut Ap.i12).extBut sp5.extBut Ap.TOi1.symm
  have gq2 : p5.IsListIter i2 l2 (k + 1) := gp4.extBut sp5.extBut Ap.TOi2.symm
  have zlt : z < p5.objs.size := Heap.lt_size zp5
  show wpAny _ A (Builtin.SmallTypes.ownedTupleHandOut (.ref z) (.ref p5.objs.size) >>= _) _ E _
  refine wpAny_bind ?_; unfold Builtin.SmallTypes.ownedTupleHandOut
  have zp6 : ZO (p5.push { cls := .type "tuple", data := .seq #[x, y] }) z TI TO .ellipsis f := Heap.get?_push_of_some _ zp5
  refine wpAny_bind (wpAny_setField_rec zp6 (by simp) fun p7 zp7 sp7 => ?_)
  replace zp7 : ZO p7 z TI TO (rawInt p5.objs.size) f := zp7
  refine wpAny_setField_rec zp7 (by simp) fun p8 zp8 sp8 => ?_
  replace zp8 : ZO p8 z TI TO (rawInt p5.objs.size) false := zp8
  have up8 : ∀ c o, c ≠ z → p5.get? c = some o → p8.get? c = some o := fun c o d1 e => sp8.extBut _ _ d1 (sp7.extBut _ _ d1 (Heap.get?_push_of_some _ e))
  have tup8 : IsPair p8 p5.objs.size x y := sp8.extBut _ _ (Nat.ne_of_gt zlt) (sp7.extBut _ _ (Nat.ne_of_gt zlt) (Heap.get?_push_size _ rfl))
  have sz8 : p8.objs.size = p5.objs.size + 1 := by rw [sp8.1, sp7.1, Heap.size_push]
  rw [esz] at zp8 tup8 sz8
  refine wpAny_pure ⟨_, rfl, ?_⟩; show Q (.ref p5.objs.size) _
  rw [esz]
  exact hQ p8 zp8 (up8 _ _ Ap.TOz tp5) (gq1.at fun o e => up8 _ o Ap.i1z e) (gq2.at fun o e => up8 _ o Ap.i2z e) tup8 sz8 fun c o d1 d2 d3 d4 e => up8 c o d1 (kp5 c o d1 d2 d3 d4 e)
theorem zfree_end {Q : Fin → Shared → Prop} (hh : A.handled = none) (Ap : ZipApart z TI TO i1 i2 l1 l2) (hz : ZO s.heap z TI TO v f) (fr : Free prog w s z) (hTI : IsPair s.heap TI (.ref i1) (.ref i2)) (hTO : IsPair s.heap TO a b) (g1 : s.heap.IsListIter i1 l1 k) (g2 : s.heap.IsListIter i2 l2 k) (m1 : s.heap.IsList l1 xs) (m2 : s.heap.IsList l2 ys) (hend : xs[k]? = none ∨ ys[k]? = none)
    (hE : ∀ h' e, (∀ c o, c ≠ z → c ≠ TO → c ≠ i1 → c ≠ i2 → s.heap.get? c = some o → h'.get? c = some o) → (∃ o, h'.get? e = some o ∧ o.cls = .type "StopIteration") → E (.ref e) { s with heap := h' }) : wpAny (model prog w) A (Builtin.«zip.__next__» ⟨[.ref z], []⟩) Q E s := by
  show wpAny _ A (field (.ref z) 2 >>= _) _ E s
  refine wpAny_bind (wpAny_field hz rfl (x := .bool false) rfl ?_); show wpAny _ A (field (.ref z) 3 >>= _) _ E s
  refine wpAny_bind (wpAny_field hz rfl (x := .ref TI) rfl (wpAny_bind (wpAny_seqItems hTI rfl ?_)))
  show wpAny _ A (Builtin.SmallTypes.ownedTupleIsFree (.ref z) >>= _) _ E s
  refine wpAny_bind (fr A E _ ?_); simp only [if_true]
  refine wpAny_bind (wpAny_rule (wpAny_bind (wpAny_field hz rfl (x := .ref TO) rfl (wpAny_bind (wpAny_setField_rec hz (by simp) fun p1 zp1 sp1 => ?_)))))
  replace zp1 : ZO p1 z TI TO .ellipsis f := zp1
  refine wpAny_bind ?_; simp only [List.zipIdx_cons, List.zipIdx_nil, List.forIn_cons, List.forIn_nil]
  refine wpAny_bind (wpAny_bind (wpAny_onRaise ?_)); show wpAny _ A (Builtin.SmallTypes.nextOf (.ref i1) >>= _) _ _ _
  cases ex : xs[k]? with
  | none =>
    refine wpAny_bind (wpAny_nextOf_list_end hh (g1.extBut sp1.extBut Ap.i1z) (m1.extBut sp1.extBut Ap.l1z) ex fun p2 er sp2 her => ?_)
    obtain ⟨oe, eo, ec⟩ := her
    have zp2 : ZO p2 z TI TO .ellipsis f := sp2 _ _ Ap.i1z.symm zp1
    have ne : er ≠ z := fun q => by subst q; rw [zp2] at eo; cases eo; simp at ec
    exact wpAny_setField_rec zp2 (by simp) fun p3 _ sp3 => hE p3 er (fun c o d1 _ d3 _ q => sp3.extBut _ _ d1 (sp2 _ _ d3 (sp1.extBut _ _ d1 q))) ⟨oe, sp3.extBut _ _ ne eo, ec⟩
  | some x =>
    have ey : ys[k]? = none := hend.elim (fun q => by rw [ex] at q; cases q) id
    refine wpAny_bind (wpAny_nextOf_list_item (g1.extBut sp1.extBut Ap.i1z) (m1.extBut sp1.extBut Ap.l1z) ex fun p2 gp2 sp2 => wpAny_pure ?_)
    have tp2 : IsPair p2 TO a b := sp2.extBut _ _ Ap.TOi1 (sp1.extBut _ _ Ap.TOz hTO)
    refine wpAny_bind (wpAny_seqItems tp2 rfl (wpAny_bind (wpAny_updateSeq_pair tp2 fun p3 tp3 sp3 => ?_)))
    refine wpAny_bind (wpAny_letGo (wpAny_pure (wpAny_bind (wpAny_bind (wpAny_onRaise ?_))))); show wpAny _ A (Builtin.SmallTypes.nextOf (.ref i2) >>= _) _ _ _
    have gp3 := ((g2.extBut sp1.extBut Ap.i2z).extBut sp2.extBut Ap.i12.symm).extBut sp3.extBut Ap.TOi2.symm
    have mp3 := ((m2.extBut sp1.extBut Ap.l2z).extBut sp2.extBut Ap.l2i1).extBut sp3.extBut Ap.l2TO
    refine wpAny_bind (wpAny_nextOf_list_end hh gp3 mp3 ey fun p4 er sp4 her => ?_)
    obtain ⟨oe, eo, ec⟩ := her
    have zp4 : ZO p4 z TI TO .ellipsis f := sp4 _ _ Ap.i2z.symm (sp3.extBut _ _ Ap.TOz.symm (sp2.extBut _ _ Ap.i1z.symm zp1))
    have ne : er ≠ z := fun q => by subst q; rw [zp4] at eo; cases eo; simp at ec
    exact wpAny_setField_rec zp4 (by simp) fun p5 _ sp5 => hE p5 er (fun c o d1 d2 d3 d4 q => sp5.extBut _ _ d1 (sp4 _ _ d4 (sp3.extBut _ _ d2 (sp2.extBut _ _ d3 (sp1.extBut _ _ d1 q))))) ⟨oe, sp5.extBut _ _ ne eo, ec⟩
/-- the zip between two turns -/
def ZSt (z TI TO i1 i2 l1 l2 : Addr) (i : Nat) (h : Heap) : Prop := (∃ v f, ZO h z TI TO v f ∧ (v = .none ∨ ∃ T : Addr, v = rawInt T)) ∧ IsPair h TI (.ref i1) (.ref i2) ∧ (∃ x y, IsPair h TO x y) ∧ h.IsListIter i1 l1 i ∧ h.IsListIter i2 l2 i
theorem zst_item {Q : Option Value → Shared → Prop} (Ap : ZipApart z TI TO i1 i2 l1 l2) (st : ZSt z TI TO i1 i2 l1 l2 k s.heap) (m1 : s.heap.IsList l1 xs) (m2 : s.heap.IsList l2 ys) (ex : xs[k]? = some x) (ey : ys[k]? = some y)
    (hQ : ∀ h', ZSt z TI TO i1 i2 l1 l2 (k + 1) h' → IsPair h' s.heap.objs.size x y → (∀ c o, c ≠ z → c ≠ TO → c ≠ i1 → c ≠ i2 → s.heap.get? c = some o → h'.get? c = some o) → Q (some (.ref s.heap.objs.size)) { s with heap := h' }) : wpAny (model prog w) A (pyNext (.ref z)) Q E s := by
  obtain ⟨⟨v, f, hz, hv⟩, hTI, ⟨a, b, hTO⟩, g1, g2⟩ := st
  have ty : s.TypeIs (.ref z) "zip" := ⟨_, hz, rfl⟩
  have free : Free prog w s z → wpAny (model prog w) A (pyNext (.ref z)) Q E s := fun fr => by
    unfold pyNext
    refine wpAny_bind (wpAny_attempt (wpAny_callSpecial?_slot (name := Str.ofString "__next__") ty F.slot_zip_next (wpAny_call_entry F.slot_zip_next ty F.entry_zip_next (zfree_item Ap hz fr hTI hTO g1 g2 m1 m2 ex ey fun h' q1 q2 q3 q4 q5 q6 q7 => wpAny_pure (hQ h' ⟨⟨_, _, q1, .inr ⟨_, rfl⟩⟩, q7 _ _ Ap.TIz Ap.TITO Ap.TIi1 Ap.TIi2 hTI, ⟨_, _, q2⟩, q3, q4⟩ q5 q7)) (F.args_zip_next_1 _))))
  rcases hv with rfl | ⟨T, rfl⟩
  · exact free (free_none hz)
  · cases hT : s.heap.get? T with
    | none => exact free (free_dead hz hT)
    | some oT => exact wpAny_pyNext_zip_item_held Ap hz hT hTI g1 g2 m1 m2 ex ey fun h' q1 q3 q4 q5 q6 q7 => hQ h' ⟨⟨_, _, q1, .inr ⟨_, rfl⟩⟩, q7 _ _ Ap.TIz Ap.TIi1 Ap.TIi2 hTI, ⟨_, _, q7 _ _ Ap.TOz Ap.TOi1 Ap.TOi2 hTO⟩, q3, q4⟩ q5 fun c o d1 _ d3 d4 e => q7 c o d1 d3 d4 e
theorem zst_end {Q : Option Value → Shared → Prop} (hh : A.handled = none) (Ap : ZipApart z TI TO i1 i2 l1 l2) (st : ZSt z TI TO i1 i2 l1 l2 k s.heap) (m1 : s.heap.IsList l1 xs) (m2 : s.heap.IsList l2 ys) (hend : xs[k]? = none ∨ ys[k]? = none)
    (hQ : ∀ h', (∀ c o, c ≠ z → c ≠ TO → c ≠ i1 → c ≠ i2 → s.heap.get? c = some o → h'.get? c = some o) → Q none { s with heap := h' }) : wpAny (model prog w) A (pyNext (.ref z)) Q E s := by
  obtain ⟨⟨v, f, hz, hv⟩, hTI, ⟨a, b, hTO⟩, g1, g2⟩ := st
  have ty : s.TypeIs (.ref z) "zip" := ⟨_, hz, rfl⟩
  have free : Free prog w s z → wpAny (model prog w) A (pyNext (.ref z)) Q E s := fun fr => by
    unfold pyNext
    refine wpAny_bind (wpAny_attempt (wpAny_callSpecial?_slot (name := Str.ofString "__next__") ty F.slot_zip_next (wpAny_call_entry F.slot_zip_next ty F.entry_zip_next (zfree_end hh Ap hz fr hTI hTO g1 g2 m1 m2 hend fun h' er hk her => ?_) (F.args_zip_next_1 _))))
    obtain ⟨o, ho, hc⟩ := her
    exact wpAny_bind (wpAny_isInstance (T := "StopIteration") (b := true) ⟨o, ho, hc⟩ isSubtype_stop (wpAny_pure (hQ _ hk)))
  rcases hv with rfl | ⟨T, rfl⟩
  · exact free (free_none hz)
  · cases hT : s.heap.get? T with
    | none => exact free (free_dead hz hT)
    | some oT => exact wpAny_pyNext_zip_end_held hh Ap hz hT hTI g1 g2 m1 m2 hend fun h' q => hQ h' fun c o d1 _ d3 d4 e => q c o d1 d3 d4 e
end
theorem zself {prog : Program} {w : World} {A : Around} {E : Value → Shared → Prop} {s : Shared} {z TI TO : Addr} {v : Value} {f : Bool} {Q : Value → Shared → Prop} (hz : ZO s.heap z TI TO v f) (h : Q (.ref z) s) : wpAny (model prog w) A (pyIter (.ref z)) Q E s := by
  have ty : s.TypeIs (.ref z) "zip" := ⟨_, hz, rfl⟩
  exact wpAny_pyIter_slot ty F.slot_zip_iter (wpAny_call_entry F.slot_zip_iter ty F.entry_zip_iter (show wpAny _ _ (ret (.ref z)) _ _ s from wpAny_pure ⟨_, rfl, "zip", _, ty, F.slot_zip_next.lookup, h⟩) (F.args_zip_iter_1 _))
theorem turn_zipN {P : Program} {w : World} {K : PySem.W.Frag} {t : Str} {tp : Pos} {a b z TI TO i1 i2 : Addr} (Ap : ZipApart z TI TO i1 i2 a b) : Turn P w K (.Name t tp) (Itz K a b) [z, TI, TO, i1, i2] z (ZSt z TI TO i1 i2 a b) where
  mem := by simp
  obj := fun i h st c hc => by
    obtain ⟨⟨v, f, hz, _⟩, hTI, ⟨x, y, hTO⟩, ⟨o1, e1, _, d1⟩, ⟨o2, e2, _, d2⟩⟩ := st
    have hc' : c = z ∨ c = TI ∨ c = TO ∨ c = i1 ∨ c = i2 := by simpa using hc
    rcases hc' with rfl | rfl | rfl | rfl | rfl
    · exact ⟨_, hz, fun _ q => nomatch q⟩
    · exact ⟨_, hTI, fun _ q => nomatch q⟩
    · exact ⟨_, hTO, fun _ q => nomatch q⟩
    · exact ⟨o1, e1, fun _ q => by rw [d1] at q; cases q⟩
    · exact ⟨o2, e2, fun _ q => by rw [d2] at q; cases q⟩
  keep := fun i h h' st kp => by
    obtain ⟨⟨v, f, hz, hv⟩, hTI, ⟨x, y, hTO⟩, g1, g2⟩ := st
    exact ⟨⟨v, f, kp z (by simp) _ hz, hv⟩, kp TI (by simp) _ hTI, ⟨x, y, kp TO (by simp) _ hTO⟩, g1.at fun o q => kp i1 (by simp) o q, g2.at fun o q => kp i2 (by simp) o q⟩
  item := by
    intro X hP hw hK hc i pins s σ H E I hf st hg
    subst hP hw hK
    obtain ⟨xs, ys, x, y, sx, sy, ex, ey⟩ := hg
    obtain ⟨its, rv, p1, _⟩ := I.list sx
    obtain ⟨its2, rv2, p2, _⟩ := I.list sy
    obtain ⟨u, hu, ru⟩ := rv.get ex
    obtain ⟨u2, hu2, ru2⟩ := rv2.get ey
    have hlt : ∀ c ∈ [z, TI, TO, i1, i2], c < s.heap.objs.size := fun c hcm => by
      obtain ⟨⟨v, f, hz, _⟩, hTI, ⟨_, _, hTO⟩, ⟨o1, e1, _⟩, ⟨o2, e2, _⟩⟩ := st
      have hc' : c = z ∨ c = TI ∨ c = TO ∨ c = i1 ∨ c = i2 := by simpa using hcm
      rcases hc' with rfl | rfl | rfl | rfl | rfl
      · exact Heap.lt_size hz
      · exact Heap.lt_size hTI
      · exact Heap.lt_size hTO
      · exact Heap.lt_size e1
      · exact Heap.lt_size e2
    refine zst_item Ap st p1.isList p2.isList (x := u) (y := u2) (by simpa using hu) (by simpa using hu2) fun h' st' hT hk => ⟨_, rfl, wpAny_pure ?_⟩
    have I1 : Inv X pins σ (upd H s.heap.objs.size (.tup [x, y])) { s with heap := h' } :=
      I.turnedNew (t' := s.toks) (ch := [z, TI, TO, i1, i2]) (fun c o hb q => hk c o (fun e => hb (by simp [e])) (fun e => hb (by simp [e])) (fun e => hb (by simp [e])) (fun e => hb (by simp [e])) q) hf (Nat.le_refl _) ⟨by show 2 ≤ sizeLine; decide, [u, u2], .cons ru (.cons ru2 .nil), ⟨_, hT, rfl, _, rfl⟩⟩
    exact ⟨.ref s.heap.objs.size, _, I1, rfl, ⟨_, x, y, rfl, I.hok.fresh (Nat.le_refl _), rfl, fun l hl => by rw [I.list_inj hl sx]; exact ex, fun l hl => by rw [I.list_inj hl sy]; exact ey⟩, st', fun c hcm => by rw [upd_ne (Nat.ne_of_lt (hlt c hcm))]; exact (hf c hcm).1⟩
  done := by
    intro X hP hw hK hc i pins s σ H E I hf st hg
    subst hP hw hK
    obtain ⟨xs, ys, sx, sy, hend⟩ := hg
    obtain ⟨its, rv, p1, _⟩ := I.list sx
    obtain ⟨its2, rv2, p2, _⟩ := I.list sy
    have n1 := rv.length
    have n2 := rv2.length
    have he : its.toArray[i]? = none ∨ its2.toArray[i]? = none := hend.imp (fun q => by simp; omega) fun q => by simp; omega
    exact zst_end (I.ok.hd hc) Ap st p1.isList p2.isList he fun h' hk => ⟨rfl, I.turnedL (t' := s.toks) (ch := [z, TI, TO, i1, i2]) (fun c o hb q => hk c o (fun e => hb (by simp [e])) (fun e => hb (by simp [e])) (fun e => hb (by simp [e])) (fun e => hb (by simp [e])) q) hf⟩
  self := fun A i s Q E st h => by
    obtain ⟨⟨v, f, hz, _⟩, _⟩ := st
    exact zself hz h
theorem pi_zipN {X : Cx} {e e2 : Expr} {ta : TA} {p pos tp : Pos} {t : Str} (hg : Gl X "zip") (hm : X.mg "zip" = none) (ha : PA X [e, e2] ta)
    (hs : starEach [e, e2] X.env = (false, eval e X.env) :: starEach [e2] X.env := by rfl) (hpl : (backTo pos (starEach [e2] X.env)).any (·.1) = false := by rfl) : PI X (.Name t tp) (.Call (.Name "zip" p) [e, e2] [] pos) (iZip X.K ta) := by
  refine ⟨fun pins s σ H R I h => Call_ (ld_blt I hg hm PyProof.Rows.boot_zip (PyProof.Rows.callWith_type1 (thn (ha.run pos pins s σ H _ I h) fun us s1 ⟨vs, H1, I1, r1, a, b, xs, ys, ex, sx, sy, q⟩ => ?_) hs hpl))⟩
  subst ex
  obtain ⟨ua, ub, rfl, ra, rb⟩ := vals2 r1
  · cases ra
    cases rb
    obtain ⟨its, rv, p1, _⟩ := I1.list sx
    obtain ⟨its2, rv2, p2, _⟩ := I1.list sy
    refine call_zip_2 p1.isList p2.isList fun h' hz hTI hTO g1 g2 hsz hk => zself hz ?_
    refine ⟨s1.heap.objs.size + 4, [s1.heap.objs.size + 4, s1.heap.objs.size + 2, s1.heap.objs.size + 3, s1.heap.objs.size, s1.heap.objs.size + 1], _, _, H1, rfl, I1.kept (t' := s1.toks) hk, turn_zipN (PySem.W.ktu_apart s1.heap.objs.size a b p1.lt p2.lt), ⟨⟨_, _, hz, .inl rfl⟩, hTI, ⟨_, _, hTO⟩, g1, g2⟩, fun c hcm => ?_, q⟩
    have hle : s1.heap.objs.size ≤ c := by
      have hc' : c = s1.heap.objs.size + 4 ∨ c = s1.heap.objs.size + 2 ∨ c = s1.heap.objs.size + 3 ∨ c = s1.heap.objs.size ∨ c = s1.heap.objs.size + 1 := by simpa using hcm
      have : ∀ n : Nat, s1.heap.objs.size ≤ s1.heap.objs.size + n := fun n => Nat.le_add_right _ n
      rcases hc' with e | e | e | e | e <;> rw [e] <;> first | exact this _ | exact Nat.le_refl _
    exact I1.fpOk hle (I1.hok.fresh hle)
section
variable {X : Cx} {ρ : List Sl} {a b : Expr} {pos : Pos} {Θ : List PyData → List Sl → Prop}
theorem ii_zipN {p tp : Pos} {t : Str} (ck : CK X) (h : EA X ρ [a, b] fun ds ρ1 => ∃ xs ys, ds = [.list xs, .list ys] ∧ Θ (zipD xs ys) ρ1) (hg : Gl X "zip" := by rfl)
    (hs : starEach [a, b] X.env = (false, eval a X.env) :: starEach [b] X.env := by rfl) (hpl : (backTo pos (starEach [b] X.env)).any (·.1) = false := by rfl) : II X ρ (.Name t tp) (.Call (.Name "zip" p) [a, b] [] pos) Θ :=
  ⟨_, pi_zipN hg (ck.bt _ (by simp [bNames])) paW hs hpl, fun F σ H R S k => h F σ H _ S fun vs H' ds ρ' q S' g r => by
    obtain ⟨xs, ys, ed, q⟩ := q
    subst ed
    match r with
    | .cons (.lst e1 r1) (.cons (.lst e2 r2) .nil) => exact ⟨_, _, _, _, rfl, .of (mask_le _ _ e1), .of (mask_le _ _ e2), k _ H' _ ρ' q S' g (jok_zip e1 e2 r1 r2)⟩⟩
end
end DL

/-! the mirror of the program's reckoning: plain lists of ints -/
namespace FM
structure Fy where
  s : Int
  w : Int
  a : Int
  m : Int
structure Fy.Ok (F : Fy) : Prop where
  s1 : 1 ≤ F.s
  s2 : F.s ≤ 12
  w1 : 1 ≤ F.w
  w2 : F.w ≤ 20
  a1 : 1 ≤ F.a
  a2 : F.a ≤ 20
  m1 : 1 ≤ F.m
  m2 : F.m ≤ 9
abbrev Lvs := List (Int × Int)
structure BkOk (F : Fy) (last : Int) (ls : Lvs) : Prop where
  l0 : 0 ≤ last
  l1 : last ≤ 60
  n : ls.length ≤ 10
  tk : ∀ p ∈ ls, 0 ≤ p.1 ∧ p.1 ≤ last
  ld : ∀ p ∈ ls, 1 ≤ p.2 ∧ p.2 ≤ F.s
  up : ls.Pairwise fun p q => p.1 < q.1
def endless : Int := 1000000
/-- what leavings tell, so far -/
structure BS where
  L : List Int
  U : List Int
  good : Bool
def upL (L : List Int) (t : Int) (v : Int) : List Int := L.set t.toNat (max (L.getD t.toNat 0) v)
def upU (U : List Int) (t : Int) (v : Int) : List Int := if 0 ≤ t then U.set t.toNat (min (U.getD t.toNat 0) v) else U
def leave (F : Fy) (b : BS) (home gone tick load : Int) : BS :=
  if tick < home then ⟨upL b.L tick (gone + load), b.U, false⟩
  else if load < F.s then
    if tick - F.w < home then ⟨upL b.L tick (gone + load), upU b.U tick (gone + load), false⟩
    else ⟨upL (upL b.L tick (gone + load)) (tick - F.w) (gone + 1), upU (upU b.U tick (gone + load)) (tick - F.w - 1) (if home < tick - F.w then gone else endless), b.good⟩
  else ⟨upL b.L tick (gone + load), upU (upU b.U (tick - 1) (if home < tick then gone + F.s - 1 else endless)) (tick - F.w - 1) (if home < tick - F.w then gone else endless), b.good⟩
def leaves (F : Fy) : BS → Int → Int → Lvs → BS × Int × Int
  | b, home, gone, [] => (b, home, gone)
  | b, home, gone, p :: r => leaves F (leave F b home gone p.1 p.2) (p.1 + F.a) (gone + p.2) r
def bs0 (last : Int) : BS := ⟨List.replicate (last + 1).toNat 0, List.replicate (last + 1).toNat endless, true⟩
def close (F : Fy) (last : Int) (x : BS × Int × Int) : BS :=
  if x.2.1 ≤ last then ⟨x.1.L, upU (upU x.1.U last (x.2.2 + F.s - 1)) (last - F.w) (if x.2.1 ≤ last - F.w then x.2.2 else endless), x.1.good⟩ else x.1
def bounds (F : Fy) (last : Int) (ls : Lvs) : BS := close F last (leaves F (bs0 last) 0 0 ls)
def goneOf (ls : Lvs) : Int := (ls.map (·.2)).sum
/-- forward: the least, the most -/
def fwdL : Int → List Int → List Int
  | _, [] => []
  | p, x :: r => max x p :: fwdL (max x p) r
def fwdU (m : Int) : Int → List Int → List Int
  | _, [] => []
  | p, x :: r => min x (p + m) :: fwdU m (min x (p + m)) r
def bwdL (m : Int) : List Int → List Int
  | [] => []
  | [x] => [x]
  | x :: y :: r => max x ((bwdL m (y :: r)).headD 0 - m) :: bwdL m (y :: r)
def bwdU : List Int → List Int
  | [] => []
  | [x] => [x]
  | x :: y :: r => min x ((bwdU (y :: r)).headD 0) :: bwdU (y :: r)
def finL (F : Fy) (b : BS) : List Int := bwdL F.m (fwdL 0 b.L)
def finU (F : Fy) (b : BS) : List Int := bwdU (fwdU F.m 0 b.U)
def stairsB (F : Fy) (b : BS) : Option (List (Int × Int)) :=
  if (b.good && decide ((finL F b).headD 0 ≤ F.m)) = true then
    (if (((finL F b).zip (finU F b)).all fun p => decide (p.1 ≤ p.2)) = true then some ((finL F b).zip (finU F b)) else none)
  else none
def stairs (F : Fy) (last : Int) (ls : Lvs) : Option (List (Int × Int)) := stairsB F (bounds F last ls)
theorem upL_len (L : List Int) (t v : Int) : (upL L t v).length = L.length := by unfold upL; rw [List.length_set]
theorem upU_len (L : List Int) (t v : Int) : (upU L t v).length = L.length := by unfold upU; split <;> simp
theorem leave_lenL (F : Fy) (b : BS) (h g t l : Int) : (leave F b h g t l).L.length = b.L.length := by
  unfold leave; split
  · exact upL_len _ _ _
  · split
    · split
      · exact upL_len _ _ _
      · exact (upL_len _ _ _).trans (upL_len _ _ _)
    · exact upL_len _ _ _
theorem leave_lenU (F : Fy) (b : BS) (h g t l : Int) : (leave F b h g t l).U.length = b.U.length := by
  unfold leave; split
  · rfl
  · split
    · split
      · exact upU_len _ _ _
      · exact (upU_len _ _ _).trans (upU_len _ _ _)
    · exact (upU_len _ _ _).trans (upU_len _ _ _)
theorem leaves_lenL (F : Fy) : ∀ (ls : Lvs) (b : BS) (h g : Int), (leaves F b h g ls).1.L.length = b.L.length
  | [], _, _, _ => rfl
  | p :: r, b, h, g => by
    show (leaves F (leave F b h g p.1 p.2) (p.1 + F.a) (g + p.2) r).1.L.length = _
    rw [leaves_lenL F r, leave_lenL]
theorem leaves_lenU (F : Fy) : ∀ (ls : Lvs) (b : BS) (h g : Int), (leaves F b h g ls).1.U.length = b.U.length
  | [], _, _, _ => rfl
  | p :: r, b, h, g => by
    show (leaves F (leave F b h g p.1 p.2) (p.1 + F.a) (g + p.2) r).1.U.length = _
    rw [leaves_lenU F r, leave_lenU]
theorem close_lenL (F : Fy) (last : Int) (x : BS × Int × Int) : (close F last x).L.length = x.1.L.length := by unfold close; split <;> rfl
theorem close_lenU (F : Fy) (last : Int) (x : BS × Int × Int) : (close F last x).U.length = x.1.U.length := by
  unfold close; split
  · exact (upU_len _ _ _).trans (upU_len _ _ _)
  · rfl
theorem bounds_lenL (F : Fy) (last : Int) (ls : Lvs) : (bounds F last ls).L.length = (last + 1).toNat := by
  unfold bounds; rw [close_lenL, leaves_lenL]; exact List.length_replicate
theorem bounds_lenU (F : Fy) (last : Int) (ls : Lvs) : (bounds F last ls).U.length = (last + 1).toNat := by
  unfold bounds; rw [close_lenU, leaves_lenU]; exact List.length_replicate
theorem fwdL_len : ∀ (l : List Int) (p : Int), (fwdL p l).length = l.length
  | [], _ => rfl
  | x :: r, p => by
    show (fwdL _ r).length + 1 = r.length + 1
    rw [fwdL_len r]
theorem fwdU_len (m : Int) : ∀ (l : List Int) (p : Int), (fwdU m p l).length = l.length
  | [], _ => rfl
  | x :: r, p => by
    show (fwdU m _ r).length + 1 = r.length + 1
    rw [fwdU_len m r]
theorem bwdL_len (m : Int) : ∀ l : List Int, (bwdL m l).length = l.length
  | [] => rfl
  | [_] => rfl
  | x :: y :: r => by
    show (bwdL m (y :: r)).length + 1 = (y :: r).length + 1
    rw [bwdL_len m (y :: r)]
theorem bwdU_len : ∀ l : List Int, (bwdU l).length = l.length
  | [] => rfl
  | [_] => rfl
  | x :: y :: r => by
    show (bwdU (y :: r)).length + 1 = (y :: r).length + 1
    rw [bwdU_len (y :: r)]
theorem finL_len (F : Fy) (b : BS) : (finL F b).length = b.L.length := by unfold finL; rw [bwdL_len, fwdL_len]
theorem finU_len (F : Fy) (b : BS) : (finU F b).length = b.U.length := by unfold finU; rw [bwdU_len, fwdU_len]
theorem stairs_len {F : Fy} {last : Int} {ls : Lvs} {st : List (Int × Int)} (h : stairs F last ls = some st) : st.length = (last + 1).toNat := by
  unfold stairs stairsB at h
  split at h
  · split at h
    · cases h
      rw [List.length_zip, finL_len, finU_len, bounds_lenL, bounds_lenU, Nat.min_self]
    · cases h
  · cases h
example : stairs ⟨2, 2, 3, 1⟩ 6 [(2, 1), (5, 2)] = some [(1, 1), (1, 1), (1, 1), (1, 2), (2, 3), (3, 4), (3, 5)] := by decide +kernel
example : stairs ⟨3, 4, 2, 9⟩ 9 [(2, 1), (8, 3)] = none := by decide +kernel
end FM

/-! lists gone over by place: the loops of the stairs -/
namespace FM
def mix {α : Type} (A B : List α) (t : Nat) : List α := A.take t ++ B.drop t
section
variable {α : Type} {A B : List α} {t j : Nat}
theorem mix_len (h : A.length = B.length) (ht : t ≤ A.length) : (mix A B t).length = A.length := by unfold mix; rw [List.length_append, List.length_take, List.length_drop]; omega
theorem mix_lt (ht : t ≤ A.length) (h : j < t) : (mix A B t)[j]? = A[j]? := by
  unfold mix
  rw [List.getElem?_append_left (by rw [List.length_take]; omega), List.getElem?_take, if_pos h]
theorem mix_ge (ht : t ≤ A.length) (h : t ≤ j) : (mix A B t)[j]? = B[j]? := by
  unfold mix
  rw [List.getElem?_append_right (by rw [List.length_take]; omega), List.getElem?_drop, List.length_take]
  congr 1
  omega
theorem mix_zero : mix A B 0 = B := rfl
theorem mix_full (h : A.length = B.length) (ht : t = A.length) : mix A B t = A := by unfold mix; rw [ht, List.take_length, h, List.drop_length, List.append_nil]
theorem mix_up {x : α} (h : A.length = B.length) (hx : A[t]? = some x) : (mix A B t).set t x = mix A B (t + 1) := by
  have ht : t < A.length := (List.getElem?_eq_some_iff.mp hx).1
  apply List.ext_getElem?
  intro j
  rw [List.getElem?_set]
  by_cases e : t = j
  · subst e
    rw [if_pos rfl, if_pos (by rw [mix_len h (Nat.le_of_lt ht)]; exact ht), mix_lt ht (Nat.lt_succ_self _), hx]
  · rw [if_neg e]
    by_cases l : j < t
    · rw [mix_lt (Nat.le_of_lt ht) l, mix_lt ht (by omega)]
    · rw [mix_ge (Nat.le_of_lt ht) (by omega), mix_ge ht (by omega)]
theorem mix_dn {x : α} (h : A.length = B.length) (hx : B[t]? = some x) : (mix A B (t + 1)).set t x = mix A B t := by
  have ht : t < A.length := by rw [h]; exact (List.getElem?_eq_some_iff.mp hx).1
  apply List.ext_getElem?
  intro j
  rw [List.getElem?_set]
  by_cases e : t = j
  · subst e
    rw [if_pos rfl, if_pos (by rw [mix_len h ht]; exact ht), mix_ge (Nat.le_of_lt ht) (Nat.le_refl _), hx]
  · rw [if_neg e]
    by_cases l : j < t
    · rw [mix_lt ht (by omega), mix_lt (Nat.le_of_lt ht) l]
    · rw [mix_ge ht (by omega), mix_ge (Nat.le_of_lt ht) (by omega)]
theorem mix_last (h : A.length = B.length) (hl : A.length = t + 1) (e : A[t]? = B[t]?) : mix A B t = A := by
  apply List.ext_getElem?
  intro j
  by_cases l : j < t
  · rw [mix_lt (by omega) l]
  · rw [mix_ge (by omega) (by omega)]
    by_cases q : j = t
    · rw [q, e]
    · rw [List.getElem?_eq_none (by omega), List.getElem?_eq_none (by omega)]
end
theorem gd_some {l : List Int} {i : Nat} (h : i < l.length) : l[i]? = some (l.getD i 0) := by rw [List.getD_eq_getElem?_getD, List.getElem?_eq_getElem h]; rfl
theorem fwdL_0 {L : List Int} {p : Int} (h : 0 < L.length) : (fwdL p L).getD 0 0 = max (L.getD 0 0) p := by
  cases L with
  | nil => exact absurd h (Nat.lt_irrefl 0)
  | cons x r => rfl
theorem fwdL_S : ∀ {L : List Int} {p : Int} {i : Nat}, i + 1 < L.length → (fwdL p L).getD (i + 1) 0 = max (L.getD (i + 1) 0) ((fwdL p L).getD i 0)
  | [], _, _, h => absurd h (by simp)
  | x :: r, p, 0, h => fwdL_0 (p := max x p) (by simpa using h)
  | x :: r, p, i + 1, h => by
    show (fwdL (max x p) r).getD (i + 1) 0 = max (r.getD (i + 1) 0) ((fwdL (max x p) r).getD i 0)
    exact fwdL_S (by simpa using h)
theorem fwdU_0 {L : List Int} {m p : Int} (h : 0 < L.length) : (fwdU m p L).getD 0 0 = min (L.getD 0 0) (p + m) := by
  cases L with
  | nil => exact absurd h (Nat.lt_irrefl 0)
  | cons x r => rfl
theorem fwdU_S {m : Int} : ∀ {L : List Int} {p : Int} {i : Nat}, i + 1 < L.length → (fwdU m p L).getD (i + 1) 0 = min (L.getD (i + 1) 0) ((fwdU m p L).getD i 0 + m)
  | [], _, _, h => absurd h (by simp)
  | x :: r, p, 0, h => fwdU_0 (p := min x (p + m)) (by simpa using h)
  | x :: r, p, i + 1, h => by
    show (fwdU m (min x (p + m)) r).getD (i + 1) 0 = min (r.getD (i + 1) 0) ((fwdU m (min x (p + m)) r).getD i 0 + m)
    exact fwdU_S (by simpa using h)
theorem hd_gd (l : List Int) : l.headD 0 = l.getD 0 0 := by cases l <;> rfl
theorem bwdL_S {m : Int} : ∀ {L : List Int} {i : Nat}, i + 1 < L.length → (bwdL m L).getD i 0 = max (L.getD i 0) ((bwdL m L).getD (i + 1) 0 - m)
  | [], _, h => absurd h (by simp)
  | [_], _, h => absurd h (by simp)
  | x :: y :: r, 0, h => by
    show max x ((bwdL m (y :: r)).headD 0 - m) = max x ((bwdL m (y :: r)).getD 0 0 - m)
    rw [hd_gd]
  | x :: y :: r, i + 1, h => by
    show (bwdL m (y :: r)).getD i 0 = max ((y :: r).getD i 0) ((bwdL m (y :: r)).getD (i + 1) 0 - m)
    exact bwdL_S (by simpa using h)
theorem bwdL_e {m : Int} : ∀ {L : List Int} {i : Nat}, i + 1 = L.length → (bwdL m L).getD i 0 = L.getD i 0
  | [], _, h => absurd h (by simp)
  | [x], i, h => by
    obtain rfl : i = 0 := by simpa using h
    rfl
  | x :: y :: r, 0, h => absurd h (by simp)
  | x :: y :: r, i + 1, h => by
    show (bwdL m (y :: r)).getD i 0 = (y :: r).getD i 0
    exact bwdL_e (by simpa using h)
theorem bwdU_S : ∀ {L : List Int} {i : Nat}, i + 1 < L.length → (bwdU L).getD i 0 = min (L.getD i 0) ((bwdU L).getD (i + 1) 0)
  | [], _, h => absurd h (by simp)
  | [_], _, h => absurd h (by simp)
  | x :: y :: r, 0, h => by
    show min x ((bwdU (y :: r)).headD 0) = min x ((bwdU (y :: r)).getD 0 0)
    rw [hd_gd]
  | x :: y :: r, i + 1, h => by
    show (bwdU (y :: r)).getD i 0 = min ((y :: r).getD i 0) ((bwdU (y :: r)).getD (i + 1) 0)
    exact bwdU_S (by simpa using h)
theorem bwdU_e : ∀ {L : List Int} {i : Nat}, i + 1 = L.length → (bwdU L).getD i 0 = L.getD i 0
  | [], _, h => absurd h (by simp)
  | [x], i, h => by
    obtain rfl : i = 0 := by simpa using h
    rfl
  | x :: y :: r, 0, h => absurd h (by simp)
  | x :: y :: r, i + 1, h => by
    show (bwdU (y :: r)).getD i 0 = (y :: r).getD i 0
    exact bwdU_e (by simpa using h)
end FM

/-! what the stairs keep of the leavings: everyone gone has come -/
namespace FM
theorem getD_set {l : List Int} {i j : Nat} {v : Int} : (l.set i v).getD j 0 = if i = j ∧ i < l.length then v else l.getD j 0 := by
  rw [List.getD_eq_getElem?_getD, List.getD_eq_getElem?_getD, List.getElem?_set]
  by_cases h : i = j
  · subst h
    by_cases h2 : i < l.length
    · rw [if_pos rfl, if_pos h2, if_pos ⟨rfl, h2⟩]; rfl
    · rw [if_pos rfl, if_neg h2, if_neg fun z => h2 z.2, List.getElem?_eq_none (by omega)]
  · rw [if_neg h, if_neg fun z => h z.1]
theorem upL_ge (L : List Int) (t v : Int) (i : Nat) : L.getD i 0 ≤ (upL L t v).getD i 0 := by
  unfold upL
  rw [getD_set]
  split
  · rename_i h; rw [h.1]; omega
  · omega
theorem upL_at {L : List Int} {t v : Int} (h : t.toNat < L.length) : v ≤ (upL L t v).getD t.toNat 0 := by
  unfold upL
  rw [getD_set, if_pos ⟨rfl, h⟩]; omega
theorem leave_ge (F : Fy) (b : BS) (h g t l : Int) (i : Nat) : b.L.getD i 0 ≤ (leave F b h g t l).L.getD i 0 := by
  unfold leave
  split
  · exact upL_ge _ _ _ _
  · split
    · split
      · exact upL_ge _ _ _ _
      · exact Int.le_trans (upL_ge _ _ _ _) (upL_ge _ _ _ _)
    · exact upL_ge _ _ _ _
theorem leave_at {F : Fy} {b : BS} {h g t l : Int} (ht : t.toNat < b.L.length) : g + l ≤ (leave F b h g t l).L.getD t.toNat 0 := by
  unfold leave
  split
  · exact upL_at ht
  · split
    · split
      · exact upL_at ht
      · exact Int.le_trans (upL_at ht) (upL_ge _ _ _ _)
    · exact upL_at ht
theorem leaves_ge (F : Fy) : ∀ (ls : Lvs) (b : BS) (h g : Int) (i : Nat), b.L.getD i 0 ≤ (leaves F b h g ls).1.L.getD i 0
  | [], _, _, _, _ => Int.le_refl _
  | p :: r, b, h, g, i => Int.le_trans (leave_ge F b h g p.1 p.2 i) (leaves_ge F r _ _ _ i)
theorem leaves_reach (F : Fy) : ∀ (ls : Lvs) (b : BS) (h g : Int), ls ≠ [] → (∀ p ∈ ls, p.1.toNat < b.L.length) → ∃ i, i < b.L.length ∧ g + goneOf ls ≤ (leaves F b h g ls).1.L.getD i 0
  | [], _, _, _, h, _ => absurd rfl h
  | [p], b, h, g, _, ht => ⟨p.1.toNat, ht p (.head _), by
    show g + (p.2 + 0) ≤ (leave F b h g p.1 p.2).L.getD p.1.toNat 0
    have := leave_at (F := F) (h := h) (g := g) (l := p.2) (ht p (.head _))
    omega⟩
  | p :: q :: r, b, h, g, _, ht => by
    have hl := leave_lenL F b h g p.1 p.2
    obtain ⟨i, hi, e⟩ := leaves_reach F (q :: r) (leave F b h g p.1 p.2) (p.1 + F.a) (g + p.2) (by simp) fun x hx => by rw [hl]; exact ht x (.tail _ hx)
    refine ⟨i, by rw [← hl]; exact hi, ?_⟩
    show g + (p.2 + goneOf (q :: r)) ≤ (leaves F (leave F b h g p.1 p.2) (p.1 + F.a) (g + p.2) (q :: r)).1.L.getD i 0
    omega
theorem fwdL_ge : ∀ (L : List Int) (p : Int) (i : Nat), i < L.length → L.getD i 0 ≤ (fwdL p L).getD i 0
  | [], _, _, h => absurd h (by simp)
  | x :: r, p, 0, _ => by show x ≤ max x p; omega
  | x :: r, p, i + 1, h => fwdL_ge r _ i (by simpa using h)
theorem bwdL_ge (m : Int) : ∀ (L : List Int) (i : Nat), i < L.length → L.getD i 0 ≤ (bwdL m L).getD i 0
  | [], _, h => absurd h (by simp)
  | [x], 0, _ => Int.le_refl _
  | [x], i + 1, h => absurd h (by simp)
  | x :: y :: r, 0, _ => by show x ≤ max x _; omega
  | x :: y :: r, i + 1, h => bwdL_ge m (y :: r) i (by simpa using h)
theorem finL_ge (F : Fy) (b : BS) (i : Nat) (h : i < b.L.length) : b.L.getD i 0 ≤ (finL F b).getD i 0 :=
  Int.le_trans (fwdL_ge _ _ _ h) (bwdL_ge _ _ _ (by rw [fwdL_len]; exact h))
theorem close_L (F : Fy) (last : Int) (x : BS × Int × Int) : (close F last x).L = x.1.L := by unfold close; split <;> rfl
/-- the stairs: the parts -/
theorem stairs_is {F : Fy} {last : Int} {ls : Lvs} {st : List (Int × Int)} (h : stairs F last ls = some st) :
    (bounds F last ls).good = true ∧ (finL F (bounds F last ls)).headD 0 ≤ F.m ∧ (∀ p ∈ st, p.1 ≤ p.2) ∧ st = (finL F (bounds F last ls)).zip (finU F (bounds F last ls)) := by
  unfold stairs stairsB at h
  split at h
  · rename_i h1
    rw [Bool.and_eq_true] at h1
    split at h
    · rename_i h2
      cases h
      exact ⟨h1.1, of_decide_eq_true h1.2, fun p hp => of_decide_eq_true (List.all_eq_true.mp h2 p hp), rfl⟩
    · cases h
  · cases h
theorem zip_fst {xs ys : List Int} (h : xs.length = ys.length) : (xs.zip ys).map (·.1) = xs := by
  induction xs generalizing ys with
  | nil => rfl
  | cons x r ih =>
    cases ys with
    | nil => cases h
    | cons y s => exact congrArg (List.cons x) (ih (Nat.succ.inj h))
theorem zip_snd {xs ys : List Int} (h : xs.length = ys.length) : (xs.zip ys).map (·.2) = ys := by
  induction xs generalizing ys with
  | nil => cases ys with
    | nil => rfl
    | cons _ _ => cases h
  | cons x r ih =>
    cases ys with
    | nil => cases h
    | cons y s => exact congrArg (List.cons y) (ih (Nat.succ.inj h))
theorem fin_same (F : Fy) (last : Int) (ls : Lvs) : (finL F (bounds F last ls)).length = (finU F (bounds F last ls)).length := by rw [finL_len, finU_len, bounds_lenL, bounds_lenU]
theorem stairs_lo {F : Fy} {last : Int} {ls : Lvs} {st : List (Int × Int)} (h : stairs F last ls = some st) : st.map (·.1) = finL F (bounds F last ls) := by
  rw [(stairs_is h).2.2.2, zip_fst (fin_same F last ls)]
theorem stairs_hi {F : Fy} {last : Int} {ls : Lvs} {st : List (Int × Int)} (h : stairs F last ls = some st) : st.map (·.2) = finU F (bounds F last ls) := by
  rw [(stairs_is h).2.2.2, zip_snd (fin_same F last ls)]
theorem goneOf_nn {F : Fy} {last : Int} {ls : Lvs} (ok : BkOk F last ls) : 0 ≤ goneOf ls ∧ goneOf ls ≤ F.s * ls.length := by
  have : ∀ l : Lvs, (∀ p ∈ l, 1 ≤ p.2 ∧ p.2 ≤ F.s) → 0 ≤ goneOf l ∧ goneOf l ≤ F.s * l.length := by
    intro l
    induction l with
    | nil => intro _; exact ⟨Int.le_refl _, by simp [goneOf]⟩
    | cons p r ih =>
      intro h
      obtain ⟨h1, h2⟩ := ih fun q hq => h q (.tail _ hq)
      have h3 := h p (.head _)
      have e : goneOf (p :: r) = p.2 + goneOf r := rfl
      rw [e, List.length_cons]
      have e2 : F.s * ((r.length + 1 : Nat) : Int) = F.s * (r.length : Int) + F.s := by rw [Int.natCast_add]; rw [Int.mul_add]; simp
      rw [e2]
      omega
  exact this ls ok.ld
/-- some tick has all that are gone, in the least sums -/
theorem lo_reach {F : Fy} {last : Int} {ls : Lvs} {st : List (Int × Int)} (ok : BkOk F last ls) (h : stairs F last ls = some st) (hg : 0 < goneOf ls) : ∃ p ∈ st, goneOf ls ≤ p.1 ∧ goneOf ls ≤ p.2 := by
  have ne : ls ≠ [] := fun z => by rw [z] at hg; exact absurd hg (by decide)
  have l0 := ok.l0
  obtain ⟨i, hi, e⟩ := leaves_reach F ls (bs0 last) 0 0 ne fun p hp => by
    have := ok.tk p hp
    show p.1.toNat < (List.replicate _ _).length
    rw [List.length_replicate]; omega
  have hb : (bounds F last ls).L = (leaves F (bs0 last) 0 0 ls).1.L := close_L _ _ _
  have hi' : i < (bounds F last ls).L.length := by rw [hb, leaves_lenL]; exact hi
  have e2 : goneOf ls ≤ (finL F (bounds F last ls)).getD i 0 := by
    have := finL_ge F (bounds F last ls) i hi'
    rw [hb] at this
    rw [hb] at *
    omega
  have hlen := stairs_len h
  have hi2 : i < st.length := by rw [hlen, ← bounds_lenL F last ls]; exact hi'
  refine ⟨st[i], List.getElem_mem hi2, ?_⟩
  have e3 : (finL F (bounds F last ls)).getD i 0 = (st[i]).1 := by
    rw [← stairs_lo h, List.getD_eq_getElem?_getD, List.getElem?_map, List.getElem?_eq_getElem hi2]; rfl
  have e4 := (stairs_is h).2.2.1 _ (List.getElem_mem hi2)
  omega
end FM

/-! how far the stairs go; how many rows -/
namespace FM
theorem fwdU_le {m : Int} (hm : 0 ≤ m) : ∀ (L : List Int) (p : Int), ∀ x ∈ fwdU m p L, x ≤ p + m * L.length
  | [], _, _, h => nomatch h
  | y :: r, p, x, h => by
    have e : m * ((y :: r).length : Int) = m * (r.length : Int) + m := by rw [List.length_cons, Int.natCast_add, Int.mul_add]; simp
    have e0 : 0 ≤ m * (r.length : Int) := Int.mul_nonneg hm (Int.natCast_nonneg _)
    rcases List.mem_cons.mp h with z | z
    · rw [z, e]
      have : min y (p + m) ≤ p + m := Int.min_le_right _ _
      omega
    · have := fwdU_le hm r (min y (p + m)) x z
      have h2 : min y (p + m) ≤ p + m := Int.min_le_right _ _
      omega
theorem bwdU_le {B : Int} : ∀ (L : List Int), (∀ x ∈ L, x ≤ B) → ∀ x ∈ bwdU L, x ≤ B
  | [], _, _, h => nomatch h
  | [y], hb, x, h => hb x h
  | y :: z :: r, hb, x, h => by
    rcases List.mem_cons.mp h with e | e
    · have := hb y (.head _)
      have h2 : min y ((bwdU (z :: r)).headD 0) ≤ y := Int.min_le_left _ _
      omega
    · exact bwdU_le (z :: r) (fun w hw => hb w (.tail _ hw)) x e
theorem fwdL_nn : ∀ (L : List Int) (p : Int), 0 ≤ p → ∀ x ∈ fwdL p L, 0 ≤ x
  | [], _, _, _, h => nomatch h
  | y :: r, p, hp, x, h => by
    have h2 : p ≤ max y p := Int.le_max_right _ _
    rcases List.mem_cons.mp h with e | e
    · omega
    · exact fwdL_nn r (max y p) (by omega) x e
theorem bwdL_nn {m : Int} : ∀ (L : List Int), (∀ x ∈ L, 0 ≤ x) → ∀ x ∈ bwdL m L, 0 ≤ x
  | [], _, _, h => nomatch h
  | [y], hb, x, h => hb x h
  | y :: z :: r, hb, x, h => by
    rcases List.mem_cons.mp h with e | e
    · have := hb y (.head _)
      have h2 : y ≤ max y ((bwdL m (z :: r)).headD 0 - m) := Int.le_max_left _ _
      omega
    · exact bwdL_nn (z :: r) (fun w hw => hb w (.tail _ hw)) x e
theorem finL_nn (F : Fy) (b : BS) : ∀ x ∈ finL F b, 0 ≤ x := bwdL_nn _ (fwdL_nn _ _ (Int.le_refl 0))
theorem finU_le {F : Fy} (ok : F.Ok) (b : BS) (h : b.U.length ≤ 61) : ∀ x ∈ finU F b, x ≤ 549 := bwdU_le _ fun x hx => by
  have h1 := fwdU_le (m := F.m) (by have := ok.m1; omega) b.U 0 x hx
  have h2 : F.m * (b.U.length : Int) ≤ 9 * 61 := Int.mul_le_mul ok.m2 (by omega) (Int.natCast_nonneg _) (by omega)
  omega
/-- the stairs' steps lie in 0 .. 549 -/
theorem stairs_in {F : Fy} {last : Int} {ls : Lvs} {st : List (Int × Int)} (okF : F.Ok) (ok : BkOk F last ls) (h : stairs F last ls = some st) : ∀ p ∈ st, 0 ≤ p.1 ∧ p.1 ≤ p.2 ∧ p.2 ≤ 549 := fun p hp => by
  obtain ⟨_, _, h3, h4⟩ := stairs_is h
  refine ⟨finL_nn F (bounds F last ls) _ ?_, h3 p hp, finU_le okF (bounds F last ls) (by rw [bounds_lenU]; have := ok.l1; omega) _ ?_⟩
  · rw [← stairs_lo h]; exact List.mem_map.mpr ⟨p, hp, rfl⟩
  · rw [← stairs_hi h]; exact List.mem_map.mpr ⟨p, hp, rfl⟩
/-- the sums that a number can come from -/
def hmSums (t : List (Int × Int)) (m many : Int) : List Int := (List.range (m + 1).toNat).filterMap fun (more : Nat) => t.lookup (many - (more : Int))
def hmNext (t : List (Int × Int)) (m lo : Int) (n : Nat) : List (Int × Int) := (List.range n).filterMap fun (j : Nat) => if hmSums t m (lo + (j : Int)) = [] then none else some (lo + (j : Int), (hmSums t m (lo + (j : Int))).sum)
def hmStep (m : Int) (t : List (Int × Int)) (p : Int × Int) : List (Int × Int) := hmNext t m p.1 (p.2 + 1 - p.1).toNat
def hmTable (m : Int) (st : List (Int × Int)) : List (Int × Int) := st.foldl (hmStep m) [(0, 1)]
def howMany (F : Fy) (last : Int) (ls : Lvs) : Int := match stairs F last ls with
  | none => 0
  | some st => ((hmTable F.m st).map (·.2)).sum
theorem hmNext_S (t : List (Int × Int)) (m lo : Int) (n : Nat) : hmNext t m lo (n + 1) = hmNext t m lo n ++ (if hmSums t m (lo + (n : Int)) = [] then [] else [(lo + (n : Int), (hmSums t m (lo + (n : Int))).sum)]) := by
  unfold hmNext
  rw [List.range_succ, List.filterMap_append]
  congr 1
  rw [List.filterMap_cons, List.filterMap_nil]
  split <;> rename_i h
  · split at h
    · rename_i h2; rw [if_pos h2]
    · cases h
  · split at h
    · cases h
    · rename_i h2; rw [if_neg h2]; cases h; rfl
theorem hmNext_len (t : List (Int × Int)) (m lo : Int) (n : Nat) : (hmNext t m lo n).length ≤ n := by
  unfold hmNext
  exact Nat.le_trans (List.length_filterMap_le _ _) (by rw [List.length_range]; exact Nat.le_refl _)
theorem hmNext_new (t : List (Int × Int)) (m lo : Int) (n : Nat) : (hmNext t m lo n).lookup (lo + (n : Int)) = none := by
  rw [List.lookup_eq_none_iff]
  intro p hp
  unfold hmNext at hp
  obtain ⟨j, hj, e⟩ := List.mem_filterMap.mp hp
  have := List.mem_range.mp hj
  split at e
  · cases e
  · cases e
    exact bne_iff_ne.mpr (by show lo + (n : Int) ≠ lo + (j : Int); omega)
example : howMany ⟨2, 2, 3, 1⟩ 6 [(2, 1), (5, 2)] = 8 := by decide +kernel
/-- entries of a row by its sums -/
def stepsOf (sums : List Int) : List Int := List.zipWith (· - ·) sums (0 :: sums.dropLast)
def firstTick (sums : List Int) (c : Int) : Option Nat := sums.findIdx? fun v => decide (c ≤ v)
def waitedOf (ls : Lvs) (sums : List Int) : Int := (ls.map fun p => p.1 * p.2).sum - ((List.range (goneOf ls).toNat).map fun (c : Nat) => (((firstTick sums ((c : Int) + 1)).getD 0 : Nat) : Int)).sum
def waitsOf (F : Fy) (last : Int) (ls : Lvs) : Option (Int × Int) := (stairs F last ls).map fun st => (waitedOf ls (st.map (·.1)), waitedOf ls (st.map (·.2)))
def thereOf (F : Fy) (last : Int) (ls : Lvs) : Option (Int × Int) := (stairs F last ls).map fun st => ((st.getLastD (0, 0)).1 - goneOf ls, (st.getLastD (0, 0)).2 - goneOf ls)
end FM

/-! the ferry run over a row: who leaves when -/
namespace FM
structure LS where
  bank : Nat
  ab : Nat
  since : Int
  back : Int
  found : Lvs
def lsStep (F : Fy) (s : LS) (tick many : Int) : LS :=
  if s.back ≤ tick then
    (if s.ab + min (s.bank + many.toNat) (F.s.toNat - s.ab) ≠ 0 ∧ (((s.ab + min (s.bank + many.toNat) (F.s.toNat - s.ab) : Nat) : Int) = F.s ∨ F.w ≤ tick - (if s.ab = 0 then tick else s.since)) then
      ⟨s.bank + many.toNat - min (s.bank + many.toNat) (F.s.toNat - s.ab), 0, if s.ab = 0 then tick else s.since, tick + F.a, s.found ++ [(tick, ((s.ab + min (s.bank + many.toNat) (F.s.toNat - s.ab) : Nat) : Int))]⟩
    else ⟨s.bank + many.toNat - min (s.bank + many.toNat) (F.s.toNat - s.ab), s.ab + min (s.bank + many.toNat) (F.s.toNat - s.ab), if s.ab = 0 then tick else s.since, s.back, s.found⟩)
  else ⟨s.bank + many.toNat, s.ab, s.since, s.back, s.found⟩
def lsRun (F : Fy) : LS → Int → List Int → LS
  | s, _, [] => s
  | s, t, x :: r => lsRun F (lsStep F s t x) (t + 1) r
def leftOf (F : Fy) (row : List Int) : Lvs := (lsRun F ⟨0, 0, 0, 0, []⟩ 0 row).found
example : leftOf ⟨2, 3, 2, 3⟩ [1, 0, 0, 0, 2, 0, 1] = [(3, 1), (5, 2)] := by decide +kernel
example : leftOf ⟨1, 1, 2, 9⟩ [3, 0, 0, 0, 0] = [(0, 1), (2, 1), (4, 1)] := by decide +kernel
theorem lsRun_app (F : Fy) : ∀ (xs ys : List Int) (s : LS) (t : Int), lsRun F s t (xs ++ ys) = lsRun F (lsRun F s t xs) (t + xs.length) ys
  | [], ys, s, t => by show lsRun F s t ys = lsRun F s (t + (0 : Nat)) ys; rw [show t + ((0 : Nat) : Int) = t by omega]
  | x :: xs, ys, s, t => by
    show lsRun F (lsStep F s t x) (t + 1) (xs ++ ys) = lsRun F (lsRun F (lsStep F s t x) (t + 1) xs) (t + ((xs.length + 1 : Nat) : Int)) ys
    rw [lsRun_app F xs ys, show t + 1 + (xs.length : Int) = t + ((xs.length + 1 : Nat) : Int) by omega]
end FM

namespace FM
structure LsG (F : Fy) (s : LS) (t : Int) : Prop where
  tk : ∀ p ∈ s.found, 0 ≤ p.1 ∧ p.1 < t
  ld : ∀ p ∈ s.found, 1 ≤ p.2 ∧ p.2 ≤ F.s
  up : s.found.Pairwise fun p q => p.1 < q.1
  ab : s.ab ≤ F.s.toNat
theorem LsG.step {F : Fy} {s : LS} {t x : Int} (g : LsG F s t) (h0 : 0 ≤ t) : LsG F (lsStep F s t x) (t + 1) := by
  have tk' : ∀ p ∈ s.found, 0 ≤ p.1 ∧ p.1 < t + 1 := fun p hp => by have := g.tk p hp; omega
  have gab := g.ab
  unfold lsStep
  generalize (if s.ab = 0 then t else s.since) = sn
  split
  · split
    · rename_i h1 h2
      refine ⟨fun p hp => ?_, fun p hp => ?_, ?_, Nat.zero_le _⟩
      · rcases List.mem_append.mp hp with z | z
        · exact tk' p z
        · rw [List.mem_singleton.mp z]; exact ⟨h0, Int.lt_succ t⟩
      · rcases List.mem_append.mp hp with z | z
        · exact g.ld p z
        · rw [List.mem_singleton.mp z]
          have := h2.1
          constructor
          · show (1 : Int) ≤ ((s.ab + min (s.bank + x.toNat) (F.s.toNat - s.ab) : Nat) : Int); omega
          · show ((s.ab + min (s.bank + x.toNat) (F.s.toNat - s.ab) : Nat) : Int) ≤ F.s; omega
      · refine List.pairwise_append.mpr ⟨g.up, List.pairwise_singleton _ _, fun a ha b hb => ?_⟩
        rw [List.mem_singleton.mp hb]
        exact (g.tk a ha).2
    · exact ⟨tk', g.ld, g.up, by show s.ab + min (s.bank + x.toNat) (F.s.toNat - s.ab) ≤ F.s.toNat; omega⟩
  · exact ⟨tk', g.ld, g.up, g.ab⟩
theorem LsG.run {F : Fy} : ∀ (row : List Int) {s : LS} {t : Int}, LsG F s t → 0 ≤ t → LsG F (lsRun F s t row) (t + row.length)
  | [], s, t, g, _ => by
    show LsG F s (t + ((0 : Nat) : Int))
    rw [show t + ((0 : Nat) : Int) = t by omega]
    exact g
  | x :: r, s, t, g, h0 => by
    have := LsG.run r (g.step (x := x) h0) (by omega)
    rw [show t + 1 + (r.length : Int) = t + (((x :: r).length : Nat) : Int) by rw [List.length_cons]; omega] at this
    exact this
theorem left_ok (F : Fy) (row : List Int) : (∀ p ∈ leftOf F row, 0 ≤ p.1 ∧ p.1 < row.length) ∧ (∀ p ∈ leftOf F row, 1 ≤ p.2 ∧ p.2 ≤ F.s) ∧ (leftOf F row).Pairwise fun p q => p.1 < q.1 := by
  have g := LsG.run (F := F) row (s := ⟨0, 0, 0, 0, []⟩) (t := 0) ⟨(fun p h => nomatch h), (fun p h => nomatch h), List.Pairwise.nil, Nat.zero_le _⟩ (Int.le_refl 0)
  rw [Int.zero_add] at g
  exact ⟨g.tk, g.ld, g.up⟩
theorem pair_ge : ∀ (ls : Lvs) (c : Int) (j : Nat) (p : Int × Int), (∀ q ∈ ls, c ≤ q.1) → (ls.Pairwise fun p q => p.1 < q.1) → ls[j]? = some p → c + (j : Int) ≤ p.1
  | [], _, _, _, _, _, h => by simp at h
  | q :: r, c, 0, p, h0, _, h => by
    rw [List.getElem?_cons_zero] at h; cases h
    have := h0 q (.head _)
    omega
  | q :: r, c, j + 1, p, h0, up, h => by
    rw [List.getElem?_cons_succ] at h
    have h1 := (List.pairwise_cons.mp up)
    have := pair_ge r (c + 1) j p (fun x hx => by have := h1.1 x hx; have := h0 q (.head _); omega) h1.2 h
    omega
theorem left_bk {F : Fy} {row : List Int} (h1 : 1 ≤ row.length) (h2 : row.length ≤ 61) (h3 : (leftOf F row).length ≤ 10) : BkOk F ((row.length : Int) - 1) (leftOf F row) := by
  obtain ⟨a, b, c⟩ := left_ok F row
  exact ⟨by omega, by omega, h3, fun p hp => by have := a p hp; omega, b, c⟩
end FM

namespace FM
def ticksFrom : Int → List Int → List Int
  | _, [] => []
  | t, x :: r => List.replicate x.toNat t ++ ticksFrom (t + 1) r
theorem ticks_app : ∀ (xs ys : List Int) (t : Int), ticksFrom t (xs ++ ys) = ticksFrom t xs ++ ticksFrom (t + xs.length) ys
  | [], ys, t => by
    show ticksFrom t ys = ticksFrom (t + ((0 : Nat) : Int)) ys
    rw [show t + ((0 : Nat) : Int) = t by omega]
  | x :: xs, ys, t => by
    show List.replicate x.toNat t ++ ticksFrom (t + 1) (xs ++ ys) = (List.replicate x.toNat t ++ ticksFrom (t + 1) xs) ++ ticksFrom (t + ((xs.length + 1 : Nat) : Int)) ys
    rw [ticks_app xs ys, List.append_assoc, show t + 1 + (xs.length : Int) = t + ((xs.length + 1 : Nat) : Int) by omega]
theorem ticks_len : ∀ (row : List Int) (t : Int), (∀ x ∈ row, 0 ≤ x ∧ x ≤ 9) → (ticksFrom t row).length ≤ 9 * row.length
  | [], _, _ => Nat.le_refl _
  | x :: r, t, h => by
    have := ticks_len r (t + 1) fun y hy => h y (.tail _ hy)
    have h2 := h x (.head _)
    show (List.replicate x.toNat t ++ ticksFrom (t + 1) r).length ≤ 9 * (r.length + 1)
    rw [List.length_append, List.length_replicate]
    omega
end FM
namespace FM
/-- the waits of those that a list of ticks gives to the leavings; what is left -/
def lw : Lvs → List Int → Int → List Int × Int
  | [], bank, w => (bank, w)
  | p :: r, bank, w => lw r (bank.drop p.2.toNat) (w + ((bank.take p.2.toNat).map fun x => p.1 - x).sum)
theorem lw_app : ∀ (xs ys : Lvs) (bank : List Int) (w : Int), lw (xs ++ ys) bank w = lw ys (lw xs bank w).1 (lw xs bank w).2
  | [], _, _, _ => rfl
  | x :: xs, ys, bank, w => lw_app xs ys _ _
theorem lw_len : ∀ (ls : Lvs) (bank : List Int) (w : Int), (lw ls bank w).1.length ≤ bank.length
  | [], _, _ => Nat.le_refl _
  | p :: r, bank, w => Nat.le_trans (lw_len r _ _) (by rw [List.length_drop]; omega)
end FM

/-! sums of a row; the closure keeps what lies between the bounds -/
namespace FM
def sumsFrom : Int → List Int → List Int
  | _, [] => []
  | p, x :: r => (p + x) :: sumsFrom (p + x) r
/-- S between L and U, by place -/
def Btw : List Int → List Int → List Int → Prop
  | [], [], [] => True
  | l :: L, s :: S, u :: U => (l ≤ s ∧ s ≤ u) ∧ Btw L S U
  | _, _, _ => False
/-- S rises by 0 .. m from p on -/
def Stp (m : Int) : Int → List Int → Prop
  | _, [] => True
  | p, s :: S => (p ≤ s ∧ s ≤ p + m) ∧ Stp m s S
theorem stp_sums {m : Int} : ∀ (row : List Int) (p : Int), (∀ x ∈ row, 0 ≤ x ∧ x ≤ m) → Stp m p (sumsFrom p row)
  | [], _, _ => trivial
  | x :: r, p, h => ⟨by have := h x (.head _); omega, stp_sums r (p + x) fun y hy => h y (.tail _ hy)⟩
theorem btw_fwd {m : Int} : ∀ (L S U : List Int) (p pl pu : Int), Stp m p S → pl ≤ p → p ≤ pu → Btw L S U → Btw (fwdL pl L) S (fwdU m pu U)
  | [], [], [], _, _, _, _, _, _, _ => trivial
  | l :: L, s :: S, u :: U, p, pl, pu, hs, h1, h2, hb => by
    obtain ⟨⟨a1, a2⟩, hb⟩ := hb
    obtain ⟨⟨b1, b2⟩, hs⟩ := hs
    refine ⟨⟨?_, ?_⟩, btw_fwd L S U s (max l pl) (min u (pu + m)) hs ?_ ?_ hb⟩
    · exact Int.max_le.mpr ⟨a1, by omega⟩
    · exact Int.le_min.mpr ⟨a2, by omega⟩
    · exact Int.max_le.mpr ⟨a1, by omega⟩
    · exact Int.le_min.mpr ⟨a2, by omega⟩
theorem btw_len : ∀ (L S U : List Int), Btw L S U → L.length = S.length ∧ S.length = U.length
  | [], [], [], _ => ⟨rfl, rfl⟩
  | l :: L, s :: S, u :: U, ⟨_, h⟩ => by
    obtain ⟨a, b⟩ := btw_len L S U h
    exact ⟨congrArg Nat.succ a, congrArg Nat.succ b⟩
theorem btw_bwd {m : Int} : ∀ (L S U : List Int) (p : Int), Stp m p S → Btw L S U → Btw (bwdL m L) S (bwdU U)
  | [], [], [], _, _, _ => trivial
  | [l], [s], [u], _, _, hb => hb
  | [_], _ :: _ :: _, _, _, _, hb => by have := btw_len _ _ _ hb; simp at this
  | [_], [_], _ :: _ :: _, _, _, hb => by have := btw_len _ _ _ hb; simp at this
  | [_], [_], [], _, _, hb => hb.elim
  | [_], [], _, _, _, hb => by have := btw_len _ _ _ hb; simp at this
  | [], _ :: _, _, _, _, hb => by have := btw_len _ _ _ hb; simp at this
  | [], [], _ :: _, _, _, hb => hb.elim
  | _ :: _ :: _, [], _, _, _, hb => by have := btw_len _ _ _ hb; simp at this
  | _ :: _ :: _, [_], _, _, _, hb => by have := btw_len _ _ _ hb; simp at this
  | _ :: _ :: _, _ :: _ :: _, [], _, _, hb => hb.elim
  | _ :: _ :: _, _ :: _ :: _, [_], _, _, hb => by have := btw_len _ _ _ hb; simp at this
  | l :: l2 :: L, s :: s2 :: S, u :: u2 :: U, p, hs, hb => by
    obtain ⟨⟨a1, a2⟩, hb⟩ := hb
    obtain ⟨_, hs⟩ := hs
    have ih := btw_bwd (l2 :: L) (s2 :: S) (u2 :: U) s hs hb
    obtain ⟨⟨b1, b2⟩, _⟩ := hs
    cases hl : bwdL m (l2 :: L) with
    | nil => rw [hl] at ih; cases hu : bwdU (u2 :: U) <;> (rw [hu] at ih; exact ih.elim)
    | cons x X =>
      cases hu : bwdU (u2 :: U) with
      | nil => rw [hl, hu] at ih; exact ih.elim
      | cons y Y =>
        rw [hl, hu] at ih
        obtain ⟨⟨c1, c2⟩, c3⟩ := ih
        show Btw (max l ((bwdL m (l2 :: L)).headD 0 - m) :: bwdL m (l2 :: L)) (s :: s2 :: S) (min u ((bwdU (u2 :: U)).headD 0) :: bwdU (u2 :: U))
        rw [hl, hu]
        exact ⟨⟨Int.max_le.mpr ⟨a1, by show x - m ≤ s; omega⟩, Int.le_min.mpr ⟨a2, by show s ≤ y; omega⟩⟩, ⟨c1, c2⟩, c3⟩
theorem btw_fin {F : Fy} {b : BS} {S : List Int} (hs : Stp F.m 0 S) (hb : Btw b.L S b.U) : Btw (finL F b) S (finU F b) :=
  btw_bwd _ _ _ 0 hs (btw_fwd _ _ _ 0 0 0 hs (Int.le_refl 0) (Int.le_refl 0) hb)
theorem btw_le : ∀ (L S U : List Int), Btw L S U → ((L.zip U).all fun p => decide (p.1 ≤ p.2)) = true
  | [], [], [], _ => rfl
  | l :: L, s :: S, u :: U, ⟨⟨a, b⟩, h⟩ => by
    show (decide (l ≤ u) && (L.zip U).all fun p => decide (p.1 ≤ p.2)) = true
    rw [decide_eq_true (show l ≤ u by omega), btw_le L S U h]
    rfl
/-- a row within the bounds: the stairs are there, and its sums lie within -/
theorem stairs_of {F : Fy} {last : Int} {ls : Lvs} {S : List Int} (hl : 0 ≤ last) (hs : Stp F.m 0 S) (hg : (bounds F last ls).good = true) (hb : Btw (bounds F last ls).L S (bounds F last ls).U) : ∃ st, stairs F last ls = some st ∧ Btw (st.map (·.1)) S (st.map (·.2)) := by
  have hf := btw_fin hs hb
  have h1 : (finL F (bounds F last ls)).headD 0 ≤ F.m := by
    have ln : (finL F (bounds F last ls)).length = (last + 1).toNat := by rw [finL_len, bounds_lenL]
    generalize finL F (bounds F last ls) = A at *
    generalize finU F (bounds F last ls) = B at *
    match A, S, B, hf with
    | [], _, _, _ => have : ([] : List Int).length = 0 := rfl; omega
    | a :: A, s :: S, b :: B, hf =>
      obtain ⟨⟨q1, _⟩, _⟩ := hf
      obtain ⟨⟨_, q2⟩, _⟩ := hs
      show a ≤ F.m
      omega
  have e : stairs F last ls = some ((finL F (bounds F last ls)).zip (finU F (bounds F last ls))) := by
    unfold stairs stairsB
    rw [hg, decide_eq_true h1, Bool.and_self, if_pos rfl, if_pos (btw_le _ _ _ hf)]
  exact ⟨_, e, by rw [zip_fst (fin_same F last ls), zip_snd (fin_same F last ls)]; exact hf⟩
end FM

namespace FM
theorem btw_of : ∀ (L S U : List Int), L.length = S.length → S.length = U.length → (∀ i, i < S.length → L.getD i 0 ≤ S.getD i 0 ∧ S.getD i 0 ≤ U.getD i 0) → Btw L S U
  | [], [], [], _, _, _ => trivial
  | l :: L, s :: S, u :: U, h1, h2, h => ⟨h 0 (by simp), btw_of L S U (Nat.succ.inj h1) (Nat.succ.inj h2) fun i hi => h (i + 1) (by rw [List.length_cons]; omega)⟩
  | [], _ :: _, _, h, _, _ => nomatch h
  | _ :: _, [], _, h, _, _ => nomatch h
  | [], [], _ :: _, _, h, _ => nomatch h
  | _ :: _, _ :: _, [], _, h, _ => nomatch h
theorem btw_at : ∀ (L S U : List Int), Btw L S U → ∀ i, i < S.length → L.getD i 0 ≤ S.getD i 0 ∧ S.getD i 0 ≤ U.getD i 0
  | [], [], [], _, i, h => absurd h (Nat.not_lt_zero i)
  | l :: L, s :: S, u :: U, h, 0, _ => h.1
  | l :: L, s :: S, u :: U, h, i + 1, hi => btw_at L S U h.2 i (Nat.lt_of_succ_lt_succ hi)
/-- what a bound, made tighter, asks -/
theorem upL_sat {L S : List Int} {t v : Int} (h : ∀ i, i < S.length → L.getD i 0 ≤ S.getD i 0) (hv : v ≤ S.getD t.toNat 0) : ∀ i, i < S.length → (upL L t v).getD i 0 ≤ S.getD i 0 := fun i hi => by
  unfold upL
  rw [getD_set]
  split
  · rename_i e
    rw [← e.1] at hi ⊢
    exact Int.max_le.mpr ⟨h _ hi, hv⟩
  · exact h i hi
theorem upU_sat {U S : List Int} {t v : Int} (h : ∀ i, i < S.length → S.getD i 0 ≤ U.getD i 0) (hv : 0 ≤ t → S.getD t.toNat 0 ≤ v) : ∀ i, i < S.length → S.getD i 0 ≤ (upU U t v).getD i 0 := fun i hi => by
  unfold upU
  split
  · rename_i ht
    rw [getD_set]
    split
    · rename_i e
      rw [← e.1] at hi ⊢
      exact Int.le_min.mpr ⟨h _ hi, hv ht⟩
    · exact h i hi
  · exact h i hi
end FM

/-! the state machine against the sums: what holds after the ticks before t -/
namespace FM
/-- the sum before tick t -/
def pre (S : List Int) (t : Nat) : Int := if t = 0 then 0 else S.getD (t - 1) 0
structure Mach (F : Fy) (S : List Int) (t : Nat) (z : LS) : Prop where
  sum : pre S t = goneOf z.found + (z.ab : Int) + (z.bank : Int)
  back0 : 0 ≤ z.back
  away : (t : Int) ≤ z.back → z.ab = 0
  bank0 : z.back < (t : Int) → z.bank = 0
  room : (z.ab : Int) < F.s
  none : z.back < (t : Int) → z.ab = 0 → ∀ i : Nat, z.back ≤ (i : Int) → i < t → S.getD i 0 ≤ goneOf z.found
  some : z.ab ≠ 0 → z.back ≤ z.since ∧ z.since < (t : Int) ∧ (t : Int) - 1 - z.since < F.w ∧ goneOf z.found + 1 ≤ S.getD z.since.toNat 0 ∧ ∀ i : Nat, z.back ≤ (i : Int) → (i : Int) < z.since → S.getD i 0 ≤ goneOf z.found
theorem goneOf_app (xs ys : Lvs) : goneOf (xs ++ ys) = goneOf xs + goneOf ys := by unfold goneOf; rw [List.map_append, List.sum_append]
theorem mach0 {F : Fy} (ok : F.Ok) (S : List Int) : Mach F S 0 ⟨0, 0, 0, 0, []⟩ :=
  ⟨rfl, Int.le_refl 0, fun _ => rfl, fun h => absurd h (by decide), by have := ok.s1; show (0 : Int) < F.s; omega, fun h => absurd h (by decide), fun h => absurd rfl h⟩
theorem Mach.step {F : Fy} (ok : F.Ok) {S : List Int} {t : Nat} {z : LS} {x : Int} (M : Mach F S t z) (hx : 0 ≤ x) (hS : S.getD t 0 = pre S t + x) : Mach F S (t + 1) (lsStep F z (t : Int) x) := by
  obtain ⟨m1, m2, m3, m4, m5, m6, m7⟩ := M
  have s1 := ok.s1
  have w1 := ok.w1
  have a1 := ok.a1
  have hp : pre S (t + 1) = S.getD t 0 := rfl
  unfold lsStep
  by_cases hb : z.back ≤ (t : Int)
  · rw [if_pos hb]
    by_cases hl : z.ab + min (z.bank + x.toNat) (F.s.toNat - z.ab) ≠ 0 ∧ (((z.ab + min (z.bank + x.toNat) (F.s.toNat - z.ab) : Nat) : Int) = F.s ∨ F.w ≤ (t : Int) - (if z.ab = 0 then (t : Int) else z.since))
    · rw [if_pos hl]
      refine ⟨?_, ?_, fun _ => rfl, ?_, ?_, ?_, fun h => absurd rfl h⟩
      · rw [hp, hS, m1, goneOf_app]
        show _ = goneOf z.found + (((z.ab + min (z.bank + x.toNat) (F.s.toNat - z.ab) : Nat) : Int) + 0) + ((0 : Nat) : Int) + ((z.bank + x.toNat - min (z.bank + x.toNat) (F.s.toNat - z.ab) : Nat) : Int)
        omega
      · show 0 ≤ (t : Int) + F.a; omega
      · intro h
        have h' : (t : Int) + F.a < ((t + 1 : Nat) : Int) := h
        omega
      · show ((0 : Nat) : Int) < F.s; omega
      · intro h
        have h' : (t : Int) + F.a < ((t + 1 : Nat) : Int) := h
        omega
    · rw [if_neg hl]
      have hst : ∀ i : Nat, z.ab = 0 → z.back ≤ (i : Int) → i < t → S.getD i 0 ≤ goneOf z.found := fun i h1 h2 h3 => m6 (by omega) h1 i h2 h3
      have hbk : z.ab ≠ 0 → z.bank = 0 := fun h => m4 (by
        rcases Int.lt_or_le z.back (t : Int) with y | y
        · exact y
        · exact absurd (m3 y) h)
      have key : z.ab + min (z.bank + x.toNat) (F.s.toNat - z.ab) ≠ 0 → ((z.ab + min (z.bank + x.toNat) (F.s.toNat - z.ab) : Nat) : Int) ≠ F.s ∧ (t : Int) - (if z.ab = 0 then (t : Int) else z.since) < F.w := fun h => ⟨fun q => hl ⟨h, .inl q⟩, by
        rcases Int.lt_or_le ((t : Int) - (if z.ab = 0 then (t : Int) else z.since)) F.w with y | y
        · exact y
        · exact absurd ⟨h, .inr y⟩ hl⟩
      refine ⟨?_, m2, ?_, ?_, ?_, ?_, ?_⟩
      · rw [hp, hS, m1]
        show _ = goneOf z.found + ((z.ab + min (z.bank + x.toNat) (F.s.toNat - z.ab) : Nat) : Int) + ((z.bank + x.toNat - min (z.bank + x.toNat) (F.s.toNat - z.ab) : Nat) : Int)
        omega
      · intro h
        have h' : ((t + 1 : Nat) : Int) ≤ z.back := h
        omega
      · intro _
        show z.bank + x.toNat - min (z.bank + x.toNat) (F.s.toNat - z.ab) = 0
        by_cases q : z.ab + min (z.bank + x.toNat) (F.s.toNat - z.ab) = 0
        · omega
        · have := (key q).1
          omega
      · show ((z.ab + min (z.bank + x.toNat) (F.s.toNat - z.ab) : Nat) : Int) < F.s
        by_cases q : z.ab + min (z.bank + x.toNat) (F.s.toNat - z.ab) = 0
        · omega
        · have := (key q).1
          omega
      · intro _ h i h1 h2
        have h' : z.ab + min (z.bank + x.toNat) (F.s.toNat - z.ab) = 0 := h
        by_cases q : i < t
        · exact hst i (by omega) h1 q
        · have : i = t := by omega
          rw [this, hS, m1]
          show goneOf z.found + (z.ab : Int) + (z.bank : Int) + x ≤ goneOf z.found
          omega
      · intro h
        have h' : z.ab + min (z.bank + x.toNat) (F.s.toNat - z.ab) ≠ 0 := h
        obtain ⟨k1, k2⟩ := key h'
        by_cases q : z.ab = 0
        · rw [if_pos q] at k2
          show z.back ≤ (if z.ab = 0 then (t : Int) else z.since) ∧ (if z.ab = 0 then (t : Int) else z.since) < ((t + 1 : Nat) : Int) ∧ ((t + 1 : Nat) : Int) - 1 - (if z.ab = 0 then (t : Int) else z.since) < F.w ∧ goneOf z.found + 1 ≤ S.getD (if z.ab = 0 then (t : Int) else z.since).toNat 0 ∧ ∀ i : Nat, z.back ≤ (i : Int) → (i : Int) < (if z.ab = 0 then (t : Int) else z.since) → S.getD i 0 ≤ goneOf z.found
          rw [if_pos q]
          refine ⟨hb, by omega, by omega, ?_, fun i h1 h2 => hst i q h1 (by omega)⟩
          rw [Int.toNat_natCast, hS, m1]
          omega
        · have b0 := hbk q
          obtain ⟨r1, r2, r3, r4, r5⟩ := m7 q
          rw [if_neg q] at k2
          show z.back ≤ (if z.ab = 0 then (t : Int) else z.since) ∧ (if z.ab = 0 then (t : Int) else z.since) < ((t + 1 : Nat) : Int) ∧ ((t + 1 : Nat) : Int) - 1 - (if z.ab = 0 then (t : Int) else z.since) < F.w ∧ goneOf z.found + 1 ≤ S.getD (if z.ab = 0 then (t : Int) else z.since).toNat 0 ∧ ∀ i : Nat, z.back ≤ (i : Int) → (i : Int) < (if z.ab = 0 then (t : Int) else z.since) → S.getD i 0 ≤ goneOf z.found
          rw [if_neg q]
          exact ⟨r1, by omega, by omega, r4, r5⟩
  · rw [if_neg hb]
    have h0 : z.ab = 0 := m3 (by omega)
    refine ⟨?_, m2, fun _ => h0, ?_, m5, ?_, fun h => absurd h0 h⟩
    · rw [hp, hS, m1]
      show _ = goneOf z.found + (z.ab : Int) + ((z.bank + x.toNat : Nat) : Int)
      omega
    · intro h
      have h' : z.back < ((t + 1 : Nat) : Int) := h
      omega
    · intro h
      have h' : z.back < ((t + 1 : Nat) : Int) := h
      omega
end FM

/-! the book told by the sums: bounds hold of the sums just where the run leaves so -/
namespace FM
/-- the sum by tick t -/
def sAt (S : List Int) (t : Int) : Int := S.getD t.toNat 0
structure Sat (b : BS) (S : List Int) : Prop where
  good : b.good = true
  lo : ∀ i, i < S.length → b.L.getD i 0 ≤ S.getD i 0
  hi : ∀ i, i < S.length → S.getD i 0 ≤ b.U.getD i 0
theorem upL_iff {L S : List Int} {t v : Int} (hl : L.length = S.length) (h0 : 0 ≤ t) (ht : t < S.length) : (∀ i, i < S.length → (upL L t v).getD i 0 ≤ S.getD i 0) ↔ (∀ i, i < S.length → L.getD i 0 ≤ S.getD i 0) ∧ v ≤ sAt S t := by
  constructor
  · intro h
    refine ⟨fun i hi => ?_, ?_⟩
    · have := h i hi
      unfold upL at this
      rw [getD_set] at this
      split at this
      · rename_i e
        rw [← e.1]; rw [← e.1] at this
        exact Int.le_trans (Int.le_max_left _ _) this
      · exact this
    · have := h t.toNat (by omega)
      unfold upL at this
      rw [getD_set, if_pos ⟨rfl, by omega⟩] at this
      exact Int.le_trans (Int.le_max_right _ _) this
  · exact fun h => upL_sat h.1 h.2
theorem upU_iff {U S : List Int} {t v : Int} (hl : U.length = S.length) (ht : t < S.length) : (∀ i, i < S.length → S.getD i 0 ≤ (upU U t v).getD i 0) ↔ (∀ i, i < S.length → S.getD i 0 ≤ U.getD i 0) ∧ (0 ≤ t → sAt S t ≤ v) := by
  constructor
  · intro h
    refine ⟨fun i hi => ?_, fun h0 => ?_⟩
    · have := h i hi
      unfold upU at this
      split at this
      · rw [getD_set] at this
        split at this
        · rename_i e
          rw [← e.1]; rw [← e.1] at this
          exact Int.le_trans this (Int.min_le_left _ _)
        · exact this
      · exact this
    · have := h t.toNat (by omega)
      unfold upU at this
      rw [if_pos h0, getD_set, if_pos ⟨rfl, by omega⟩] at this
      exact Int.le_trans this (Int.min_le_right _ _)
  · exact fun h => upU_sat h.1 h.2
/-- what one leaving tells of the sums -/
structure Told (F : Fy) (S : List Int) (home gone t l : Int) : Prop where
  back : home ≤ t
  full : gone + l ≤ sAt S t
  few : l < F.s → sAt S t ≤ gone + l ∧ home ≤ t - F.w ∧ gone + 1 ≤ sAt S (t - F.w) ∧ (home < t - F.w → sAt S (t - F.w - 1) ≤ gone)
  all : F.s ≤ l → (home < t → sAt S (t - 1) ≤ gone + F.s - 1) ∧ (home < t - F.w → sAt S (t - F.w - 1) ≤ gone)
theorem leave_iff {F : Fy} (ok : F.Ok) {b : BS} {S : List Int} {home gone t l : Int} (hL : b.L.length = S.length) (hU : b.U.length = S.length) (hS : ∀ i, i < S.length → S.getD i 0 ≤ endless) (h0 : 0 ≤ home) (t0 : 0 ≤ t) (t1 : t < S.length) : Sat (leave F b home gone t l) S ↔ Sat b S ∧ Told F S home gone t l := by
  have w1 := ok.w1
  have en : ∀ x : Int, x < S.length → sAt S x ≤ endless := fun x hx => hS x.toNat (by omega)
  unfold leave
  by_cases q : t < home
  · rw [if_pos q]
    exact ⟨fun h => (nomatch h.good), fun h => absurd h.2.back (by omega)⟩
  · rw [if_neg q]
    by_cases q2 : l < F.s
    · rw [if_pos q2]
      by_cases q3 : t - F.w < home
      · rw [if_pos q3]
        exact ⟨fun h => (nomatch h.good), fun h => absurd (h.2.few q2).2.1 (by omega)⟩
      · rw [if_neg q3]
        have e1 := upL_iff (S := S) (v := gone + l) hL t0 t1
        have e2 := upL_iff (S := S) (L := upL b.L t (gone + l)) (t := t - F.w) (v := gone + 1) (by rw [upL_len]; exact hL) (by omega) (by omega)
        have e3 := upU_iff (S := S) (v := gone + l) hU t1
        have e4 := upU_iff (S := S) (U := upU b.U t (gone + l)) (t := t - F.w - 1) (v := if home < t - F.w then gone else endless) (by rw [upU_len]; exact hU) (by omega)
        constructor
        · intro h
          have a := e2.mp h.lo
          have a' := e1.mp a.1
          have c := e4.mp h.hi
          have c' := e3.mp c.1
          refine ⟨⟨h.good, a'.1, c'.1⟩, ⟨by omega, a'.2, fun _ => ⟨c'.2 t0, by omega, a.2, fun y => ?_⟩, fun y => absurd y (by omega)⟩⟩
          have := c.2 (by omega)
          rw [if_pos y] at this
          exact this
        · intro h
          obtain ⟨k1, k2, k3, k4⟩ := h.2.few q2
          refine ⟨h.1.good, e2.mpr ⟨e1.mpr ⟨h.1.lo, h.2.full⟩, k3⟩, e4.mpr ⟨e3.mpr ⟨h.1.hi, fun _ => k1⟩, fun _ => ?_⟩⟩
          split
          · rename_i y; exact k4 y
          · exact en _ (by omega)
    · rw [if_neg q2]
      have e1 := upL_iff (S := S) (v := gone + l) hL t0 t1
      have e3 := upU_iff (S := S) (t := t - 1) (v := if home < t then gone + F.s - 1 else endless) hU (by omega)
      have e4 := upU_iff (S := S) (U := upU b.U (t - 1) (if home < t then gone + F.s - 1 else endless)) (t := t - F.w - 1) (v := if home < t - F.w then gone else endless) (by rw [upU_len]; exact hU) (by omega)
      constructor
      · intro h
        have a := e1.mp h.lo
        have c := e4.mp h.hi
        have c' := e3.mp c.1
        refine ⟨⟨h.good, a.1, c'.1⟩, ⟨by omega, a.2, fun y => absurd y q2, fun _ => ⟨fun y => ?_, fun y => ?_⟩⟩⟩
        · have := c'.2 (by omega)
          rw [if_pos y] at this
          exact this
        · have := c.2 (by omega)
          rw [if_pos y] at this
          exact this
      · intro h
        obtain ⟨k1, k2⟩ := h.2.all (by omega)
        refine ⟨h.1.good, e1.mpr ⟨h.1.lo, h.2.full⟩, e4.mpr ⟨e3.mpr ⟨h.1.hi, fun _ => ?_⟩, fun _ => ?_⟩⟩
        · split
          · rename_i y; exact k1 y
          · exact en _ (by omega)
        · split
          · rename_i y; exact k2 y
          · exact en _ (by omega)
/-- what a book tells of the sums, from a home-coming on -/
def Chain (F : Fy) (S : List Int) (last : Int) : Int → Int → Lvs → Prop
  | home, gone, [] => home ≤ last → sAt S last ≤ gone + F.s - 1 ∧ (home ≤ last - F.w → sAt S (last - F.w) ≤ gone)
  | home, gone, p :: r => Told F S home gone p.1 p.2 ∧ Chain F S last (p.1 + F.a) (gone + p.2) r
theorem leaves_iff {F : Fy} (ok : F.Ok) {S : List Int} {last : Int} (hS : ∀ i, i < S.length → S.getD i 0 ≤ endless) (hl : last + 1 = S.length) (l0 : 0 ≤ last) : ∀ (ls : Lvs) (b : BS) (home gone : Int), b.L.length = S.length → b.U.length = S.length → 0 ≤ home → (∀ p ∈ ls, 0 ≤ p.1 ∧ p.1 ≤ last) → (Sat (close F last (leaves F b home gone ls)) S ↔ Sat b S ∧ Chain F S last home gone ls)
  | [], b, home, gone, hL, hU, h0, _ => by
    have w1 := ok.w1
    have en : ∀ x : Int, x < S.length → sAt S x ≤ endless := fun x hx => hS x.toNat (by omega)
    show Sat (close F last (b, home, gone)) S ↔ Sat b S ∧ (home ≤ last → sAt S last ≤ gone + F.s - 1 ∧ (home ≤ last - F.w → sAt S (last - F.w) ≤ gone))
    unfold close
    show Sat (if home ≤ last then ⟨b.L, upU (upU b.U last (gone + F.s - 1)) (last - F.w) (if home ≤ last - F.w then gone else endless), b.good⟩ else b) S ↔ _
    by_cases q : home ≤ last
    · rw [if_pos q]
      have e3 := upU_iff (S := S) (t := last) (v := gone + F.s - 1) hU (by omega)
      have e4 := upU_iff (S := S) (U := upU b.U last (gone + F.s - 1)) (t := last - F.w) (v := if home ≤ last - F.w then gone else endless) (by rw [upU_len]; exact hU) (by omega)
      constructor
      · intro h
        have c := e4.mp h.hi
        have c' := e3.mp c.1
        refine ⟨⟨h.good, h.lo, c'.1⟩, fun _ => ⟨c'.2 l0, fun y => ?_⟩⟩
        have := c.2 (by omega)
        rw [if_pos y] at this
        exact this
      · intro h
        obtain ⟨k1, k2⟩ := h.2 q
        refine ⟨h.1.good, h.1.lo, e4.mpr ⟨e3.mpr ⟨h.1.hi, fun _ => k1⟩, fun _ => ?_⟩⟩
        split
        · rename_i y; exact k2 y
        · exact en _ (by omega)
    · rw [if_neg q]
      exact ⟨fun h => ⟨h, fun y => absurd y q⟩, fun h => h.1⟩
  | p :: r, b, home, gone, hL, hU, h0, ht => by
    have a1 := ok.a1
    have tp := ht p (.head _)
    have ih := leaves_iff ok hS hl l0 r (leave F b home gone p.1 p.2) (p.1 + F.a) (gone + p.2) (by rw [leave_lenL]; exact hL) (by rw [leave_lenU]; exact hU) (by omega) (fun x hx => ht x (.tail _ hx))
    have e := leave_iff ok (gone := gone) (l := p.2) hL hU hS h0 tp.1 (by omega)
    show Sat (close F last (leaves F (leave F b home gone p.1 p.2) (p.1 + F.a) (gone + p.2) r)) S ↔ Sat b S ∧ (Told F S home gone p.1 p.2 ∧ Chain F S last (p.1 + F.a) (gone + p.2) r)
    rw [ih, e, and_assoc]
/-- the bounds hold of the sums just where the chain does -/
theorem bounds_iff {F : Fy} (ok : F.Ok) {S : List Int} {last : Int} {ls : Lvs} (h0 : ∀ i, i < S.length → 0 ≤ S.getD i 0) (hS : ∀ i, i < S.length → S.getD i 0 ≤ endless) (hl : last + 1 = S.length) (l0 : 0 ≤ last) (ht : ∀ p ∈ ls, 0 ≤ p.1 ∧ p.1 ≤ last) : Sat (bounds F last ls) S ↔ Chain F S last 0 0 ls := by
  have e := leaves_iff ok hS hl l0 ls (bs0 last) 0 0 (by show (List.replicate _ _).length = _; rw [List.length_replicate]; omega) (by show (List.replicate _ _).length = _; rw [List.length_replicate]; omega) (Int.le_refl 0) ht
  show Sat (close F last (leaves F (bs0 last) 0 0 ls)) S ↔ _
  rw [e]
  refine ⟨fun h => h.2, fun h => ⟨⟨rfl, fun i hi => ?_, fun i hi => ?_⟩, h⟩⟩
  · show (List.replicate _ (0 : Int)).getD i 0 ≤ _
    rw [List.getD_eq_getElem?_getD, List.getElem?_replicate]
    split
    · exact h0 i hi
    · exact h0 i hi
  · show _ ≤ (List.replicate _ endless).getD i 0
    have e : (List.replicate (last + 1).toNat endless).getD i 0 = endless := by
      rw [List.getD_eq_getElem?_getD, List.getElem?_replicate, if_pos (by omega)]; rfl
    rw [e]
    exact hS i hi
end FM

/-! the run leaves by a book just where its chain holds of the sums -/
namespace FM
/-- S never falls -/
def Mono (S : List Int) : Prop := ∀ i j : Nat, i ≤ j → j < S.length → S.getD i 0 ≤ S.getD j 0
theorem lsRun_found (F : Fy) : ∀ (r : List Int) (z : LS) (t : Int), ∃ rest, (lsRun F z t r).found = z.found ++ rest
  | [], z, _ => ⟨[], (List.append_nil _).symm⟩
  | x :: r, z, t => by
    obtain ⟨rest, h⟩ := lsRun_found F r (lsStep F z t x) (t + 1)
    have : ∃ one, (lsStep F z t x).found = z.found ++ one := by
      unfold lsStep
      generalize (if z.ab = 0 then t else z.since) = sn
      split
      · split
        · exact ⟨_, rfl⟩
        · exact ⟨[], (List.append_nil _).symm⟩
      · exact ⟨[], (List.append_nil _).symm⟩
    obtain ⟨one, h1⟩ := this
    exact ⟨one ++ rest, by show (lsRun F (lsStep F z t x) (t + 1) r).found = _; rw [h, h1, List.append_assoc]⟩
/-- at home and not full: what was there ahead of t -/
theorem Mach.seats {F : Fy} {S : List Int} {t : Nat} {z : LS} (M : Mach F S t z) (mo : Mono S) (hn : t ≤ S.length) : ∀ i : Int, z.back ≤ i → i < (t : Int) → sAt S i ≤ goneOf z.found + F.s - 1 := fun i h1 h2 => by
  have b0 := M.back0
  have e := M.sum
  have := M.bank0 (by omega)
  have := M.room
  have m := mo i.toNat (t - 1) (by omega) (by omega)
  unfold pre at e
  rw [if_neg (by omega)] at e
  show S.getD i.toNat 0 ≤ _
  omega
/-- nobody had waited too long -/
theorem Mach.late {F : Fy} {S : List Int} {t : Nat} {z : LS} (M : Mach F S t z) (w1 : 1 ≤ F.w) : ∀ j : Int, z.back ≤ j → j + F.w < (t : Int) → sAt S j ≤ goneOf z.found := fun j h1 h2 => by
  have b0 := M.back0
  have ej : ((j.toNat : Nat) : Int) = j := Int.toNat_of_nonneg (by omega)
  by_cases q : z.ab = 0
  · exact M.none (by omega) q j.toNat (by omega) (by omega)
  · obtain ⟨_, _, r3, _, r5⟩ := M.some q
    exact r5 j.toNat (by omega) (by omega)
/-- no leaving that is told lies ahead of t -/
theorem told_not {F : Fy} {S : List Int} {t : Nat} {z : LS} {t' l' : Int} (M : Mach F S t z) (w1 : 1 ≤ F.w) (mo : Mono S) (hn : t ≤ S.length) (T : Told F S z.back (goneOf z.found) t' l') : (t : Int) ≤ t' := by
  rcases Int.lt_or_le t' (t : Int) with q | q
  · exfalso
    have b := T.back
    rcases Int.lt_or_le l' F.s with r | r
    · obtain ⟨_, k2, k3, _⟩ := T.few r
      have := M.late w1 (t' - F.w) k2 (by omega)
      omega
    · have := M.seats mo hn t' b q
      have := T.full
      omega
  · exact q
theorem run_iff {F : Fy} (ok : F.Ok) {S : List Int} (mo : Mono S) (n1 : 1 ≤ S.length) : ∀ (r : List Int) (t : Nat) (z : LS), Mach F S t z → t + r.length = S.length → (∀ k, k < r.length → S.getD (t + k) 0 = pre S (t + k) + r.getD k 0 ∧ 0 ≤ r.getD k 0) → ∀ ls : Lvs, (∀ p ∈ ls, p.1 < S.length ∧ p.2 ≤ F.s) → ((lsRun F z (t : Int) r).found = z.found ++ ls ↔ Chain F S ((S.length : Int) - 1) z.back (goneOf z.found) ls)
  | [], t, z, M, hn, _, ls, hls => by
    have w1 := ok.w1
    have hn' : t = S.length := hn
    show z.found = z.found ++ ls ↔ _
    match ls, hls with
    | [], _ =>
      refine ⟨fun _ => ?_, fun _ => (List.append_nil _).symm⟩
      intro h
      exact ⟨M.seats mo (by omega) _ h (by omega), fun h2 => M.late w1 _ h2 (by omega)⟩
    | p :: ls, hls =>
      refine ⟨fun h => ?_, fun h => ?_⟩
      · have := congrArg List.length h
        rw [List.length_append, List.length_cons] at this
        omega
      · have := told_not M w1 mo (by omega) h.1
        have := (hls p (.head _)).1
        omega
  | x :: r, t, z, M, hn, hr, ls, hls => by
    have w1 := ok.w1
    have s1 := ok.s1
    have hn' : t + (r.length + 1) = S.length := hn
    have h0 : S.getD t 0 = pre S t + x ∧ 0 ≤ x := hr 0 (by rw [List.length_cons]; omega)
    have M' := M.step ok (x := x) h0.2 h0.1
    have ih := run_iff ok mo n1 r (t + 1) (lsStep F z (t : Int) x) M' (by omega) (fun k hk => by
      have := hr (k + 1) (by rw [List.length_cons]; omega)
      rw [show t + 1 + k = t + (k + 1) by omega]
      exact this)
    show (lsRun F (lsStep F z (t : Int) x) ((t : Int) + 1) r).found = _ ↔ _
    rw [show ((t : Int) + 1) = ((t + 1 : Nat) : Int) by omega]
    by_cases hb : z.back ≤ (t : Int)
    · by_cases hl : z.ab + min (z.bank + x.toNat) (F.s.toNat - z.ab) ≠ 0 ∧ (((z.ab + min (z.bank + x.toNat) (F.s.toNat - z.ab) : Nat) : Int) = F.s ∨ F.w ≤ (t : Int) - (if z.ab = 0 then (t : Int) else z.since))
      · -- a leaving
        have ez : lsStep F z (t : Int) x = ⟨z.bank + x.toNat - min (z.bank + x.toNat) (F.s.toNat - z.ab), 0, if z.ab = 0 then (t : Int) else z.since, (t : Int) + F.a, z.found ++ [((t : Int), ((z.ab + min (z.bank + x.toNat) (F.s.toNat - z.ab) : Nat) : Int))]⟩ := by
          unfold lsStep; rw [if_pos hb, if_pos hl]
        have eS : S.getD t 0 = goneOf z.found + (z.ab : Int) + (z.bank : Int) + x := by rw [h0.1, M.sum]
        have eS' : sAt S (t : Int) = goneOf z.found + (z.ab : Int) + (z.bank : Int) + x := by unfold sAt; rw [Int.toNat_natCast]; exact eS
        rw [ez] at ih ⊢
        generalize hq : z.ab + min (z.bank + x.toNat) (F.s.toNat - z.ab) = q at *
        have moI : ∀ i j : Int, 0 ≤ i → i ≤ j → j < S.length → sAt S i ≤ sAt S j := fun i j a b c => mo i.toNat j.toNat (by omega) (by omega)
        have room := M.room
        have b0 := M.back0
        -- the leaving by the time, where not full
        have tw : (q : Int) ≠ F.s → z.ab ≠ 0 ∧ z.since = (t : Int) - F.w ∧ z.back ≤ z.since ∧ goneOf z.found + 1 ≤ sAt S z.since ∧ (z.back < z.since → sAt S (z.since - 1) ≤ goneOf z.found) ∧ sAt S (t : Int) = goneOf z.found + (q : Int) := fun y => by
          have k := hl.2.resolve_left y
          by_cases a0 : z.ab = 0
          · rw [if_pos a0] at k; omega
          · rw [if_neg a0] at k
            obtain ⟨r1, r2, r3, r4, r5⟩ := M.some a0
            refine ⟨a0, by omega, r1, r4, fun y2 => r5 (z.since - 1).toNat (by omega) (by omega), ?_⟩
            rw [eS']; omega
        have T : Told F S z.back (goneOf z.found) (t : Int) (q : Int) := by
          refine ⟨hb, by rw [eS']; omega, fun y => ?_, fun y => ⟨fun y2 => M.seats mo (by omega) _ (by omega) (by omega), fun y2 => M.late w1 _ (by omega) (by omega)⟩⟩
          obtain ⟨g1, g2, g3, g4, g5, g6⟩ := tw (by omega)
          rw [← g2]
          exact ⟨by omega, g3, g4, g5⟩
        match ls, hls with
        | [], _ =>
          refine ⟨fun h => ?_, fun h => ?_⟩
          · obtain ⟨rest, hr⟩ := lsRun_found F r ⟨z.bank + x.toNat - min (z.bank + x.toNat) (F.s.toNat - z.ab), 0, if z.ab = 0 then (t : Int) else z.since, (t : Int) + F.a, z.found ++ [((t : Int), (q : Int))]⟩ ((t + 1 : Nat) : Int)
            rw [hr] at h
            have := congrArg List.length h
            simp at this
          · exfalso
            obtain ⟨k1, k2⟩ := h (by omega)
            by_cases y : (q : Int) = F.s
            · have := moI (t : Int) ((S.length : Int) - 1) (by omega) (by omega) (by omega)
              have := T.full
              omega
            · obtain ⟨g1, g2, g3, g4, g5, g6⟩ := tw y
              have := moI z.since ((S.length : Int) - 1 - F.w) (by omega) (by omega) (by omega)
              have := k2 (by omega)
              omega
        | p :: ls, hls =>
          have ih' := ih ls (fun a ha => hls a (.tail _ ha))
          rw [goneOf_app] at ih'
          have gs : goneOf [((t : Int), (q : Int))] = (q : Int) := by show (q : Int) + 0 = _; omega
          rw [gs] at ih'
          constructor
          · intro h
            obtain ⟨rest, hr⟩ := lsRun_found F r ⟨z.bank + x.toNat - min (z.bank + x.toNat) (F.s.toNat - z.ab), 0, if z.ab = 0 then (t : Int) else z.since, (t : Int) + F.a, z.found ++ [((t : Int), (q : Int))]⟩ ((t + 1 : Nat) : Int)
            have h2 := h
            rw [hr, List.append_assoc] at h2
            have h3 : [((t : Int), (q : Int))] ++ rest = p :: ls := List.append_cancel_left h2
            have e1 : ((t : Int), (q : Int)) = p := (List.cons.inj h3).1
            have e2 : rest = ls := (List.cons.inj h3).2
            rw [e2] at hr
            subst e1
            exact ⟨T, ih'.mp hr⟩
          · intro h
            obtain ⟨T', h⟩ := h
            have lp := hls p (.head _)
            have tp := told_not M w1 mo (by omega) T'
            have e1 : p.1 = (t : Int) := by
              rcases Int.lt_or_le (t : Int) p.1 with y | y
              · exfalso
                by_cases y2 : (q : Int) = F.s
                · have f := T.full
                  rcases Int.lt_or_le p.2 F.s with y3 | y3
                  · have := (T'.few y3).1
                    have := moI (t : Int) p.1 (by omega) (by omega) (by omega)
                    omega
                  · have := (T'.all y3).1 (by omega)
                    have := moI (t : Int) (p.1 - 1) (by omega) (by omega) (by omega)
                    omega
                · obtain ⟨g1, g2, g3, g4, g5, g6⟩ := tw y2
                  have := moI z.since (p.1 - F.w - 1) (by omega) (by omega) (by omega)
                  rcases Int.lt_or_le p.2 F.s with y3 | y3
                  · have := (T'.few y3).2.2.2 (by omega)
                    omega
                  · have := (T'.all y3).2 (by omega)
                    omega
              · omega
            have e2 : p.2 = (q : Int) := by
              have f' := T'.full
              rw [e1] at f'
              rcases Int.lt_or_le p.2 F.s with y3 | y3
              · have k := (T'.few y3).1
                rw [e1] at k
                by_cases y2 : (q : Int) = F.s
                · have := T.full; omega
                · have := (tw y2).2.2.2.2.2; omega
              · by_cases y2 : (q : Int) = F.s
                · omega
                · have := (tw y2).2.2.2.2.2
                  have : (q : Int) < F.s := by omega
                  omega
            rw [e1, e2] at h
            have := ih'.mpr h
            rw [this, List.append_assoc, ← e1, ← e2]
            rfl
      · have e : (lsStep F z (t : Int) x).found = z.found ∧ (lsStep F z (t : Int) x).back = z.back := by
          unfold lsStep; rw [if_pos hb, if_neg hl]; exact ⟨rfl, rfl⟩
        have := ih ls hls
        rw [e.1, e.2] at this
        exact this
    · have e : (lsStep F z (t : Int) x).found = z.found ∧ (lsStep F z (t : Int) x).back = z.back := by
        unfold lsStep; rw [if_neg hb]; exact ⟨rfl, rfl⟩
      have := ih ls hls
      rw [e.1, e.2] at this
      exact this
theorem sums_len : ∀ (row : List Int) (p : Int), (sumsFrom p row).length = row.length
  | [], _ => rfl
  | x :: r, p => congrArg Nat.succ (sums_len r (p + x))
theorem sums_at : ∀ (row : List Int) (p : Int) (k : Nat), k < row.length → (sumsFrom p row).getD k 0 = (if k = 0 then p else (sumsFrom p row).getD (k - 1) 0) + row.getD k 0
  | x :: r, p, 0, _ => rfl
  | x :: r, p, k + 1, h => by
    have := sums_at r (p + x) k (Nat.lt_of_succ_lt_succ h)
    show (sumsFrom (p + x) r).getD k 0 = ((p + x) :: sumsFrom (p + x) r).getD k 0 + r.getD k 0
    rw [this]
    cases k with
    | zero => rfl
    | succ k => rfl
theorem sums_mono : ∀ (row : List Int) (p : Int), (∀ x ∈ row, 0 ≤ x) → Mono (sumsFrom p row) ∧ ∀ i, i < row.length → p ≤ (sumsFrom p row).getD i 0
  | [], _, _ => ⟨fun _ _ _ h => absurd h (Nat.not_lt_zero _), fun _ h => absurd h (Nat.not_lt_zero _)⟩
  | x :: r, p, hx => by
    obtain ⟨a, b⟩ := sums_mono r (p + x) fun y hy => hx y (.tail _ hy)
    have x0 := hx x (.head _)
    refine ⟨fun i j h1 h2 => ?_, fun i hi => ?_⟩
    · match i, j, h1, h2 with
      | 0, 0, _, _ => exact Int.le_refl _
      | 0, j + 1, _, h2 =>
        have := b j (by rw [← sums_len r (p + x)]; exact Nat.lt_of_succ_lt_succ h2)
        exact this
      | i + 1, j + 1, h1, h2 => exact a i j (Nat.le_of_succ_le_succ h1) (Nat.lt_of_succ_lt_succ h2)
    · match i with
      | 0 => show p ≤ p + x; omega
      | i + 1 =>
        have := b i (Nat.lt_of_succ_lt_succ hi)
        show p ≤ (sumsFrom (p + x) r).getD i 0
        omega
theorem sums_top {m : Int} (m0 : 0 ≤ m) : ∀ (row : List Int) (p : Int), (∀ x ∈ row, x ≤ m) → ∀ i, i < row.length → (sumsFrom p row).getD i 0 ≤ p + m * (row.length : Int)
  | x :: r, p, hx, i, hi => by
    have x0 := hx x (.head _)
    have mr : 0 ≤ m * (r.length : Int) := Int.mul_nonneg m0 (Int.natCast_nonneg _)
    have e : m * (((x :: r).length : Nat) : Int) = m * (r.length : Int) + m := by rw [List.length_cons, Int.natCast_add, Int.mul_add]; simp
    rw [e]
    match i with
    | 0 => show p + x ≤ _; omega
    | i + 1 =>
      have := sums_top m0 r (p + x) (fun y hy => hx y (.tail _ hy)) i (Nat.lt_of_succ_lt_succ hi)
      show (sumsFrom (p + x) r).getD i 0 ≤ _
      omega
/-- a row leaves so just where the book's bounds hold of its sums -/
theorem left_iff {F : Fy} (ok : F.Ok) {row : List Int} (n1 : 1 ≤ row.length) (n2 : row.length ≤ 61) (hx : ∀ x ∈ row, 0 ≤ x ∧ x ≤ F.m) {ls : Lvs} (hls : ∀ p ∈ ls, 0 ≤ p.1 ∧ p.1 < row.length ∧ p.2 ≤ F.s) : leftOf F row = ls ↔ Sat (bounds F ((row.length : Int) - 1) ls) (sumsFrom 0 row) := by
  have sl := sums_len row 0
  obtain ⟨mo, lo⟩ := sums_mono row 0 fun x h => (hx x h).1
  have m1 := ok.m1
  have m2 := ok.m2
  have top := sums_top (m := F.m) (by omega) row 0 fun x h => (hx x h).2
  have mb : F.m * (row.length : Int) ≤ 9 * 61 := Int.le_trans (Int.mul_le_mul_of_nonneg_right m2 (Int.natCast_nonneg _)) (Int.mul_le_mul_of_nonneg_left (by omega) (by decide))
  rw [bounds_iff ok (S := sumsFrom 0 row) (fun i hi => lo i (by omega)) (fun i hi => by
    have := top i (by omega)
    show _ ≤ (1000000 : Int)
    omega) (by rw [sl]; omega) (by omega) (fun p hp => by have := hls p hp; omega)]
  have := run_iff ok mo (by omega) row 0 ⟨0, 0, 0, 0, []⟩ (mach0 ok _) (by rw [sl]; omega) (fun k hk => by
    rw [Nat.zero_add]
    refine ⟨sums_at row 0 k hk, ?_⟩
    rw [List.getD_eq_getElem?_getD, List.getElem?_eq_getElem hk]
    exact (hx _ (List.getElem_mem hk)).1) ls (fun p hp => by have := hls p hp; rw [sl]; omega)
  rw [sl] at this
  exact this
theorem sat_btw {F : Fy} {last : Int} {ls : Lvs} {S : List Int} (hl : (S.length : Int) = last + 1) : Sat (bounds F last ls) S ↔ (bounds F last ls).good = true ∧ Btw (bounds F last ls).L S (bounds F last ls).U := by
  have a := bounds_lenL F last ls
  have b := bounds_lenU F last ls
  refine ⟨fun h => ⟨h.good, btw_of _ _ _ (by omega) (by omega) fun i hi => ⟨h.lo i hi, h.hi i hi⟩⟩, fun h => ⟨h.1, fun i hi => (btw_at _ _ _ h.2 i hi).1, fun i hi => (btw_at _ _ _ h.2 i hi).2⟩⟩
/-- the own book: the stairs are there, and the own sums lie within -/
theorem own_stairs {F : Fy} (ok : F.Ok) {row : List Int} (n1 : 1 ≤ row.length) (n2 : row.length ≤ 61) (hx : ∀ x ∈ row, 0 ≤ x ∧ x ≤ F.m) : ∃ st, stairs F ((row.length : Int) - 1) (leftOf F row) = some st ∧ Btw (st.map (·.1)) (sumsFrom 0 row) (st.map (·.2)) := by
  obtain ⟨a, b, _⟩ := left_ok F row
  have h := (left_iff ok n1 n2 hx (ls := leftOf F row) fun p hp => by have := a p hp; have := b p hp; omega).mp rfl
  have h := (sat_btw (by rw [sums_len]; omega)).mp h
  exact stairs_of (by omega) (stp_sums row 0 hx) h.1 h.2
end FM

/-! the rows told by the stairs; ticks of comers; waits -/
namespace FM
def steps (p : Int) : List Int → List Int
  | [] => []
  | x :: r => (x - p) :: steps x r
theorem zw_steps : ∀ (l : List Int) (p : Int), List.zipWith (fun a b : Int => a - b) l (p :: l.dropLast) = steps p l
  | [], _ => rfl
  | [x], p => rfl
  | x :: y :: r, p => congrArg (List.cons (x - p)) (zw_steps (y :: r) x)
theorem stepsOf_eq (l : List Int) : stepsOf l = steps 0 l := zw_steps l 0
theorem sums_steps : ∀ (l : List Int) (p : Int), sumsFrom p (steps p l) = l
  | [], _ => rfl
  | x :: r, p => by
    show (p + (x - p)) :: sumsFrom (p + (x - p)) (steps x r) = x :: r
    rw [show p + (x - p) = x by omega, sums_steps r x]
theorem steps_in {m : Int} : ∀ (l : List Int) (p : Int), Stp m p l → ∀ x ∈ steps p l, 0 ≤ x ∧ x ≤ m
  | [], _, _, x, h => nomatch h
  | s :: l, p, ⟨h1, h2⟩, x, h => by
    rcases List.mem_cons.mp h with e | e
    · rw [e]; omega
    · exact steps_in l s h2 x e
theorem steps_len : ∀ (l : List Int) (p : Int), (steps p l).length = l.length
  | [], _ => rfl
  | x :: r, p => congrArg Nat.succ (steps_len r x)
theorem stp_tail {m p : Int} : ∀ {l : List Int}, Stp m p l → ∀ x ∈ l, p ≤ x ∨ m < 0
  | [], _, x, h => nomatch h
  | s :: l, ⟨h1, h2⟩, x, h => by
    rcases List.mem_cons.mp h with e | e
    · rw [e]; exact .inl h1.1
    · rcases stp_tail h2 x e with q | q
      · exact .inl (by omega)
      · exact .inr q
/-- the forward least rises -/
def Up (p : Int) : List Int → Prop
  | [] => True
  | x :: r => p ≤ x ∧ Up x r
theorem up_fwd : ∀ (l : List Int) (p : Int), Up p (fwdL p l)
  | [], _ => trivial
  | x :: r, p => ⟨Int.le_max_right x p, up_fwd r _⟩
theorem stp_bwdL {m : Int} (m0 : 0 ≤ m) : ∀ (l : List Int) (p : Int), Up p l → match bwdL m l with | [] => l = [] | x :: r => p ≤ x ∧ Stp m x r
  | [], _, _ => rfl
  | [x], _, h => ⟨h.1, trivial⟩
  | x :: y :: r, p, h => by
    have ih := stp_bwdL m0 (y :: r) x h.2
    have ep : bwdL m (x :: y :: r) = max x ((bwdL m (y :: r)).headD 0 - m) :: bwdL m (y :: r) := rfl
    rw [ep]
    cases hb : bwdL m (y :: r) with
    | nil => rw [hb] at ih; cases ih
    | cons z q =>
      rw [hb] at ih
      have hp := h.1
      show p ≤ max x (z - m) ∧ ((max x (z - m) ≤ z ∧ z ≤ max x (z - m) + m) ∧ Stp m z q)
      exact ⟨by omega, ⟨by omega, by omega⟩, ih.2⟩
/-- the forward most rises by m at most -/
def Gap (m p : Int) : List Int → Prop
  | [] => True
  | x :: r => x ≤ p + m ∧ Gap m x r
theorem gap_fwd {m : Int} : ∀ (l : List Int) (p : Int), Gap m p (fwdU m p l)
  | [], _ => trivial
  | x :: r, p => ⟨Int.min_le_right x (p + m), gap_fwd r _⟩
theorem stp_bwdU {m : Int} (m0 : 0 ≤ m) : ∀ (l : List Int) (p : Int), Gap m p l → match bwdU l, l with | [], _ => l = [] | x :: r, y :: _ => x ≤ y ∧ x ≤ p + m ∧ Stp m x r | _ :: _, [] => False
  | [], _, _ => rfl
  | [x], _, h => ⟨Int.le_refl _, h.1, trivial⟩
  | x :: y :: r, p, h => by
    have ih := stp_bwdU m0 (y :: r) x h.2
    have ep : bwdU (x :: y :: r) = min x ((bwdU (y :: r)).headD 0) :: bwdU (y :: r) := rfl
    rw [ep]
    cases hb : bwdU (y :: r) with
    | nil => rw [hb] at ih; cases ih
    | cons z q =>
      rw [hb] at ih
      have hp := h.1
      have hy := h.2.1
      obtain ⟨i1, i2, i3⟩ := ih
      show min x z ≤ x ∧ min x z ≤ p + m ∧ ((min x z ≤ z ∧ z ≤ min x z + m) ∧ Stp m z q)
      exact ⟨by omega, by omega, ⟨by omega, by omega⟩, i3⟩
/-- the least and the most of the stairs are sums of rows -/
theorem stairs_stp {F : Fy} (ok : F.Ok) {last : Int} {ls : Lvs} {st : List (Int × Int)} (l0 : 0 ≤ last) (h : stairs F last ls = some st) : Stp F.m 0 (st.map (·.1)) ∧ Stp F.m 0 (st.map (·.2)) := by
  have m1 := ok.m1
  obtain ⟨_, h1, h2, _⟩ := stairs_is h
  have hl := stairs_len h
  have e1 := stairs_lo h
  have e2 := stairs_hi h
  have a := stp_bwdL (m := F.m) (by omega) _ _ (up_fwd (bounds F last ls).L 0)
  have b := stp_bwdU (m := F.m) (by omega) _ _ (gap_fwd (m := F.m) (bounds F last ls).U 0)
  rw [show bwdL F.m (fwdL 0 (bounds F last ls).L) = finL F (bounds F last ls) from rfl, ← e1] at a
  rw [show bwdU (fwdU F.m 0 (bounds F last ls).U) = finU F (bounds F last ls) from rfl, ← e2] at b
  rw [← e1] at h1
  cases st with
  | nil => have : ([] : List (Int × Int)).length = 0 := rfl; omega
  | cons p r =>
    have hp := h2 p (.head _)
    refine ⟨⟨⟨a.1, ?_⟩, a.2⟩, ?_⟩
    · have h1' : p.1 ≤ F.m := h1
      show p.1 ≤ 0 + F.m
      omega
    · cases hq : fwdU F.m 0 (bounds F last ls).U with
      | nil => rw [hq] at b; exact b.elim
      | cons y q =>
        rw [hq] at b
        obtain ⟨b1, b2, b3⟩ := b
        exact ⟨⟨by have a1 : (0 : Int) ≤ p.1 := a.1; show 0 ≤ p.2; omega, b2⟩, b3⟩
theorem ticks_at : ∀ (row : List Int) (p t : Int) (k : Nat), (∀ x ∈ row, 0 ≤ x) → (ticksFrom t row)[k]? = ((sumsFrom p row).findIdx? fun v => decide (p + (k : Int) + 1 ≤ v)).map fun (i : Nat) => t + (i : Int)
  | [], p, t, k, _ => rfl
  | x :: r, p, t, k, h => by
    have x0 := h x (.head _)
    show (List.replicate x.toNat t ++ ticksFrom (t + 1) r)[k]? = (((p + x) :: sumsFrom (p + x) r).findIdx? fun v => decide (p + (k : Int) + 1 ≤ v)).map fun (i : Nat) => t + (i : Int)
    rw [List.findIdx?_cons]
    by_cases q : k < x.toNat
    · rw [List.getElem?_append_left (by rw [List.length_replicate]; exact q), List.getElem?_replicate, if_pos q, if_pos (decide_eq_true (by omega))]
      show some t = some (t + ((0 : Nat) : Int))
      rw [show t + ((0 : Nat) : Int) = t by omega]
    · rw [List.getElem?_append_right (by rw [List.length_replicate]; omega), List.length_replicate, ticks_at r (p + x) (t + 1) (k - x.toNat) (fun y hy => h y (.tail _ hy)), if_neg (by rw [decide_eq_true_eq]; omega)]
      rw [show p + x + ((k - x.toNat : Nat) : Int) + 1 = p + (k : Int) + 1 by omega, Option.map_map]
      congr 1
      funext i
      show t + 1 + (i : Int) = t + ((i + 1 : Nat) : Int)
      omega
/-- the tick of a comer by the told row is the first tick by which so many had come -/
theorem tick_first {m : Int} {S : List Int} (h : Stp m 0 S) (c : Int) (hc : 1 ≤ c) : (ticksFrom 0 (stepsOf S))[(c - 1).toNat]? = (firstTick S c).map fun (i : Nat) => (i : Int) := by
  rw [stepsOf_eq, ticks_at _ 0 0 _ (fun x hx => (steps_in S 0 h x hx).1), sums_steps]
  rw [show (0 : Int) + ((c - 1).toNat : Int) + 1 = c by omega]
  unfold firstTick
  congr 1
  funext i
  omega
theorem tick_own {row : List Int} (h : ∀ x ∈ row, 0 ≤ x) (c : Int) (hc : 1 ≤ c) : (ticksFrom 0 row)[(c - 1).toNat]? = (firstTick (sumsFrom 0 row) c).map fun (i : Nat) => (i : Int) := by
  rw [ticks_at _ 0 0 _ h]
  rw [show (0 : Int) + ((c - 1).toNat : Int) + 1 = c by omega]
  unfold firstTick
  congr 1
  funext i
  omega
/-- the more had come, the earlier -/
theorem first_le {c : Int} : ∀ (A B : List Int), A.length = B.length → (∀ i, i < A.length → A.getD i 0 ≤ B.getD i 0) → ∀ i, firstTick A c = some i → ∃ j, j ≤ i ∧ firstTick B c = some j
  | [], _, _, _, i, h => by cases h
  | a :: A, [], h, _, _, _ => by cases h
  | a :: A, b :: B, hl, hle, i, h => by
    have h0 : a ≤ b := hle 0 (by rw [List.length_cons]; omega)
    unfold firstTick at h ⊢
    rw [List.findIdx?_cons] at h ⊢
    by_cases q : c ≤ b
    · rw [if_pos (decide_eq_true q)]
      exact ⟨0, Nat.zero_le _, rfl⟩
    · rw [if_neg (by rw [decide_eq_true_eq]; exact q)]
      rw [if_neg (by rw [decide_eq_true_eq]; omega)] at h
      cases hq : A.findIdx? (fun v => decide (c ≤ v)) with
      | none => rw [hq] at h; cases h
      | some k =>
        rw [hq] at h
        cases h
        obtain ⟨j, hj, e⟩ := first_le A B (Nat.succ.inj hl) (fun i hi => hle (i + 1) (Nat.succ_lt_succ hi)) k hq
        refine ⟨j + 1, Nat.succ_le_succ hj, ?_⟩
        unfold firstTick at e
        rw [e]; rfl
theorem first_lt {S : List Int} {c : Int} {i : Nat} (h : firstTick S c = some i) : i < S.length := by
  unfold firstTick at h
  exact (List.findIdx?_eq_some_iff_findIdx_eq.mp h).1
theorem ticks_total : ∀ (row : List Int) (p t : Int), (∀ x ∈ row, 0 ≤ x) → ((ticksFrom t row).length : Int) = (sumsFrom p row).getLastD p - p
  | [], p, t, _ => by show (0 : Int) = p - p; omega
  | x :: r, p, t, h => by
    have x0 := h x (.head _)
    have ih := ticks_total r (p + x) (t + 1) fun y hy => h y (.tail _ hy)
    show ((List.replicate x.toNat t ++ ticksFrom (t + 1) r).length : Int) = ((p + x) :: sumsFrom (p + x) r).getLastD p - p
    rw [List.length_append, List.length_replicate, Int.natCast_add, ih, List.getLastD_cons]
    omega
theorem sum_take_map (t : Int) : ∀ (l : List Int), (l.map fun x => t - x).sum = t * (l.length : Int) - l.sum
  | [] => by simp
  | x :: r => by
    rw [List.map_cons, List.sum_cons, sum_take_map t r, List.sum_cons, List.length_cons, Int.natCast_add, Int.mul_add]
    simp
    omega
theorem lw_is : ∀ (ls : Lvs) (bank : List Int) (w : Int), (∀ p ∈ ls, 0 ≤ p.2) → goneOf ls ≤ bank.length → (lw ls bank w).1 = bank.drop (goneOf ls).toNat ∧ (lw ls bank w).2 = w + (ls.map fun p => p.1 * p.2).sum - (bank.take (goneOf ls).toNat).sum
  | [], bank, w, _, _ => by
    refine ⟨rfl, ?_⟩
    show w = w + 0 - 0
    omega
  | p :: r, bank, w, h, hg => by
    have p0 := h p (.head _)
    have eg : goneOf (p :: r) = p.2 + goneOf r := rfl
    have gr : 0 ≤ goneOf r := by
      have : ∀ l : Lvs, (∀ q ∈ l, 0 ≤ q.2) → 0 ≤ goneOf l := by
        intro l
        induction l with
        | nil => intro _; exact Int.le_refl 0
        | cons q l ih =>
          intro hq
          have := ih fun x hx => hq x (.tail _ hx)
          have := hq q (.head _)
          show 0 ≤ q.2 + goneOf l
          omega
      exact this r fun q hq => h q (.tail _ hq)
    rw [eg] at hg ⊢
    obtain ⟨a, b⟩ := lw_is r (bank.drop p.2.toNat) (w + ((bank.take p.2.toNat).map fun x => p.1 - x).sum) (fun q hq => h q (.tail _ hq)) (by rw [List.length_drop]; omega)
    have e1 : (p.2 + goneOf r).toNat = p.2.toNat + (goneOf r).toNat := by omega
    refine ⟨?_, ?_⟩
    · show (lw r (bank.drop p.2.toNat) _).1 = _
      rw [a, List.drop_drop, e1]
    · show (lw r (bank.drop p.2.toNat) _).2 = _
      rw [b, e1, List.take_add, List.sum_append, sum_take_map, List.length_take, Nat.min_eq_left (by omega), List.map_cons, List.sum_cons, show ((p.2.toNat : Nat) : Int) = p.2 by omega]
      omega
end FM

/-! the facts that law k05 asks, plain -/
namespace FM
theorem steps_sums : ∀ (row : List Int) (p : Int), steps p (sumsFrom p row) = row
  | [], _ => rfl
  | x :: r, p => by
    show (p + x - p) :: steps (p + x) (sumsFrom (p + x) r) = x :: r
    rw [steps_sums r, show p + x - p = x by omega]
theorem stp_last {m : Int} : ∀ (l : List Int) (p : Int), Stp m p l → p ≤ l.getLastD p ∧ ∀ x ∈ l, x ≤ l.getLastD p
  | [], p, _ => ⟨Int.le_refl p, fun x h => nomatch h⟩
  | s :: l, p, ⟨h1, h2⟩ => by
    obtain ⟨a, b⟩ := stp_last l s h2
    rw [List.getLastD_cons]
    refine ⟨by omega, fun x hx => ?_⟩
    rcases List.mem_cons.mp hx with e | e
    · rw [e]; exact a
    · exact b x e
theorem take_range {l : List Int} : ∀ {g : Nat}, g ≤ l.length → l.take g = (List.range g).map fun c => (l[c]?).getD 0
  | 0, _ => rfl
  | g + 1, h => by
    rw [List.take_succ, take_range (g := g) (by omega), List.range_succ, List.map_append, List.getElem?_eq_getElem (by omega)]
    simp [List.getElem?_eq_getElem (show g < l.length by omega)]
theorem ticks_last {m : Int} {S : List Int} (h : Stp m 0 S) : ((ticksFrom 0 (stepsOf S)).length : Int) = S.getLastD 0 := by
  rw [stepsOf_eq, ticks_total _ 0 0 (fun x hx => (steps_in S 0 h x hx).1), sums_steps]
  omega
/-- the waits by the told row's ticks are those by the sums -/
theorem wait_is {m : Int} {S : List Int} {ls : Lvs} (h : Stp m 0 S) (h2 : ∀ p ∈ ls, 0 ≤ p.2) (g0 : 0 ≤ goneOf ls) (hg : goneOf ls ≤ S.getLastD 0) : (lw ls (ticksFrom 0 (stepsOf S)) 0).2 = waitedOf ls S ∧ ((lw ls (ticksFrom 0 (stepsOf S)) 0).1.length : Int) = S.getLastD 0 - goneOf ls := by
  have tl := ticks_last h
  obtain ⟨a, b⟩ := lw_is ls (ticksFrom 0 (stepsOf S)) 0 h2 (by omega)
  refine ⟨?_, ?_⟩
  · rw [b, take_range (by omega)]
    unfold waitedOf
    have e : (List.range (goneOf ls).toNat).map (fun c => ((ticksFrom 0 (stepsOf S))[c]?).getD 0) = (List.range (goneOf ls).toNat).map (fun (c : Nat) => (((firstTick S ((c : Int) + 1)).getD 0 : Nat) : Int)) := by
      apply List.map_congr_left
      intro c _
      have := tick_first h ((c : Int) + 1) (by omega)
      rw [show ((c : Int) + 1 - 1).toNat = c by omega] at this
      rw [this]
      cases firstTick S ((c : Int) + 1) <;> rfl
    rw [e]
    omega
  · rw [a, List.length_drop]
    omega
theorem first_of {m : Int} {S : List Int} (h : Stp m 0 S) {c : Int} (h1 : 1 ≤ c) (h2 : c ≤ S.getLastD 0) : ∃ i, firstTick S c = some i ∧ (ticksFrom 0 (stepsOf S))[(c - 1).toNat]? = some (i : Int) := by
  have tl := ticks_last h
  have e := tick_first h c h1
  rw [List.getElem?_eq_getElem (by omega)] at e
  cases q : firstTick S c with
  | none => rw [q] at e; cases e
  | some i =>
    rw [q] at e
    exact ⟨i, rfl, by rw [List.getElem?_eq_getElem (by omega)]; exact e⟩
theorem sum_le {α : Type} {f g : α → Int} : ∀ (l : List α), (∀ x ∈ l, f x ≤ g x) → (l.map f).sum ≤ (l.map g).sum
  | [], _ => Int.le_refl _
  | x :: r, h => by
    have := h x (.head _)
    have := sum_le r fun y hy => h y (.tail _ hy)
    rw [List.map_cons, List.map_cons, List.sum_cons, List.sum_cons]
    omega
/-- the more had come, the longer they had waited -/
theorem wait_le {m : Int} {A B : List Int} {ls : Lvs} (hA : Stp m 0 A) (hl : A.length = B.length) (hle : ∀ i, i < A.length → A.getD i 0 ≤ B.getD i 0) (hg : goneOf ls ≤ A.getLastD 0) : waitedOf ls A ≤ waitedOf ls B := by
  have : ((List.range (goneOf ls).toNat).map fun (c : Nat) => (((firstTick B ((c : Int) + 1)).getD 0 : Nat) : Int)).sum ≤ ((List.range (goneOf ls).toNat).map fun (c : Nat) => (((firstTick A ((c : Int) + 1)).getD 0 : Nat) : Int)).sum := sum_le _ fun c hc => by
    have hc := List.mem_range.mp hc
    obtain ⟨i, e, _⟩ := first_of hA (c := (c : Int) + 1) (by omega) (by omega)
    obtain ⟨j, h1, e2⟩ := first_le A B hl hle i e
    rw [e, e2]
    show (j : Int) ≤ (i : Int)
    omega
  unfold waitedOf
  omega
theorem lastD_at (l : List Int) (h : 0 < l.length) : l.getLastD 0 = l.getD (l.length - 1) 0 := by
  rw [List.getLastD_eq_getLast?, List.getLast?_eq_getElem?, List.getD_eq_getElem?_getD]
theorem lastD_map (st : List (Int × Int)) : (st.map (·.1)).getLastD 0 = (st.getLastD (0, 0)).1 ∧ (st.map (·.2)).getLastD 0 = (st.getLastD (0, 0)).2 := by
  rw [List.getLastD_eq_getLast?, List.getLastD_eq_getLast?, List.getLastD_eq_getLast?, List.getLast?_map, List.getLast?_map]
  cases st.getLast? <;> exact ⟨rfl, rfl⟩
/-- what law k05 asks of one ferry and own row -/
structure Own (F : Fy) (row : List Int) (st : List (Int × Int)) : Prop where
  few : ∀ x ∈ stepsOf (st.map (·.1)), 0 ≤ x ∧ x ≤ 9
  much : ∀ x ∈ stepsOf (st.map (·.2)), 0 ≤ x ∧ x ≤ 9
  nf : (stepsOf (st.map (·.1))).length = row.length
  nm : (stepsOf (st.map (·.2))).length = row.length
  late : ∀ c : Int, 1 ≤ c → (ticksFrom 0 (stepsOf (st.map (·.1))))[(c - 1).toNat]? = (firstTick (st.map (·.1)) c).map fun (i : Nat) => (i : Int)
  early : ∀ c : Int, 1 ≤ c → (ticksFrom 0 (stepsOf (st.map (·.2))))[(c - 1).toNat]? = (firstTick (st.map (·.2)) c).map fun (i : Nat) => (i : Int)
  mine : ∀ c : Int, 1 ≤ c → c ≤ (ticksFrom 0 row).length → ∃ (e x : Nat), firstTick (st.map (·.2)) c = some e ∧ (ticksFrom 0 row)[(c - 1).toNat]? = some (x : Int) ∧ e ≤ x ∧ x ≤ 60 ∧ ∀ l, firstTick (st.map (·.1)) c = some l → x ≤ l
  w0 : (lw (leftOf F row) (ticksFrom 0 (stepsOf (st.map (·.1)))) 0).2 = waitedOf (leftOf F row) (st.map (·.1))
  w2 : (lw (leftOf F row) (ticksFrom 0 (stepsOf (st.map (·.2)))) 0).2 = waitedOf (leftOf F row) (st.map (·.2))
  w01 : (lw (leftOf F row) (ticksFrom 0 (stepsOf (st.map (·.1)))) 0).2 ≤ (lw (leftOf F row) (ticksFrom 0 row) 0).2
  w12 : (lw (leftOf F row) (ticksFrom 0 row) 0).2 ≤ (lw (leftOf F row) (ticksFrom 0 (stepsOf (st.map (·.2)))) 0).2
  t0 : ((lw (leftOf F row) (ticksFrom 0 (stepsOf (st.map (·.1)))) 0).1.length : Int) = (st.getLastD (0, 0)).1 - goneOf (leftOf F row)
  t2 : ((lw (leftOf F row) (ticksFrom 0 (stepsOf (st.map (·.2)))) 0).1.length : Int) = (st.getLastD (0, 0)).2 - goneOf (leftOf F row)
  t01 : (lw (leftOf F row) (ticksFrom 0 (stepsOf (st.map (·.1)))) 0).1.length ≤ (lw (leftOf F row) (ticksFrom 0 row) 0).1.length
  t12 : (lw (leftOf F row) (ticksFrom 0 row) 0).1.length ≤ (lw (leftOf F row) (ticksFrom 0 (stepsOf (st.map (·.2)))) 0).1.length
theorem own_facts {F : Fy} (ok : F.Ok) {row : List Int} (n1 : 1 ≤ row.length) (n2 : row.length ≤ 61) (hx : ∀ x ∈ row, 0 ≤ x ∧ x ≤ F.m) (h10 : (leftOf F row).length ≤ 10) : ∃ st, stairs F ((row.length : Int) - 1) (leftOf F row) = some st ∧ Own F row st := by
  obtain ⟨st, hs, hb⟩ := own_stairs ok n1 n2 hx
  have bk := left_bk n1 n2 h10
  obtain ⟨sL, sH⟩ := stairs_stp ok (by omega) hs
  have sS := stp_sums row 0 hx
  have m2 := ok.m2
  have ll := stairs_len hs
  have l1 : (st.map (·.1)).length = row.length := by rw [List.length_map, ll]; omega
  have l2 : (st.map (·.2)).length = row.length := by rw [List.length_map, ll]; omega
  have lS := sums_len row 0
  have at' := btw_at _ _ _ hb
  have eR : stepsOf (sumsFrom 0 row) = row := by rw [stepsOf_eq, steps_sums]
  obtain ⟨eL1, eL2⟩ := lastD_map st
  have ld : ∀ p ∈ leftOf F row, 0 ≤ p.2 := fun p hp => by have := bk.ld p hp; omega
  have g0 := (goneOf_nn bk).1
  have gL : goneOf (leftOf F row) ≤ (st.map (·.1)).getLastD 0 := by
    rcases Int.lt_or_le 0 (goneOf (leftOf F row)) with y | y
    · obtain ⟨p, hp, h1, _⟩ := lo_reach bk hs y
      have := (stp_last _ 0 sL).2 p.1 (List.mem_map.mpr ⟨p, hp, rfl⟩)
      omega
    · have := (stp_last _ 0 sL).1
      omega
  have eS : (sumsFrom 0 row).getLastD 0 = (sumsFrom 0 row).getD (row.length - 1) 0 := by rw [lastD_at _ (by omega), lS]
  have eA : (st.map (·.1)).getLastD 0 = (st.map (·.1)).getD (row.length - 1) 0 := by rw [lastD_at _ (by omega), l1]
  have eB : (st.map (·.2)).getLastD 0 = (st.map (·.2)).getD (row.length - 1) 0 := by rw [lastD_at _ (by omega), l2]
  have aL := at' (row.length - 1) (by omega)
  have gS : goneOf (leftOf F row) ≤ (sumsFrom 0 row).getLastD 0 := by omega
  have gH : goneOf (leftOf F row) ≤ (st.map (·.2)).getLastD 0 := by omega
  obtain ⟨a1, a2⟩ := wait_is sL ld g0 gL
  obtain ⟨b1, b2⟩ := wait_is sS ld g0 gS
  obtain ⟨c1, c2⟩ := wait_is sH ld g0 gH
  rw [eR] at b1 b2
  have w1 := wait_le (ls := leftOf F row) sL (l1.trans lS.symm) (fun i hi => (at' i (by omega)).1) gL
  have w2 := wait_le (ls := leftOf F row) sS (lS.trans l2.symm) (fun i hi => (at' i (by omega)).2) gS
  have tS := ticks_last sS
  rw [eR] at tS
  refine ⟨st, hs, fun x h => ?_, fun x h => ?_, ?_, ?_, tick_first sL, tick_first sH, fun c h1 h2 => ?_, a1, c1, by omega, by omega, by omega, by omega, by omega, by omega⟩
  · rw [stepsOf_eq] at h; have := steps_in _ 0 sL x h; omega
  · rw [stepsOf_eq] at h; have := steps_in _ 0 sH x h; omega
  · rw [stepsOf_eq, steps_len, l1]
  · rw [stepsOf_eq, steps_len, l2]
  · obtain ⟨i, e, t⟩ := first_of sS (c := c) h1 (by omega)
    rw [eR] at t
    obtain ⟨j, hj, ej⟩ := first_le _ _ (lS.trans l2.symm) (fun i hi => (at' i (by omega)).2) i e
    have := first_lt e
    refine ⟨j, i, ej, t, hj, by omega, fun l hl => ?_⟩
    obtain ⟨k, hk, ek⟩ := first_le _ _ (l1.trans lS.symm) (fun i hi => (at' i (by omega)).1) l hl
    rw [e] at ek
    cases ek
    exact hk
end FM

/-! the program's own leading on of a row; a book's beginnings -/
namespace FM
theorem lsRun_rest (F : Fy) : ∀ (r : List Int) (z : LS) (t : Int), ∃ rest, (lsRun F z t r).found = z.found ++ rest ∧ ∀ p ∈ rest, t ≤ p.1
  | [], z, _ => ⟨[], (List.append_nil _).symm, fun _ h => nomatch h⟩
  | x :: r, z, t => by
    obtain ⟨rest, h, hr⟩ := lsRun_rest F r (lsStep F z t x) (t + 1)
    have : ∃ one : Lvs, (lsStep F z t x).found = z.found ++ one ∧ ∀ p ∈ one, t ≤ p.1 := by
      unfold lsStep
      generalize (if z.ab = 0 then t else z.since) = sn
      split
      · split
        · exact ⟨_, rfl, fun p hp => by rw [List.mem_singleton.mp hp]; exact Int.le_refl t⟩
        · exact ⟨[], (List.append_nil _).symm, fun _ h => nomatch h⟩
      · exact ⟨[], (List.append_nil _).symm, fun _ h => nomatch h⟩
    obtain ⟨one, h1, h2⟩ := this
    refine ⟨one ++ rest, by show (lsRun F (lsStep F z t x) (t + 1) r).found = _; rw [h, h1, List.append_assoc], fun p hp => ?_⟩
    rcases List.mem_append.mp hp with q | q
    · exact h2 p q
    · have := hr p q; omega
/-- the leavings up to one of them are those of the row up to its tick -/
theorem left_cut (F : Fy) (row : List Int) {i : Nat} {p : Int × Int} (h : (leftOf F row)[i]? = some p) : leftOf F (row.take (p.1 + 1).toNat) = (leftOf F row).take (i + 1) := by
  obtain ⟨a1, _, a3⟩ := left_ok F row
  have hp := a1 p (List.mem_of_getElem? h)
  have lt : (row.take (p.1 + 1).toNat).length = (p.1 + 1).toNat := by rw [List.length_take]; omega
  have e : leftOf F row = (lsRun F (lsRun F ⟨0, 0, 0, 0, []⟩ 0 (row.take (p.1 + 1).toNat)) (0 + ((row.take (p.1 + 1).toNat).length : Int)) (row.drop (p.1 + 1).toNat)).found := by
    rw [← lsRun_app, List.take_append_drop]; rfl
  obtain ⟨rest, hr, hr2⟩ := lsRun_rest F (row.drop (p.1 + 1).toNat) (lsRun F ⟨0, 0, 0, 0, []⟩ 0 (row.take (p.1 + 1).toNat)) (0 + ((row.take (p.1 + 1).toNat).length : Int))
  rw [hr] at e
  have b1 := (left_ok F (row.take (p.1 + 1).toNat)).1
  show (lsRun F ⟨0, 0, 0, 0, []⟩ 0 (row.take (p.1 + 1).toNat)).found = _
  rw [show leftOf F (row.take (p.1 + 1).toNat) = (lsRun F ⟨0, 0, 0, 0, []⟩ 0 (row.take (p.1 + 1).toNat)).found from rfl] at b1
  generalize (lsRun F ⟨0, 0, 0, 0, []⟩ 0 (row.take (p.1 + 1).toNat)).found = A at *
  rw [e] at h a3 ⊢
  have i1 : i < A.length := by
    rcases Nat.lt_or_ge i A.length with y | y
    · exact y
    · rw [List.getElem?_append_right y] at h
      have := hr2 p (List.mem_of_getElem? h)
      omega
  have i2 : A.length = i + 1 := by
    rcases Nat.lt_or_ge (i + 1) A.length with y | y
    · exfalso
      have h1 := b1 A[i + 1] (List.getElem_mem y)
      have h2 := List.pairwise_iff_getElem.mp a3 i (i + 1) (by rw [List.length_append]; omega) (by rw [List.length_append]; omega) (Nat.lt_succ_self i)
      rw [List.getElem_append_left i1, List.getElem_append_left y] at h2
      rw [List.getElem?_append_left i1, List.getElem?_eq_getElem i1] at h
      cases h
      omega
    · omega
  rw [← i2, List.take_append_of_le_length (Nat.le_refl _), List.take_length]
/-- the own book's beginnings can be -/
theorem own_bars {F : Fy} (ok : F.Ok) {row : List Int} (n2 : row.length ≤ 61) (hx : ∀ x ∈ row, 0 ≤ x ∧ x ≤ F.m) {i : Nat} {p : Int × Int} (h : (leftOf F row)[i]? = some p) : ∃ st, stairs F p.1 ((leftOf F row).take (i + 1)) = some st := by
  have hp := (left_ok F row).1 p (List.mem_of_getElem? h)
  have lt : (row.take (p.1 + 1).toNat).length = (p.1 + 1).toNat := by rw [List.length_take]; omega
  obtain ⟨st, hs, _⟩ := own_stairs ok (row := row.take (p.1 + 1).toNat) (by omega) (by omega) fun x hx' => hx x (List.mem_of_mem_take hx')
  rw [left_cut F row h, lt, show (((p.1 + 1).toNat : Nat) : Int) - 1 = p.1 by omega] at hs
  exact ⟨st, hs⟩
theorem mach_at {F : Fy} (ok : F.Ok) {row : List Int} (hx : ∀ x ∈ row, 0 ≤ x) : ∀ i, i ≤ row.length → Mach F (sumsFrom 0 row) i (lsRun F ⟨0, 0, 0, 0, []⟩ 0 (row.take i))
  | 0, _ => mach0 ok _
  | i + 1, h => by
    have hi : i < row.length := h
    have ih := mach_at ok hx i (Nat.le_of_lt hi)
    have e : lsRun F ⟨0, 0, 0, 0, []⟩ 0 (row.take (i + 1)) = lsStep F (lsRun F ⟨0, 0, 0, 0, []⟩ 0 (row.take i)) (i : Int) row[i] := by
      rw [List.take_succ, List.getElem?_eq_getElem hi, lsRun_app, List.length_take, Nat.min_eq_left (Nat.le_of_lt hi)]
      show lsStep F _ (0 + (i : Int)) row[i] = _
      rw [Int.zero_add]
    rw [e]
    have s := sums_at row 0 i hi
    rw [show row.getD i 0 = row[i] by rw [List.getD_eq_getElem?_getD, List.getElem?_eq_getElem hi]; rfl] at s
    exact ih.step ok (hx _ (List.getElem_mem hi)) s
/-- who has waited longest on the bank that the ship is at: since when -/
def LS.first (z : LS) : Option Int := if z.ab = 0 then none else some z.since
/-- one turn, as the program sees it -/
theorem obs_step {F : Fy} (ok : F.Ok) {S : List Int} {t : Nat} {z : LS} {x : Int} (M : Mach F S t z) (hx : 0 ≤ x) :
    (z.back ≤ (t : Int) ∧ 0 < (z.ab : Int) + z.bank + x →
      (F.s ≤ (z.ab : Int) + z.bank + x ∨ F.w ≤ (t : Int) - z.first.getD (t : Int) →
        (lsStep F z (t : Int) x).found = z.found ++ [((t : Int), min ((z.ab : Int) + z.bank + x) F.s)] ∧ (lsStep F z (t : Int) x).back = (t : Int) + F.a ∧ ((lsStep F z (t : Int) x).ab : Int) + (lsStep F z (t : Int) x).bank = (z.ab : Int) + z.bank + x - min ((z.ab : Int) + z.bank + x) F.s ∧ (lsStep F z (t : Int) x).first = none) ∧
      (¬ (F.s ≤ (z.ab : Int) + z.bank + x ∨ F.w ≤ (t : Int) - z.first.getD (t : Int)) →
        (lsStep F z (t : Int) x).found = z.found ∧ (lsStep F z (t : Int) x).back = z.back ∧ ((lsStep F z (t : Int) x).ab : Int) + (lsStep F z (t : Int) x).bank = (z.ab : Int) + z.bank + x ∧ (lsStep F z (t : Int) x).first = some (z.first.getD (t : Int)))) ∧
    (¬ (z.back ≤ (t : Int) ∧ 0 < (z.ab : Int) + z.bank + x) →
        (lsStep F z (t : Int) x).found = z.found ∧ (lsStep F z (t : Int) x).back = z.back ∧ ((lsStep F z (t : Int) x).ab : Int) + (lsStep F z (t : Int) x).bank = (z.ab : Int) + z.bank + x ∧ (lsStep F z (t : Int) x).first = z.first) := by
  have s1 := ok.s1
  have rm := M.room
  have ef : z.first.getD (t : Int) = if z.ab = 0 then (t : Int) else z.since := by
    unfold LS.first
    split <;> rfl
  have bk := M.bank0
  have aw := M.away
  refine ⟨fun ⟨hb, hp⟩ => ?_, fun hn => ?_⟩
  · rw [ef]
    unfold lsStep
    rw [if_pos hb]
    generalize (if z.ab = 0 then (t : Int) else z.since) = f
    refine ⟨fun hl => ?_, fun hl => ?_⟩
    · rw [if_pos ⟨by omega, by rcases hl with y | y; exact .inl (by omega); exact .inr y⟩]
      refine ⟨?_, rfl, ?_, rfl⟩
      · show z.found ++ [((t : Int), ((z.ab + min (z.bank + x.toNat) (F.s.toNat - z.ab) : Nat) : Int))] = _
        rw [show ((z.ab + min (z.bank + x.toNat) (F.s.toNat - z.ab) : Nat) : Int) = min ((z.ab : Int) + z.bank + x) F.s by omega]
      · show ((0 : Nat) : Int) + ((z.bank + x.toNat - min (z.bank + x.toNat) (F.s.toNat - z.ab) : Nat) : Int) = _
        omega
    · have n1 : ¬ F.s ≤ (z.ab : Int) + z.bank + x := fun y => hl (.inl y)
      have n2 : ¬ F.w ≤ (t : Int) - f := fun y => hl (.inr y)
      rw [if_neg (by rintro ⟨_, y | y⟩; omega; exact n2 y)]
      refine ⟨rfl, rfl, ?_, ?_⟩
      · show ((z.ab + min (z.bank + x.toNat) (F.s.toNat - z.ab) : Nat) : Int) + ((z.bank + x.toNat - min (z.bank + x.toNat) (F.s.toNat - z.ab) : Nat) : Int) = _
        omega
      · show (if z.ab + min (z.bank + x.toNat) (F.s.toNat - z.ab) = 0 then none else some f) = _
        rw [if_neg (by omega)]
  · unfold lsStep
    by_cases hb : z.back ≤ (t : Int)
    · have z0 : z.ab = 0 ∧ z.bank = 0 ∧ x = 0 := by
        have : ¬ 0 < (z.ab : Int) + z.bank + x := fun y => hn ⟨hb, y⟩
        omega
      obtain ⟨e1, e2, e3⟩ := z0
      rw [if_pos hb, if_neg (by rintro ⟨y, _⟩; omega)]
      refine ⟨rfl, rfl, ?_, ?_⟩
      · show ((z.ab + min (z.bank + x.toNat) (F.s.toNat - z.ab) : Nat) : Int) + ((z.bank + x.toNat - min (z.bank + x.toNat) (F.s.toNat - z.ab) : Nat) : Int) = _
        omega
      · show (if z.ab + min (z.bank + x.toNat) (F.s.toNat - z.ab) = 0 then none else some (if z.ab = 0 then (t : Int) else z.since)) = z.first
        unfold LS.first
        rw [if_pos (by omega), if_pos e1]
    · rw [if_neg hb]
      refine ⟨rfl, rfl, ?_, rfl⟩
      show (z.ab : Int) + ((z.bank + x.toNat : Nat) : Int) = _
      omega
end FM

/-! the stairs are exact; all rows of comings; how many do -/
namespace FM
theorem fwdU_at {m : Int} : ∀ (L : List Int) (p : Int) (i : Nat), i < L.length → (fwdU m p L).getD i 0 ≤ L.getD i 0
  | [], _, _, h => absurd h (Nat.not_lt_zero _)
  | x :: r, p, 0, _ => by show min x (p + m) ≤ x; omega
  | x :: r, p, i + 1, h => fwdU_at r _ i (Nat.lt_of_succ_lt_succ h)
theorem bwdU_at : ∀ (L : List Int) (i : Nat), i < L.length → (bwdU L).getD i 0 ≤ L.getD i 0
  | [], _, h => absurd h (Nat.not_lt_zero _)
  | [x], 0, _ => Int.le_refl _
  | [x], i + 1, h => absurd h (by simp)
  | x :: y :: r, 0, _ => by show min x _ ≤ x; omega
  | x :: y :: r, i + 1, h => bwdU_at (y :: r) i (Nat.lt_of_succ_lt_succ h)
theorem finU_at (F : Fy) (b : BS) (i : Nat) (h : i < b.U.length) : (finU F b).getD i 0 ≤ b.U.getD i 0 :=
  Int.le_trans (bwdU_at _ _ (by rw [fwdU_len]; exact h)) (fwdU_at _ _ _ h)
/-- what lies within the stairs lies within the bounds -/
theorem btw_out {F : Fy} {b : BS} {S : List Int} (h1 : b.L.length = S.length) (h2 : S.length = b.U.length) (h : Btw (finL F b) S (finU F b)) : Btw b.L S b.U := btw_of _ _ _ h1 h2 fun i hi => by
  have a := btw_at _ _ _ h i hi
  have c := finL_ge F b i (by omega)
  have d := finU_at F b i (by omega)
  omega
theorem fits_iff {F : Fy} (ok : F.Ok) {last : Int} {ls : Lvs} (bk : BkOk F last ls) {row : List Int} (hl : (row.length : Int) = last + 1) (hx : ∀ x ∈ row, 0 ≤ x ∧ x ≤ F.m) : leftOf F row = ls ↔ ∃ st, stairs F last ls = some st ∧ Btw (st.map (·.1)) (sumsFrom 0 row) (st.map (·.2)) := by
  have l0 := bk.l0
  have l1 := bk.l1
  have lS := sums_len row 0
  have e : leftOf F row = ls ↔ Sat (bounds F last ls) (sumsFrom 0 row) := by
    have := left_iff ok (row := row) (by omega) (by omega) hx (ls := ls) fun p hp => by have := bk.tk p hp; have := bk.ld p hp; omega
    rw [show (row.length : Int) - 1 = last by omega] at this
    exact this
  rw [e, sat_btw (by omega)]
  constructor
  · intro h
    exact stairs_of l0 (stp_sums row 0 hx) h.1 h.2
  · rintro ⟨st, hs, hb⟩
    refine ⟨(stairs_is hs).1, ?_⟩
    rw [stairs_lo hs, stairs_hi hs] at hb
    exact btw_out (by rw [bounds_lenL]; omega) (by rw [bounds_lenU]; omega) hb
theorem getD_map_mem {st : List (Int × Int)} {i : Nat} (h : i < st.length) : (st.map (·.1)).getD i 0 = st[i].1 ∧ (st.map (·.2)).getD i 0 = st[i].2 := by
  rw [List.getD_eq_getElem?_getD, List.getD_eq_getElem?_getD, List.getElem?_map, List.getElem?_map, List.getElem?_eq_getElem h]
  exact ⟨rfl, rfl⟩
/-- the least row, the most row do -/
theorem ends_do {F : Fy} (ok : F.Ok) {last : Int} {ls : Lvs} (bk : BkOk F last ls) {st : List (Int × Int)} (hs : stairs F last ls = some st) : leftOf F (stepsOf (st.map (·.1))) = ls ∧ leftOf F (stepsOf (st.map (·.2))) = ls := by
  have l0 := bk.l0
  obtain ⟨sL, sH⟩ := stairs_stp ok l0 hs
  have hl := stairs_len hs
  have le := (stairs_is hs).2.2.1
  refine ⟨(fits_iff ok bk ?_ ?_).mpr ⟨st, hs, ?_⟩, (fits_iff ok bk ?_ ?_).mpr ⟨st, hs, ?_⟩⟩
  · rw [stepsOf_eq, steps_len, List.length_map, hl]; omega
  · rw [stepsOf_eq]; exact steps_in _ 0 sL
  · rw [stepsOf_eq, sums_steps]
    refine btw_of _ _ _ rfl (by rw [List.length_map, List.length_map]) fun i hi => ?_
    rw [List.length_map] at hi
    obtain ⟨e1, e2⟩ := getD_map_mem hi
    have := le _ (List.getElem_mem hi)
    omega
  · rw [stepsOf_eq, steps_len, List.length_map, hl]; omega
  · rw [stepsOf_eq]; exact steps_in _ 0 sH
  · rw [stepsOf_eq, sums_steps]
    refine btw_of _ _ _ (by rw [List.length_map, List.length_map]) rfl fun i hi => ?_
    rw [List.length_map] at hi
    obtain ⟨e1, e2⟩ := getD_map_mem hi
    have := le _ (List.getElem_mem hi)
    omega
/-! all rows of comings -/
def allRows (m : Int) : Nat → List (List Int)
  | 0 => [[]]
  | n + 1 => (allRows m n).flatMap fun r => (List.range (m + 1).toNat).map fun (x : Nat) => r ++ [(x : Int)]
theorem allRows_iff {m : Int} : ∀ {n : Nat} {r : List Int}, r ∈ allRows m n ↔ r.length = n ∧ ∀ x ∈ r, 0 ≤ x ∧ x ≤ m
  | 0, r => by
    show r ∈ [[]] ↔ _
    rw [List.mem_singleton]
    exact ⟨fun e => by rw [e]; exact ⟨rfl, fun _ h => nomatch h⟩, fun h => List.eq_nil_of_length_eq_zero h.1⟩
  | n + 1, r => by
    show r ∈ (allRows m n).flatMap _ ↔ _
    rw [List.mem_flatMap]
    constructor
    · rintro ⟨q, hq, h⟩
      obtain ⟨x, hx, rfl⟩ := List.mem_map.mp h
      have hx := List.mem_range.mp hx
      obtain ⟨a, b⟩ := allRows_iff.mp hq
      refine ⟨by rw [List.length_append, a]; rfl, fun y hy => ?_⟩
      rcases List.mem_append.mp hy with z | z
      · exact b y z
      · rw [List.mem_singleton.mp z]; omega
    · rintro ⟨hl, hx⟩
      have ne : r ≠ [] := fun e => by rw [e] at hl; cases hl
      have e := List.dropLast_concat_getLast ne
      refine ⟨r.dropLast, allRows_iff.mpr ⟨by rw [List.length_dropLast, hl]; rfl, fun x h => hx x ((List.dropLast_sublist r).subset h)⟩, List.mem_map.mpr ⟨(r.getLast ne).toNat, List.mem_range.mpr ?_, ?_⟩⟩
      · have := hx _ (List.getLast_mem ne); omega
      · have := hx _ (List.getLast_mem ne)
        rw [show (((r.getLast ne).toNat : Nat) : Int) = r.getLast ne by omega]
        exact e
/-- row r within the steps, from p on -/
def fitB : Int → List (Int × Int) → List Int → Bool
  | _, [], [] => true
  | p, q :: st, x :: r => (decide (q.1 ≤ p + x) && decide (p + x ≤ q.2)) && fitB (p + x) st r
  | _, _, _ => false
theorem fitB_iff : ∀ (st : List (Int × Int)) (r : List Int) (p : Int), fitB p st r = true ↔ Btw (st.map (·.1)) (sumsFrom p r) (st.map (·.2))
  | [], [], _ => ⟨fun _ => trivial, fun _ => rfl⟩
  | [], _ :: _, _ => ⟨fun h => (nomatch h), fun h => h.elim⟩
  | _ :: _, [], _ => ⟨fun h => (nomatch h), fun h => h.elim⟩
  | q :: st, x :: r, p => by
    show ((decide (q.1 ≤ p + x) && decide (p + x ≤ q.2)) && fitB (p + x) st r) = true ↔ ((q.1 ≤ p + x ∧ p + x ≤ q.2) ∧ Btw (st.map (·.1)) (sumsFrom (p + x) r) (st.map (·.2)))
    rw [Bool.and_eq_true, Bool.and_eq_true, decide_eq_true_eq, decide_eq_true_eq, fitB_iff st r (p + x)]
theorem fitB_snoc : ∀ (st : List (Int × Int)) (r : List Int) (p : Int) (q : Int × Int) (x : Int), r.length = st.length → fitB p (st ++ [q]) (r ++ [x]) = (fitB p st r && (decide (q.1 ≤ p + r.sum + x) && decide (p + r.sum + x ≤ q.2)))
  | [], [], p, q, x, _ => by
    show ((decide (q.1 ≤ p + x) && decide (p + x ≤ q.2)) && true) = (true && (decide (q.1 ≤ p + 0 + x) && decide (p + 0 + x ≤ q.2)))
    rw [Int.add_zero, Bool.and_true, Bool.true_and]
  | [], _ :: _, _, _, _, h => nomatch h
  | _ :: _, [], _, _, _, h => nomatch h
  | a :: st, y :: r, p, q, x, h => by
    have ih := fitB_snoc st r (p + y) q x (Nat.succ.inj h)
    show ((decide (a.1 ≤ p + y) && decide (p + y ≤ a.2)) && fitB (p + y) (st ++ [q]) (r ++ [x])) = (((decide (a.1 ≤ p + y) && decide (p + y ≤ a.2)) && fitB (p + y) st r) && _)
    rw [ih, List.sum_cons, show p + (y + r.sum) + x = p + y + r.sum + x by omega]
    simp only [Bool.and_assoc]
/-- the totals of the rows that fit -/
def totStep (m : Int) (R : List Int) (q : Int × Int) : List Int := R.flatMap fun p => ((List.range (m + 1).toNat).map fun (x : Nat) => p + (x : Int)).filter fun v => decide (q.1 ≤ v) && decide (v ≤ q.2)
theorem tot_key {m : Int} {n : Nat} {st : List (Int × Int)} {q : Int × Int} (hs : st.length = n) : ∀ l : List (List Int), (∀ r ∈ l, r.length = n) →
    ((l.flatMap fun r => (List.range (m + 1).toNat).map fun (x : Nat) => r ++ [(x : Int)]).filter (fitB 0 (st ++ [q]))).map List.sum = totStep m ((l.filter (fitB 0 st)).map List.sum) q
  | [], _ => rfl
  | r :: l, h => by
    have ih := tot_key (m := m) (q := q) hs l fun x hx => h x (.tail _ hx)
    have hr := h r (.head _)
    have e1 : (((List.range (m + 1).toNat).map fun (x : Nat) => r ++ [(x : Int)]).filter (fitB 0 (st ++ [q]))).map List.sum = if fitB 0 st r = true then ((List.range (m + 1).toNat).map fun (x : Nat) => r.sum + (x : Int)).filter (fun v => decide (q.1 ≤ v) && decide (v ≤ q.2)) else [] := by
      rw [List.filter_map, List.map_map]
      have e2 : (fitB 0 (st ++ [q]) ∘ fun (x : Nat) => r ++ [(x : Int)]) = fun (x : Nat) => fitB 0 st r && (decide (q.1 ≤ r.sum + (x : Int)) && decide (r.sum + (x : Int) ≤ q.2)) := by
        funext x
        show fitB 0 (st ++ [q]) (r ++ [(x : Int)]) = _
        rw [fitB_snoc st r 0 q (x : Int) (by omega), Int.zero_add]
      have e3 : (List.sum ∘ fun (x : Nat) => r ++ [(x : Int)]) = fun (x : Nat) => r.sum + (x : Int) := by
        funext x
        show (r ++ [(x : Int)]).sum = _
        rw [List.sum_append, List.sum_cons, List.sum_nil, Int.add_zero]
      rw [e2, e3]
      cases fitB 0 st r with
      | true =>
        rw [if_pos rfl, List.filter_map]
        congr 1
      | false =>
        rw [if_neg Bool.false_ne_true]
        have : (fun (x : Nat) => false && (decide (q.1 ≤ r.sum + (x : Int)) && decide (r.sum + (x : Int) ≤ q.2))) = fun _ => false := by funext x; rfl
        rw [this]
        have : ∀ l : List Nat, l.filter (fun _ => false) = [] := fun l => List.filter_eq_nil_iff.mpr fun _ _ => Bool.false_ne_true
        rw [this]; rfl
    rw [List.flatMap_cons, List.filter_append, List.map_append, ih, e1]
    unfold totStep
    cases hq : fitB 0 st r with
    | true =>
      rw [if_pos rfl, List.filter_cons_of_pos hq, List.map_cons, List.flatMap_cons]
    | false =>
      rw [if_neg Bool.false_ne_true, List.filter_cons_of_neg (by rw [hq]; exact Bool.false_ne_true), List.nil_append]
theorem fit_tots {m : Int} (st : List (Int × Int)) : ∀ n, n ≤ st.length → ((allRows m n).filter (fitB 0 (st.take n))).map List.sum = (st.take n).foldl (totStep m) [0]
  | 0, _ => rfl
  | n + 1, h => by
    have ih := fit_tots (m := m) st n (Nat.le_of_succ_le h)
    have hn : n < st.length := h
    rw [List.take_succ, List.getElem?_eq_getElem hn, List.foldl_append, ← ih]
    exact tot_key (by rw [List.length_take]; omega) (allRows m n) fun r hr => (allRows_iff.mp hr).1
/-- a table of counts -/
structure Tab (t : List (Int × Int)) (R : List Int) : Prop where
  nd : t.Pairwise fun a b => a.1 ≠ b.1
  ct : ∀ v, (t.lookup v).getD 0 = (R.count v : Int)
theorem tab_sum : ∀ (t : List (Int × Int)) (R : List Int), Tab t R → (t.map (·.2)).sum = (R.length : Int)
  | [], R, h => by
    have : R = [] := by
      cases R with
      | nil => rfl
      | cons a R =>
        have := h.ct a
        rw [List.count_cons_self] at this
        have e : (List.lookup a ([] : List (Int × Int))).getD 0 = 0 := rfl
        omega
    rw [this]; rfl
  | q :: t, R, h => by
    have nd := List.pairwise_cons.mp h.nd
    have hq : (q.2 : Int) = (R.count q.1 : Int) := by
      have := h.ct q.1
      rw [List.lookup_cons, show (q.1 == q.1) = true from beq_self_eq_true _] at this
      exact this
    have ih := tab_sum t (R.filter fun v => decide (v ≠ q.1)) ⟨nd.2, fun v => by
      by_cases e : v = q.1
      · have l0 : t.lookup v = none := by
          rw [List.lookup_eq_none_iff]
          intro p hp
          exact bne_iff_ne.mpr (by rw [e]; exact nd.1 p hp)
        rw [l0]
        have : (R.filter fun v => decide (v ≠ q.1)).count v = 0 := by
          rw [List.count_eq_zero]
          intro hm
          have := of_decide_eq_true (List.mem_filter.mp hm).2
          exact this e
        rw [this]; rfl
      · have h1 := h.ct v
        rw [List.lookup_cons, show (v == q.1) = false from beq_eq_false_iff_ne.mpr e] at h1
        have h1' : (t.lookup v).getD 0 = (R.count v : Int) := h1
        rw [h1', List.count_filter (p := fun v => decide (v ≠ q.1)) (decide_eq_true (p := v ≠ q.1) e)]⟩
    rw [List.map_cons, List.sum_cons, ih, hq]
    have : R.length = R.count q.1 + (R.filter fun v => decide (v ≠ q.1)).length := by
      have h1 := List.length_eq_countP_add_countP (l := R) (fun v => v == q.1)
      rw [List.count, h1, List.countP_eq_length_filter (p := fun a => decide ¬(a == q.1) = true)]
      congr 2
      apply congrArg (fun f => List.filter f R)
      funext v
      exact decide_eq_decide.mpr ⟨fun z y => z (beq_iff_eq.mpr y), fun z y => z (beq_iff_eq.mp y)⟩
    omega
end FM

/-! how_many counts the rows that do -/
namespace FM
theorem cnt_range (p v : Int) : ∀ k : Nat, (((List.range k).map fun (x : Nat) => p + (x : Int)).count v : Int) = if 0 ≤ v - p ∧ v - p < (k : Int) then 1 else 0
  | 0 => by rw [if_neg (by omega)]; rfl
  | k + 1 => by
    rw [List.range_succ, List.map_append, List.count_append, Int.natCast_add, cnt_range p v k]
    show (if 0 ≤ v - p ∧ v - p < (k : Int) then (1 : Int) else 0) + (([p + (k : Int)].count v : Nat) : Int) = _
    by_cases e : v = p + (k : Int)
    · rw [e, List.count_singleton_self, if_neg (by omega), if_pos (by omega)]; rfl
    · have e0 : [p + (k : Int)].count v = 0 := by rw [List.count_singleton, if_neg (by rw [beq_iff_eq]; exact fun z => e z.symm)]
      rw [e0]
      by_cases h : 0 ≤ v - p ∧ v - p < (k : Int)
      · rw [if_pos h, if_pos (by omega)]; rfl
      · rw [if_neg h, if_neg (by omega)]; rfl
theorem sum_range (p v : Int) : ∀ k : Nat, (((List.range k).map fun (x : Nat) => if v - (x : Int) = p then (1 : Int) else 0).sum) = if 0 ≤ v - p ∧ v - p < (k : Int) then 1 else 0
  | 0 => by rw [if_neg (by omega)]; rfl
  | k + 1 => by
    rw [List.range_succ, List.map_append, List.sum_append, sum_range p v k]
    show _ + ((if v - (k : Int) = p then (1 : Int) else 0) + 0) = _
    by_cases e : v - (k : Int) = p
    · rw [if_pos e, if_neg (by omega), if_pos (by omega)]; rfl
    · rw [if_neg e]
      by_cases h : 0 ≤ v - p ∧ v - p < (k : Int)
      · rw [if_pos h, if_pos (by omega)]; rfl
      · rw [if_neg h, if_neg (by omega)]; rfl
/-- from how many v can come -/
def near (m v : Int) (p : Int) : Bool := decide (0 ≤ v - p) && decide (v - p ≤ m)
theorem near_iff {m v p : Int} (hm : 0 ≤ m) : (if near m v p = true then (1 : Int) else 0) = if 0 ≤ v - p ∧ v - p < (((m + 1).toNat : Nat) : Int) then 1 else 0 := by
  have e : (((m + 1).toNat : Nat) : Int) = m + 1 := by omega
  rw [e]
  unfold near
  by_cases h : 0 ≤ v - p ∧ v - p < m + 1
  · rw [if_pos h, decide_eq_true h.1, decide_eq_true (show v - p ≤ m by omega)]; rfl
  · rw [if_neg h]
    by_cases h2 : 0 ≤ v - p
    · rw [decide_eq_true h2, decide_eq_false (show ¬ v - p ≤ m by omega)]; rfl
    · rw [decide_eq_false h2]; rfl
theorem countP_cons' (f : Int → Bool) (p : Int) (R : List Int) : ((p :: R).countP f : Int) = (R.countP f : Int) + if f p = true then 1 else 0 := by
  rw [List.countP_cons, Int.natCast_add]
  split <;> rfl
theorem count_totStep {m : Int} (hm : 0 ≤ m) (q : Int × Int) (v : Int) : ∀ R : List Int, ((totStep m R q).count v : Int) = if q.1 ≤ v ∧ v ≤ q.2 then (R.countP (near m v) : Int) else 0
  | [] => by
    show ((([] : List Int).count v : Nat) : Int) = _
    split <;> rfl
  | p :: R => by
    have ih := count_totStep hm q v R
    unfold totStep at ih ⊢
    rw [List.flatMap_cons, List.count_append, Int.natCast_add, ih, countP_cons', near_iff hm, ← cnt_range p v]
    by_cases h : q.1 ≤ v ∧ v ≤ q.2
    · rw [if_pos h, if_pos h, List.count_filter (by rw [decide_eq_true h.1, decide_eq_true h.2]; rfl)]
      omega
    · rw [if_neg h, if_neg h]
      have : ((((List.range (m + 1).toNat).map fun (x : Nat) => p + (x : Int)).filter fun v => decide (q.1 ≤ v) && decide (v ≤ q.2)).count v : Int) = 0 := by
        have : (((List.range (m + 1).toNat).map fun (x : Nat) => p + (x : Int)).filter fun v => decide (q.1 ≤ v) && decide (v ≤ q.2)).count v = 0 := by
          rw [List.count_eq_zero]
          intro z
          have := (List.mem_filter.mp z).2
          rw [Bool.and_eq_true, decide_eq_true_eq, decide_eq_true_eq] at this
          exact h this
        rw [this]; rfl
      rw [this]; rfl
theorem sum_filterMap {α : Type} (f : α → Option Int) : ∀ l : List α, (l.filterMap f).sum = (l.map fun x => (f x).getD 0).sum
  | [] => rfl
  | x :: l => by
    rw [List.filterMap_cons, List.map_cons, List.sum_cons, ← sum_filterMap f l]
    cases f x with
    | none => exact (Int.zero_add _).symm
    | some v => exact List.sum_cons
theorem sum_map_add {α : Type} (f g : α → Int) : ∀ l : List α, (l.map fun x => f x + g x).sum = (l.map f).sum + (l.map g).sum
  | [] => rfl
  | x :: l => by
    rw [List.map_cons, List.map_cons, List.map_cons, List.sum_cons, List.sum_cons, List.sum_cons, sum_map_add f g l]
    omega
theorem sum_counts {m : Int} (hm : 0 ≤ m) (v : Int) : ∀ R : List Int, ((List.range (m + 1).toNat).map fun (x : Nat) => (R.count (v - (x : Int)) : Int)).sum = (R.countP (near m v) : Int)
  | [] => by
    have : ∀ l : List Nat, (l.map fun (x : Nat) => ((([] : List Int).count (v - (x : Int)) : Nat) : Int)).sum = 0 := by
      intro l
      induction l with
      | nil => rfl
      | cons a l ih => rw [List.map_cons, List.sum_cons, ih]; rfl
    rw [this]; rfl
  | p :: R => by
    rw [countP_cons', ← sum_counts hm v R, near_iff hm, ← sum_range p v, ← sum_map_add]
    congr 1
    apply List.map_congr_left
    intro x _
    rw [List.count_cons, Int.natCast_add]
    congr 1
    by_cases e : v - (x : Int) = p
    · rw [if_pos e, if_pos (by rw [beq_iff_eq]; exact e.symm)]; rfl
    · rw [if_neg e, if_neg (by rw [beq_iff_eq]; exact fun z => e z.symm)]; rfl
theorem hmSums_sum {m : Int} (hm : 0 ≤ m) {t : List (Int × Int)} {R : List Int} (h : Tab t R) (v : Int) : (hmSums t m v).sum = (R.countP (near m v) : Int) := by
  unfold hmSums
  rw [sum_filterMap, ← sum_counts hm v R]
  congr 1
  apply List.map_congr_left
  intro x _
  exact h.ct _
theorem hmNext_at (t : List (Int × Int)) (m lo v : Int) : ∀ n : Nat, ((hmNext t m lo n).lookup v).getD 0 = if lo ≤ v ∧ v < lo + (n : Int) then (hmSums t m v).sum else 0
  | 0 => by rw [if_neg (by omega)]; rfl
  | n + 1 => by
    rw [hmNext_S, List.lookup_append]
    have ih := hmNext_at t m lo v n
    by_cases e : v = lo + (n : Int)
    · subst e
      rw [hmNext_new, if_pos (show lo ≤ lo + (n : Int) ∧ lo + (n : Int) < lo + ((n + 1 : Nat) : Int) by omega)]
      show (List.lookup (lo + (n : Int)) (if hmSums t m (lo + (n : Int)) = [] then [] else [(lo + (n : Int), (hmSums t m (lo + (n : Int))).sum)])).getD 0 = _
      by_cases h : hmSums t m (lo + (n : Int)) = []
      · rw [if_pos h, h]; rfl
      · rw [if_neg h, List.lookup_cons, beq_self_eq_true]; rfl
    · have l2 : List.lookup v (if hmSums t m (lo + (n : Int)) = [] then [] else [(lo + (n : Int), (hmSums t m (lo + (n : Int))).sum)]) = none := by
        split
        · rfl
        · rw [List.lookup_cons, beq_eq_false_iff_ne.mpr e]; rfl
      rw [l2, Option.or_none, ih]
      by_cases h : lo ≤ v ∧ v < lo + (n : Int)
      · rw [if_pos h, if_pos (by omega)]
      · rw [if_neg h, if_neg (by omega)]
theorem hmNext_nd (t : List (Int × Int)) (m lo : Int) : ∀ n : Nat, (hmNext t m lo n).Pairwise fun a b => a.1 ≠ b.1
  | 0 => List.Pairwise.nil
  | n + 1 => by
    rw [hmNext_S]
    refine List.pairwise_append.mpr ⟨hmNext_nd t m lo n, ?_, fun a ha b hb => ?_⟩
    · split
      · exact List.Pairwise.nil
      · exact List.pairwise_singleton _ _
    · split at hb
      · cases hb
      · rw [List.mem_singleton.mp hb]
        have := hmNext_new t m lo n
        rw [List.lookup_eq_none_iff] at this
        have := bne_iff_ne.mp (this a ha)
        exact fun z => this z.symm
theorem hm_tab {m : Int} (hm : 0 ≤ m) {t : List (Int × Int)} {R : List Int} (h : Tab t R) (q : Int × Int) : Tab (hmStep m t q) (totStep m R q) := ⟨hmNext_nd _ _ _ _, fun v => by
  unfold hmStep
  rw [hmNext_at, count_totStep hm, hmSums_sum hm h]
  by_cases c : q.1 ≤ v ∧ v ≤ q.2
  · rw [if_pos c, if_pos (by omega)]
  · rw [if_neg c]
    by_cases d : q.1 ≤ v ∧ v < q.1 + (((q.2 + 1 - q.1).toNat : Nat) : Int)
    · exact absurd ⟨d.1, by omega⟩ c
    · rw [if_neg d]⟩
theorem hm_tabs {m : Int} (hm : 0 ≤ m) : ∀ (st : List (Int × Int)) (t : List (Int × Int)) (R : List Int), Tab t R → Tab (st.foldl (hmStep m) t) (st.foldl (totStep m) R)
  | [], _, _, h => h
  | q :: st, t, R, h => hm_tabs hm st _ _ (hm_tab hm h q)
theorem tab0 : Tab [(0, 1)] [0] := ⟨List.pairwise_singleton _ _, fun v => by
  rw [List.lookup_cons]
  by_cases e : v = 0
  · rw [e]; rfl
  · rw [beq_eq_false_iff_ne.mpr e, List.count_singleton, if_neg (by rw [beq_iff_eq]; exact fun z => e z.symm)]; rfl⟩
/-- the rows that do -/
def doing (F : Fy) (last : Int) (ls : Lvs) : List (List Int) := (allRows F.m (last + 1).toNat).filter fun r => decide (leftOf F r = ls)
theorem doing_iff {F : Fy} {last : Int} {ls : Lvs} (l0 : 0 ≤ last) {r : List Int} : r ∈ doing F last ls ↔ ((r.length : Int) = last + 1 ∧ ∀ x ∈ r, 0 ≤ x ∧ x ≤ F.m) ∧ leftOf F r = ls := by
  unfold doing
  rw [List.mem_filter, allRows_iff, decide_eq_true_eq]
  constructor
  · rintro ⟨⟨a, b⟩, c⟩; exact ⟨⟨by omega, b⟩, c⟩
  · rintro ⟨⟨a, b⟩, c⟩; exact ⟨⟨by omega, b⟩, c⟩
theorem doing_some {F : Fy} (ok : F.Ok) {last : Int} {ls : Lvs} (bk : BkOk F last ls) {st : List (Int × Int)} (hs : stairs F last ls = some st) : doing F last ls = (allRows F.m st.length).filter (fitB 0 st) := by
  unfold doing
  rw [stairs_len hs]
  apply List.filter_congr
  intro r hr
  obtain ⟨a, b⟩ := allRows_iff.mp hr
  have l0 := bk.l0
  have e := fits_iff ok bk (row := r) (by omega) b
  by_cases h : leftOf F r = ls
  · rw [decide_eq_true h]
    obtain ⟨st', hs', hb⟩ := e.mp h
    rw [hs] at hs'
    cases hs'
    exact ((fitB_iff _ _ _).mpr hb).symm
  · rw [decide_eq_false h]
    symm
    rw [Bool.eq_false_iff]
    intro z
    exact h (e.mpr ⟨st, hs, (fitB_iff _ _ _).mp z⟩)
theorem doing_none {F : Fy} (ok : F.Ok) {last : Int} {ls : Lvs} (bk : BkOk F last ls) : stairs F last ls = none ↔ doing F last ls = [] := by
  have l0 := bk.l0
  constructor
  · intro hs
    rw [List.eq_nil_iff_forall_not_mem]
    intro r hr
    obtain ⟨⟨a, b⟩, c⟩ := (doing_iff l0).mp hr
    obtain ⟨st, hs', _⟩ := (fits_iff ok bk a b).mp c
    rw [hs] at hs'
    cases hs'
  · intro h
    cases hs : stairs F last ls with
    | none => rfl
    | some st =>
      exfalso
      obtain ⟨sL, _⟩ := stairs_stp ok l0 hs
      have hl := stairs_len hs
      have : stepsOf (st.map (·.1)) ∈ doing F last ls := (doing_iff l0).mpr ⟨⟨by rw [stepsOf_eq, steps_len, List.length_map, hl]; omega, by rw [stepsOf_eq]; exact steps_in _ 0 sL⟩, (ends_do ok bk hs).1⟩
      rw [h] at this
      cases this
theorem howMany_is {F : Fy} (ok : F.Ok) {last : Int} {ls : Lvs} (bk : BkOk F last ls) : howMany F last ls = ((doing F last ls).length : Int) := by
  have m1 := ok.m1
  unfold howMany
  cases hs : stairs F last ls with
  | none => rw [(doing_none ok bk).mp hs]; rfl
  | some st =>
    show ((hmTable F.m st).map (·.2)).sum = _
    unfold hmTable
    rw [tab_sum _ _ (hm_tabs (by omega) st _ _ tab0), doing_some ok bk hs]
    have := fit_tots (m := F.m) st st.length (Nat.le_refl _)
    rw [List.take_length] at this
    rw [← this, List.length_map]
end FM

/-! rows of small ferries: how many; sums led on; ends -/
namespace FM
theorem sum_const {α : Type} (k : Nat) : ∀ l : List α, (l.map fun _ => k).sum = l.length * k
  | [] => by simp
  | x :: l => by rw [List.map_cons, List.sum_cons, sum_const k l, List.length_cons, Nat.succ_mul, Nat.add_comm]
theorem allRows_len (m : Int) : ∀ n, (allRows m n).length = (m + 1).toNat ^ n
  | 0 => rfl
  | n + 1 => by
    show ((allRows m n).flatMap _).length = _
    rw [List.length_flatMap]
    simp only [List.length_map, List.length_range]
    rw [sum_const, allRows_len m n, Nat.pow_succ]
theorem allRows_few {m : Int} {n : Nat} (hm : m ≤ 2) (hn : n ≤ 6) : (allRows m n).length ≤ 729 := by
  rw [allRows_len]
  have h1 : (m + 1).toNat ≤ 3 := by omega
  exact Nat.le_trans (Nat.pow_le_pow_left h1 n) (Nat.pow_le_pow_right (by decide) hn)
theorem sums_snoc : ∀ (r : List Int) (p x : Int), sumsFrom p (r ++ [x]) = sumsFrom p r ++ [(sumsFrom p r).getLastD p + x]
  | [], _, _ => rfl
  | y :: r, p, x => by
    have := sums_snoc r (p + y) x
    show (p + y) :: sumsFrom (p + y) (r ++ [x]) = ((p + y) :: sumsFrom (p + y) r) ++ [((p + y) :: sumsFrom (p + y) r).getLastD p + x]
    rw [this, List.getLastD_cons]
    rfl
theorem sums_total : ∀ (r : List Int) (p : Int), (sumsFrom p r).getLastD p = p + r.sum
  | [], p => by show p = p + 0; omega
  | x :: r, p => by
    show ((p + x) :: sumsFrom (p + x) r).getLastD p = _
    rw [List.getLastD_cons, sums_total r (p + x), List.sum_cons]; omega
/-- 999 where they don't come -/
def tick999 (r : List Int) (c : Int) : Int := match firstTick (sumsFrom 0 r) c with
  | some i => (i : Int)
  | none => 999
def wait999 (ls : Lvs) (r : List Int) : Int := (ls.map fun p => p.1 * p.2).sum - ((List.range (goneOf ls).toNat).map fun (c : Nat) => tick999 r ((c : Int) + 1)).sum
/-- the least and the greatest of some -/
structure Ends (l : List Int) (mn mx : Int) : Prop where
  a : mn ∈ l
  b : mx ∈ l
  le : ∀ y ∈ l, mn ≤ y ∧ y ≤ mx
end FM

/-! what is due by all rows that do -/
namespace FM
theorem ends_map {α : Type} {l : List α} {f : α → Int} {x y : α} (hx : x ∈ l) (hy : y ∈ l) (h : ∀ r ∈ l, f x ≤ f r ∧ f r ≤ f y) : Ends (l.map f) (f x) (f y) :=
  ⟨List.mem_map.mpr ⟨x, hx, rfl⟩, List.mem_map.mpr ⟨y, hy, rfl⟩, fun v hv => by
    obtain ⟨r, hr, rfl⟩ := List.mem_map.mp hv
    exact h r hr⟩
theorem loads_le {last : Int} : ∀ ls : Lvs, (∀ p ∈ ls, p.1 ≤ last) → (∀ p ∈ ls, 0 ≤ p.2) → (ls.map fun p => p.1 * p.2).sum ≤ last * goneOf ls
  | [], _, _ => by show (0 : Int) ≤ last * 0; omega
  | p :: r, h1, h2 => by
    have ih := loads_le r (fun q hq => h1 q (.tail _ hq)) fun q hq => h2 q (.tail _ hq)
    have e := Int.mul_le_mul_of_nonneg_right (h1 p (.head _)) (h2 p (.head _))
    show p.1 * p.2 + (r.map fun p => p.1 * p.2).sum ≤ last * (p.2 + goneOf r)
    rw [Int.mul_add]
    omega
theorem wait_same {m : Int} {r : List Int} {ls : Lvs} (h : Stp m 0 (sumsFrom 0 r)) (hg : goneOf ls ≤ (sumsFrom 0 r).getLastD 0) : wait999 ls r = waitedOf ls (sumsFrom 0 r) := by
  unfold wait999 waitedOf
  congr 2
  apply List.map_congr_left
  intro c hc
  have hc := List.mem_range.mp hc
  obtain ⟨i, e, _⟩ := first_of h (c := (c : Int) + 1) (by omega) (by omega)
  unfold tick999
  rw [e]; rfl
def t999 : Option Nat → Int
  | some i => (i : Int)
  | none => 999
structure Due (F : Fy) (last : Int) (ls : Lvs) (st : List (Int × Int)) : Prop where
  few : stepsOf (st.map (·.1)) ∈ doing F last ls
  much : stepsOf (st.map (·.2)) ∈ doing F last ls
  lo : sumsFrom 0 (stepsOf (st.map (·.1))) = st.map (·.1)
  hi : sumsFrom 0 (stepsOf (st.map (·.2))) = st.map (·.2)
  one : ∀ r ∈ doing F last ls, ∀ S, sumsFrom 0 r = S → r = stepsOf S
  at' : ∀ (i : Nat) (p : Int × Int), st[i]? = some p → Ends ((doing F last ls).map fun r => (sumsFrom 0 r).getD i 0) p.1 p.2 ∧ p.1 ≠ 999 ∧ p.2 ≠ 999
  wait : Ends ((doing F last ls).map (wait999 ls)) (waitedOf ls (st.map (·.1))) (waitedOf ls (st.map (·.2))) ∧ waitedOf ls (st.map (·.1)) ≠ 999 ∧ waitedOf ls (st.map (·.2)) ≠ 999
  there : Ends ((doing F last ls).map fun r => r.sum - goneOf ls) ((st.getLastD (0, 0)).1 - goneOf ls) ((st.getLastD (0, 0)).2 - goneOf ls) ∧ (st.getLastD (0, 0)).1 - goneOf ls ≠ 999 ∧ (st.getLastD (0, 0)).2 - goneOf ls ≠ 999
  came : ∀ c, Ends ((doing F last ls).map fun r => tick999 r c) (t999 (firstTick (st.map (·.2)) c)) (t999 (firstTick (st.map (·.1)) c))
theorem tick_le {A B : List Int} {c : Int} (hl : A.length = B.length) (hle : ∀ i, i < A.length → A.getD i 0 ≤ B.getD i 0) (h61 : B.length ≤ 61) : t999 (firstTick B c) ≤ t999 (firstTick A c) := by
  cases hA : firstTick A c with
  | none =>
    cases hB : firstTick B c with
    | none => exact Int.le_refl _
    | some j =>
      have := first_lt hB
      show (j : Int) ≤ 999
      omega
  | some i =>
    obtain ⟨j, hj, e⟩ := first_le A B hl hle i hA
    rw [e]
    show (j : Int) ≤ (i : Int)
    omega
theorem due_is {F : Fy} (ok : F.Ok) {last : Int} {ls : Lvs} (bk : BkOk F last ls) (h5 : last ≤ 5) (s3 : F.s ≤ 3) {st : List (Int × Int)} (hs : stairs F last ls = some st) : Due F last ls st := by
  have l0 := bk.l0
  have l60 := bk.l1
  obtain ⟨sL, sH⟩ := stairs_stp ok l0 hs
  have hl := stairs_len hs
  have ll : st.length = (last + 1).toNat := hl
  have lL : (st.map (·.1)).length = st.length := List.length_map _
  have lH : (st.map (·.2)).length = st.length := List.length_map _
  obtain ⟨d1, d2⟩ := ends_do ok bk hs
  have m1 : stepsOf (st.map (·.1)) ∈ doing F last ls := (doing_iff l0).mpr ⟨⟨by rw [stepsOf_eq, steps_len, lL, hl]; omega, by rw [stepsOf_eq]; exact steps_in _ 0 sL⟩, d1⟩
  have m2 : stepsOf (st.map (·.2)) ∈ doing F last ls := (doing_iff l0).mpr ⟨⟨by rw [stepsOf_eq, steps_len, lH, hl]; omega, by rw [stepsOf_eq]; exact steps_in _ 0 sH⟩, d2⟩
  have eL : sumsFrom 0 (stepsOf (st.map (·.1))) = st.map (·.1) := by rw [stepsOf_eq, sums_steps]
  have eH : sumsFrom 0 (stepsOf (st.map (·.2))) = st.map (·.2) := by rw [stepsOf_eq, sums_steps]
  have fit : ∀ r ∈ doing F last ls, r.length = st.length ∧ Stp F.m 0 (sumsFrom 0 r) ∧ ∀ i, i < st.length → (st.map (·.1)).getD i 0 ≤ (sumsFrom 0 r).getD i 0 ∧ (sumsFrom 0 r).getD i 0 ≤ (st.map (·.2)).getD i 0 := fun r hr => by
    obtain ⟨⟨a, b⟩, c⟩ := (doing_iff l0).mp hr
    obtain ⟨st', hs', hb⟩ := (fits_iff ok bk a b).mp c
    rw [hs] at hs'
    cases hs'
    refine ⟨by omega, stp_sums r 0 b, fun i hi => btw_at _ _ _ hb i (by rw [sums_len]; omega)⟩
  have bnd := stairs_in ok bk hs
  have g := goneOf_nn bk
  have n10 := bk.n
  have g30 : goneOf ls ≤ 30 := by
    have : F.s * (ls.length : Int) ≤ 3 * 10 := Int.mul_le_mul s3 (by omega) (Int.natCast_nonneg _) (by decide)
    omega
  have gL : goneOf ls ≤ (st.map (·.1)).getLastD 0 := by
    rcases Int.lt_or_le 0 (goneOf ls) with y | y
    · obtain ⟨p, hp, h1, _⟩ := lo_reach bk hs y
      have := (stp_last _ 0 sL).2 p.1 (List.mem_map.mpr ⟨p, hp, rfl⟩)
      omega
    · have := (stp_last _ 0 sL).1
      omega
  have lastAt : ∀ l : List Int, l.length = st.length → l.getLastD 0 = l.getD (st.length - 1) 0 := fun l e => by rw [lastD_at l (by omega), e]
  have gR : ∀ r ∈ doing F last ls, goneOf ls ≤ (sumsFrom 0 r).getLastD 0 := fun r hr => by
    obtain ⟨a, _, b⟩ := fit r hr
    have := b (st.length - 1) (by omega)
    rw [lastAt _ (by rw [sums_len]; exact a)]
    rw [lastAt _ lL] at gL
    omega
  have gH : goneOf ls ≤ (st.map (·.2)).getLastD 0 := by
    have := gR _ m2
    rw [eH] at this
    exact this
  have ld0 : ∀ p ∈ ls, 0 ≤ p.2 := fun p hp => by have := bk.ld p hp; omega
  have wup : ∀ S, waitedOf ls S ≤ 150 := fun S => by
    have h1 := loads_le ls (fun p hp => (bk.tk p hp).2) ld0
    have h2 : last * goneOf ls ≤ 5 * 30 := Int.mul_le_mul h5 g30 g.1 (by decide)
    have h3 : 0 ≤ ((List.range (goneOf ls).toNat).map fun (c : Nat) => (((firstTick S ((c : Int) + 1)).getD 0 : Nat) : Int)).sum := by
      have : ∀ l : List Nat, 0 ≤ (l.map fun (c : Nat) => (((firstTick S ((c : Int) + 1)).getD 0 : Nat) : Int)).sum := by
        intro l
        induction l with
        | nil => exact Int.le_refl 0
        | cons a l ih => rw [List.map_cons, List.sum_cons]; omega
      exact this _
    unfold waitedOf
    omega
  obtain ⟨ea, eb⟩ := lastD_map st
  have e1 : (stepsOf (st.map (·.1))).sum = (st.getLastD (0, 0)).1 := by
    have := sums_total (stepsOf (st.map (·.1))) 0
    rw [eL, ea] at this
    omega
  have e2 : (stepsOf (st.map (·.2))).sum = (st.getLastD (0, 0)).2 := by
    have := sums_total (stepsOf (st.map (·.2))) 0
    rw [eH, eb] at this
    omega
  have bl : (st.getLastD (0, 0)).1 ≤ 549 ∧ (st.getLastD (0, 0)).2 ≤ 549 := by
    rw [List.getLastD_eq_getLast?]
    cases q : st.getLast? with
    | none => exact ⟨by decide, by decide⟩
    | some p =>
      have := bnd p (List.mem_of_getLast? q)
      exact ⟨by show p.1 ≤ 549; omega, by show p.2 ≤ 549; omega⟩
  refine ⟨m1, m2, eL, eH, fun r hr S e => by rw [← e, stepsOf_eq, steps_sums], fun i p hp => ?_, ?_, ?_, fun c => ?_⟩
  · obtain ⟨hi, e⟩ := List.getElem?_eq_some_iff.mp hp
    obtain ⟨f1, f2⟩ := getD_map_mem hi
    rw [e] at f1 f2
    have := ends_map (f := fun r => (sumsFrom 0 r).getD i 0) m1 m2 fun r hr => by
      obtain ⟨_, _, b⟩ := fit r hr
      show (sumsFrom 0 (stepsOf (st.map (·.1)))).getD i 0 ≤ _ ∧ _ ≤ (sumsFrom 0 (stepsOf (st.map (·.2)))).getD i 0
      rw [eL, eH]
      exact b i hi
    have h2 : Ends ((doing F last ls).map fun r => (sumsFrom 0 r).getD i 0) ((sumsFrom 0 (stepsOf (st.map (·.1)))).getD i 0) ((sumsFrom 0 (stepsOf (st.map (·.2)))).getD i 0) := this
    rw [eL, eH, f1, f2] at h2
    have b := bnd p (List.mem_of_getElem? hp)
    exact ⟨h2, by omega, by omega⟩
  · have w1 := wup (st.map (·.1))
    have w2 := wup (st.map (·.2))
    refine ⟨?_, by omega, by omega⟩
    have := ends_map (f := wait999 ls) m1 m2 fun r hr => by
      obtain ⟨a, b, c⟩ := fit r hr
      have g1 := gR r hr
      rw [wait_same b g1, wait_same (m := F.m) (by rw [eL]; exact sL) (by rw [eL]; exact gL), wait_same (m := F.m) (by rw [eH]; exact sH) (by rw [eH]; exact gH), eL, eH]
      exact ⟨wait_le sL (by rw [lL, sums_len, a]) (fun i hi => (c i (by omega)).1) gL, wait_le b (by rw [lH, sums_len, a]) (fun i hi => (c i (by rw [sums_len] at hi; omega)).2) g1⟩
    rw [wait_same (m := F.m) (by rw [eL]; exact sL) (by rw [eL]; exact gL), wait_same (m := F.m) (by rw [eH]; exact sH) (by rw [eH]; exact gH), eL, eH] at this
    exact this
  · refine ⟨?_, by omega, by omega⟩
    have := ends_map (f := fun r : List Int => r.sum - goneOf ls) m1 m2 fun r hr => by
      obtain ⟨a, b, c⟩ := fit r hr
      have q := c (st.length - 1) (by omega)
      have t := sums_total r 0
      rw [lastAt _ (by rw [sums_len]; exact a)] at t
      rw [← lastAt _ lL, ← lastAt _ lH, ea, eb] at q
      show (stepsOf (st.map (·.1))).sum - goneOf ls ≤ r.sum - goneOf ls ∧ r.sum - goneOf ls ≤ (stepsOf (st.map (·.2))).sum - goneOf ls
      rw [e1, e2]
      omega
    have h2 : Ends ((doing F last ls).map fun r => r.sum - goneOf ls) ((stepsOf (st.map (·.1))).sum - goneOf ls) ((stepsOf (st.map (·.2))).sum - goneOf ls) := this
    rw [e1, e2] at h2
    exact h2
  · have t' : ∀ r, tick999 r c = t999 (firstTick (sumsFrom 0 r) c) := fun r => by
      unfold tick999
      cases firstTick (sumsFrom 0 r) c <;> rfl
    have := ends_map (f := fun r => tick999 r c) m2 m1 fun r hr => by
      obtain ⟨a, b, d⟩ := fit r hr
      show tick999 (stepsOf (st.map (·.2))) c ≤ tick999 r c ∧ tick999 r c ≤ tick999 (stepsOf (st.map (·.1))) c
      rw [t', t', t', eL, eH]
      exact ⟨tick_le (by rw [lH, sums_len, a]) (fun i hi => (d i (by rw [sums_len] at hi; omega)).2) (by omega), tick_le (by rw [lL, sums_len, a]) (fun i hi => (d i (by omega)).1) (by rw [sums_len]; omega)⟩
    have h2 : Ends ((doing F last ls).map fun r => tick999 r c) (tick999 (stepsOf (st.map (·.2))) c) (tick999 (stepsOf (st.map (·.1))) c) := this
    rw [t', t', eL, eH] at h2
    exact h2
end FM

/-! ways told on tick by tick: tables of counts by state -/
namespace FM
abbrev Key2 := Int × Int
abbrev Tb := List (Key2 × Int)
structure TabS (t : Tb) (R : List Key2) : Prop where
  nd : t.Pairwise fun a b => a.1 ≠ b.1
  ct : ∀ v, (t.lookup v).getD 0 = (R.count v : Int)
theorem key_ne {a b : Key2} : (a == b) = false ↔ a ≠ b := beq_eq_false_iff_ne
theorem tabS_sum (g : Key2 → Int) : ∀ (t : Tb) (R : List Key2), TabS t R → (R.map g).sum = (t.map fun e => e.2 * g e.1).sum
  | [], R, h => by
    have : R = [] := by
      cases R with
      | nil => rfl
      | cons a R =>
        have := h.ct a
        rw [List.count_cons_self] at this
        have e : (List.lookup a ([] : Tb)).getD 0 = 0 := rfl
        omega
    rw [this]; rfl
  | q :: t, R, h => by
    have nd := List.pairwise_cons.mp h.nd
    have hq : (q.2 : Int) = (R.count q.1 : Int) := by
      have := h.ct q.1
      rw [List.lookup_cons, show (q.1 == q.1) = true from beq_self_eq_true _] at this
      exact this
    have ih := tabS_sum g t (R.filter fun v => decide (v ≠ q.1)) ⟨nd.2, fun v => by
      by_cases e : v = q.1
      · have l0 : t.lookup v = none := by
          rw [List.lookup_eq_none_iff]
          intro p hp
          exact bne_iff_ne.mpr (by rw [e]; exact nd.1 p hp)
        rw [l0]
        have : (R.filter fun v => decide (v ≠ q.1)).count v = 0 := by
          rw [List.count_eq_zero]
          intro hm
          have := of_decide_eq_true (List.mem_filter.mp hm).2
          exact this e
        rw [this]; rfl
      · have h1 := h.ct v
        rw [List.lookup_cons, show (v == q.1) = false from key_ne.mpr e] at h1
        have h1' : (t.lookup v).getD 0 = (R.count v : Int) := h1
        rw [h1', List.count_filter (p := fun v => decide (v ≠ q.1)) (decide_eq_true (p := v ≠ q.1) e)]⟩
    rw [List.map_cons, List.sum_cons, ← ih, hq]
    clear ih h nd hq
    induction R with
    | nil => simp
    | cons a R ih =>
      by_cases e : a = q.1
      · rw [List.filter_cons_of_neg (p := fun v => decide (v ≠ q.1)) (by rw [decide_eq_true_eq]; exact fun z => z e), List.map_cons, List.sum_cons, ih, e, List.count_cons_self, Int.natCast_add, Int.add_mul]
        show _ = _ + 1 * g q.1 + _
        omega
      · rw [List.filter_cons_of_pos (p := fun v => decide (v ≠ q.1)) (decide_eq_true (p := a ≠ q.1) e), List.map_cons, List.sum_cons, ih, List.map_cons, List.sum_cons, List.count_cons_of_ne (fun z => e z)]
        omega
/-- later[k] = later.get(k, 0) + c -/
def putS : Tb → Key2 → Int → Tb
  | [], k, c => [(k, c)]
  | e :: t, k, c => if e.1 = k then (k, c) :: t else e :: putS t k c
def addS (t : Tb) (k : Key2) (c : Int) : Tb := putS t k ((t.lookup k).getD 0 + c)
theorem putS_at : ∀ (t : Tb) (k : Key2) (c : Int) (v : Key2), (putS t k c).lookup v = if v = k then some c else t.lookup v
  | [], k, c, v => by
    show List.lookup v [(k, c)] = _
    rw [List.lookup_cons]
    by_cases e : v = k
    · rw [if_pos e, e, beq_self_eq_true]
    · rw [if_neg e, key_ne.mpr e]
  | x :: t, k, c, v => by
    unfold putS
    by_cases h : x.1 = k
    · rw [if_pos h, List.lookup_cons, List.lookup_cons]
      by_cases e : v = k
      · rw [if_pos e, e, beq_self_eq_true]
      · rw [if_neg e, key_ne.mpr e, key_ne.mpr (by rw [h]; exact e)]
    · rw [if_neg h, List.lookup_cons, List.lookup_cons, putS_at t k c v]
      by_cases e : v = x.1
      · rw [e, beq_self_eq_true]
        exact (if_neg h).symm
      · rw [key_ne.mpr e]
theorem putS_keys : ∀ (t : Tb) (k : Key2) (c : Int) (e : Key2 × Int), e ∈ putS t k c → e.1 = k ∨ ∃ x ∈ t, x.1 = e.1
  | [], k, c, e, h => .inl (by rw [List.mem_singleton.mp h])
  | x :: t, k, c, e, h => by
    unfold putS at h
    split at h
    · rcases List.mem_cons.mp h with z | z
      · exact .inl (by rw [z])
      · exact .inr ⟨e, .tail _ z, rfl⟩
    · rcases List.mem_cons.mp h with z | z
      · exact .inr ⟨x, .head _, by rw [z]⟩
      · rcases putS_keys t k c e z with y | ⟨x', y, y2⟩
        · exact .inl y
        · exact .inr ⟨x', .tail _ y, y2⟩
theorem putS_nd : ∀ (t : Tb) (k : Key2) (c : Int), (t.Pairwise fun a b => a.1 ≠ b.1) → (putS t k c).Pairwise fun a b => a.1 ≠ b.1
  | [], k, c, _ => List.pairwise_singleton _ _
  | x :: t, k, c, h => by
    have h' := List.pairwise_cons.mp h
    unfold putS
    split
    · rename_i e
      exact List.pairwise_cons.mpr ⟨fun a ha => by rw [← e]; exact h'.1 a ha, h'.2⟩
    · rename_i e
      refine List.pairwise_cons.mpr ⟨fun a ha => ?_, putS_nd t k c h'.2⟩
      rcases putS_keys t k c a ha with y | ⟨x', y, y2⟩
      · rw [y]; exact e
      · rw [← y2]; exact h'.1 x' y
theorem putS_len : ∀ (t : Tb) (k : Key2) (c : Int), (putS t k c).length ≤ t.length + 1
  | [], _, _ => Nat.le_refl _
  | x :: t, k, c => by
    unfold putS
    split
    · exact Nat.le_succ _
    · exact Nat.succ_le_succ (putS_len t k c)
/-- the steps of one state: f x is where it comes to by x, if it may -/
def stepsS (f : Int → Option Key2) (c : Int) (later : Tb) (n : Nat) : Tb := (List.range n).foldl (fun t (x : Nat) => match f (x : Int) with
  | some k => addS t k c
  | none => t) later
def hits (f : Int → Option Key2) (n : Nat) (v : Key2) : Int := (((List.range n).filterMap fun (x : Nat) => f (x : Int)).count v : Int)
theorem stepsS_S (f : Int → Option Key2) (c : Int) (later : Tb) (n : Nat) : stepsS f c later (n + 1) = match f (n : Int) with
  | some k => addS (stepsS f c later n) k c
  | none => stepsS f c later n := by
  unfold stepsS
  rw [List.range_succ, List.foldl_append]
  rfl
theorem hits_S (f : Int → Option Key2) (n : Nat) (v : Key2) : hits f (n + 1) v = hits f n v + (match f (n : Int) with
  | some k => if k = v then 1 else 0
  | none => 0) := by
  unfold hits
  rw [List.range_succ, List.filterMap_append, List.count_append, Int.natCast_add]
  congr 1
  rw [List.filterMap_cons, List.filterMap_nil]
  cases f (n : Int) with
  | none => rfl
  | some k =>
    show ((List.count v [k] : Nat) : Int) = if k = v then 1 else 0
    rw [List.count_singleton]
    by_cases e : k = v
    · rw [if_pos e, if_pos (by rw [beq_iff_eq]; exact e)]; rfl
    · rw [if_neg e, if_neg (by rw [beq_iff_eq]; exact e)]; rfl
theorem stepsS_at (f : Int → Option Key2) (c : Int) (later : Tb) : ∀ (n : Nat) (v : Key2), ((stepsS f c later n).lookup v).getD 0 = (later.lookup v).getD 0 + c * hits f n v
  | 0, v => by
    show (later.lookup v).getD 0 = (later.lookup v).getD 0 + c * 0
    omega
  | n + 1, v => by
    have ih := stepsS_at f c later n
    rw [stepsS_S, hits_S, Int.mul_add]
    cases f (n : Int) with
    | none => rw [ih]; show _ = _ + (_ + c * 0); omega
    | some k =>
      show ((addS (stepsS f c later n) k c).lookup v).getD 0 = _ + (_ + c * (if k = v then 1 else 0))
      unfold addS
      rw [putS_at]
      by_cases e : v = k
      · rw [if_pos e, if_pos e.symm, e, ih]
        show (later.lookup k).getD 0 + c * hits f n k + c = _ + (_ + c * 1)
        omega
      · rw [if_neg e, if_neg fun z => e z.symm, ih]; omega
theorem stepsS_nd (f : Int → Option Key2) (c : Int) (later : Tb) (h : later.Pairwise fun a b => a.1 ≠ b.1) : ∀ n, (stepsS f c later n).Pairwise fun a b => a.1 ≠ b.1
  | 0 => h
  | n + 1 => by
    rw [stepsS_S]
    cases f (n : Int) with
    | none => exact stepsS_nd f c later h n
    | some k => exact putS_nd _ _ _ (stepsS_nd f c later h n)
/-- one tick: all states -/
def tickS (f : Key2 → Int → Option Key2) (n : Nat) (t : Tb) : Tb := t.foldl (fun later e => stepsS (f e.1) e.2 later n) []
theorem tickS_gen (f : Key2 → Int → Option Key2) (n : Nat) : ∀ (t : Tb) (later : Tb), (later.Pairwise fun a b => a.1 ≠ b.1) → ((t.foldl (fun later e => stepsS (f e.1) e.2 later n) later).Pairwise fun a b => a.1 ≠ b.1) ∧ ∀ v, ((t.foldl (fun later e => stepsS (f e.1) e.2 later n) later).lookup v).getD 0 = (later.lookup v).getD 0 + (t.map fun e => e.2 * hits (f e.1) n v).sum
  | [], later, h => ⟨h, fun v => by show (later.lookup v).getD 0 = (later.lookup v).getD 0 + 0; omega⟩
  | e :: t, later, h => by
    obtain ⟨a, b⟩ := tickS_gen f n t (stepsS (f e.1) e.2 later n) (stepsS_nd _ _ _ h n)
    refine ⟨a, fun v => ?_⟩
    rw [List.foldl_cons, b v, stepsS_at, List.map_cons, List.sum_cons]
    omega
theorem count_flatMap (f : Key2 → List Key2) (v : Key2) : ∀ R : List Key2, ((R.flatMap f).count v : Int) = (R.map fun κ => ((f κ).count v : Int)).sum
  | [] => rfl
  | κ :: R => by
    rw [List.flatMap_cons, List.count_append, Int.natCast_add, count_flatMap f v R, List.map_cons, List.sum_cons]
theorem tickS_tab {f : Key2 → Int → Option Key2} {n : Nat} {t : Tb} {R : List Key2} (h : TabS t R) : TabS (tickS f n t) (R.flatMap fun κ => (List.range n).filterMap fun (x : Nat) => f κ (x : Int)) := by
  obtain ⟨a, b⟩ := tickS_gen f n t [] List.Pairwise.nil
  refine ⟨a, fun v => ?_⟩
  rw [count_flatMap, tabS_sum _ t R h]
  have := b v
  unfold tickS
  rw [this]
  show 0 + _ = _
  rw [Int.zero_add]
  rfl
end FM

/-! the ways told on tick by tick are the rows that do -/
namespace FM
def upto (ls : Lvs) (t : Int) : Lvs := ls.filter fun p => decide (p.1 < t)
def backOf (F : Fy) (l : Lvs) : Int := match l.getLast? with
  | some p => p.1 + F.a
  | none => 0
def dueAt (ls : Lvs) (t : Int) : Int := (ls.lookup t).getD 0
def stepK (F : Fy) (back due t : Int) (κ : Key2) (x : Int) : Option Key2 :=
  let here := κ.1 + x
  let since := if back ≤ t ∧ 0 < here ∧ κ.2 < 0 then t else κ.2
  let goes := 0 ≤ since ∧ (F.s ≤ here ∨ F.w ≤ t - since)
  if (if goes then min here F.s else 0) = due then some (if goes then (here - min here F.s, -1) else (here, since)) else none
def keyOf (z : LS) : Key2 := ((z.ab : Int) + (z.bank : Int), z.first.getD (-1))
def leave1 (t due : Int) : Lvs := if due = 0 then [] else [(t, due)]
theorem backOf_app (F : Fy) (l : Lvs) (p : Int × Int) : backOf F (l ++ [p]) = p.1 + F.a := by
  unfold backOf
  rw [List.getLast?_append]; rfl
theorem back_run (F : Fy) : ∀ (r : List Int) (z : LS) (t : Int), z.back = backOf F z.found → (lsRun F z t r).back = backOf F (lsRun F z t r).found
  | [], _, _, h => h
  | x :: r, z, t, h => by
    refine back_run F r (lsStep F z t x) (t + 1) ?_
    unfold lsStep
    generalize (if z.ab = 0 then t else z.since) = sn
    split
    · split
      · show t + F.a = backOf F (z.found ++ [_])
        rw [backOf_app]
      · exact h
    · exact h
theorem key_step {F : Fy} (ok : F.Ok) {S : List Int} {t : Nat} {z : LS} {x due : Int} (M : Mach F S t z) (hx : 0 ≤ x) (hd : 0 ≤ due) :
    stepK F z.back due (t : Int) (keyOf z) x = if (lsStep F z (t : Int) x).found = z.found ++ leave1 (t : Int) due then some (keyOf (lsStep F z (t : Int) x)) else none := by
  have s1 := ok.s1
  have w1 := ok.w1
  obtain ⟨o1, o2⟩ := obs_step ok M hx
  have b0 := M.back0
  have aw := M.away
  have fs : ∀ v, z.first = some v → 0 ≤ v := fun v hv => by
    unfold LS.first at hv
    split at hv
    · cases hv
    · rename_i h
      cases hv
      have := (M.some h).1
      omega
  have e1 : (keyOf z).1 = (z.ab : Int) + (z.bank : Int) := rfl
  have e2 : (keyOf z).2 = z.first.getD (-1) := rfl
  have app : ∀ l : Lvs, (z.found ++ l = z.found ++ leave1 (t : Int) due) ↔ l = leave1 (t : Int) due := fun l => ⟨fun h => List.append_cancel_left h, fun h => by rw [h]⟩
  by_cases c : z.back ≤ (t : Int) ∧ 0 < (z.ab : Int) + z.bank + x
  · obtain ⟨p1, p2⟩ := o1 c
    have eS : (if z.back ≤ (t : Int) ∧ 0 < (keyOf z).1 + x ∧ (keyOf z).2 < 0 then (t : Int) else (keyOf z).2) = z.first.getD (t : Int) := by
      rw [e1, e2]
      cases hf : z.first with
      | none => rw [if_pos ⟨c.1, c.2, by decide⟩]; rfl
      | some v =>
        have := fs v hf
        rw [if_neg (by rintro ⟨_, _, y⟩; have y' : v < 0 := y; omega)]; rfl
    have f0 : 0 ≤ z.first.getD (t : Int) := by
      cases hf : z.first with
      | none => show (0 : Int) ≤ (t : Int); omega
      | some v => exact fs v hf
    unfold stepK
    simp only [eS]
    rw [e1]
    by_cases g : F.s ≤ (z.ab : Int) + z.bank + x ∨ F.w ≤ (t : Int) - z.first.getD (t : Int)
    · obtain ⟨q1, q2, q3, q4⟩ := p1 g
      have gg : 0 ≤ z.first.getD (t : Int) ∧ (F.s ≤ (z.ab : Int) + z.bank + x ∨ F.w ≤ (t : Int) - z.first.getD (t : Int)) := ⟨f0, g⟩
      rw [if_pos gg, if_pos gg, q1]
      have ek : keyOf (lsStep F z (t : Int) x) = ((z.ab : Int) + z.bank + x - min ((z.ab : Int) + z.bank + x) F.s, -1) := by
        unfold keyOf
        rw [q3, q4]; rfl
      rw [ek]
      by_cases d : min ((z.ab : Int) + z.bank + x) F.s = due
      · rw [if_pos d, if_pos ((app _).mpr (by unfold leave1; rw [if_neg (by omega), d]))]
      · rw [if_neg d, if_neg fun h => by
          have := (app _).mp h
          unfold leave1 at this
          split at this
          · cases this
          · exact d (congrArg Prod.snd (List.cons.inj this).1)]
    · obtain ⟨q1, q2, q3, q4⟩ := p2 g
      have gg : ¬ (0 ≤ z.first.getD (t : Int) ∧ (F.s ≤ (z.ab : Int) + z.bank + x ∨ F.w ≤ (t : Int) - z.first.getD (t : Int))) := fun h => g h.2
      rw [if_neg gg, if_neg gg, q1]
      have ek : keyOf (lsStep F z (t : Int) x) = ((z.ab : Int) + z.bank + x, z.first.getD (t : Int)) := by
        unfold keyOf
        rw [q3, q4]; rfl
      rw [ek]
      by_cases d : (0 : Int) = due
      · rw [if_pos d, if_pos (by unfold leave1; rw [if_pos d.symm, List.append_nil])]
      · rw [if_neg d, if_neg fun h => by
          have h' : z.found ++ [] = z.found ++ leave1 (t : Int) due := by rw [List.append_nil]; exact h
          have := (app _).mp h'
          unfold leave1 at this
          rw [if_neg fun y => d y.symm] at this
          cases this]
  · obtain ⟨q1, q2, q3, q4⟩ := o2 c
    have fn : z.first = none := by
      unfold LS.first
      rw [if_pos]
      rcases Int.lt_or_le (t : Int) z.back with y | y
      · exact aw (by omega)
      · have : ¬ 0 < (z.ab : Int) + z.bank + x := fun h => c ⟨y, h⟩
        omega
    have eS : (if z.back ≤ (t : Int) ∧ 0 < (keyOf z).1 + x ∧ (keyOf z).2 < 0 then (t : Int) else (keyOf z).2) = -1 := by
      rw [if_neg (by rintro ⟨h1, h2, _⟩; exact c ⟨h1, h2⟩), e2, fn]; rfl
    unfold stepK
    simp only [eS]
    have gg : ¬ (0 ≤ (-1 : Int) ∧ (F.s ≤ (keyOf z).1 + x ∨ F.w ≤ (t : Int) - -1)) := fun h => absurd h.1 (by decide)
    rw [if_neg gg, if_neg gg, q1]
    have ek : keyOf (lsStep F z (t : Int) x) = ((keyOf z).1 + x, -1) := by
      unfold keyOf
      rw [q3, q4, fn]; rfl
    rw [ek]
    by_cases d : (0 : Int) = due
    · rw [if_pos d, if_pos (by unfold leave1; rw [if_pos d.symm, List.append_nil])]
    · rw [if_neg d, if_neg fun h => by
        have h' : z.found ++ [] = z.found ++ leave1 (t : Int) due := by rw [List.append_nil]; exact h
        have := (app _).mp h'
        unfold leave1 at this
        rw [if_neg fun y => d y.symm] at this
        cases this]
theorem upto_S {F : Fy} {last : Int} {ls : Lvs} (bk : BkOk F last ls) (t : Int) : upto ls (t + 1) = upto ls t ++ leave1 t (dueAt ls t) := by
  have up := bk.up
  have ld := bk.ld
  clear bk
  unfold upto dueAt leave1
  induction ls with
  | nil => rfl
  | cons p r ih =>
    have u := List.pairwise_cons.mp up
    have ih := ih u.2 fun q hq => ld q (.tail _ hq)
    rw [List.lookup_cons]
    by_cases h1 : p.1 < t
    · rw [List.filter_cons_of_pos (p := fun p : Int × Int => decide (p.1 < t + 1)) (decide_eq_true (p := p.1 < t + 1) (by omega)), List.filter_cons_of_pos (p := fun p : Int × Int => decide (p.1 < t)) (decide_eq_true (p := p.1 < t) h1), ih, beq_eq_false_iff_ne.mpr (show t ≠ p.1 by omega)]
      rfl
    · have no : ∀ q ∈ r, ¬ q.1 < t + 1 := fun q hq => by have := u.1 q hq; omega
      have f1 : r.filter (fun p => decide (p.1 < t + 1)) = [] := List.filter_eq_nil_iff.mpr fun q hq => by rw [decide_eq_true_eq]; exact no q hq
      have f2 : r.filter (fun p => decide (p.1 < t)) = [] := List.filter_eq_nil_iff.mpr fun q hq => by have := no q hq; rw [decide_eq_true_eq]; omega
      by_cases h2 : p.1 = t
      · rw [List.filter_cons_of_pos (p := fun p : Int × Int => decide (p.1 < t + 1)) (decide_eq_true (p := p.1 < t + 1) (by omega)), List.filter_cons_of_neg (p := fun p : Int × Int => decide (p.1 < t)) (by rw [decide_eq_true_eq]; exact h1), f1, f2, h2, beq_self_eq_true]
        have := ld p (.head _)
        show [p] = [] ++ if p.2 = 0 then [] else [(t, p.2)]
        rw [if_neg (by omega), ← h2]; rfl
      · have l0 : r.lookup t = none := List.lookup_eq_none_iff.mpr fun q hq => bne_iff_ne.mpr fun e => by have := u.1 q hq; omega
        rw [List.filter_cons_of_neg (p := fun p : Int × Int => decide (p.1 < t + 1)) (by rw [decide_eq_true_eq]; omega), List.filter_cons_of_neg (p := fun p : Int × Int => decide (p.1 < t)) (by rw [decide_eq_true_eq]; exact h1), f1, f2, beq_eq_false_iff_ne.mpr (fun e => h2 e.symm), l0]
        rfl
theorem due_nn {F : Fy} {last : Int} {ls : Lvs} (bk : BkOk F last ls) (t : Int) : 0 ≤ dueAt ls t := by
  unfold dueAt
  cases h : ls.lookup t with
  | none => exact Int.le_refl 0
  | some v =>
    have : ∀ l : Lvs, (∀ p ∈ l, 1 ≤ p.2 ∧ p.2 ≤ F.s) → l.lookup t = some v → 0 ≤ v := by
      intro l
      induction l with
      | nil => intro _ h; cases h
      | cons p r ih =>
        intro h1 h2
        rw [List.lookup_cons] at h2
        split at h2
        · cases h2; have := h1 p (.head _); omega
        · exact ih (fun q hq => h1 q (.tail _ hq)) h2
    exact this ls bk.ld h
abbrev z0 : LS := ⟨0, 0, 0, 0, []⟩
/-- the states of the rows that have left so by tick t -/
def stateR (F : Fy) (ls : Lvs) (t : Nat) : List Key2 := ((allRows F.m t).filter fun r => decide ((lsRun F z0 0 r).found = upto ls (t : Int))).map fun r => keyOf (lsRun F z0 0 r)
theorem state_S {F : Fy} (ok : F.Ok) {last : Int} {ls : Lvs} (bk : BkOk F last ls) (t : Nat) : stateR F ls (t + 1) = (stateR F ls t).flatMap fun κ => (List.range (F.m + 1).toNat).filterMap fun (x : Nat) => stepK F (backOf F (upto ls (t : Int))) (dueAt ls (t : Int)) (t : Int) κ (x : Int) := by
  unfold stateR
  have hr : ∀ r ∈ allRows F.m t, r.length = t ∧ ∀ x ∈ r, 0 ≤ x := fun r h => ⟨(allRows_iff.mp h).1, fun x hx => ((allRows_iff.mp h).2 x hx).1⟩
  show ((List.flatMap _ (allRows F.m t)).filter _).map _ = _
  generalize allRows F.m t = l at *
  have dn := due_nn bk (t : Int)
  have us := upto_S bk (t : Int)
  induction l with
  | nil => rfl
  | cons r l ih =>
    have ih := ih fun q hq => hr q (.tail _ hq)
    obtain ⟨hl, h0⟩ := hr r (.head _)
    have app : ∀ x : Int, lsRun F z0 0 (r ++ [x]) = lsStep F (lsRun F z0 0 r) (t : Int) x := fun x => by
      rw [lsRun_app, hl]
      show lsStep F _ (0 + (t : Int)) x = _
      rw [Int.zero_add]
    have M := mach_at ok (row := r) h0 r.length (Nat.le_refl _)
    rw [List.take_length, hl] at M
    have eb := back_run F r z0 0 rfl
    have lt : ∀ p ∈ (lsRun F z0 0 r).found, p.1 < (t : Int) := fun p hp => by
      have := (left_ok F r).1 p hp
      omega
    have one : (((List.range (F.m + 1).toNat).map fun (x : Nat) => r ++ [(x : Int)]).filter fun r => decide ((lsRun F z0 0 r).found = upto ls ((t + 1 : Nat) : Int))).map (fun r => keyOf (lsRun F z0 0 r)) = if (lsRun F z0 0 r).found = upto ls (t : Int) then (List.range (F.m + 1).toNat).filterMap (fun (x : Nat) => stepK F (backOf F (upto ls (t : Int))) (dueAt ls (t : Int)) (t : Int) (keyOf (lsRun F z0 0 r)) (x : Int)) else [] := by
      rw [show ((t + 1 : Nat) : Int) = (t : Int) + 1 by omega, us]
      generalize (F.m + 1).toNat = n
      induction n with
      | zero => split <;> rfl
      | succ n ihn =>
        rw [List.range_succ, List.map_append, List.filter_append, List.map_append, ihn, List.filterMap_append]
        by_cases c : (lsRun F z0 0 r).found = upto ls (t : Int)
        · rw [if_pos c, if_pos c]
          congr 1
          have ks := key_step ok (x := (n : Int)) (due := dueAt ls (t : Int)) M (by omega) dn
          rw [eb, c] at ks
          rw [List.map_cons, List.map_nil, List.filterMap_cons, List.filterMap_nil, ks]
          by_cases d : (lsStep F (lsRun F z0 0 r) (t : Int) (n : Int)).found = upto ls (t : Int) ++ leave1 (t : Int) (dueAt ls (t : Int))
          · rw [if_pos d, List.filter_cons_of_pos (p := fun r => decide ((lsRun F z0 0 r).found = upto ls (t : Int) ++ leave1 (t : Int) (dueAt ls (t : Int)))) (by rw [app]; exact decide_eq_true d), List.filter_nil, List.map_cons, List.map_nil, app]
          · rw [if_neg d, List.filter_cons_of_neg (p := fun r => decide ((lsRun F z0 0 r).found = upto ls (t : Int) ++ leave1 (t : Int) (dueAt ls (t : Int)))) (by rw [app, decide_eq_true_eq]; exact d), List.filter_nil, List.map_nil]
        · rw [if_neg c, if_neg c, List.nil_append]
          have : ¬ (lsRun F z0 0 (r ++ [(n : Int)])).found = upto ls (t : Int) ++ leave1 (t : Int) (dueAt ls (t : Int)) := fun e => by
            apply c
            obtain ⟨rest, h1, h2⟩ := lsRun_rest F [(n : Int)] (lsRun F z0 0 r) (t : Int)
            have e2 : (lsRun F z0 0 (r ++ [(n : Int)])).found = (lsRun F z0 0 r).found ++ rest := by
              rw [lsRun_app, hl, Int.zero_add]; exact h1
            rw [e2] at e
            have := congrArg (List.filter fun p : Int × Int => decide (p.1 < (t : Int))) e
            rw [List.filter_append, List.filter_append] at this
            have a1 : (lsRun F z0 0 r).found.filter (fun p => decide (p.1 < (t : Int))) = (lsRun F z0 0 r).found := List.filter_eq_self.mpr fun p hp => decide_eq_true (lt p hp)
            have a2 : rest.filter (fun p => decide (p.1 < (t : Int))) = [] := List.filter_eq_nil_iff.mpr fun p hp => by rw [decide_eq_true_eq]; have := h2 p hp; omega
            have a3 : (upto ls (t : Int)).filter (fun p => decide (p.1 < (t : Int))) = upto ls (t : Int) := List.filter_eq_self.mpr fun p hp => (List.mem_filter.mp hp).2
            have a4 : (leave1 (t : Int) (dueAt ls (t : Int))).filter (fun p => decide (p.1 < (t : Int))) = [] := by
              unfold leave1
              split
              · rfl
              · exact List.filter_eq_nil_iff.mpr fun p hp => by rw [List.mem_singleton.mp hp, decide_eq_true_eq]; exact Int.lt_irrefl _
            rw [a1, a2, a3, a4, List.append_nil, List.append_nil] at this
            exact this
          rw [List.map_cons, List.map_nil, List.filter_cons_of_neg (p := fun r => decide ((lsRun F z0 0 r).found = upto ls (t : Int) ++ leave1 (t : Int) (dueAt ls (t : Int)))) (by rw [decide_eq_true_eq]; exact this)]
          rfl
    rw [List.flatMap_cons, List.filter_append, List.map_append, one, ih]
    by_cases c : (lsRun F z0 0 r).found = upto ls (t : Int)
    · rw [if_pos c, List.filter_cons_of_pos (p := fun r => decide ((lsRun F z0 0 r).found = upto ls (t : Int))) (decide_eq_true (p := (lsRun F z0 0 r).found = upto ls (t : Int)) c), List.map_cons, List.flatMap_cons]
    · rw [if_neg c, List.filter_cons_of_neg (p := fun r => decide ((lsRun F z0 0 r).found = upto ls (t : Int))) (by rw [decide_eq_true_eq]; exact c), List.nil_append]
/-- _law_ways: the table after t ticks -/
def waysT (F : Fy) (ls : Lvs) : Nat → Tb
  | 0 => [((0, -1), 1)]
  | t + 1 => tickS (stepK F (backOf F (upto ls (t : Int))) (dueAt ls (t : Int)) (t : Int)) (F.m + 1).toNat (waysT F ls t)
theorem ways_tab {F : Fy} (ok : F.Ok) {last : Int} {ls : Lvs} (bk : BkOk F last ls) : ∀ t, TabS (waysT F ls t) (stateR F ls t)
  | 0 => by
    have e : stateR F ls 0 = [(0, -1)] := by
      unfold stateR
      have : upto ls ((0 : Nat) : Int) = [] := List.filter_eq_nil_iff.mpr fun p hp => by rw [decide_eq_true_eq]; have := bk.tk p hp; omega
      rw [this]
      rfl
    rw [e]
    refine ⟨List.pairwise_singleton _ _, fun v => ?_⟩
    show (List.lookup v [((0, -1), 1)]).getD 0 = _
    rw [List.lookup_cons]
    by_cases e : v = (0, -1)
    · rw [e]; rfl
    · rw [key_ne.mpr e, List.count_singleton, if_neg (by rw [beq_iff_eq]; exact fun z => e z.symm)]; rfl
  | t + 1 => by
    rw [state_S ok bk t]
    exact tickS_tab (ways_tab ok bk t)
def waysOf (F : Fy) (last : Int) (ls : Lvs) : Int := ((waysT F ls (last + 1).toNat).map (·.2)).sum
theorem ways_is {F : Fy} (ok : F.Ok) {last : Int} {ls : Lvs} (bk : BkOk F last ls) : waysOf F last ls = howMany F last ls := by
  have l0 := bk.l0
  rw [howMany_is ok bk]
  unfold waysOf
  have h := tabS_sum (fun _ => 1) _ _ (ways_tab ok bk (last + 1).toNat)
  have e1 : ((waysT F ls (last + 1).toNat).map fun e => e.2 * 1) = (waysT F ls (last + 1).toNat).map (·.2) := List.map_congr_left fun e _ => Int.mul_one _
  rw [e1] at h
  rw [← h]
  have e2 : ∀ R : List Key2, (R.map fun _ => (1 : Int)).sum = (R.length : Int) := by
    intro R
    induction R with
    | nil => rfl
    | cons a R ih => rw [List.map_cons, List.sum_cons, ih, List.length_cons]; omega
  rw [e2]
  unfold stateR doing
  rw [List.length_map]
  congr 2
  have e3 : upto ls (((last + 1).toNat : Nat) : Int) = ls := List.filter_eq_self.mpr fun p hp => decide_eq_true (by have := bk.tk p hp; omega)
  rw [e3]
  rfl
end FM

/-! the tables are small; when the ferry is back -/
namespace FM
theorem nat_nodup_le : ∀ (n : Nat) (l : List Nat), l.Nodup → (∀ x ∈ l, x < n) → l.length ≤ n
  | 0, l, _, h => by
    cases l with
    | nil => exact Nat.le_refl _
    | cons a r => exact absurd (h a (.head _)) (Nat.not_lt_zero _)
  | n + 1, l, nd, h => by
    by_cases m : n ∈ l
    · have h1 := nat_nodup_le n (l.erase n) (nd.erase n) fun x hx => by
        have h2 := (List.Nodup.mem_erase_iff nd).mp hx
        have := h x h2.2
        have := h2.1
        omega
      rw [List.length_erase_of_mem m] at h1
      omega
    · exact Nat.le_succ_of_le (nat_nodup_le n l nd fun x hx => by
        have := h x hx
        have : x ≠ n := fun e => m (e ▸ hx)
        omega)
def InT (A B : Int) (t : Tb) : Prop := ∀ e ∈ t, (0 ≤ e.1.1 ∧ e.1.1 ≤ A) ∧ -1 ≤ e.1.2 ∧ e.1.2 ≤ B
theorem tab_len {A B : Nat} {t : Tb} (nd : t.Pairwise fun a b => a.1 ≠ b.1) (h : InT (A : Int) (B : Int) t) : t.length ≤ (A + 1) * (B + 2) := by
  have h1 := nat_nodup_le ((A + 1) * (B + 2)) (t.map fun e => e.1.1.toNat * (B + 2) + (e.1.2 + 1).toNat) (by
    rw [List.Nodup, List.pairwise_map]
    refine List.Pairwise.imp_of_mem (fun {a b} ha hb ne z => ?_) nd
    obtain ⟨⟨a1, a2⟩, a3, a4⟩ := h a ha
    obtain ⟨⟨b1, b2⟩, b3, b4⟩ := h b hb
    have x1 : (a.1.2 + 1).toNat < B + 2 := by omega
    have x2 : (b.1.2 + 1).toNat < B + 2 := by omega
    have e1 := congrArg (· % (B + 2)) z
    have e2 := congrArg (· / (B + 2)) z
    simp only [Nat.mul_add_mod_self_right, Nat.mod_eq_of_lt x1, Nat.mod_eq_of_lt x2] at e1
    rw [Nat.add_comm (a.1.1.toNat * (B + 2)), Nat.add_comm (b.1.1.toNat * (B + 2))] at e2
    simp only [Nat.add_mul_div_right _ _ (show 0 < B + 2 by omega), Nat.div_eq_of_lt x1, Nat.div_eq_of_lt x2] at e2
    exact ne (Prod.ext (by omega) (by omega))) fun x hx => by
    obtain ⟨e, he, rfl⟩ := List.mem_map.mp hx
    obtain ⟨⟨a1, a2⟩, a3, a4⟩ := h e he
    have y1 : e.1.1.toNat ≤ A := by omega
    have := Nat.mul_le_mul_right (B + 2) y1
    rw [Nat.add_mul]
    omega
  rw [List.length_map] at h1
  exact h1
theorem putS_in {A B : Int} {t : Tb} {k : Key2} {c : Int} (h : InT A B t) (hk : (0 ≤ k.1 ∧ k.1 ≤ A) ∧ -1 ≤ k.2 ∧ k.2 ≤ B) : InT A B (putS t k c) := fun e he => by
  rcases putS_keys t k c e he with y | ⟨x, hx, y⟩
  · rw [y]; exact hk
  · rw [← y]; exact h x hx
theorem stepK_in {F : Fy} (ok : F.Ok) {back due t A : Int} {κ k : Key2} {x : Int} (ht : 0 ≤ t) (hκ : (0 ≤ κ.1 ∧ κ.1 ≤ A) ∧ -1 ≤ κ.2 ∧ κ.2 ≤ t) (hx : 0 ≤ x ∧ x ≤ F.m) (e : stepK F back due t κ x = some k) : (0 ≤ k.1 ∧ k.1 ≤ A + F.m) ∧ -1 ≤ k.2 ∧ k.2 ≤ t := by
  have s1 := ok.s1
  unfold stepK at e
  simp only at e
  generalize hs : (if back ≤ t ∧ 0 < κ.1 + x ∧ κ.2 < 0 then t else κ.2) = sn at e
  have hsn : -1 ≤ sn ∧ sn ≤ t := by
    rw [← hs]
    split <;> omega
  by_cases g : 0 ≤ sn ∧ (F.s ≤ κ.1 + x ∨ F.w ≤ t - sn)
  · simp only [if_pos g] at e
    by_cases h2 : min (κ.1 + x) F.s = due
    · rw [if_pos h2] at e
      have e := (Option.some.inj e).symm
      subst e
      dsimp only
      omega
    · rw [if_neg h2] at e; exact nomatch e
  · simp only [if_neg g] at e
    by_cases h2 : (0 : Int) = due
    · rw [if_pos h2] at e
      have e := (Option.some.inj e).symm
      subst e
      dsimp only
      omega
    · rw [if_neg h2] at e; exact nomatch e
theorem stepsS_in {F : Fy} (ok : F.Ok) {back due t A c : Int} {κ : Key2} {later : Tb} (ht : 0 ≤ t) (hκ : (0 ≤ κ.1 ∧ κ.1 ≤ A) ∧ -1 ≤ κ.2 ∧ κ.2 ≤ t) (h : InT (A + F.m) t later) : ∀ n : Nat, (n : Int) ≤ F.m + 1 → InT (A + F.m) t (stepsS (stepK F back due t κ) c later n)
  | 0, _ => h
  | n + 1, hn => by
    have ih := stepsS_in ok (back := back) (due := due) (c := c) ht hκ h n (by omega)
    rw [stepsS_S]
    cases e : stepK F back due t κ (n : Int) with
    | none => exact ih
    | some k => exact putS_in ih (stepK_in ok ht hκ (by omega) e)
theorem tick_in {F : Fy} (ok : F.Ok) {back due t A : Int} (ht : 0 ≤ t) : ∀ (tb later : Tb), InT A t tb → InT (A + F.m) t later → InT (A + F.m) t (tb.foldl (fun later e => stepsS (stepK F back due t e.1) e.2 later (F.m + 1).toNat) later)
  | [], _, _, h => h
  | e :: tb, later, h1, h2 => by
    have m1 := ok.m1
    exact tick_in ok ht tb _ (fun x hx => h1 x (.tail _ hx)) (stepsS_in ok ht (h1 e (.head _)) h2 _ (by omega))
theorem tick_nd (f : Key2 → Int → Option Key2) (n : Nat) (tb : Tb) : (tb.foldl (fun later e => stepsS (f e.1) e.2 later n) []).Pairwise fun a b => a.1 ≠ b.1 := (tickS_gen f n tb [] List.Pairwise.nil).1
theorem ways_in {F : Fy} (ok : F.Ok) (ls : Lvs) : ∀ t : Nat, InT (F.m * t) ((t : Int) - 1) (waysT F ls t)
  | 0 => fun e he => by
    rw [List.mem_singleton.mp he]
    exact ⟨⟨Int.le_refl _, by show (0 : Int) ≤ F.m * (0 : Nat); simp⟩, by decide, by decide⟩
  | t + 1 => by
    have ih := ways_in ok ls t
    have h1 : InT (F.m * t) (t : Int) (waysT F ls t) := fun e he => by have := ih e he; omega
    have h2 := tick_in ok (back := backOf F (upto ls (t : Int))) (due := dueAt ls (t : Int)) (A := F.m * t) (t := (t : Int)) (Int.natCast_nonneg t) (waysT F ls t) [] h1 (fun e he => nomatch he)
    have e1 : F.m * ((t + 1 : Nat) : Int) = F.m * t + F.m := by rw [Int.natCast_add, Int.mul_add]; simp
    have e2 : ((t + 1 : Nat) : Int) - 1 = t := by omega
    rw [e1, e2]
    exact h2
theorem ways_nd {F : Fy} (ok : F.Ok) {last : Int} {ls : Lvs} (bk : BkOk F last ls) (t : Nat) : (waysT F ls t).Pairwise fun a b => a.1 ≠ b.1 := (ways_tab ok bk t).nd
theorem ways_len {F : Fy} (ok : F.Ok) {last : Int} {ls : Lvs} (bk : BkOk F last ls) {t : Nat} (ht : t ≤ 61) : (waysT F ls t).length ≤ 40000 := by
  have m1 := ok.m1
  have m2 := ok.m2
  have h := tab_len (A := 549) (B := 60) (ways_nd ok bk t) fun e he => by
    have h1 := ways_in ok ls t e he
    have : F.m * (t : Int) ≤ 9 * 61 := Int.le_trans (Int.mul_le_mul_of_nonneg_right m2 (Int.natCast_nonneg t)) (by omega)
    omega
  omega
theorem back_S {F : Fy} {last : Int} {ls : Lvs} (bk : BkOk F last ls) (t : Int) : backOf F (upto ls (t + 1)) = if (ls.lookup t).isSome = true then t + F.a else backOf F (upto ls t) := by
  rw [upto_S bk t]
  unfold leave1 dueAt
  cases h : ls.lookup t with
  | none =>
    rw [if_pos (show (none : Option Int).getD 0 = 0 from rfl), List.append_nil, if_neg (by simp)]
  | some v =>
    have hm : (t, v) ∈ ls := by
      obtain ⟨l1, l2, e, _⟩ := List.lookup_eq_some_iff.mp h
      rw [e]; simp
    have := bk.ld _ hm
    rw [if_neg (by show v ≠ 0; have : 1 ≤ v := this.1; omega), backOf_app, if_pos (show (some v).isSome = true from rfl)]
end FM

/-! the greater, the less of two rows' sums -/
namespace FM
theorem btw_mix {f : Int → Int → Int} (hf : ∀ a b, f a b = a ∨ f a b = b) : ∀ (L S T U : List Int), Btw L S U → Btw L T U → Btw L (List.zipWith f S T) U := by
  intro L
  induction L with
  | nil =>
    intro S T U h g
    cases S with
    | nil =>
      cases U with
      | nil => trivial
      | cons _ _ => exact h.elim
    | cons _ _ => cases U <;> exact h.elim
  | cons l L ih =>
    intro S T U h g
    cases S with
    | nil => cases U <;> exact h.elim
    | cons s S =>
      cases U with
      | nil => exact h.elim
      | cons u U =>
        cases T with
        | nil => exact g.elim
        | cons t T =>
          obtain ⟨h1, h2⟩ := h
          obtain ⟨g1, g2⟩ := g
          refine ⟨?_, ih S T U h2 g2⟩
          show l ≤ f s t ∧ f s t ≤ u
          rcases hf s t with e | e <;> (rw [e]; assumption)
theorem stp_max {m : Int} : ∀ (S T : List Int) (p q : Int), Stp m p S → Stp m q T → Stp m (max p q) (List.zipWith max S T)
  | [], _, _, _, _, _ => trivial
  | _ :: _, [], _, _, _, _ => trivial
  | s :: S, t :: T, p, q, h, g => by
    obtain ⟨⟨h1, h2⟩, h3⟩ := h
    obtain ⟨⟨g1, g2⟩, g3⟩ := g
    exact ⟨⟨by omega, by omega⟩, stp_max S T s t h3 g3⟩
theorem stp_min {m : Int} : ∀ (S T : List Int) (p q : Int), Stp m p S → Stp m q T → Stp m (min p q) (List.zipWith min S T)
  | [], _, _, _, _, _ => trivial
  | _ :: _, [], _, _, _, _ => trivial
  | s :: S, t :: T, p, q, h, g => by
    obtain ⟨⟨h1, h2⟩, h3⟩ := h
    obtain ⟨⟨g1, g2⟩, g3⟩ := g
    exact ⟨⟨by omega, by omega⟩, stp_min S T s t h3 g3⟩
/-- sums of a row that does, by the stairs -/
structure Gd (F : Fy) (st : List (Int × Int)) (S : List Int) : Prop where
  sp : Stp F.m 0 S
  bt : Btw (st.map (·.1)) S (st.map (·.2))
theorem Gd.max {F : Fy} {st : List (Int × Int)} {S T : List Int} (g : Gd F st S) (h : Gd F st T) : Gd F st (List.zipWith max S T) := ⟨by
  have := stp_max S T 0 0 g.sp h.sp
  exact this, btw_mix (fun a b => by omega) _ _ _ _ g.bt h.bt⟩
theorem Gd.min {F : Fy} {st : List (Int × Int)} {S T : List Int} (g : Gd F st S) (h : Gd F st T) : Gd F st (List.zipWith min S T) := ⟨by
  have := stp_min S T 0 0 g.sp h.sp
  exact this, btw_mix (fun a b => by omega) _ _ _ _ g.bt h.bt⟩
theorem Gd.len {F : Fy} {last : Int} {ls : Lvs} {st : List (Int × Int)} {S : List Int} (hs : stairs F last ls = some st) (g : Gd F st S) : S.length = (last + 1).toNat := by
  have h1 := (btw_len _ _ _ g.bt).1
  rw [List.length_map, stairs_len hs] at h1
  exact h1.symm
theorem Gd.left {F : Fy} (ok : F.Ok) {last : Int} {ls : Lvs} (bk : BkOk F last ls) {st : List (Int × Int)} {S : List Int} (hs : stairs F last ls = some st) (g : Gd F st S) : leftOf F (stepsOf S) = ls ∧ (stepsOf S).length = (last + 1).toNat ∧ ∀ x ∈ stepsOf S, 0 ≤ x ∧ x ≤ F.m := by
  have l0 := bk.l0
  have hl := g.len hs
  have h1 : (stepsOf S).length = (last + 1).toNat := by rw [stepsOf_eq, steps_len, hl]
  have h2 : ∀ x ∈ stepsOf S, 0 ≤ x ∧ x ≤ F.m := by rw [stepsOf_eq]; exact steps_in _ 0 g.sp
  exact ⟨(fits_iff ok bk (by omega) h2).mpr ⟨st, hs, by rw [stepsOf_eq, sums_steps]; exact g.bt⟩, h1, h2⟩
theorem gd_ends {F : Fy} (ok : F.Ok) {last : Int} {ls : Lvs} (bk : BkOk F last ls) {st : List (Int × Int)} (hs : stairs F last ls = some st) : Gd F st (st.map (·.1)) ∧ Gd F st (st.map (·.2)) := by
  obtain ⟨sL, sH⟩ := stairs_stp ok bk.l0 hs
  have le := (stairs_is hs).2.2.1
  refine ⟨⟨sL, btw_of _ _ _ rfl (by rw [List.length_map, List.length_map]) fun i hi => ?_⟩, ⟨sH, btw_of _ _ _ (by rw [List.length_map, List.length_map]) rfl fun i hi => ?_⟩⟩
  · rw [List.length_map] at hi
    obtain ⟨e1, e2⟩ := getD_map_mem hi
    have := le _ (List.getElem_mem hi)
    omega
  · rw [List.length_map] at hi
    obtain ⟨e1, e2⟩ := getD_map_mem hi
    have := le _ (List.getElem_mem hi)
    omega
theorem gd_own {F : Fy} (ok : F.Ok) {last : Int} {ls : Lvs} (bk : BkOk F last ls) {row : List Int} (hl : (row.length : Int) = last + 1) (hx : ∀ x ∈ row, 0 ≤ x ∧ x ≤ F.m) (h : leftOf F row = ls) : ∃ st, stairs F last ls = some st ∧ Gd F st (sumsFrom 0 row) := by
  obtain ⟨st, hs, hb⟩ := (fits_iff ok bk hl hx).mp h
  exact ⟨st, hs, stp_sums row 0 hx, hb⟩
end FM

namespace FB
open PySem L2
def top (i : Nat) : Stmt := PySem.Challenge.pw_ferryback_k04_whole_long_books.main.body.getD i (.Pass ⟨0, 0, 0, 0⟩)
abbrev s_FerryError : Stmt := top 1
abbrev s_NoFerry : Stmt := top 2
abbrev s_NoBook : Stmt := top 3
abbrev s_is_whole : Stmt := top 7
abbrev s_is_within : Stmt := top 8
abbrev s_is_ferry : Stmt := top 9
abbrev s_look_at_ferry : Stmt := top 10
abbrev s_is_leaving : Stmt := top 11
abbrev s_is_book_of : Stmt := top 12
abbrev s_look_at : Stmt := top 13
abbrev s_Bounds : Stmt := top 16
abbrev s_Bounds___init__ : Stmt := inClass (top 16) 0
abbrev s_Bounds_at_least : Stmt := inClass (top 16) 1
abbrev s_Bounds_at_most : Stmt := inClass (top 16) 2
abbrev s_Bounds_leaving : Stmt := inClass (top 16) 3
abbrev s_Bounds_stairs : Stmt := inClass (top 16) 4
abbrev s_stairs_so : Stmt := top 17
abbrev s_stairs : Stmt := top 18
abbrev s_can_be : Stmt := top 19
abbrev s_first_bar : Stmt := top 20
abbrev s_how_many : Stmt := top 22
abbrev s_steps_of : Stmt := top 23
abbrev s_fewest_row : Stmt := top 24
abbrev s_most_row : Stmt := top 25
abbrev s_mends : Stmt := top 26
abbrev s__law_well : Stmt := top 28
abbrev s__law_take : Stmt := top 29
abbrev s__law_bags : Stmt := top 30
abbrev s__law_same : Stmt := top 31
abbrev s__law_ferry : Stmt := top 32
abbrev s__law_row : Stmt := top 33
abbrev s__law_left : Stmt := top 34
abbrev s__law_book : Stmt := top 35
abbrev s__law_bent : Stmt := top 36
abbrev s__law_sums : Stmt := top 37
abbrev s__law_ways : Stmt := top 38
abbrev s__law_row_of : Stmt := top 39
abbrev s__law_steps_so : Stmt := top 40
abbrev s__law_mends : Stmt := top 41
abbrev s_law : Stmt := top 42
end FB
namespace FB
open PySem PySem.Spec PyProof.Rows L2 DL FM
/-! ### the program's first functions, at good ferries and books -/
def isW : PyData → Bool
  | .int _ => true
  | _ => false
theorem isW_iff {d : PyData} (h : isW d = true) : ∃ i, d = .int i := by cases d <;> first | exact ⟨_, rfl⟩ | cases h
def isIn (lo hi : Int) : PyData → Bool
  | .int i => decide (lo ≤ i) && decide (i ≤ hi)
  | _ => false
theorem isIn_int {lo hi i : Int} (h1 : lo ≤ i) (h2 : i ≤ hi) : isIn lo hi (.int i) = true := by
  show (decide (lo ≤ i) && decide (i ≤ hi)) = true
  rw [decide_eq_true h1, decide_eq_true h2]
  rfl
abbrev dF (F : Fy) : PyData := .tuple [.int F.s, .int F.w, .int F.a, .int F.m]
abbrev dLv (p : Int × Int) : PyData := .tuple [.int p.1, .int p.2]
abbrev dLs (ls : Lvs) : PyData := .tuple (ls.map dLv)
abbrev dB (last : Int) (ls : Lvs) : PyData := .tuple [.int last, dLs ls]
structure GT (mg : Str → Option Value) : Prop where
  b : ∀ x ∈ bNames, mg x = none
  ml : ∃ t, mg "MOST_LAST" = some (.int 60 t)
  mv : ∃ t, mg "MOST_LEAVINGS" = some (.int 10 t)
  en : ∃ t, mg "ENDLESS" = some (.int 1000000 t)
section
variable {P : Program} {w : World} {K : PySem.W.Frag} {mg : Str → Option Value} {base : Heap}
def S_is_whole : DSpec := fun ds k => ∃ d, ds = [d] ∧ k (.bool (isW d))
theorem sc_is_whole : FnScope ["thing"] ["thing"] (defScope s_is_whole) := ⟨rfl, rfl, rfl, by decide +kernel, rfl, by decide +kernel, by decide +kernel⟩
theorem ok_is_whole {f : Addr} {fd : FuncData} (F : Fun K "is_whole" "is_whole" s_is_whole f fd) (T : GT mg) : FnOk P w K mg base CX0 1 f fd ["thing"] (spD S_is_whole) := by
  refine fn_D F sc_is_whole T.b (fun ds q ⟨d, e, _⟩ => by rw [e]; rfl) ?_
  rintro cdv A outer s H E _ q hr ck ⟨d, rfl, h⟩
  refine bb_one (ss_ret (ee_M (ee_andM (ee_isInt ck (ee_var 0 rfl (⟨rfl, rfl⟩))) (fun _ => ee_one (ee_not (ee_isBool ck (ee_var 0 rfl (⟨_, rfl, ⟨rfl, rfl⟩⟩)))))) ?_))
  cases d <;> exact h
def S_is_within : DSpec := fun ds k => ∃ d lo hi, ds = [d, .int lo, .int hi] ∧ k (.bool (isIn lo hi d))
theorem sc_is_within : FnScope ["thing", "low", "high"] ["thing", "low", "high"] (defScope s_is_within) := ⟨rfl, rfl, rfl, by decide +kernel, rfl, by decide +kernel, by decide +kernel⟩
theorem ok_is_within {f : Addr} {fd : FuncData} {k : Nat} (F : Fun K "is_within" "is_within" s_is_within f fd) (T : GT mg) (g1 : Kn P w K mg base k "is_whole" ["thing"] (spD S_is_whole)) :
    FnOk P w K mg base CX0 (k + 1) f fd ["thing", "low", "high"] (spD S_is_within) := by
  refine fn_D F sc_is_within T.b (fun ds q ⟨d, lo, hi, e, _⟩ => by rw [e]; rfl) ?_
  rintro cdv A outer s H E _ q hr ck ⟨d, lo, hi, rfl, h⟩
  refine bb_one (ss_ret (ee_and (ee_call ⟨_, hr, g1⟩ (ea_cons (ee_var 0 rfl (ea_nil ⟨d, rfl, _, rfl, ?_⟩))))))
  refine ite2 (fun c => ?_) (fun c => ?_)
  · obtain ⟨i, rfl⟩ := isW_iff c
    refine ee_one (ee_chain (ee_var 1 rfl (ee_var 0 rfl (br_le (ite2 (fun c1 => ee_var 2 rfl (br_le ?_)) (fun c1 => ?_))))))
    · exact fin (q := q) h (by have c1 : decide (lo ≤ i) = true := c1; rw [isIn, c1, Bool.true_and])
    · exact fin (q := q) h (by have c1 : ¬ decide (lo ≤ i) = true := c1; rw [isIn, Bool.eq_false_iff.mpr c1, Bool.false_and])
  · exact fin (q := q) h (by cases d <;> first | rfl | exact absurd rfl c)
def S_is_ferry : DSpec := fun ds k => ∃ F : Fy, ds = [dF F] ∧ F.Ok ∧ k (.bool true)
theorem sc_is_ferry : FnScope ["thing"] ["thing"] (defScope s_is_ferry) := ⟨rfl, rfl, rfl, by decide +kernel, rfl, by decide +kernel, by decide +kernel⟩
theorem ok_is_ferry {f : Addr} {fd : FuncData} {k : Nat} (F : Fun K "is_ferry" "is_ferry" s_is_ferry f fd) (T : GT mg) (g_is_within : Kn P w K mg base k "is_within" ["thing", "low", "high"] (spD S_is_within)) :
    FnOk P w K mg base CX0 (k + 1) f fd ["thing"] (spD S_is_ferry) := by
  refine fn_D F sc_is_ferry T.b (fun ds q ⟨d, e, _⟩ => by rw [e]; rfl) ?_
  rintro cdv A outer s H E _ q hr ck ⟨Y, rfl, ok, h⟩
  refine bb_cons <| ss_if (et_M (et_bool <| ew_orM (et_not <| et_val <| ee_isTup ck <| ee_var 0 rfl <| ⟨_, rfl, ⟨rfl, rfl⟩⟩) (fun _ => ew_orM (et_cmp <| ee_len ck <| ea_cons <| ee_var 0 rfl <| ea_nil <| ee_int <| br_ne ck <| ⟨rfl, rfl⟩) (fun _ => ew_one <| et_not <| et_val <| ee_call ⟨_, hr, g_is_within⟩ <| ea_cons <| ee_ix <| ee_var 0 rfl <| ee_int <| ⟨_, rfl, ea_cons <| ee_int <| ea_cons <| ee_int <| ea_nil <| ⟨_, _, _, rfl, ⟨_, rfl, ⟨rfl, rfl⟩⟩⟩⟩)))
     (ite2 (fun c => absurd c ?_)
     (fun c =>
    bb_nil <| bb_one <| ss_ret <| ee_M (ee_andM (ee_call ⟨_, hr, g_is_within⟩ <| ea_cons <| ee_ix <| ee_var 0 rfl <| ee_int <| ⟨_, rfl, ea_cons <| ee_int <| ea_cons <| ee_int <| ea_nil <| ⟨_, _, _, rfl, ⟨rfl, rfl⟩⟩⟩) (fun _ => ee_andM (ee_call ⟨_, hr, g_is_within⟩ <| ea_cons <| ee_ix <| ee_var 0 rfl <| ee_int <| ⟨_, rfl, ea_cons <| ee_int <| ea_cons <| ee_int <| ea_nil <| ⟨_, _, _, rfl, ⟨rfl, rfl⟩⟩⟩) (fun _ => ee_one <| ee_call ⟨_, hr, g_is_within⟩ <| ea_cons <| ee_ix <| ee_var 0 rfl <| ee_int <| ⟨_, rfl, ea_cons <| ee_int <| ea_cons <| ee_int <| ea_nil <| ⟨_, _, _, rfl, ⟨rfl, rfl⟩⟩⟩))) <| ?_)))
  · rw [isIn_int ok.s1 ok.s2]; exact Bool.false_ne_true
  · exact fin (q := q) h (by rw [isIn_int ok.w1 ok.w2, isIn_int ok.a1 ok.a2, isIn_int ok.m1 ok.m2]; rfl)
def S_is_leaving : DSpec := fun ds k => ∃ (F : Fy) (l : Int) (p : Int × Int), ds = [dF F, .int l, dLv p] ∧ (0 ≤ p.1 ∧ p.1 ≤ l) ∧ (1 ≤ p.2 ∧ p.2 ≤ F.s) ∧ k (.bool true)
theorem sc_is_leaving : FnScope ["ferry", "last", "thing"] ["ferry", "last", "thing"] (defScope s_is_leaving) := ⟨rfl, rfl, rfl, by decide +kernel, rfl, by decide +kernel, by decide +kernel⟩
theorem ok_is_leaving {f : Addr} {fd : FuncData} {k : Nat} (F : Fun K "is_leaving" "is_leaving" s_is_leaving f fd) (T : GT mg) (g_is_within : Kn P w K mg base k "is_within" ["thing", "low", "high"] (spD S_is_within)) :
    FnOk P w K mg base CX0 (k + 1) f fd ["ferry", "last", "thing"] (spD S_is_leaving) := by
  refine fn_D F sc_is_leaving T.b (fun ds q ⟨_, _, _, e, _⟩ => by rw [e]; rfl) ?_
  rintro cdv A outer s H E _ q hr ck ⟨Y, l, p, rfl, ⟨h1, h2⟩, ⟨h3, h4⟩, h⟩
  refine bb_cons <| ss_if (et_M (et_bool <| ew_orM (et_not <| et_val <| ee_isTup ck <| ee_var 2 rfl <| ⟨_, rfl, ⟨rfl, rfl⟩⟩) (fun _ => ew_one <| et_cmp <| ee_len ck <| ea_cons <| ee_var 2 rfl <| ea_nil <| ee_int <| br_ne ck <| ⟨rfl, rfl⟩))
     (ifF rfl <|
    bb_nil <| bb_one <| ss_ret <| ee_M (ee_andM (ee_call ⟨_, hr, g_is_within⟩ <| ea_cons <| ee_ix <| ee_var 2 rfl <| ee_int <| ⟨_, rfl, ea_cons <| ee_int <| ea_cons <| ee_var 1 rfl <| ea_nil <| ⟨_, _, _, rfl, ⟨rfl, rfl⟩⟩⟩) (fun _ => ee_one <| ee_call ⟨_, hr, g_is_within⟩ <| ea_cons <| ee_ix <| ee_var 2 rfl <| ee_int <| ⟨_, rfl, ea_cons <| ee_int <| ea_cons <| ee_ix <| ee_var 0 rfl <| ee_int <| ⟨_, rfl, ea_nil <| ⟨_, _, _, rfl, ⟨rfl, rfl⟩⟩⟩⟩)) <| ?_))
  exact fin (q := q) h (by rw [isIn_int h1 h2, isIn_int h3 h4]; rfl)
def S_is_book_of : DSpec := fun ds k => ∃ (F : Fy) (l : Int) (ls : Lvs), ds = [dF F, dB l ls] ∧ BkOk F l ls ∧ k (.bool true)
theorem sc_is_book_of : FnScope ["ferry", "thing", "last", "leavings", "one", "other"] ["ferry", "thing"] (defScope s_is_book_of) := ⟨rfl, rfl, rfl, by decide +kernel, rfl, by decide +kernel, by decide +kernel⟩
theorem all_tm {α : Type} (l : List α) : ∃ bs : List Bool, [PyData.list (l.map fun _ => PyData.bool true)] = [PyData.list (bs.map PyData.bool)] ∧ bs.all id = true :=
  ⟨l.map fun _ => true, by rw [List.map_map]; rfl, by simp⟩
theorem ok_is_book_of {f : Addr} {fd : FuncData} {k : Nat} (F : Fun K "is_book_of" "is_book_of" s_is_book_of f fd) (T : GT mg) (g_is_within : Kn P w K mg base k "is_within" ["thing", "low", "high"] (spD S_is_within)) (g_is_leaving : Kn P w K mg base k "is_leaving" ["ferry", "last", "thing"] (spD S_is_leaving)) :
    FnOk P w K mg base CX0 (k + 1) f fd ["ferry", "thing"] (spD S_is_book_of) := by
  refine fn_D F sc_is_book_of T.b (fun ds q ⟨_, _, _, e, _⟩ => by rw [e]; rfl) ?_
  rintro cdv A outer s H E _ q hr ck ⟨Y, l, ls, rfl, ok, h⟩
  obtain ⟨t1, T1⟩ := T.ml
  obtain ⟨t2, T2⟩ := T.mv
  have n10 : (ls.map dLv).length ≤ 10 := by rw [List.length_map]; exact ok.n
  refine bb_cons <| ss_if (et_M (et_bool <| ew_orM (et_not <| et_val <| ee_isTup ck <| ee_var 1 rfl <| ⟨_, rfl, ⟨rfl, rfl⟩⟩) (fun _ => ew_orM (et_cmp <| ee_len ck <| ea_cons <| ee_var 1 rfl <| ea_nil <| ee_int <| br_ne ck <| ⟨rfl, rfl⟩) (fun _ => ew_one <| et_not <| et_val <| ee_call ⟨_, hr, g_is_within⟩ <| ea_cons <| ee_ix <| ee_var 1 rfl <| ee_int <| ⟨_, rfl, ea_cons <| ee_int <| ea_cons <| ee_globI T1 <| ea_nil <| ⟨_, _, _, rfl, ⟨_, rfl, ⟨rfl, rfl⟩⟩⟩⟩)))
     (ite2 (fun c => absurd c ?_)
     (fun c =>
    bb_nil <| bb_cons <| ss_asg <| ee_var 1 rfl <| gg_tup ck <| ggs_cons <| gg_name 2 ck <| ggs_cons <| gg_name 3 ck <| ggs_nil <| 
    bb_cons <| ss_if (et_M (et_bool <| ew_orM (et_not <| et_val <| ee_isTup ck <| ee_var 3 rfl <| ⟨_, rfl, ⟨rfl, rfl⟩⟩) (fun _ => ew_one <| et_cmp <| ee_len ck <| ea_cons <| ee_var 3 rfl <| ea_nil <| ee_globI T2 <| br_gt <| ⟨rfl, rfl⟩))
     (ite2 (fun c => absurd c ?_)
     (fun c =>
    bb_nil <| bb_cons <| ss_if (et_not <| et_val <| ee_all ck <| ea_cons <| ee_lc [("one", 4)] ck (blkOk_by rfl) <| ii_tup <| ee_var 3 rfl <| ⟨_, rfl, lcK_map (fun _ => .bool true) (by omega) [4] (fun j hj => hj) (fun d hd _ _ _ _ _ => gg_name 4 ck.blk <| fun _ _ _ _ _ => ?_) <| ea_nil <| let ⟨bs, e1, e2⟩ := all_tm (ls.map dLv); ⟨bs, e1, ⟨true, congrArg PyData.bool e2, ifF rfl <|
    bb_nil <| bb_one <| ss_ret <| ee_all ck <| ea_cons <| ee_lc [("one", 4), ("other", 5)] ck (blkOk_by rfl) <| ii_zip2T ck <| ea_cons <| ee_var 3 rfl <| ea_cons <| ee_sl <| ee_var 3 rfl <| ee_int <| ⟨_, rfl, ea_nil <| ⟨_, _, rfl, lcK_map (fun _ => .bool true) ?_ [4, 5] (fun j hj => hj) (fun d hd _ _ _ _ _ => ?_) <| ea_nil <| let ⟨bs, e1, e2⟩ := all_tm (zipD (ls.map dLv) (DL.cutD (ls.map dLv) (some 1) none)); ⟨bs, e1, fin (q := q) h (congrArg PyData.bool e2)⟩⟩⟩⟩⟩⟩)))))))
  · rw [isIn_int ok.l0 ok.l1]; exact Bool.false_ne_true
  · intro z
    have := of_decide_eq_true (show decide ((10 : Int) < ((ls.map dLv).length : Int)) = true from z)
    omega
  · obtain ⟨p, hp, rfl⟩ := List.mem_map.mp hd
    exact ee_call ⟨_, hr, g_is_leaving⟩ <| ea_cons <| ee_var 0 rfl <| ea_cons <| ee_var 2 rfl <| ea_cons <| ee_var 4 rfl <| ea_nil <| ⟨_, _, p, rfl, ok.tk p hp, ok.ld p hp, rfl⟩
  · have : (zipD (ls.map dLv) (DL.cutD (ls.map dLv) (some 1) none)).length ≤ (ls.map dLv).length := by unfold zipD; rw [List.length_zipWith]; exact Nat.min_le_left _ _
    omega
  · obtain ⟨i, hi⟩ := List.mem_iff_getElem?.mp hd
    obtain ⟨x, y, hx, hy, rfl⟩ := zipD_get hi
    have hy2 : (ls.map dLv)[i + 1]? = some y := by
      have e0 : DL.cutD (ls.map dLv) (some 1) none = ((ls.map dLv).drop (min 1 (ls.map dLv).length)).take ((ls.map dLv).length - min 1 (ls.map dLv).length) := by
        unfold DL.cutD
        rw [show (some (1 : Int)) = some ((1 : Nat) : Int) from rfl, HT.sIx_nat, HT.sIx_none]
      rw [e0] at hy
      have lt := (List.getElem?_eq_some_iff.mp hx).1
      have e1 : min 1 (ls.map dLv).length = 1 := by omega
      rw [e1, List.getElem?_take] at hy
      by_cases hh : i < (ls.map dLv).length - 1
      · rw [if_pos hh, List.getElem?_drop, Nat.add_comm] at hy
        exact hy
      · rw [if_neg hh] at hy
        cases hy
    rw [List.getElem?_map] at hx hy2
    cases e1 : ls[i]? with
    | none => rw [e1] at hx; cases hx
    | some p =>
      cases e2 : ls[i + 1]? with
      | none => rw [e2] at hy2; cases hy2
      | some p2 =>
        rw [e1] at hx
        rw [e2] at hy2
        cases hx
        cases hy2
        have lt : p.1 < p2.1 := by
          have := List.pairwise_iff_getElem.mp ok.up i (i + 1) (by have := (List.getElem?_eq_some_iff.mp e1).1; exact this) (by have := (List.getElem?_eq_some_iff.mp e2).1; exact this) (Nat.lt_succ_self i)
          rw [(List.getElem?_eq_some_iff.mp e1).2, (List.getElem?_eq_some_iff.mp e2).2] at this
          exact this
        exact gg_tup (js := [4, 5]) ck.blk <| ggs_cons (js := [4]) (ks := [5]) <| gg_name 4 ck.blk <| ggs_cons (js := [5]) (ks := []) <| gg_name 5 ck.blk <| ggs_nil <| fun _ _ _ _ _ => ee_cmp <| ee_ix <| ee_var 4 rfl <| ee_int <| ⟨_, rfl, ee_ix <| ee_var 5 rfl <| ee_int <| ⟨_, rfl, br_lt <| (congrArg PyData.bool (decide_eq_true lt)).symm⟩⟩
def S_look_at_ferry : DSpec := fun ds k => ∃ F : Fy, ds = [dF F] ∧ F.Ok ∧ k .none
theorem sc_look_at_ferry : FnScope ["ferry"] ["ferry"] (defScope s_look_at_ferry) := ⟨rfl, rfl, rfl, by decide +kernel, rfl, by decide +kernel, by decide +kernel⟩
theorem ok_look_at_ferry {f : Addr} {fd : FuncData} {k : Nat} (F : Fun K "look_at_ferry" "look_at_ferry" s_look_at_ferry f fd) (T : GT mg) (g_is_ferry : Kn P w K mg base k "is_ferry" ["thing"] (spD S_is_ferry)) :
    FnOk P w K mg base CX0 (k + 1) f fd ["ferry"] (spD S_look_at_ferry) := by
  refine fn_D F sc_look_at_ferry T.b (fun ds q ⟨_, e, _⟩ => by rw [e]; rfl) ?_
  rintro cdv A outer s H E _ q hr ck ⟨Y, rfl, ok, h⟩
  exact bb_one <| ss_if (et_not <| et_val <| ee_call ⟨_, hr, g_is_ferry⟩ <| ea_cons <| ee_var 0 rfl <| ea_nil <| ⟨Y, rfl, ok, ⟨_, rfl, ifF rfl <| bb_nil h⟩⟩)
def S_look_at : DSpec := fun ds k => ∃ (F : Fy) (l : Int) (ls : Lvs), ds = [dF F, dB l ls] ∧ F.Ok ∧ BkOk F l ls ∧ k .none
theorem sc_look_at : FnScope ["ferry", "book"] ["ferry", "book"] (defScope s_look_at) := ⟨rfl, rfl, rfl, by decide +kernel, rfl, by decide +kernel, by decide +kernel⟩
theorem ok_look_at {f : Addr} {fd : FuncData} {k : Nat} (F : Fun K "look_at" "look_at" s_look_at f fd) (T : GT mg) (g_look_at_ferry : Kn P w K mg base k "look_at_ferry" ["ferry"] (spD S_look_at_ferry)) (g_is_book_of : Kn P w K mg base k "is_book_of" ["ferry", "thing"] (spD S_is_book_of)) :
    FnOk P w K mg base CX0 (k + 1) f fd ["ferry", "book"] (spD S_look_at) := by
  refine fn_D F sc_look_at T.b (fun ds q ⟨_, _, _, e, _⟩ => by rw [e]; rfl) ?_
  rintro cdv A outer s H E _ q hr ck ⟨Y, l, ls, rfl, okF, ok, h⟩
  exact bb_cons <| ss_expr <| ee_call ⟨_, hr, g_look_at_ferry⟩ <| ea_cons <| ee_var 0 rfl <| ea_nil <| ⟨Y, rfl, okF, bb_one <| ss_if (et_not <| et_val <| ee_call ⟨_, hr, g_is_book_of⟩ <| ea_cons <| ee_var 0 rfl <| ea_cons <| ee_var 1 rfl <| ea_nil <| ⟨Y, l, ls, rfl, ok, ⟨_, rfl, ifF rfl <| bb_nil h⟩⟩)⟩
end
end FB

namespace FB
open PySem PySem.Spec PyProof.Rows L2 DL FM
/-! ### Bounds -/
abbrev iL (l : List Int) : List PyData := l.map PyData.int
theorem setFd_same {f : Str} {d : Fd} : ∀ {fs : List (Str × Fd)}, fs.lookup f = some d → setFd f d fs = fs
  | [], e => by simp at e
  | (n, x) :: r, e => by
    rw [List.lookup_cons] at e
    unfold setFd
    by_cases z : n = f
    · subst z
      rw [beq_self_eq_true] at e; cases e
      rw [if_pos rfl]
    · rw [show (f == n) = false from beq_eq_false_iff_ne.mpr (Ne.symm z)] at e
      rw [if_neg z, setFd_same e]
theorem ixN_nat {n : Nat} {t : Int} (h0 : 0 ≤ t) (h1 : t.toNat < n) : ixN n t = some t.toNat := by
  unfold ixN
  rw [if_pos h0, if_pos (by omega)]
theorem atI_nat {α : Type} {l : List α} {t : Int} {d : α} (h0 : 0 ≤ t) (h1 : l[t.toNat]? = some d) : atI l t = some d := by
  unfold atI
  rw [ixN_nat h0 (by have := (List.getElem?_eq_some_iff.mp h1).1; exact this)]
  exact h1
theorem iL_get {l : List Int} {n : Nat} (h : n < l.length) : (iL l)[n]? = some (.int (l.getD n 0)) := by
  rw [List.getElem?_map, List.getD_eq_getElem?_getD, List.getElem?_eq_getElem h]
  rfl
theorem iL_set (l : List Int) (n : Nat) (v : Int) : (iL l).set n (.int v) = iL (l.set n v) := (List.map_set).symm
abbrev bNs : List Str := ["ferry", "last", "leavings", "least", "most", "good", "gone"]
abbrev fsB (F : Fy) (last : Int) (ls : Lvs) (la ma : Addr) (b : BS) : List (Str × Fd) :=
  [("ferry", .dat (dF F)), ("last", .dat (.int last)), ("leavings", .dat (dLs ls)), ("least", .own la (iL b.L)), ("most", .own ma (iL b.U)), ("good", .dat (.bool b.good))]
abbrev fsG (F : Fy) (last : Int) (ls : Lvs) (la ma : Addr) (b : BS) (g : Int) : List (Str × Fd) :=
  [("ferry", .dat (dF F)), ("last", .dat (.int last)), ("leavings", .dat (dLs ls)), ("least", .own la (iL b.L)), ("most", .own ma (iL b.U)), ("good", .dat (.bool b.good)), ("gone", .dat (.int g))]
theorem bb_fs {X : Cx} {ρ : List Sl} {r : List Stmt} {D : DE} {i : Nat} {p C : Addr} {fs fs' : List (Str × Fd)} (e : fs = fs') (h : BB X (ρ.set i (.bo p C fs')) r D) : BB X (ρ.set i (.bo p C fs)) r D := by rw [e]; exact h
section
variable {P : Program} {w : World} {K : PySem.W.Frag} {mg : Str → Option Value} {base : Heap} {C : Addr}
def S_at_least : SpecM := fun fs ds k => ∃ a L t v, fs.lookup ("least" : Str) = some (Fd.own a (iL L)) ∧ ds = [.int t, .int v] ∧ 0 ≤ t ∧ t.toNat < L.length ∧ k .none (setFd "least" (.own a (iL (upL L t v))) fs)
theorem sc_at_least : FnScope ["self", "tick", "many"] ["self", "tick", "many"] (defScope s_Bounds_at_least) := ⟨rfl, rfl, rfl, by decide +kernel, rfl, by decide +kernel, by decide +kernel⟩
theorem ok_at_least {f : Addr} {fd : FuncData} {k : Nat} (F : Fun K "at_least" "Bounds.at_least" s_Bounds_at_least f fd) (T : GT mg) (B : CB K C bNs) :
    FnOk P w K mg base CX0 (k + 1) f fd ["self", "tick", "many"] (spM C S_at_least) := by
  refine fn_M F sc_at_least T.b (fun fs ds q ⟨_, _, _, _, _, e, _⟩ => by rw [e]; rfl) ?_
  rintro cdv A outer s H E p fs _ q hr ck ⟨a, L, t, v, hl, rfl, h0, h1, h⟩
  have na := B.na "least" (by simp)
  refine bb_one <| ss_oIx (a := a) 0 B.cls na (ee_max ck <| ea_cons <| ee_oIx 0 rfl B.cls na hl <| ee_var 1 rfl <| ⟨t, _, fs, _, rfl, rfl, hl, atI_nat h0 (iL_get h1), ea_cons <| ee_var 2 rfl <| ea_nil <| ⟨fs, _, rfl, hl, ee_var 1 rfl ⟨t, _, fs, _, rfl, rfl, hl, ixN_nat h0 (by rw [List.length_map]; exact h1), ⟨_, rfl, ?_⟩⟩⟩⟩)
  rw [iL_set]
  exact h
def S_at_most : SpecM := fun fs ds k => ∃ a U t v, fs.lookup ("most" : Str) = some (Fd.own a (iL U)) ∧ ds = [.int t, .int v] ∧ t.toNat < U.length ∧ k .none (setFd "most" (.own a (iL (upU U t v))) fs)
theorem sc_at_most : FnScope ["self", "tick", "many"] ["self", "tick", "many"] (defScope s_Bounds_at_most) := ⟨rfl, rfl, rfl, by decide +kernel, rfl, by decide +kernel, by decide +kernel⟩
theorem ok_at_most {f : Addr} {fd : FuncData} {k : Nat} (F : Fun K "at_most" "Bounds.at_most" s_Bounds_at_most f fd) (T : GT mg) (B : CB K C bNs) :
    FnOk P w K mg base CX0 (k + 1) f fd ["self", "tick", "many"] (spM C S_at_most) := by
  refine fn_M F sc_at_most T.b (fun fs ds q ⟨_, _, _, _, _, e, _⟩ => by rw [e]; rfl) ?_
  rintro cdv A outer s H E p fs _ q hr ck ⟨a, U, t, v, hl, rfl, h1, h⟩
  have na := B.na "most" (by simp)
  refine bb_one <| ss_if (et_M (et_cmp <| ee_var 1 rfl <| ee_int <| br_ge <| ⟨rfl, rfl⟩)
     (ite2 (fun c =>
    bb_one <| ss_oIx (a := a) 0 B.cls na (ee_min ck <| ea_cons <| ee_oIx 0 rfl B.cls na hl <| ee_var 1 rfl <| ⟨t, _, fs, _, rfl, rfl, hl, atI_nat (of_decide_eq_true c) (iL_get h1), ea_cons <| ee_var 2 rfl <| ea_nil <| ⟨fs, _, rfl, hl, ee_var 1 rfl ⟨t, _, fs, _, rfl, rfl, hl, ixN_nat (of_decide_eq_true c) (by rw [List.length_map]; exact h1), ⟨_, rfl, ?_⟩⟩⟩⟩))
     (fun c =>
    bb_nil <| ⟨fs, rfl, ?_⟩)))
  · rw [iL_set]
    unfold upU at h
    rw [if_pos (of_decide_eq_true c)] at h
    exact h
  · unfold upU at h
    rw [if_neg (fun z => c (decide_eq_true z)), setFd_same hl] at h
    exact h

def S_leaving : SpecM := fun fs ds k => ∃ F last ls la ma b home gone tick load, fs = fsB F last ls la ma b ∧ ds = [.int home, .int gone, .int tick, .int load] ∧ (0 ≤ tick ∧ tick.toNat < b.L.length ∧ b.U.length = b.L.length ∧ 0 ≤ home ∧ 1 ≤ F.w) ∧ k .none (fsB F last ls la ma (leave F b home gone tick load))
theorem sc_leaving : FnScope ["self", "home", "gone", "tick", "load", "first", "seats", "waits", "away", "most"] ["self", "home", "gone", "tick", "load"] (defScope s_Bounds_leaving) := ⟨rfl, rfl, rfl, by decide +kernel, rfl, by decide +kernel, by decide +kernel⟩
theorem dI_if {c : Prop} [Decidable c] {x y : Int} (h : c) : PyData.int x = .int (if c then x else y) := congrArg PyData.int (if_pos h).symm
theorem dI_ifn {c : Prop} [Decidable c] {x y : Int} (h : ¬ c) : PyData.int y = .int (if c then x else y) := congrArg PyData.int (if_neg h).symm
theorem lk_least {F : Fy} {last : Int} {ls : Lvs} {la ma : Addr} {b : BS} : (fsB F last ls la ma b).lookup ("least" : Str) = some (Fd.own la (iL b.L)) := rfl
theorem lk_most {F : Fy} {last : Int} {ls : Lvs} {la ma : Addr} {b : BS} : (fsB F last ls la ma b).lookup ("most" : Str) = some (Fd.own ma (iL b.U)) := rfl
theorem st_least {F : Fy} {last : Int} {ls : Lvs} {la ma : Addr} {b : BS} {L : List Int} : setFd "least" (.own la (iL L)) (fsB F last ls la ma b) = fsB F last ls la ma ⟨L, b.U, b.good⟩ := by kernel_rfl
theorem st_most {F : Fy} {last : Int} {ls : Lvs} {la ma : Addr} {b : BS} {U : List Int} : setFd "most" (.own ma (iL U)) (fsB F last ls la ma b) = fsB F last ls la ma ⟨b.L, U, b.good⟩ := by kernel_rfl
theorem st_good {F : Fy} {last : Int} {ls : Lvs} {la ma : Addr} {b : BS} {g : Bool} : setFd "good" (.dat (.bool g)) (fsB F last ls la ma b) = fsB F last ls la ma ⟨b.L, b.U, g⟩ := by kernel_rfl
def KnM (P : Program) (w : World) (K : PySem.W.Frag) (mg : Str → Option Value) (base : Heap) (k : Nat) (C : Addr) (m : Str) (ps : List Str) (sp : Sp) : Prop :=
  ∃ (f : Addr) (fd : FuncData), FnOk P w K mg base CX0 k f fd ps sp ∧ Meth K C m f ∧ Binds K fd ps []
theorem KnM.cal {X : Cx} {k : Nat} {C : Addr} {m : Str} {ps : List Str} {sp : Sp} (hr : Room k X.A) (g : KnM X.prog X.w X.K X.mg X.base k C m ps sp) : CalM X C m ps sp := by
  obtain ⟨f, fd, a, b, c⟩ := g
  exact ⟨k, f, fd, hr, a, b, c⟩
theorem ok_leaving {f : Addr} {fd : FuncData} {k : Nat} (F : Fun K "leaving" "Bounds.leaving" s_Bounds_leaving f fd) (T : GT mg) (B : CB K C bNs) (g1 : KnM P w K mg base k C "at_least" ["self", "tick", "many"] (spM C S_at_least)) (g2 : KnM P w K mg base k C "at_most" ["self", "tick", "many"] (spM C S_at_most)) :
    FnOk P w K mg base CX0 (k + 1) f fd ["self", "home", "gone", "tick", "load"] (spM C S_leaving) := by
  refine fn_M F sc_leaving T.b (fun fs ds q ⟨_, _, _, _, _, _, _, _, _, _, _, e, _⟩ => by rw [e]; rfl) ?_
  rintro cdv A outer s H E p _ _ q hr ck ⟨Y, last, ls, la, ma, b, home, gone, tick, load, rfl, rfl, ⟨t0, t1, lU, h0, w1⟩, h⟩
  obtain ⟨te, Te⟩ := T.en
  have nf := B.na "ferry" (by simp)
  have ng := B.na "good" (by simp)
  have l1 : (upL b.L tick (gone + load)).length = b.L.length := upL_len _ _ _
  refine bb_cons <| ss_asg <| ee_oF 0 rfl B.cls nf rfl <| gg_tup ck <| ggs_cons <| gg_name 6 ck <| ggs_cons <| gg_name 7 ck <| ggs_cons <| gg_name 8 ck <| ggs_cons <| gg_name 9 ck <| ggs_nil <|
    bb_cons <| ss_set 5 ck <| ee_sub <| ee_var 3 rfl <| ee_var 7 rfl <|
    bb_cons <| ss_expr <| ee_meth 0 B.cls (KnM.cal hr g1) rfl rfl <| ea_cons <| ee_var 3 rfl <| ea_cons <| ee_add <| ee_var 2 rfl <| ee_var 4 rfl <| ea_nil <| ⟨_, rfl, la, b.L, tick, gone + load, lk_least, rfl, t0, t1, bb_fs (i := 0) st_least <|
    bb_one <| ss_if (et_M (et_cmp <| ee_var 3 rfl <| ee_var 1 rfl <| br_lt <| ⟨rfl, rfl⟩)
      (ite2 (fun c => bb_one <| ss_oF 0 B.cls ng (ee_bl ⟨_, rfl, (by show (6 : Nat) < 1000; decide), ⟨_, rfl, ?_⟩⟩))
       (fun c => bb_one <| ss_if (et_M (et_cmp <| ee_var 4 rfl <| ee_var 6 rfl <| br_lt <| ⟨rfl, rfl⟩)
        (ite2 (fun c1 => bb_cons <| ss_expr <| ee_meth 0 B.cls (KnM.cal hr g2) rfl rfl <| ea_cons <| ee_var 3 rfl <| ea_cons <| ee_add <| ee_var 2 rfl <| ee_var 4 rfl <| ea_nil <| ⟨_, rfl, ma, b.U, tick, gone + load, lk_most, rfl, by omega, bb_fs (i := 0) st_most <|
          bb_one <| ss_if (et_M (et_cmp <| ee_var 5 rfl <| ee_var 1 rfl <| br_lt <| ⟨rfl, rfl⟩)
          (ite2 (fun c2 => bb_one <| ss_oF 0 B.cls ng (ee_bl ⟨_, rfl, (by show (6 : Nat) < 1000; decide), ⟨_, rfl, ?_⟩⟩))
           (fun c2 => bb_cons <| ss_expr <| ee_meth 0 B.cls (KnM.cal hr g1) rfl rfl <| ea_cons <| ee_var 5 rfl <| ea_cons <| ee_add <| ee_var 2 rfl <| ee_int <| ea_nil <| ⟨_, rfl, la, _, tick - Y.w, gone + 1, lk_least, rfl, ?_, ?_, bb_fs (i := 0) st_least <|
            bb_one <| ss_expr <| ee_meth 0 B.cls (KnM.cal hr g2) rfl rfl <| ea_cons <| ee_sub <| ee_var 5 rfl <| ee_int <| ea_cons <| ee_M (d := .int (if home < tick - Y.w then gone else endless)) (ee_if (et_M (et_cmp <| ee_var 5 rfl <| ee_var 1 rfl <| br_gt <| ⟨rfl, rfl⟩) (ite2 (fun c3 => ee_var 2 rfl ⟨dI_if (of_decide_eq_true c3), rfl⟩) (fun c3 => ee_globI Te ⟨dI_ifn (fun z => c3 (decide_eq_true z)), rfl⟩)))) <| ea_nil <| ⟨_, rfl, ma, _, tick - Y.w - 1, _, lk_most, rfl, ?_, ⟨_, rfl, ?_⟩⟩⟩)))⟩)
         (fun c1 => bb_cons <| ss_expr <| ee_meth 0 B.cls (KnM.cal hr g2) rfl rfl <| ea_cons <| ee_sub <| ee_var 3 rfl <| ee_int <| ea_cons <| ee_M (d := .int (if home < tick then gone + Y.s - 1 else endless)) (ee_if (et_M (et_cmp <| ee_var 3 rfl <| ee_var 1 rfl <| br_gt <| ⟨rfl, rfl⟩) (ite2 (fun c3 => ee_sub <| ee_add <| ee_var 2 rfl <| ee_var 6 rfl <| ee_int ⟨dI_if (of_decide_eq_true c3), rfl⟩) (fun c3 => ee_globI Te ⟨dI_ifn (fun z => c3 (decide_eq_true z)), rfl⟩)))) <| ea_nil <| ⟨_, rfl, ma, _, tick - 1, _, lk_most, rfl, ?_, bb_fs (i := 0) st_most <|
          bb_one <| ss_expr <| ee_meth 0 B.cls (KnM.cal hr g2) rfl rfl <| ea_cons <| ee_sub <| ee_var 5 rfl <| ee_int <| ea_cons <| ee_M (d := .int (if home < tick - Y.w then gone else endless)) (ee_if (et_M (et_cmp <| ee_var 5 rfl <| ee_var 1 rfl <| br_gt <| ⟨rfl, rfl⟩) (ite2 (fun c3 => ee_var 2 rfl ⟨dI_if (of_decide_eq_true c3), rfl⟩) (fun c3 => ee_globI Te ⟨dI_ifn (fun z => c3 (decide_eq_true z)), rfl⟩)))) <| ea_nil <| ⟨_, rfl, ma, _, tick - Y.w - 1, _, lk_most, rfl, ?_, ⟨_, rfl, ?_⟩⟩⟩))))))⟩
  · have c' : tick < home := of_decide_eq_true c
    unfold leave at h
    rw [if_pos c'] at h
    rw [st_good]
    exact h
  · have c' : ¬ tick < home := fun z => c (decide_eq_true z)
    have c1' : load < Y.s := of_decide_eq_true c1
    have c2' : tick - Y.w < home := of_decide_eq_true c2
    unfold leave at h
    rw [if_neg c', if_pos c1', if_pos c2'] at h
    rw [st_good]
    exact h
  · have c2' : ¬ tick - Y.w < home := fun z => c2 (decide_eq_true z)
    omega
  · show (tick - Y.w).toNat < (upL b.L tick (gone + load)).length
    rw [l1]; omega
  · show (tick - Y.w - 1).toNat < (upU b.U tick (gone + load)).length
    rw [upU_len]; omega
  · have c' : ¬ tick < home := fun z => c (decide_eq_true z)
    have c1' : load < Y.s := of_decide_eq_true c1
    have c2' : ¬ tick - Y.w < home := fun z => c2 (decide_eq_true z)
    unfold leave at h
    rw [if_neg c', if_pos c1', if_neg c2'] at h
    rw [st_most]
    exact h
  · show (tick - 1).toNat < b.U.length
    omega
  · show (tick - Y.w - 1).toNat < (upU b.U _ _).length
    rw [upU_len]; omega
  · have c' : ¬ tick < home := fun z => c (decide_eq_true z)
    have c1' : ¬ load < Y.s := fun z => c1 (decide_eq_true z)
    unfold leave at h
    rw [if_neg c', if_neg c1'] at h
    rw [st_most]
    exact h
end
end FB

namespace FB
open PySem PySem.Spec PyProof.Rows L2 DL FM
section
variable {P : Program} {w : World} {K : PySem.W.Frag} {mg : Str → Option Value} {base : Heap} {C : Addr}
def S_init : SpecM := fun fs ds k => ∃ F last ls, fs = [] ∧ ds = [dF F, dB last ls] ∧ F.Ok ∧ BkOk F last ls ∧ ∀ la ma, k .none (fsG F last ls la ma (bounds F last ls) (goneOf ls))
theorem sc_init : FnScope ["self", "ferry", "book", "home", "gone", "tick", "load"] ["self", "ferry", "book"] (defScope s_Bounds___init__) := ⟨rfl, rfl, rfl, by decide +kernel, rfl, by decide +kernel, by decide +kernel⟩
/-- .. after the first i leavings -/
def lvI (F : Fy) (last : Int) (ls : Lvs) (i : Nat) : BS × Int × Int := leaves F (bs0 last) 0 0 (ls.take i)
theorem leaves_app (F : Fy) : ∀ (xs ys : Lvs) (b : BS) (h g : Int), leaves F b h g (xs ++ ys) = leaves F (leaves F b h g xs).1 (leaves F b h g xs).2.1 (leaves F b h g xs).2.2 ys
  | [], _, _, _, _ => rfl
  | x :: xs, ys, b, h, g => leaves_app F xs ys _ _ _
theorem lvI_succ {F : Fy} {last : Int} {ls : Lvs} {i : Nat} {p : Int × Int} (h : ls[i]? = some p) : lvI F last ls (i + 1) = (leave F (lvI F last ls i).1 (lvI F last ls i).2.1 (lvI F last ls i).2.2 p.1 p.2, p.1 + F.a, (lvI F last ls i).2.2 + p.2) := by
  unfold lvI
  rw [List.take_succ, h, leaves_app]
  rfl
theorem leaves_home {F : Fy} (a1 : 1 ≤ F.a) : ∀ (ls : Lvs) (b : BS) (h g : Int), 0 ≤ h → (∀ p ∈ ls, 0 ≤ p.1) → 0 ≤ (leaves F b h g ls).2.1
  | [], _, _, _, h0, _ => h0
  | p :: r, b, h, g, h0, hp => leaves_home a1 r _ _ _ (by have := hp p (.head _); omega) fun q hq => hp q (.tail _ hq)
theorem leaves_gone (F : Fy) : ∀ (ls : Lvs) (b : BS) (h g : Int), (leaves F b h g ls).2.2 = g + goneOf ls
  | [], _, _, g => by show g = g + 0; omega
  | p :: r, b, h, g => by
    show (leaves F _ _ _ r).2.2 = g + (p.2 + goneOf r)
    rw [leaves_gone F r]; omega
theorem st_mostG {F : Fy} {last : Int} {ls : Lvs} {la ma : Addr} {b : BS} {g : Int} {U : List Int} : setFd "most" (.own ma (iL U)) (fsG F last ls la ma b g) = fsG F last ls la ma ⟨b.L, U, b.good⟩ g := by kernel_rfl
theorem ok_init {f : Addr} {fd : FuncData} {k : Nat} (F : Fun K "__init__" "Bounds.__init__" s_Bounds___init__ f fd) (T : GT mg) (B : CB K C bNs) (g1 : KnM P w K mg base k C "leaving" ["self", "home", "gone", "tick", "load"] (spM C S_leaving)) (g2 : KnM P w K mg base k C "at_most" ["self", "tick", "many"] (spM C S_at_most)) :
    FnOk P w K mg base CX0 (k + 1) f fd ["self", "ferry", "book"] (spM C S_init) := by
  refine fn_M F sc_init T.b (fun fs ds q ⟨_, _, _, _, e, _⟩ => by rw [e]; rfl) ?_
  rintro cdv A outer s H E p _ _ q hr ck ⟨Y, last, ls, rfl, rfl, okF, ok, h⟩
  obtain ⟨te, Te⟩ := T.en
  have nf := B.na "ferry" (by simp)
  have nl := B.na "last" (by simp)
  have nv := B.na "leavings" (by simp)
  have n1 := B.na "least" (by simp)
  have n2 := B.na "most" (by simp)
  have ng := B.na "good" (by simp)
  have no := B.na "gone" (by simp)
  have l0 := ok.l0
  have l1 := ok.l1
  refine bb_cons <| ss_oF 0 B.cls nf (ee_var 1 rfl ⟨_, rfl, by decide, bb_fs (i := 0) (fs' := [("ferry", .dat (dF Y))]) rfl <|
    bb_cons <| ss_oF2 0 ck B.cls nl nv (ee_var 2 rfl ⟨_, _, _, rfl, rfl, (by show (1 : Nat) < 900; decide), bb_fs (i := 0) (fs' := [("ferry", .dat (dF Y)), ("last", .dat (.int last)), ("leavings", .dat (dLs ls))]) (by kernel_rfl) <|
    bb_cons <| ss_oRep 0 B.cls n1 (ee_int <| ee_add <| ee_oF 0 rfl B.cls nl rfl <| ee_int ⟨last + 1, _, rfl, by omega, rfl, (by show (3 : Nat) < 1000; decide), fun la => bb_fs (i := 0) (fs' := [("ferry", .dat (dF Y)), ("last", .dat (.int last)), ("leavings", .dat (dLs ls)), ("least", .own la (iL (bs0 last).L))]) ?_ <|
    bb_cons <| ss_oRep 0 B.cls n2 (ee_globI Te <| ee_add <| ee_oF 0 rfl B.cls nl rfl <| ee_int ⟨last + 1, _, rfl, by omega, rfl, (by show (4 : Nat) < 1000; decide), fun ma => bb_fs (i := 0) (fs' := [("ferry", .dat (dF Y)), ("last", .dat (.int last)), ("leavings", .dat (dLs ls)), ("least", .own la (iL (bs0 last).L)), ("most", .own ma (iL (bs0 last).U))]) ?_ <|
    bb_cons <| ss_oF 0 B.cls ng (ee_bl ⟨_, rfl, (by show (5 : Nat) < 1000; decide), bb_fs (i := 0) (fs' := fsB Y last ls la ma (bs0 last)) (by kernel_rfl) <|
    bb_cons <| ss_asg <| ee_tup <| ea_cons <| ee_int <| ea_cons <| ee_int <| ea_nil <| ⟨by decide, gg_tup ck <| ggs_cons <| gg_name 3 ck <| ggs_cons <| gg_name 4 ck <| ggs_nil <|
    bb_cons <| ss_for ck <| ii_tup <| ee_oF 0 rfl B.cls nv rfl <| ⟨_, rfl, fun i ρ => ∃ s5 s6, ρ = [.bo p C (fsB Y last ls la ma (lvI Y last ls i).1), .dat (dF Y), .dat (dB last ls), .dat (.int (lvI Y last ls i).2.1), .dat (.int (lvI Y last ls i).2.2), s5, s6] ∧ s5.ad = [] ∧ s6.ad = [], ⟨_, _, rfl, rfl, rfl⟩, ?_, ?_⟩⟩⟩)⟩)⟩)⟩)⟩)
  · rw [show iL (bs0 last).L = List.replicate (last + 1).toNat (.int 0) from List.map_replicate]
    kernel_rfl
  · rw [show iL (bs0 last).U = List.replicate (last + 1).toNat (.int 1000000) from List.map_replicate]
    kernel_rfl
  · rintro i d ρ hd ⟨s5, s6, rfl, e5, e6⟩
    rw [List.getElem?_map] at hd
    cases hp : ls[i]? with
    | none => rw [hp] at hd; cases hd
    | some pr =>
    rw [hp] at hd
    cases hd
    have mem : pr ∈ ls := List.mem_of_getElem? hp
    obtain ⟨k0, k1⟩ := ok.tk pr mem
    have hL : (lvI Y last ls i).1.L.length = (last + 1).toNat := (leaves_lenL Y _ _ _ _).trans List.length_replicate
    have hU : (lvI Y last ls i).1.U.length = (last + 1).toNat := (leaves_lenU Y _ _ _ _).trans List.length_replicate
    have hh : 0 ≤ (lvI Y last ls i).2.1 := leaves_home okF.a1 _ _ _ _ (Int.le_refl 0) fun q hq => (ok.tk q (List.mem_of_mem_take hq)).1
    refine ⟨_, gg_tup ck <| ggs_cons <| gg_name 5 ck <| ggs_cons <| gg_name 6 ck <| ggs_nil <|
      bb_cons <| ss_expr <| ee_meth 0 B.cls (KnM.cal hr g1) rfl rfl <| ea_cons <| ee_var 3 rfl <| ea_cons <| ee_var 4 rfl <| ea_cons <| ee_var 5 rfl <| ea_cons <| ee_var 6 rfl <| ea_nil <| ⟨_, rfl, Y, last, ls, la, ma, _, _, _, pr.1, pr.2, rfl, rfl, ⟨k0, by rw [hL]; omega, hU.trans hL.symm, hh, okF.w1⟩,
      bb_one <| ss_par (i := 3) (j := 4) ck <| ea_cons <| ee_add <| ee_var 5 rfl <| ee_ix <| ee_var 1 rfl <| ee_int <| ⟨_, rfl, ea_cons <| ee_add <| ee_var 4 rfl <| ee_var 6 rfl <| ea_nil <| ⟨_, _, rfl, .dat (.int pr.1), .dat (.int pr.2), ?_, rfl, rfl⟩⟩⟩⟩
    rw [lvI_succ hp]
    rfl
  · rintro ρ ⟨s5, s6, rfl, e5, e6⟩
    have eT : lvI Y last ls (ls.map dLv).length = leaves Y (bs0 last) 0 0 ls := by unfold lvI; rw [List.length_map, List.take_length]
    rw [eT]
    have eg : (leaves Y (bs0 last) 0 0 ls).2.2 = goneOf ls := (leaves_gone Y ls _ _ _).trans (Int.zero_add _)
    have hL : (leaves Y (bs0 last) 0 0 ls).1.L.length = (last + 1).toNat := (leaves_lenL Y _ _ _ _).trans List.length_replicate
    have hU : (leaves Y (bs0 last) 0 0 ls).1.U.length = (last + 1).toNat := (leaves_lenU Y _ _ _ _).trans List.length_replicate
    have w1 := okF.w1
    have hq := h la ma
    unfold bounds close at hq
    rw [eg] at hq ⊢
    refine bb_cons <| ss_oF 0 B.cls no (ee_var 4 rfl ⟨_, rfl, (by show (6 : Nat) < 1000; decide), bb_fs (i := 0) (fs' := fsG Y last ls la ma (leaves Y (bs0 last) 0 0 ls).1 (goneOf ls)) (by kernel_rfl) <|
      bb_one <| ss_if (et_M (et_cmp <| ee_var 3 rfl <| ee_oF 0 rfl B.cls nl rfl <| br_le <| ⟨rfl, rfl⟩)
      (ite2 (fun c => bb_cons <| ss_expr <| ee_meth 0 B.cls (KnM.cal hr g2) rfl rfl <| ea_cons <| ee_oF 0 rfl B.cls nl rfl <| ea_cons <| ee_sub <| ee_add <| ee_var 4 rfl <| ee_ix <| ee_var 1 rfl <| ee_int <| ⟨_, rfl, ee_int <| ea_nil <| ⟨_, rfl, ma, (leaves Y (bs0 last) 0 0 ls).1.U, last, _, rfl, rfl, ?_, bb_fs (i := 0) st_mostG <|
        bb_one <| ss_expr <| ee_meth 0 B.cls (KnM.cal hr g2) rfl rfl <| ea_cons <| ee_sub <| ee_oF 0 rfl B.cls nl rfl <| ee_ix <| ee_var 1 rfl <| ee_int <| ⟨_, rfl, ea_cons <| ee_M (d := .int (if (leaves Y (bs0 last) 0 0 ls).2.1 ≤ last - Y.w then goneOf ls else endless)) (ee_if (et_M (et_cmp <| ee_sub <| ee_oF 0 rfl B.cls nl rfl <| ee_ix <| ee_var 1 rfl <| ee_int <| ⟨_, rfl, ee_var 3 rfl <| br_ge <| ⟨rfl, rfl⟩⟩) (ite2 (fun c3 => ee_var 4 rfl ⟨dI_if (of_decide_eq_true c3), rfl⟩) (fun c3 => ee_globI Te ⟨dI_ifn (fun z => c3 (decide_eq_true z)), rfl⟩)))) <| ea_nil <| ⟨_, rfl, ma, (upU (leaves Y (bs0 last) 0 0 ls).1.U last (goneOf ls + Y.s - 1)), last - Y.w, _, rfl, rfl, ?_, ⟨_, rfl, ?_⟩⟩⟩⟩⟩)
       (fun c => bb_nil <| ⟨_, rfl, ?_⟩)))⟩)
    · rw [hU]; omega
    · rw [upU_len, hU]; omega
    · rw [if_pos (of_decide_eq_true c)] at hq
      rw [st_mostG]
      exact hq
    · rw [if_neg fun z => c (decide_eq_true z)] at hq
      exact hq
end
end FB

namespace FB
open PySem PySem.Spec PyProof.Rows L2 DL FM
section
variable {P : Program} {w : World} {K : PySem.W.Frag} {mg : Str → Option Value} {base : Heap} {C : Addr}
def dSt : Option (List (Int × Int)) → PyData
  | none => .none
  | some l => .list (l.map dLv)
abbrev fsO (F : Fy) (last : Int) (ls : Lvs) (b : BS) (g : Int) : List (Str × PyData) :=
  [("ferry", dF F), ("last", .int last), ("leavings", dLs ls), ("least", .list (iL b.L)), ("most", .list (iL b.U)), ("good", .bool b.good), ("gone", .int g)]
def S_stairsM : List (Str × PyData) → (PyData → Prop) → Prop := fun fs k => ∃ F last ls b g, fs = fsO F last ls b g ∧ (0 ≤ last ∧ last ≤ 60 ∧ b.L.length = (last + 1).toNat ∧ b.U.length = (last + 1).toNat) ∧ k (dSt (stairsB F b))
theorem sc_stairsM : FnScope ["self", "step", "tick", "good", "least", "most", "ahead", "one", "other"] ["self"] (defScope s_Bounds_stairs) := ⟨rfl, rfl, rfl, by decide +kernel, rfl, by decide +kernel, by decide +kernel⟩
theorem iL_at {l : List Int} {n : Nat} {v : Int} (h : l[n]? = some v) : (iL l)[n]? = some (.int v) := by rw [List.getElem?_map, h]; rfl
theorem le2 : 2 ≤ 1000000 := by decide
def pv (A : List Int) (i : Nat) : Int := if 0 < i then A.getD (i - 1) 0 else 0
def leD : PyData → PyData
  | .tuple [.int a, .int b] => .bool (decide (a ≤ b))
  | _ => .none
theorem zipD_iL : ∀ xs ys : List Int, zipD (iL xs) (iL ys) = (xs.zip ys).map dLv
  | [], _ => rfl
  | _ :: _, [] => rfl
  | x :: xs, y :: ys => congrArg (List.cons (dLv (x, y))) (zipD_iL xs ys)
theorem ok_stairsM {f : Addr} {fd : FuncData} {k : Nat} (F : Fun K "stairs" "Bounds.stairs" s_Bounds_stairs f fd) (T : GT mg) (B : CB K C bNs) :
    FnOk P w K mg base CX0 (k + 1) f fd ["self"] (spF C S_stairsM) := by
  refine fn_F F sc_stairsM T.b rfl ?_
  rintro cdv A outer s H E _ q hr ck ⟨Y, last, ls, b, g, rfl, ⟨l0, l1, hL, hU⟩, h⟩
  have nf := B.na "ferry" (by simp)
  have nl := B.na "last" (by simp)
  have n1 := B.na "least" (by simp)
  have n2 := B.na "most" (by simp)
  have ng := B.na "good" (by simp)
  refine bb_cons <| ss_parLL 0 4 5 ck rfl B.cls n1 n2 rfl rfl fun la ma =>
    bb_cons <| ss_set 1 ck <| ee_ix <| ee_fld 0 rfl B.cls nf rfl <| ee_int <| ⟨_, rfl,
    bb_cons <| ss_for ck <| ii_range1 ck <| ea_cons <| ee_add <| ee_fld 0 rfl B.cls nl rfl <| ee_int <| ea_nil <| ⟨_, rfl, by omega,
      fun i ρ => ∃ s2 s6, ρ = [.obj C (fsO Y last ls b g), .dat (.int Y.m), s2, .non, .own la (iL (mix (fwdL 0 b.L) b.L i)), .own ma (iL (mix (fwdU Y.m 0 b.U) b.U i)), s6, .non, .non] ∧ s2.ad = [] ∧ s6.ad = [], ⟨_, _, rfl, rfl, rfl⟩, ?_, ?_⟩⟩
  · rintro i d ρ hd ⟨s2, s6, rfl, e2, e6⟩
    obtain ⟨hi, rfl⟩ := rngD_get hd
    have eI : ((0 : Int) + (i : Int)).toNat = i := by omega
    have eP : ((0 : Int) + (i : Int) - 1).toNat = i - 1 := by omega
    have hA : (fwdL 0 b.L).length = b.L.length := fwdL_len _ _
    have hB : (fwdU Y.m 0 b.U).length = b.U.length := fwdU_len _ _ _
    have jL : i < b.L.length := by omega
    have jU : i < b.U.length := by omega
    have stA : (fwdL 0 b.L).getD i 0 = max (b.L.getD i 0) (pv (fwdL 0 b.L) i) := by
      cases i with
      | zero => exact fwdL_0 jL
      | succ i => exact fwdL_S jL
    have stB : (fwdU Y.m 0 b.U).getD i 0 = min (b.U.getD i 0) (pv (fwdU Y.m 0 b.U) i + Y.m) := by
      cases i with
      | zero => exact fwdU_0 jU
      | succ i => exact fwdU_S jU
    have atL : atI (iL (mix (fwdL 0 b.L) b.L i)) (0 + (i : Int)) = some (.int (b.L.getD i 0)) := atI_nat (by omega) (iL_at (by rw [eI, mix_ge (by omega) (Nat.le_refl _)]; exact gd_some jL))
    have atU : atI (iL (mix (fwdU Y.m 0 b.U) b.U i)) (0 + (i : Int)) = some (.int (b.U.getD i 0)) := atI_nat (by omega) (iL_at (by rw [eI, mix_ge (by omega) (Nat.le_refl _)]; exact gd_some jU))
    have sA : (iL (mix (fwdL 0 b.L) b.L i)).set ((0 : Int) + (i : Int)).toNat (.int (max (b.L.getD i 0) (pv (fwdL 0 b.L) i))) = iL (mix (fwdL 0 b.L) b.L (i + 1)) := by
      rw [← stA, eI, iL_set, mix_up hA (gd_some (by omega))]
    have sB : (iL (mix (fwdU Y.m 0 b.U) b.U i)).set ((0 : Int) + (i : Int)).toNat (.int (min (b.U.getD i 0) (pv (fwdU Y.m 0 b.U) i + Y.m))) = iL (mix (fwdU Y.m 0 b.U) b.U (i + 1)) := by
      rw [← stB, eI, iL_set, mix_up hB (gd_some (by omega))]
    have nL : ixN (iL (mix (fwdL 0 b.L) b.L i)).length (0 + (i : Int)) = some ((0 : Int) + (i : Int)).toNat := ixN_nat (by omega) (by rw [List.length_map, mix_len hA (by omega)]; omega)
    have nU : ixN (iL (mix (fwdU Y.m 0 b.U) b.U i)).length (0 + (i : Int)) = some ((0 : Int) + (i : Int)).toNat := ixN_nat (by omega) (by rw [List.length_map, mix_len hB (by omega)]; omega)
    refine ⟨_, gg_name 2 ck <| bb_cons <| ss_set 6 ck <| ee_M (d := .tuple [.int (pv (fwdL 0 b.L) i), .int (pv (fwdU Y.m 0 b.U) i)])
      (ee_if (et_M (et_cmp <| ee_var 2 rfl <| ee_int <| br_gt <| ⟨rfl, rfl⟩) (ite2
        (fun c => ee_tup <| ea_cons <| ee_ixOwn 4 rfl <| ee_sub <| ee_var 2 rfl <| ee_int <| ⟨_, .int ((fwdL 0 b.L).getD (i - 1) 0), _, rfl, rfl, ?_, ea_cons <| ee_ixOwn 5 rfl <| ee_sub <| ee_var 2 rfl <| ee_int <| ⟨_, .int ((fwdU Y.m 0 b.U).getD (i - 1) 0), _, rfl, rfl, ?_, ea_nil <| ⟨le2, ?_, rfl⟩⟩⟩)
        (fun c => ee_tup <| ea_cons <| ee_int <| ea_cons <| ee_int <| ea_nil <| ⟨le2, ?_, rfl⟩)))) <|
      bb_cons <| ss_ixset 4 <| ee_max ck <| ea_cons <| ee_ixOwn 4 rfl <| ee_var 2 rfl <| ⟨_, _, _, rfl, rfl, atL, ea_cons <| ee_ix <| ee_var 6 rfl <| ee_int <| ⟨_, rfl, ea_nil <| ⟨_, rfl, ee_var 2 rfl ⟨_, _, _, rfl, rfl, nL,
      bb_one <| ss_ixset 5 <| ee_min ck <| ea_cons <| ee_ixOwn 5 rfl <| ee_var 2 rfl <| ⟨_, _, _, rfl, rfl, atU, ea_cons <| ee_add <| ee_ix <| ee_var 6 rfl <| ee_int <| ⟨_, rfl, ee_var 1 rfl <| ea_nil <| ⟨_, rfl, ee_var 2 rfl ⟨_, _, _, rfl, rfl, nU, .dat (.int (0 + (i : Int))), .dat (.tuple [.int (pv (fwdL 0 b.L) i), .int (pv (fwdU Y.m 0 b.U) i)]), ?_, rfl, rfl⟩⟩⟩⟩⟩⟩⟩⟩⟩
    · have c' : (0 : Int) < 0 + (i : Int) := of_decide_eq_true c
      exact atI_nat (by omega) (iL_at (by rw [eP, mix_lt (by omega) (by omega)]; exact gd_some (by omega)))
    · have c' : (0 : Int) < 0 + (i : Int) := of_decide_eq_true c
      exact atI_nat (by omega) (iL_at (by rw [eP, mix_lt (by omega) (by omega)]; exact gd_some (by omega)))
    · have c' : (0 : Int) < 0 + (i : Int) := of_decide_eq_true c
      have i0 : 0 < i := by omega
      unfold pv
      rw [if_pos i0, if_pos i0]
    · have c' : ¬ (0 : Int) < 0 + (i : Int) := fun z => c (decide_eq_true z)
      have i0 : ¬ 0 < i := by omega
      unfold pv
      rw [if_neg i0, if_neg i0]
    · rw [← sA, ← sB]
      rfl
  · rintro ρ ⟨s2, s6, rfl, e2, e6⟩
    have hA : (fwdL 0 b.L).length = b.L.length := fwdL_len _ _
    have hB : (fwdU Y.m 0 b.U).length = b.U.length := fwdU_len _ _ _
    have hA2 : (bwdL Y.m (fwdL 0 b.L)).length = (fwdL 0 b.L).length := bwdL_len _ _
    have hB2 : (bwdU (fwdU Y.m 0 b.U)).length = (fwdU Y.m 0 b.U).length := bwdU_len _
    rw [rngD_len, mix_full hA (by rw [hA]; omega), mix_full hB (by rw [hB]; omega)]
    refine bb_cons <| ss_for ck <| ii_rangeN ck <| ea_cons <| ee_sub <| ee_fld 0 rfl B.cls nl rfl <| ee_int <| ea_cons <| ee_neg <| ee_int <| ⟨_, rfl, ea_cons <| ee_neg <| ee_int <| ⟨_, rfl, ea_nil <| ⟨_, _, rfl, by omega,
      fun i ρ => ∃ s2, ρ = [.obj C (fsO Y last ls b g), .dat (.int Y.m), s2, .non, .own la (iL (mix (fwdL 0 b.L) (bwdL Y.m (fwdL 0 b.L)) (last.toNat - i))), .own ma (iL (mix (fwdU Y.m 0 b.U) (bwdU (fwdU Y.m 0 b.U)) (last.toNat - i))), s6, .non, .non] ∧ s2.ad = [], ⟨s2, ?_, e2⟩, ?_, ?_⟩⟩⟩
    · rw [Nat.sub_zero, mix_last hA2.symm (by omega) ?_, mix_last hB2.symm (by omega) ?_]
      · rw [gd_some (by omega), gd_some (l := bwdU (fwdU Y.m 0 b.U)) (by omega), bwdU_e (by omega)]
      · rw [gd_some (by omega), gd_some (l := bwdL Y.m (fwdL 0 b.L)) (by omega), bwdL_e (by omega)]
    · rintro i d ρ hd ⟨s2, rfl, e2⟩
      obtain ⟨hi, rfl⟩ := rngN_get hd
      have hi' : i < last.toNat := by omega
      obtain ⟨t, ht⟩ : ∃ t, last.toNat - i = t + 1 := ⟨last.toNat - i - 1, by omega⟩
      have ht2 : last.toNat - (i + 1) = t := by omega
      have eT : (last - 1 + (i : Int) * (-1)).toNat = t := by omega
      have eS : (last - 1 + (i : Int) * (-1) + 1).toNat = t + 1 := by omega
      rw [ht]
      have atL : atI (iL (mix (fwdL 0 b.L) (bwdL Y.m (fwdL 0 b.L)) (t + 1))) (last - 1 + (i : Int) * (-1)) = some (.int ((fwdL 0 b.L).getD t 0)) := atI_nat (by omega) (iL_at (by rw [eT, mix_lt (by omega) (Nat.lt_succ_self _)]; exact gd_some (by omega)))
      have atU : atI (iL (mix (fwdU Y.m 0 b.U) (bwdU (fwdU Y.m 0 b.U)) (t + 1))) (last - 1 + (i : Int) * (-1)) = some (.int ((fwdU Y.m 0 b.U).getD t 0)) := atI_nat (by omega) (iL_at (by rw [eT, mix_lt (by omega) (Nat.lt_succ_self _)]; exact gd_some (by omega)))
      have atL2 : atI (iL (mix (fwdL 0 b.L) (bwdL Y.m (fwdL 0 b.L)) (t + 1))) (last - 1 + (i : Int) * (-1) + 1) = some (.int ((bwdL Y.m (fwdL 0 b.L)).getD (t + 1) 0)) := atI_nat (by omega) (iL_at (by rw [eS, mix_ge (by omega) (Nat.le_refl _)]; exact gd_some (by omega)))
      have atU2 : atI (iL (mix (fwdU Y.m 0 b.U) (bwdU (fwdU Y.m 0 b.U)) (t + 1))) (last - 1 + (i : Int) * (-1) + 1) = some (.int ((bwdU (fwdU Y.m 0 b.U)).getD (t + 1) 0)) := atI_nat (by omega) (iL_at (by rw [eS, mix_ge (by omega) (Nat.le_refl _)]; exact gd_some (by omega)))
      have nL : ixN (iL (mix (fwdL 0 b.L) (bwdL Y.m (fwdL 0 b.L)) (t + 1))).length (last - 1 + (i : Int) * (-1)) = some (last - 1 + (i : Int) * (-1)).toNat := ixN_nat (by omega) (by rw [List.length_map, mix_len hA2.symm (by omega)]; omega)
      have nU : ixN (iL (mix (fwdU Y.m 0 b.U) (bwdU (fwdU Y.m 0 b.U)) (t + 1))).length (last - 1 + (i : Int) * (-1)) = some (last - 1 + (i : Int) * (-1)).toNat := ixN_nat (by omega) (by rw [List.length_map, mix_len hB2.symm (by omega)]; omega)
      have sA : (iL (mix (fwdL 0 b.L) (bwdL Y.m (fwdL 0 b.L)) (t + 1))).set (last - 1 + (i : Int) * (-1)).toNat (.int (max ((fwdL 0 b.L).getD t 0) ((bwdL Y.m (fwdL 0 b.L)).getD (t + 1) 0 - Y.m))) = iL (mix (fwdL 0 b.L) (bwdL Y.m (fwdL 0 b.L)) t) := by
        rw [← bwdL_S (by omega), eT, iL_set, mix_dn hA2.symm (gd_some (by omega))]
      have sB : (iL (mix (fwdU Y.m 0 b.U) (bwdU (fwdU Y.m 0 b.U)) (t + 1))).set (last - 1 + (i : Int) * (-1)).toNat (.int (min ((fwdU Y.m 0 b.U).getD t 0) ((bwdU (fwdU Y.m 0 b.U)).getD (t + 1) 0))) = iL (mix (fwdU Y.m 0 b.U) (bwdU (fwdU Y.m 0 b.U)) t) := by
        rw [← bwdU_S (by omega), eT, iL_set, mix_dn hB2.symm (gd_some (by omega))]
      refine ⟨_, gg_name 2 ck <| bb_cons <| ss_ixset 4 <| ee_max ck <| ea_cons <| ee_ixOwn 4 rfl <| ee_var 2 rfl <| ⟨_, _, _, rfl, rfl, atL, ea_cons <| ee_sub <| ee_ixOwn 4 rfl <| ee_add <| ee_var 2 rfl <| ee_int <| ⟨_, _, _, rfl, rfl, atL2, ee_var 1 rfl <| ea_nil <| ⟨_, rfl, ee_var 2 rfl ⟨_, _, _, rfl, rfl, nL,
        bb_one <| ss_ixset 5 <| ee_min ck <| ea_cons <| ee_ixOwn 5 rfl <| ee_var 2 rfl <| ⟨_, _, _, rfl, rfl, atU, ea_cons <| ee_ixOwn 5 rfl <| ee_add <| ee_var 2 rfl <| ee_int <| ⟨_, _, _, rfl, rfl, atU2, ea_nil <| ⟨_, rfl, ee_var 2 rfl ⟨_, _, _, rfl, rfl, nU, .dat (.int (last - 1 + (i : Int) * (-1))), ?_, rfl⟩⟩⟩⟩⟩⟩⟩⟩⟩
      rw [ht2, ← sA, ← sB]
      rfl
    · rintro ρ ⟨s2, rfl, e2⟩
      rw [rngN_len, show last.toNat - (last - 1 - -1).toNat = 0 by omega, mix_zero, mix_zero]
      have hz : zipD (iL (finL Y b)) (iL (finU Y b)) = ((finL Y b).zip (finU Y b)).map dLv := zipD_iL _ _
      unfold stairsB at h
      rw [hd_gd] at h
      refine bb_cons <| ss_set 3 ck <| ee_M (ee_andM (ee_fld 0 rfl B.cls ng rfl ⟨rfl, rfl⟩) (fun _ => ee_one <| ee_cmp <| ee_ixOwn 4 rfl <| ee_int ⟨0, .int ((finL Y b).getD 0 0), _, rfl, rfl, ?_, ee_var 1 rfl <| br_le ⟨rfl, rfl⟩⟩)) <|
        bb_freeze 4 rfl <| bb_freeze 5 rfl <| bb_cons <| ss_if (et_M (et_bool <| ew_orM (et_not <| et_val <| ee_var 3 rfl ⟨_, rfl, rfl, rfl⟩) (fun _ => ew_one <| et_not <| et_val <| ee_all ck <| ea_cons <| ee_lc [("one", 7), ("other", 8)] ck (blkOk_by rfl) <| ii_zip2L ck <| ea_cons <| ee_var 4 rfl <| ea_cons <| ee_var 5 rfl <| ea_nil <| ⟨_, _, rfl, lcK_map leD ?_ [7, 8] (fun j hj => hj) (fun d hd _ _ _ _ _ => ?_) <| ea_nil <| ⟨((finL Y b).zip (finU Y b)).map fun p => decide (p.1 ≤ p.2), ?_, ⟨_, rfl, rfl, rfl⟩⟩⟩))
          (ite2 (fun c => bb_one <| ss_ret <| ee_non ?_) (fun c => bb_nil <| bb_one <| ss_ret <| ee_listZip ck <| ea_cons <| ee_var 4 rfl <| ea_cons <| ee_var 5 rfl <| ea_nil ⟨_, _, rfl, ?_⟩)))
      · exact atI_nat (Int.le_refl 0) (iL_at (gd_some (by show 0 < (finL Y b).length; rw [finL_len]; omega)))
      · show (zipD (iL (finL Y b)) (iL (finU Y b))).length ≤ 1000000
        rw [hz, List.length_map, List.length_zip, finL_len, finU_len]
        omega
      · rw [show iL (bwdL Y.m (fwdL 0 b.L)) = iL (finL Y b) from rfl, show iL (bwdU (fwdU Y.m 0 b.U)) = iL (finU Y b) from rfl, hz] at hd
        obtain ⟨pr, _, rfl⟩ := List.mem_map.mp hd
        exact gg_tup (js := [7, 8]) ck.blk <| ggs_cons (js := [7]) (ks := [8]) <| gg_name 7 ck.blk <| ggs_cons (js := [8]) (ks := []) <| gg_name 8 ck.blk <| ggs_nil <| fun _ _ _ _ _ => ee_cmp <| ee_var 7 rfl <| ee_var 8 rfl <| br_le rfl
      · show [PyData.list ((zipD (iL (finL Y b)) (iL (finU Y b))).map leD)] = _
        rw [hz, List.map_map, List.map_map]
        rfl
      · have ea : (((finL Y b).zip (finU Y b)).map fun p => decide (p.1 ≤ p.2)).all id = ((finL Y b).zip (finU Y b)).all fun p => decide (p.1 ≤ p.2) := by rw [List.all_map]; rfl
        rw [ea] at c
        by_cases hG : (b.good && decide ((finL Y b).getD 0 0 ≤ Y.m)) = true
        · rw [if_pos hG] at h
          by_cases hA : ((finL Y b).zip (finU Y b)).all (fun p => decide (p.1 ≤ p.2)) = true
          · rw [hG, hA] at c
            exact absurd c (by decide)
          · rw [if_neg hA] at h
            exact h
        · rw [if_neg hG] at h
          exact h
      · have ea : (((finL Y b).zip (finU Y b)).map fun p => decide (p.1 ≤ p.2)).all id = ((finL Y b).zip (finU Y b)).all fun p => decide (p.1 ≤ p.2) := by rw [List.all_map]; rfl
        rw [ea] at c
        by_cases hG : (b.good && decide ((finL Y b).getD 0 0 ≤ Y.m)) = true
        · rw [if_pos hG] at h
          by_cases hA : ((finL Y b).zip (finU Y b)).all (fun p => decide (p.1 ≤ p.2)) = true
          · rw [if_pos hA] at h
            show q (.list (zipD (iL (finL Y b)) (iL (finU Y b))))
            rw [hz]
            exact h
          · exact absurd (by rw [Bool.eq_false_iff.mpr hA, Bool.not_false, Bool.or_true]) c
        · exact absurd (by rw [Bool.eq_false_iff.mpr hG, Bool.not_false, Bool.true_or]) c
end
end FB

namespace FB
open PySem PySem.Spec PyProof.Rows L2 DL FM
theorem cutD_to {xs : List PyData} {k : Int} (h : 0 ≤ k) : DL.cutD xs none (some k) = xs.take k.toNat := by
  obtain ⟨n, rfl⟩ := Int.eq_ofNat_of_zero_le h
  unfold DL.cutD
  rw [show (some ((n : Nat) : Int)) = some ((n : Nat) : Int) from rfl, HT.sIx_nat, HT.sIx_none, List.drop_zero, Nat.sub_zero, Int.toNat_natCast]
  rcases Nat.le_total n xs.length with l | l
  · rw [Nat.min_eq_left l]
  · rw [Nat.min_eq_right l, List.take_length, List.take_of_length_le l]
theorem cutD_from {xs : List PyData} {k : Int} (h : 0 ≤ k) : DL.cutD xs (some k) none = xs.drop k.toNat := by
  obtain ⟨n, rfl⟩ := Int.eq_ofNat_of_zero_le h
  unfold DL.cutD
  rw [HT.sIx_nat, HT.sIx_none, Int.toNat_natCast]
  rcases Nat.le_total n xs.length with l | l
  · rw [Nat.min_eq_left l, List.take_of_length_le (by rw [List.length_drop]; omega)]
  · rw [Nat.min_eq_right l, List.drop_length, List.take_nil, List.drop_of_length_le l]
theorem enumD_map {α : Type} (f : α → PyData) {ls : List α} {i : Nat} {d : PyData} (h : (enumD (ls.map f))[i]? = some d) : ∃ p, ls[i]? = some p ∧ d = .tuple [.int (i : Int), f p] := by
  obtain ⟨x, hx, e⟩ := enumD_get h
  rw [List.getElem?_map] at hx
  cases q : ls[i]? with
  | none => rw [q] at hx; cases hx
  | some p => rw [q] at hx; cases hx; exact ⟨p, rfl, e⟩
theorem _root_.FM.BkOk.cut {F : Fy} {last : Int} {ls : Lvs} {i : Nat} {p : Int × Int} (ok : BkOk F last ls) (h : ls[i]? = some p) : BkOk F p.1 (ls.take (i + 1)) := by
  have hm := List.mem_of_getElem? h
  obtain ⟨hi, e⟩ := List.getElem?_eq_some_iff.mp h
  refine ⟨(ok.tk p hm).1, Int.le_trans (ok.tk p hm).2 ok.l1, by rw [List.length_take]; have := ok.n; omega, fun q hq => ⟨(ok.tk q (List.mem_of_mem_take hq)).1, ?_⟩, fun q hq => ok.ld q (List.mem_of_mem_take hq), List.Pairwise.sublist (List.take_sublist _ _) ok.up⟩
  obtain ⟨j, hj⟩ := List.mem_iff_getElem?.mp hq
  rw [List.getElem?_take] at hj
  by_cases l : j < i + 1
  · rw [if_pos l] at hj
    obtain ⟨hj', ej⟩ := List.getElem?_eq_some_iff.mp hj
    rcases Nat.lt_or_ge j i with y | y
    · have := List.pairwise_iff_getElem.mp ok.up j i hj' hi y
      rw [e, ej] at this
      omega
    · have : j = i := by omega
      subst this
      rw [hj] at h
      cases h
      omega
  · rw [if_neg l] at hj; cases hj
/-- the first leaving that cannot be -/
def _root_.FM.firstBar (F : Fy) (last : Int) (ls : Lvs) : Option Nat :=
  ((List.range ls.length).find? fun i => (stairs F (ls.getD i (0, 0)).1 (ls.take (i + 1))).isNone).or (if (stairs F last ls).isNone then some ls.length else none)
theorem find_at {p : Nat → Bool} {n i : Nat} (hi : i < n) (h : ∀ j, j < i → p j = false) (hp : p i = true) : (List.range n).find? p = some i := by
  rw [List.find?_range_eq_some]
  exact ⟨hp, List.mem_range.mpr hi, fun j hj => by rw [h j hj]; rfl⟩
theorem find_no {p : Nat → Bool} {n : Nat} (h : ∀ j, j < n → p j = false) : (List.range n).find? p = none := by
  rw [List.find?_eq_none]
  intro j hj
  rw [h j (List.mem_range.mp hj)]
  exact Bool.false_ne_true
def dO : Option Nat → PyData
  | none => .none
  | some i => .int (i : Int)
theorem dSt_no (o : Option (List (Int × Int))) : isNone (dSt o) = o.isNone := by cases o <;> rfl
def KnK (P : Program) (w : World) (K : PySem.W.Frag) (mg : Str → Option Value) (base : Heap) (k : Nat) (x : Str) (C : Addr) (ps : List Str) (sp : Sp) : Prop :=
  ∃ (f : Addr) (fd : FuncData), Mk K C f ∧ FnOk P w K mg base CX0 k f fd ps sp ∧ mg x = some (.ref C) ∧ Binds K fd ps []
theorem KnK.cal {X : Cx} {j k : Nat} {x : Str} {C : Addr} {ps : List Str} {sp : Sp} (hr : Room j X.A) (hk : k + 1 ≤ j) (g : KnK X.prog X.w X.K X.mg X.base k x C ps sp) : CalK X x C ps sp := by
  obtain ⟨f, fd, a, b, c, d⟩ := g
  exact ⟨k, f, fd, hr.mono hk, a, b, c, d⟩
section
variable {P : Program} {w : World} {K : PySem.W.Frag} {mg : Str → Option Value} {base : Heap} {C : Addr}
/-- a def of a good ferry and book -/
def S_fb (g : Fy → Int → Lvs → PyData) : DSpec := fun ds k => ∃ F last ls, ds = [dF F, dB last ls] ∧ F.Ok ∧ BkOk F last ls ∧ k (g F last ls)
abbrev dStairs (F : Fy) (last : Int) (ls : Lvs) : PyData := dSt (stairs F last ls)
theorem made_ok {F : Fy} {last : Int} {ls : Lvs} (ok : BkOk F last ls) : 0 ≤ last ∧ last ≤ 60 ∧ (bounds F last ls).L.length = (last + 1).toNat ∧ (bounds F last ls).U.length = (last + 1).toNat := ⟨ok.l0, ok.l1, bounds_lenL _ _ _, bounds_lenU _ _ _⟩
theorem sc_stairs_so : FnScope ["ferry", "book"] ["ferry", "book"] (defScope s_stairs_so) := ⟨rfl, rfl, rfl, by decide +kernel, rfl, by decide +kernel, by decide +kernel⟩
theorem ok_stairs_so {f : Addr} {fd : FuncData} {k : Nat} (F : Fun K "stairs_so" "stairs_so" s_stairs_so f fd) (T : GT mg) (B : CB K C bNs) (g1 : KnM P w K mg base (k + 1) C "stairs" ["self"] (spF C S_stairsM)) (g2 : KnK P w K mg base k "Bounds" C ["self", "ferry", "book"] (spM C S_init)) :
    FnOk P w K mg base CX0 (k + 2) f fd ["ferry", "book"] (spD (S_fb dStairs)) := by
  refine fn_D F sc_stairs_so T.b (fun ds q ⟨_, _, _, e, _⟩ => by rw [e]; rfl) ?_
  rintro cdv A outer s H E _ q hr ck ⟨Y, last, ls, rfl, okF, ok, h⟩
  exact bb_one <| ss_ret <| ee_meth0 B.cls (KnM.cal hr g1) <| en_make (KnK.cal hr (Nat.le_refl _) g2) <| ea_cons <| ee_var 0 rfl <| ea_cons <| ee_var 1 rfl <| ea_nil <| ⟨Y, last, ls, rfl, rfl, okF, ok, fun la ma => ⟨rfl, rfl, Y, last, ls, bounds Y last ls, goneOf ls, rfl, made_ok ok, h⟩⟩
theorem sc_stairs : FnScope ["ferry", "book"] ["ferry", "book"] (defScope s_stairs) := ⟨rfl, rfl, rfl, by decide +kernel, rfl, by decide +kernel, by decide +kernel⟩
theorem ok_stairs {f : Addr} {fd : FuncData} {k : Nat} (F : Fun K "stairs" "stairs" s_stairs f fd) (T : GT mg) (g_look_at : Kn P w K mg base k "look_at" ["ferry", "book"] (spD S_look_at)) (g_stairs_so : Kn P w K mg base k "stairs_so" ["ferry", "book"] (spD (S_fb dStairs))) :
    FnOk P w K mg base CX0 (k + 1) f fd ["ferry", "book"] (spD (S_fb dStairs)) := by
  refine fn_D F sc_stairs T.b (fun ds q ⟨_, _, _, e, _⟩ => by rw [e]; rfl) ?_
  rintro cdv A outer s H E _ q hr ck ⟨Y, last, ls, rfl, okF, ok, h⟩
  exact bb_cons <| ss_expr <| ee_call ⟨_, hr, g_look_at⟩ <| ea_cons <| ee_var 0 rfl <| ea_cons <| ee_var 1 rfl <| ea_nil <| ⟨Y, last, ls, rfl, okF, ok, bb_one <| ss_ret <| ee_call ⟨_, hr, g_stairs_so⟩ <| ea_cons <| ee_var 0 rfl <| ea_cons <| ee_var 1 rfl <| ea_nil <| ⟨Y, last, ls, rfl, okF, ok, h⟩⟩
abbrev dCan (F : Fy) (last : Int) (ls : Lvs) : PyData := .bool (!(stairs F last ls).isNone)
theorem sc_can_be : FnScope ["ferry", "book"] ["ferry", "book"] (defScope s_can_be) := ⟨rfl, rfl, rfl, by decide +kernel, rfl, by decide +kernel, by decide +kernel⟩
theorem ok_can_be {f : Addr} {fd : FuncData} {k : Nat} (F : Fun K "can_be" "can_be" s_can_be f fd) (T : GT mg) (g_look_at : Kn P w K mg base k "look_at" ["ferry", "book"] (spD S_look_at)) (g_stairs_so : Kn P w K mg base k "stairs_so" ["ferry", "book"] (spD (S_fb dStairs))) :
    FnOk P w K mg base CX0 (k + 1) f fd ["ferry", "book"] (spD (S_fb dCan)) := by
  refine fn_D F sc_can_be T.b (fun ds q ⟨_, _, _, e, _⟩ => by rw [e]; rfl) ?_
  rintro cdv A outer s H E _ q hr ck ⟨Y, last, ls, rfl, okF, ok, h⟩
  exact bb_cons <| ss_expr <| ee_call ⟨_, hr, g_look_at⟩ <| ea_cons <| ee_var 0 rfl <| ea_cons <| ee_var 1 rfl <| ea_nil <| ⟨Y, last, ls, rfl, okF, ok, bb_one <| ss_ret <| ee_cmp <| ee_call ⟨_, hr, g_stairs_so⟩ <| ea_cons <| ee_var 0 rfl <| ea_cons <| ee_var 1 rfl <| ea_nil <| ⟨Y, last, ls, rfl, okF, ok, ee_non <| br_notN <| fin (q := q) h (congrArg (fun z => PyData.bool (!z)) (dSt_no _))⟩⟩
abbrev dBar (F : Fy) (last : Int) (ls : Lvs) : PyData := dO (firstBar F last ls)
theorem sc_first_bar : FnScope ["ferry", "book", "last", "leavings", "at", "tick", "load"] ["ferry", "book"] (defScope s_first_bar) := ⟨rfl, rfl, rfl, by decide +kernel, rfl, by decide +kernel, by decide +kernel⟩
theorem ok_first_bar {f : Addr} {fd : FuncData} {k : Nat} (F : Fun K "first_bar" "first_bar" s_first_bar f fd) (T : GT mg) (g_look_at : Kn P w K mg base k "look_at" ["ferry", "book"] (spD S_look_at)) (g_stairs_so : Kn P w K mg base k "stairs_so" ["ferry", "book"] (spD (S_fb dStairs))) :
    FnOk P w K mg base CX0 (k + 1) f fd ["ferry", "book"] (spD (S_fb dBar)) := by
  refine fn_D F sc_first_bar T.b (fun ds q ⟨_, _, _, e, _⟩ => by rw [e]; rfl) ?_
  rintro cdv A outer s H E _ q hr ck ⟨Y, last, ls, rfl, okF, ok, h⟩
  refine bb_cons <| ss_expr <| ee_call ⟨_, hr, g_look_at⟩ <| ea_cons <| ee_var 0 rfl <| ea_cons <| ee_var 1 rfl <| ea_nil <| ⟨Y, last, ls, rfl, okF, ok, bb_cons <| ss_asg <| ee_var 1 rfl <| gg_tup ck <| ggs_cons <| gg_name 2 ck <| ggs_cons <| gg_name 3 ck <| ggs_nil <|
    bb_cons <| ss_for ck <| ii_enumT ck <| ea_cons <| ee_var 3 rfl <| ea_nil <| ⟨_, rfl, fun i ρ => (∀ j, j < i → (stairs Y (ls.getD j (0, 0)).1 (ls.take (j + 1))).isNone = false) ∧ ∃ d4 d5 d6, ρ = [.dat (dF Y), .dat (dB last ls), .dat (.int last), .dat (dLs ls), d4, d5, d6] ∧ d4.ad = [] ∧ d5.ad = [] ∧ d6.ad = [], ⟨fun j hj => absurd hj (Nat.not_lt_zero j), _, _, _, rfl, rfl, rfl, rfl⟩, ?_, ?_⟩⟩
  · rintro i d ρ hd ⟨hI, d4, d5, d6, rfl, e4, e5, e6⟩
    obtain ⟨p, hp, rfl⟩ := enumD_map dLv hd
    have eg : ls.getD i (0, 0) = p := by rw [List.getD_eq_getElem?_getD, hp]; rfl
    have hi : i < ls.length := (List.getElem?_eq_some_iff.mp hp).1
    have ec : DL.cutD (ls.map dLv) none (some ((i : Int) + 1)) = (ls.take (i + 1)).map dLv := by
      rw [cutD_to (by omega), show ((i : Int) + 1).toNat = i + 1 by omega, List.map_take]
    refine ⟨_, gg_tup ck <| ggs_cons <| gg_name 4 ck <| ggs_cons <| gg_tup ck <| ggs_cons <| gg_name 5 ck <| ggs_cons <| gg_name 6 ck <| ggs_nil <| ggs_nil <|
      bb_one <| ss_if (et_M (et_cmp <| ee_call ⟨_, hr, g_stairs_so⟩ <| ea_cons <| ee_var 0 rfl <| ea_cons <| ee_tup <| ea_cons <| ee_var 5 rfl <| ea_cons <| ee_sl <| ee_var 3 rfl <| ee_add <| ee_var 4 rfl <| ee_int <| ⟨_, rfl, ea_nil <| ⟨le2, ea_nil <| ⟨Y, p.1, ls.take (i + 1), ?_, okF, ok.cut hp, ee_non <| br_isN <| ⟨rfl, rfl⟩⟩⟩⟩)
       (ite2 (fun c =>
      bb_one <| ss_ret <| ee_var 4 rfl <| ?_)
       (fun c =>
      bb_nil <| ⟨fun j hj => ?_, _, _, _, rfl, rfl, rfl, rfl⟩)))⟩
    · rw [ec]
    · rw [dSt_no] at c
      refine fin (q := q) h ?_
      show PyData.int (i : Int) = dO (firstBar Y last ls)
      unfold firstBar
      rw [find_at (i := i) hi hI (by rw [eg]; exact c)]
      rfl
    · rcases Nat.lt_or_ge j i with y | y
      · exact hI j y
      · have : j = i := by omega
        subst this
        rw [dSt_no] at c
        rw [eg]
        exact Bool.eq_false_iff.mpr c
  · rintro ρ ⟨hI, d4, d5, d6, rfl, e4, e5, e6⟩
    have hn : (List.range ls.length).find? (fun i => (stairs Y (ls.getD i (0, 0)).1 (ls.take (i + 1))).isNone) = none := find_no fun j hj => hI j (by rw [enumD_len, List.length_map]; exact hj)
    refine bb_one <| ss_ret <| ee_if (et_M (et_cmp <| ee_call ⟨_, hr, g_stairs_so⟩ <| ea_cons <| ee_var 0 rfl <| ea_cons <| ee_var 1 rfl <| ea_nil <| ⟨Y, last, ls, rfl, okF, ok, ee_non <| br_isN <| ⟨rfl, rfl⟩⟩) (ite2 (fun c => ee_len ck <| ea_cons <| ee_var 3 rfl <| ea_nil <| ?_) (fun c => ee_non <| ?_)))
    · rw [dSt_no] at c
      refine fin (q := q) h ?_
      show PyData.int ((ls.map dLv).length : Int) = dO (firstBar Y last ls)
      unfold firstBar
      rw [hn, if_pos c, List.length_map]
      rfl
    · rw [dSt_no] at c
      refine fin (q := q) h ?_
      show PyData.none = dO (firstBar Y last ls)
      unfold firstBar
      rw [hn, if_neg c]
      rfl
def dP : Option (Int × Int) → PyData
  | none => .none
  | some p => dLv p
abbrev dThere (F : Fy) (last : Int) (ls : Lvs) : PyData := dP (thereOf F last ls)
theorem at_last {l : List (Int × Int)} (h : l ≠ []) : atI (l.map dLv) (-1) = some (dLv (l.getLastD (0, 0))) := by
  have hl : 0 < l.length := List.length_pos_iff.mpr h
  unfold atI ixN
  rw [if_neg (by decide), List.length_map, if_pos (by omega)]
  show (l.map dLv)[(-1 + (l.length : Int)).toNat]? = _
  rw [show (-1 + (l.length : Int)).toNat = l.length - 1 by omega, List.getElem?_map, ← List.getLast?_eq_getElem?, List.getLastD_eq_getLast?]
  cases q : l.getLast? with
  | none => exact absurd (List.getLast?_eq_none_iff.mp q) h
  | some x => rfl
end
end FB

namespace FB
open PySem PySem.Spec PyProof.Rows L2 DL FM
/-! ### told -/
def fstD : PyData → PyData
  | .tuple (a :: _) => a
  | _ => .none
def sndD : PyData → PyData
  | .tuple (_ :: b :: _) => b
  | _ => .none
def subD : PyData → PyData
  | .tuple [.int a, .int b] => .int (a - b)
  | _ => .none
def mulD : PyData → PyData
  | .tuple [.int a, .int b] => .int (a * b)
  | _ => .none
abbrev lo (st : List (Int × Int)) : List Int := st.map (·.1)
abbrev hi (st : List (Int × Int)) : List Int := st.map (·.2)
theorem map_fst (st : List (Int × Int)) : (st.map dLv).map fstD = iL (lo st) := by unfold iL lo; rw [List.map_map, List.map_map]; rfl
theorem map_snd (st : List (Int × Int)) : (st.map dLv).map sndD = iL (hi st) := by unfold iL hi; rw [List.map_map, List.map_map]; rfl
theorem cutD_but {xs : List PyData} : DL.cutD xs none (some (-1)) = xs.dropLast := by
  unfold DL.cutD
  rw [HT.sIx_none, List.drop_zero, Nat.sub_zero]
  have e : ∀ n : Nat, HT.sIx n n (some (-1)) = n - 1 := fun n => by
    show (if (-1 : Int) < 0 then ((-1) + (n : Int)).toNat else min (-1 : Int).toNat n) = n - 1
    rw [if_pos (by decide)]
    omega
  rw [e, List.dropLast_eq_take]
theorem zip_sub : ∀ xs ys : List Int, (zipD (iL xs) (iL ys)).map subD = iL (List.zipWith (· - ·) xs ys)
  | [], _ => rfl
  | _ :: _, [] => rfl
  | x :: xs, y :: ys => by
    show PyData.int (x - y) :: (zipD (iL xs) (iL ys)).map subD = PyData.int (x - y) :: iL (List.zipWith (· - ·) xs ys)
    rw [zip_sub xs ys]
theorem iL_len (l : List Int) : (iL l).length = l.length := List.length_map _
section
variable {P : Program} {w : World} {K : PySem.W.Frag} {mg : Str → Option Value} {base : Heap} {C : Addr}
def S_steps_of : DSpec := fun ds k => ∃ sums, ds = [.list (iL sums)] ∧ sums.length ≤ 1000 ∧ k (.tuple (iL (stepsOf sums)))
theorem sc_steps_of : FnScope ["sums", "one", "other"] ["sums"] (defScope s_steps_of) := ⟨rfl, rfl, rfl, by decide +kernel, rfl, by decide +kernel, by decide +kernel⟩
theorem ok_steps_of {f : Addr} {fd : FuncData} {k : Nat} (F : Fun K "steps_of" "steps_of" s_steps_of f fd) (T : GT mg) : FnOk P w K mg base CX0 (k + 1) f fd ["sums"] (spD S_steps_of) := by
  refine fn_D F sc_steps_of T.b (fun ds q ⟨_, e, _⟩ => by rw [e]; rfl) ?_
  rintro cdv A outer s H E _ q hr ck ⟨sums, rfl, hl, h⟩
  have ec : [PyData.int 0] ++ DL.cutD (iL sums) none (some (-1)) = iL (0 :: sums.dropLast) := by
    rw [cutD_but]
    show [PyData.int 0] ++ (List.map PyData.int sums).dropLast = _
    rw [← List.map_dropLast]; rfl
  have lz : (zipD (iL sums) (iL (0 :: sums.dropLast))).length ≤ 1000000 := by
    unfold zipD
    rw [List.length_zipWith, iL_len]
    omega
  refine bb_one <| ss_ret <| ee_tuple ck <| ea_cons <| ee_lc [("one", 1), ("other", 2)] ck (blkOk_by rfl) <| ii_zip2L ck <| ea_cons <| ee_var 0 rfl <| ea_cons <| ee_add <| ee_lst <| ea_cons <| ee_int <| ea_nil <| ⟨by decide, ee_sl <| ee_var 0 rfl <| ee_neg <| ee_int <| ⟨_, rfl, ⟨_, rfl, ⟨?_, ea_nil <| ⟨_, _, rfl, ?_⟩⟩⟩⟩⟩
  · have : (DL.cutD (iL sums) none (some (-1))).length ≤ 1000 := by rw [cutD_but, List.length_dropLast, iL_len]; omega
    show 1 + (DL.cutD (iL sums) none (some (-1))).length ≤ 1000000
    omega
  · rw [ec]
    refine lcK_map subD lz [1, 2] (fun j hj => hj) (fun d hd _ _ _ _ _ => ?_) <| ea_nil ?_
    · rw [zipD_iL] at hd
      obtain ⟨pr, _, rfl⟩ := List.mem_map.mp hd
      exact gg_tup (js := [1, 2]) ck.blk <| ggs_cons (js := [1]) (ks := [2]) <| gg_name 1 ck.blk <| ggs_cons (js := [2]) (ks := []) <| gg_name 2 ck.blk <| ggs_nil <| fun _ _ _ _ _ => ee_sub <| ee_var 1 rfl <| ee_var 2 rfl <| rfl
    · rw [zip_sub]
      exact h
abbrev dFew (F : Fy) (last : Int) (ls : Lvs) : PyData := match stairs F last ls with
  | none => .none
  | some st => .tuple (iL (stepsOf (lo st)))
abbrev dMost (F : Fy) (last : Int) (ls : Lvs) : PyData := match stairs F last ls with
  | none => .none
  | some st => .tuple (iL (stepsOf (hi st)))
theorem st_small {F : Fy} {last : Int} {ls : Lvs} {st : List (Int × Int)} (ok : BkOk F last ls) (h : stairs F last ls = some st) : st.length ≤ 61 := by
  have := stairs_len h
  have := ok.l0
  have := ok.l1
  omega
theorem sc_fewest_row : FnScope ["ferry", "book", "some", "one"] ["ferry", "book"] (defScope s_fewest_row) := ⟨rfl, rfl, rfl, by decide +kernel, rfl, by decide +kernel, by decide +kernel⟩
theorem ok_fewest_row {f : Addr} {fd : FuncData} {k : Nat} (F : Fun K "fewest_row" "fewest_row" s_fewest_row f fd) (T : GT mg) (g_look_at : Kn P w K mg base k "look_at" ["ferry", "book"] (spD S_look_at)) (g_stairs_so : Kn P w K mg base k "stairs_so" ["ferry", "book"] (spD (S_fb dStairs))) (g_steps_of : Kn P w K mg base k "steps_of" ["sums"] (spD S_steps_of)) :
    FnOk P w K mg base CX0 (k + 1) f fd ["ferry", "book"] (spD (S_fb dFew)) := by
  refine fn_D F sc_fewest_row T.b (fun ds q ⟨_, _, _, e, _⟩ => by rw [e]; rfl) ?_
  rintro cdv A outer s H E _ q hr ck ⟨Y, last, ls, rfl, okF, ok, h⟩
  refine bb_cons <| ss_expr <| ee_call ⟨_, hr, g_look_at⟩ <| ea_cons <| ee_var 0 rfl <| ea_cons <| ee_var 1 rfl <| ea_nil <| ⟨Y, last, ls, rfl, okF, ok, bb_cons <| ss_set 2 ck <| ee_call ⟨_, hr, g_stairs_so⟩ <| ea_cons <| ee_var 0 rfl <| ea_cons <| ee_var 1 rfl <| ea_nil <| ⟨Y, last, ls, rfl, okF, ok, ?_⟩⟩
  unfold dFew at h
  unfold dStairs
  cases hs : stairs Y last ls with
  | none =>
    rw [hs] at h
    exact bb_one <| ss_ret <| ee_if (et_M (et_cmp <| ee_var 2 rfl <| ee_non <| br_isN <| ⟨rfl, rfl⟩) (ifT rfl <| ee_non h))
  | some st =>
    rw [hs] at h
    have l := st_small ok hs
    refine bb_one <| ss_ret <| ee_if (et_M (et_cmp <| ee_var 2 rfl <| ee_non <| br_isN <| ⟨rfl, rfl⟩) (ifF rfl <| ee_call ⟨_, hr, g_steps_of⟩ <| ea_cons <| ee_lc [("one", 3)] ck (blkOk_by rfl) <| ii_list <| ee_var 2 rfl <| ⟨_, rfl, lcK_map fstD (by rw [List.length_map]; omega) [3] (fun j hj => hj) (fun d hd _ _ _ _ _ => ?_) <| ea_nil <| ⟨lo st, ?_, by rw [List.length_map]; omega, h⟩⟩))
    · obtain ⟨p, _, rfl⟩ := List.mem_map.mp hd
      exact gg_name 3 ck.blk <| fun _ _ _ _ _ => ee_ix <| ee_var 3 rfl <| ee_int <| ⟨_, rfl, rfl⟩
    · rw [map_fst]
theorem sc_most_row : FnScope ["ferry", "book", "some", "one"] ["ferry", "book"] (defScope s_most_row) := ⟨rfl, rfl, rfl, by decide +kernel, rfl, by decide +kernel, by decide +kernel⟩
theorem ok_most_row {f : Addr} {fd : FuncData} {k : Nat} (F : Fun K "most_row" "most_row" s_most_row f fd) (T : GT mg) (g_look_at : Kn P w K mg base k "look_at" ["ferry", "book"] (spD S_look_at)) (g_stairs_so : Kn P w K mg base k "stairs_so" ["ferry", "book"] (spD (S_fb dStairs))) (g_steps_of : Kn P w K mg base k "steps_of" ["sums"] (spD S_steps_of)) :
    FnOk P w K mg base CX0 (k + 1) f fd ["ferry", "book"] (spD (S_fb dMost)) := by
  refine fn_D F sc_most_row T.b (fun ds q ⟨_, _, _, e, _⟩ => by rw [e]; rfl) ?_
  rintro cdv A outer s H E _ q hr ck ⟨Y, last, ls, rfl, okF, ok, h⟩
  refine bb_cons <| ss_expr <| ee_call ⟨_, hr, g_look_at⟩ <| ea_cons <| ee_var 0 rfl <| ea_cons <| ee_var 1 rfl <| ea_nil <| ⟨Y, last, ls, rfl, okF, ok, bb_cons <| ss_set 2 ck <| ee_call ⟨_, hr, g_stairs_so⟩ <| ea_cons <| ee_var 0 rfl <| ea_cons <| ee_var 1 rfl <| ea_nil <| ⟨Y, last, ls, rfl, okF, ok, ?_⟩⟩
  unfold dMost at h
  unfold dStairs
  cases hs : stairs Y last ls with
  | none =>
    rw [hs] at h
    exact bb_one <| ss_ret <| ee_if (et_M (et_cmp <| ee_var 2 rfl <| ee_non <| br_isN <| ⟨rfl, rfl⟩) (ifT rfl <| ee_non h))
  | some st =>
    rw [hs] at h
    have l := st_small ok hs
    refine bb_one <| ss_ret <| ee_if (et_M (et_cmp <| ee_var 2 rfl <| ee_non <| br_isN <| ⟨rfl, rfl⟩) (ifF rfl <| ee_call ⟨_, hr, g_steps_of⟩ <| ea_cons <| ee_lc [("one", 3)] ck (blkOk_by rfl) <| ii_list <| ee_var 2 rfl <| ⟨_, rfl, lcK_map sndD (by rw [List.length_map]; omega) [3] (fun j hj => hj) (fun d hd _ _ _ _ _ => ?_) <| ea_nil <| ⟨hi st, ?_, by rw [List.length_map]; omega, h⟩⟩))
    · obtain ⟨p, _, rfl⟩ := List.mem_map.mp hd
      exact gg_name 3 ck.blk <| fun _ _ _ _ _ => ee_ix <| ee_var 3 rfl <| ee_int <| ⟨_, rfl, rfl⟩
    · rw [map_snd]
def S_first_tick : DSpec := fun ds k => ∃ sums c, ds = [.list (iL sums), .int c] ∧ k (dO (firstTick sums c))
theorem idx_at {α : Type} {p : α → Bool} : ∀ {l : List α} {i : Nat} {x : α}, l[i]? = some x → p x = true → (∀ j y, j < i → l[j]? = some y → p y = false) → l.findIdx? p = some i
  | [], _, _, h, _, _ => by simp at h
  | a :: r, 0, x, h, hp, _ => by
    rw [List.getElem?_cons_zero] at h; cases h
    rw [List.findIdx?_cons, hp]; rfl
  | a :: r, i + 1, x, h, hp, hn => by
    rw [List.getElem?_cons_succ] at h
    rw [List.findIdx?_cons, hn 0 a (Nat.succ_pos i) rfl, idx_at h hp fun j y hj hy => hn (j + 1) y (Nat.succ_lt_succ hj) hy]
    rfl
def dCame (F : Fy) (last : Int) (ls : Lvs) (c : Int) : PyData := match stairs F last ls with
  | none => .none
  | some st => .tuple [dO (firstTick (hi st) c), dO (firstTick (lo st) c)]
def S_came : DSpec := fun ds k => ∃ F last ls c, ds = [dF F, dB last ls, .int c] ∧ F.Ok ∧ BkOk F last ls ∧ 1 ≤ c ∧ k (dCame F last ls c)
end
end FB

namespace FB
open PySem PySem.Spec PyProof.Rows L2 DL FM
theorem first_some {sums : List Int} {c v : Int} (hv : v ∈ sums) (h : c ≤ v) : (firstTick sums c).isSome = true := by
  unfold firstTick
  rw [List.findIdx?_isSome, List.any_eq_true]
  exact ⟨v, hv, decide_eq_true h⟩
theorem map_load (ls : Lvs) : (ls.map dLv).map sndD = (ls.map (·.2)).map PyData.int := by rw [List.map_map, List.map_map]; rfl
theorem map_wait (ls : Lvs) : (ls.map dLv).map mulD = (ls.map fun p => p.1 * p.2).map PyData.int := by rw [List.map_map, List.map_map]; rfl
section
variable {P : Program} {w : World} {K : PySem.W.Frag} {mg : Str → Option Value} {base : Heap} {C : Addr}
def S_waited : DSpec := fun ds k => ∃ F last ls sums, ds = [dB last ls, .list (iL sums)] ∧ F.Ok ∧ BkOk F last ls ∧ (∀ c, 1 ≤ c → c ≤ goneOf ls → (firstTick sums c).isSome = true) ∧ k (.int (waitedOf ls sums))
def ftD (sums : List Int) : PyData → PyData
  | .int c => dO (firstTick sums c)
  | _ => .none
abbrev dWaits (F : Fy) (last : Int) (ls : Lvs) : PyData := dP (waitsOf F last ls)
/-- the mends of leaving i, up to j loads -/
def _root_.FM.mendsRow (F : Fy) (last : Int) (ls : Lvs) (i : Nat) (p : Int × Int) (j : Nat) : List (Int × Int) :=
  ((List.range j).filter fun (l : Nat) => decide (1 + (l : Int) ≠ p.2) && !(stairs F last (ls.set i (p.1, 1 + (l : Int)))).isNone).map fun (l : Nat) => ((i : Int), 1 + (l : Int))
def _root_.FM.mendsTo (F : Fy) (last : Int) (ls : Lvs) (i : Nat) : List (Int × Int) := (List.range i).flatMap fun i => mendsRow F last ls i (ls.getD i (0, 0)) F.s.toNat
def _root_.FM.mendsOf (F : Fy) (last : Int) (ls : Lvs) : List (Int × Int) := mendsTo F last ls ls.length
abbrev dMends (F : Fy) (last : Int) (ls : Lvs) : PyData := .list ((mendsOf F last ls).map dLv)
theorem mendsRow_len (F : Fy) (last : Int) (ls : Lvs) (i : Nat) (p : Int × Int) (j : Nat) : (mendsRow F last ls i p j).length ≤ j := by
  unfold mendsRow
  rw [List.length_map]
  exact Nat.le_trans (List.length_filter_le _ _) (by rw [List.length_range]; exact Nat.le_refl _)
theorem filter1 {α : Type} {p : α → Bool} {a : α} : [a].filter p = if p a = true then [a] else [] := by rw [List.filter_cons]; rfl
theorem mendsRow_S (F : Fy) (last : Int) (ls : Lvs) (i : Nat) (p : Int × Int) (j : Nat) : mendsRow F last ls i p (j + 1) = mendsRow F last ls i p j ++ (if (decide (1 + (j : Int) ≠ p.2) && !(stairs F last (ls.set i (p.1, 1 + (j : Int)))).isNone) = true then [((i : Int), 1 + (j : Int))] else []) := by
  unfold mendsRow
  rw [List.range_succ, List.filter_append, List.map_append]
  congr 1
  rw [filter1]
  split <;> rfl
theorem mendsTo_S (F : Fy) (last : Int) (ls : Lvs) (i : Nat) : mendsTo F last ls (i + 1) = mendsTo F last ls i ++ mendsRow F last ls i (ls.getD i (0, 0)) F.s.toNat := by
  unfold mendsTo
  rw [List.range_succ, List.flatMap_append, List.flatMap_singleton]
theorem mendsTo_len {F : Fy} (last : Int) (ls : Lvs) (h : F.s ≤ 12) (i : Nat) : (mendsTo F last ls i).length ≤ 12 * i := by
  induction i with
  | zero => exact Nat.le_refl _
  | succ i ih =>
    rw [mendsTo_S, List.length_append]
    have := mendsRow_len F last ls i (ls.getD i (0, 0)) F.s.toNat
    omega
theorem _root_.FM.BkOk.swap {F : Fy} {last : Int} {ls : Lvs} {i : Nat} {p : Int × Int} {v : Int} (ok : BkOk F last ls) (h : ls[i]? = some p) (h1 : 1 ≤ v) (h2 : v ≤ F.s) : BkOk F last (ls.set i (p.1, v)) := by
  have hm := ok.tk p (List.mem_of_getElem? h)
  refine ⟨ok.l0, ok.l1, by rw [List.length_set]; exact ok.n, fun q hq => ?_, fun q hq => ?_, ?_⟩
  · rcases List.mem_or_eq_of_mem_set hq with z | z
    · exact ok.tk q z
    · rw [z]; exact hm
  · rcases List.mem_or_eq_of_mem_set hq with z | z
    · exact ok.ld q z
    · rw [z]; exact ⟨h1, h2⟩
  · rw [List.pairwise_iff_getElem]
    intro a b ha hb lt
    rw [List.length_set] at ha hb
    have hu := List.pairwise_iff_getElem.mp ok.up a b ha hb lt
    obtain ⟨hi, e⟩ := List.getElem?_eq_some_iff.mp h
    have fs : ∀ j (hj : j < ls.length), ((ls.set i (p.1, v))[j]'(by rw [List.length_set]; exact hj)).1 = ls[j].1 := fun j hj => by
      rw [List.getElem_set]
      split
      · rename_i z; subst z; rw [e]
      · rfl
    rw [fs a ha, fs b hb]
    exact hu
theorem sc_mends : FnScope ["ferry", "book", "found", "last", "leavings", "at", "load", "tick", "mine", "other"] ["ferry", "book"] (defScope s_mends) := ⟨rfl, rfl, rfl, by decide +kernel, rfl, by decide +kernel, by decide +kernel⟩
theorem ok_mends {f : Addr} {fd : FuncData} {k : Nat} (F : Fun K "mends" "mends" s_mends f fd) (T : GT mg) (g_look_at : Kn P w K mg base k "look_at" ["ferry", "book"] (spD S_look_at)) (g_stairs_so : Kn P w K mg base k "stairs_so" ["ferry", "book"] (spD (S_fb dStairs))) :
    FnOk P w K mg base CX0 (k + 1) f fd ["ferry", "book"] (spD (S_fb dMends)) := by
  refine fn_D F sc_mends T.b (fun ds q ⟨_, _, _, e, _⟩ => by rw [e]; rfl) ?_
  rintro cdv A outer s H E _ q hr ck ⟨Y, last, ls, rfl, okF, ok, h⟩
  have n10 := ok.n
  have s2 := okF.s2
  have s1 := okF.s1
  refine bb_cons <| ss_expr <| ee_call ⟨_, hr, g_look_at⟩ <| ea_cons <| ee_var 0 rfl <| ea_cons <| ee_var 1 rfl <| ea_nil <| ⟨Y, last, ls, rfl, okF, ok, bb_cons <| ss_asg <| ee_var 1 rfl <| gg_tup ck <| ggs_cons <| gg_name 3 ck <| ggs_cons <| gg_name 4 ck <| ggs_nil <|
    bb_cons <| ss_setL 2 ck <| ea_nil <| ⟨by decide, fun l =>
    bb_cons <| ss_for ck <| ii_enumT ck <| ea_cons <| ee_var 4 rfl <| ea_nil <| ⟨_, rfl, fun i ρ => ∃ d5 d6 d7 d8 d9, ρ = [.dat (dF Y), .dat (dB last ls), .own l ((mendsTo Y last ls i).map dLv), .dat (.int last), .dat (dLs ls), d5, d6, d7, d8, d9] ∧ d5.ad = [] ∧ d6.ad = [] ∧ d7.ad = [] ∧ d8.ad = [] ∧ d9.ad = [], ⟨_, _, _, _, _, rfl, rfl, rfl, rfl, rfl, rfl⟩, ?_, ?_⟩⟩⟩
  · rintro i d ρ hd ⟨d5, d6, d7, d8, d9, rfl, e5, e6, e7, e8, e9⟩
    obtain ⟨p, hp, rfl⟩ := enumD_map dLv hd
    have eg : ls.getD i (0, 0) = p := by rw [List.getD_eq_getElem?_getD, hp]; rfl
    have hi : i < ls.length := (List.getElem?_eq_some_iff.mp hp).1
    refine ⟨_, gg_tup ck <| ggs_cons <| gg_name 5 ck <| ggs_cons <| gg_tup ck <| ggs_cons <| gg_name 7 ck <| ggs_cons <| gg_name 8 ck <| ggs_nil <| ggs_nil <|
      bb_one <| ss_for ck <| ii_range2 ck <| ea_cons <| ee_int <| ea_cons <| ee_add <| ee_ix <| ee_var 0 rfl <| ee_int <| ⟨_, rfl, ee_int <| ea_nil <| ⟨1, Y.s + 1, rfl, by omega, fun j ρ => ∃ d6 d9, ρ = [.dat (dF Y), .dat (dB last ls), .own l ((mendsTo Y last ls i ++ mendsRow Y last ls i p j).map dLv), .dat (.int last), .dat (dLs ls), .dat (.int (i : Int)), d6, .dat (.int p.1), .dat (.int p.2), d9] ∧ d6.ad = [] ∧ d9.ad = [], ⟨d6, d9, ?_, e6, e9⟩, ?_, ?_⟩⟩⟩
    · rw [show mendsRow Y last ls i p 0 = [] from rfl, List.append_nil]
      rfl
    · rintro j d ρ hd ⟨d6, d9, rfl, e6, e9⟩
      obtain ⟨hj, rfl⟩ := rngD_get hd
      have c1 : DL.cutD (ls.map dLv) none (some (i : Int)) = (ls.take i).map dLv := by rw [cutD_to (by omega), Int.toNat_natCast, List.map_take]
      have c2 : DL.cutD (ls.map dLv) (some ((i : Int) + 1)) none = (ls.drop (i + 1)).map dLv := by rw [cutD_from (by omega), show ((i : Int) + 1).toNat = i + 1 by omega, List.map_drop]
      have es : (DL.cutD (ls.map dLv) none (some (i : Int)) ++ [dLv (p.1, 1 + (j : Int))]) ++ DL.cutD (ls.map dLv) (some ((i : Int) + 1)) none = (ls.set i (p.1, 1 + (j : Int))).map dLv := by
        rw [c1, c2, List.set_eq_take_append_cons_drop, if_pos hi, List.map_append, List.map_cons, List.append_assoc]
        rfl
      have l1 : (DL.cutD (ls.map dLv) none (some (i : Int))).length ≤ 10 := by rw [c1, List.length_map, List.length_take]; omega
      have l2 : (DL.cutD (ls.map dLv) (some ((i : Int) + 1)) none).length ≤ 10 := by rw [c2, List.length_map, List.length_drop]; omega
      have ml : (mendsTo Y last ls i ++ mendsRow Y last ls i p j).length ≤ 1000 := by
        have a1 := mendsTo_len last ls okF.s2 i
        have a2 := mendsRow_len Y last ls i p j
        rw [List.length_append]; omega
      refine ⟨_, gg_name 6 ck <|
        bb_cons <| ss_set 9 ck <| ee_add <| ee_add <| ee_sl <| ee_var 4 rfl <| ee_var 5 rfl <| ⟨_, rfl, ee_tup <| ea_cons <| ee_tup <| ea_cons <| ee_var 7 rfl <| ea_cons <| ee_var 6 rfl <| ea_nil <| ⟨le2, ea_nil <| ⟨(by show 1 ≤ 1000000; decide), ⟨?_, ee_sl <| ee_var 4 rfl <| ee_add <| ee_var 5 rfl <| ee_int <| ⟨_, rfl, ⟨?_, ?_⟩⟩⟩⟩⟩⟩⟩
      · show (DL.cutD (ls.map dLv) none (some (i : Int))).length + 1 ≤ 1000000
        omega
      · rw [List.length_append]
        show (DL.cutD (ls.map dLv) none (some (i : Int))).length + 1 + _ ≤ 1000000
        omega
      · have es' : PyData.tuple ((DL.cutD (ls.map dLv) none (some (i : Int)) ++ [dLv (p.1, 1 + (j : Int))]) ++ DL.cutD (ls.map dLv) (some ((i : Int) + 1)) none) = dLs (ls.set i (p.1, 1 + (j : Int))) := congrArg PyData.tuple es
        rw [es']
        have okS : BkOk Y last (ls.set i (p.1, 1 + (j : Int))) := ok.swap hp (by omega) (by omega)
        refine bb_one <| ss_if (et_M (t := decide (1 + (j : Int) ≠ p.2) && !(stairs Y last (ls.set i (p.1, 1 + (j : Int)))).isNone) (et_bool <| ew_andM (et_cmp <| ee_var 6 rfl <| ee_var 8 rfl <| br_ne ck <| ⟨?_, rfl⟩) (fun _ => ew_one <| et_cmp <| ee_call ⟨_, hr, g_stairs_so⟩ <| ea_cons <| ee_var 0 rfl <| ea_cons <| ee_tup <| ea_cons <| ee_var 3 rfl <| ea_cons <| ee_var 9 rfl <| ea_nil <| ⟨le2, ea_nil <| ⟨Y, last, _, rfl, okF, okS, ee_non <| br_notN <| ⟨by rw [dSt_no], rfl⟩⟩⟩))
         (ite2 (fun c =>
        bb_one <| ss_app 2 rfl <| ee_tup <| ea_cons <| ee_var 5 rfl <| ea_cons <| ee_var 6 rfl <| ea_nil <| ⟨le2, ⟨_, rfl, by rw [List.length_map]; omega,
          ⟨.dat (.int (1 + (j : Int))), .dat (dLs (ls.set i (p.1, 1 + (j : Int)))), ?_, rfl, rfl⟩⟩⟩)
         (fun c =>
        bb_nil <| ⟨.dat (.int (1 + (j : Int))), .dat (dLs (ls.set i (p.1, 1 + (j : Int)))), ?_, rfl, rfl⟩)))
        · by_cases z : (1 + (j : Int) = p.2)
          · rw [decide_eq_true z, decide_eq_false fun y => y z]; rfl
          · rw [decide_eq_false z, decide_eq_true z]; rfl
        · rw [mendsRow_S, if_pos c, ← List.append_assoc, List.map_append (l₂ := [_])]
          rfl
        · rw [mendsRow_S, if_neg c, List.append_nil]
          rfl
    · rintro ρ ⟨d6, d9, rfl, e6, e9⟩
      refine ⟨.dat (.int (i : Int)), d6, .dat (.int p.1), .dat (.int p.2), d9, ?_, rfl, e6, rfl, rfl, e9⟩
      rw [rngD_len, mendsTo_S, eg, show (Y.s + 1 - 1).toNat = Y.s.toNat by omega]
  · rintro ρ ⟨d5, d6, d7, d8, d9, rfl, e5, e6, e7, e8, e9⟩
    rw [enumD_len, List.length_map]
    exact bb_freeze 2 rfl <| bb_one <| ss_ret <| ee_var 2 rfl <| h
end
end FB

namespace FB
open PySem PySem.Spec PyProof.Rows L2 DL FM
/-! ### how_many -/
def lkD (t : List (Int × Int)) (many : Int) : PyData → Option PyData
  | .int more => (t.lookup (many - more)).map PyData.int
  | _ => none
theorem hm_list (t : List (Int × Int)) (m many : Int) : (rngD 0 (m + 1).toNat).filterMap (lkD t many) = iL (hmSums t m many) := by
  unfold rngD hmSums iL
  rw [List.filterMap_map, List.map_filterMap]
  congr 1
  funext j
  show (t.lookup (many - (0 + (j : Int)))).map PyData.int = _
  rw [Int.zero_add]
theorem hmSums_len (t : List (Int × Int)) (m many : Int) : (hmSums t m many).length ≤ (m + 1).toNat := by
  unfold hmSums
  exact Nat.le_trans (List.length_filterMap_le _ _) (by rw [List.length_range]; exact Nat.le_refl _)
section
variable {P : Program} {w : World} {K : PySem.W.Frag} {mg : Str → Option Value} {base : Heap} {C : Addr}
abbrev dMany (F : Fy) (last : Int) (ls : Lvs) : PyData := .int (howMany F last ls)
theorem sc_how_many : FnScope ["ferry", "book", "some", "table", "least", "most", "later", "many", "sums", "more"] ["ferry", "book"] (defScope s_how_many) := ⟨rfl, rfl, rfl, by decide +kernel, rfl, by decide +kernel, by decide +kernel⟩
theorem ok_how_many {f : Addr} {fd : FuncData} {k : Nat} (F : Fun K "how_many" "how_many" s_how_many f fd) (T : GT mg) (g_look_at : Kn P w K mg base k "look_at" ["ferry", "book"] (spD S_look_at)) (g_stairs_so : Kn P w K mg base k "stairs_so" ["ferry", "book"] (spD (S_fb dStairs))) :
    FnOk P w K mg base CX0 (k + 1) f fd ["ferry", "book"] (spD (S_fb dMany)) := by
  refine fn_D F sc_how_many T.b (fun ds q ⟨_, _, _, e, _⟩ => by rw [e]; rfl) ?_
  rintro cdv A outer s H E _ q hr ck ⟨Y, last, ls, rfl, okF, ok, h⟩
  refine bb_cons <| ss_expr <| ee_call ⟨_, hr, g_look_at⟩ <| ea_cons <| ee_var 0 rfl <| ea_cons <| ee_var 1 rfl <| ea_nil <| ⟨Y, last, ls, rfl, okF, ok, bb_cons <| ss_set 2 ck <| ee_call ⟨_, hr, g_stairs_so⟩ <| ea_cons <| ee_var 0 rfl <| ea_cons <| ee_var 1 rfl <| ea_nil <| ⟨Y, last, ls, rfl, okF, ok, ?_⟩⟩
  unfold dMany howMany at h
  unfold dStairs
  have m1 := okF.m1
  have m2 := okF.m2
  cases hs : stairs Y last ls with
  | none =>
    rw [hs] at h
    exact bb_cons <| ss_if (et_M (et_cmp <| ee_var 2 rfl <| ee_non <| br_isN <| ⟨rfl, rfl⟩) (ifT rfl <| bb_one <| ss_ret <| ee_int h))
  | some st =>
    rw [hs] at h
    have l := st_small ok hs
    have bd := stairs_in okF ok hs
    refine bb_cons <| ss_if (et_M (et_cmp <| ee_var 2 rfl <| ee_non <| br_isN <| ⟨rfl, rfl⟩) (ifF rfl <|
      bb_nil <| bb_cons <| ss_setD1 3 ck <| bb_cons <| ss_for ck <| ii_list <| ee_var 2 rfl <| ⟨_, rfl, fun i ρ => ∃ d4 d5 d6 d7 d8 d9, ρ = [.dat (dF Y), .dat (dB last ls), .dat (dSt (some st)), .fI (hmTable Y.m (st.take i)), d4, d5, d6, d7, d8, d9] ∧ (d4.ad = [] ∧ d5.ad = [] ∧ d6.ad = [] ∧ d7.ad = [] ∧ d8.ad = [] ∧ d9.ad = []), ⟨_, _, _, _, _, _, rfl, rfl, rfl, rfl, rfl, rfl, rfl⟩, ?_, ?_⟩))
    · rintro i d ρ hd ⟨d4, d5, d6, d7, d8, d9, rfl, e4, e5, e6, e7, e8, e9⟩
      rw [List.getElem?_map] at hd
      cases hp : st[i]? with
      | none => rw [hp] at hd; cases hd
      | some pr =>
      rw [hp] at hd
      cases hd
      obtain ⟨b1, b2, b3⟩ := bd pr (List.mem_of_getElem? hp)
      have eS : hmTable Y.m (st.take (i + 1)) = hmStep Y.m (hmTable Y.m (st.take i)) pr := by
        unfold hmTable
        rw [List.take_succ, hp, List.foldl_append]
        rfl
      generalize hmTable Y.m (st.take i) = t at *
      refine ⟨_, gg_tup ck <| ggs_cons <| gg_name 4 ck <| ggs_cons <| gg_name 5 ck <| ggs_nil <|
        bb_cons <| ss_setDE 6 ck <| fun a => bb_cons <| ss_for ck <| ii_range2 ck <| ea_cons <| ee_var 4 rfl <| ea_cons <| ee_add <| ee_var 5 rfl <| ee_int <| ea_nil <| ⟨pr.1, pr.2 + 1, rfl, by omega,
          fun j ρ => ∃ d7 d8, ρ = [.dat (dF Y), .dat (dB last ls), .dat (dSt (some st)), .fI t, .dat (.int pr.1), .dat (.int pr.2), .dI a (hmNext t Y.m pr.1 j), d7, d8, d9] ∧ d7.ad = [] ∧ d8.ad = [], ⟨_, _, rfl, e7, e8⟩, ?_, ?_⟩⟩
      · rintro j d ρ hd ⟨d7, d8, rfl, e7, e8⟩
        obtain ⟨hj, rfl⟩ := rngD_get hd
        refine ⟨_, gg_name 7 ck <|
          bb_cons <| ss_setLc 8 [("more", 9)] ck (blkOk_by rfl) (ii_range1 ck <| ea_cons <| ee_add <| ee_ix <| ee_var 0 rfl <| ee_int <| ⟨_, rfl, ee_int <| ea_nil <| ⟨Y.m + 1, rfl, by omega, lkD t (pr.1 + (j : Int)), ?_, ?_, ?_⟩⟩) (sw_true rfl rfl rfl (by decide +kernel))⟩
        · rw [rngD_len]; omega
        · intro d hd
          obtain ⟨n, hn⟩ := List.mem_iff_getElem?.mp hd
          obtain ⟨_, rfl⟩ := rngD_get hn
          refine ⟨[9], fun j hj => hj, fun _ _ _ _ _ => gg_name 9 ck.blk <| fun _ _ _ _ _ => et_dinF 3 ck.blk <| ee_sub <| ee_var 7 rfl <| ee_var 9 rfl <| ⟨_, t, rfl, rfl, ite2 (fun c _ _ _ _ _ => ?_) (fun c => ?_)⟩⟩
          · obtain ⟨v, hv⟩ := Option.isSome_iff_exists.mp c
            exact ee_dgetF 3 ck.blk rfl <| ee_sub <| ee_var 7 rfl <| ee_var 9 rfl <| ⟨_, v, rfl, hv, by show Option.map _ _ = _; rw [hv]; rfl⟩
          · show Option.map PyData.int (t.lookup _) = none
            rw [Option.not_isSome_iff_eq_none.mp c]; rfl
        · rw [hm_list]
          have hn := hmNext_S t Y.m pr.1 j
          have hsl := hmSums_len t Y.m (pr.1 + (j : Int))
          by_cases hz : hmSums t Y.m (pr.1 + (j : Int)) = []
          · rw [if_pos hz, List.append_nil] at hn
            rw [hz]
            exact bb_one <| ss_if (et_cmp <| ee_var 8 rfl <| ee_lst <| ea_nil <| ⟨by decide, br_ne ck <| ⟨⟨rfl, rfl⟩, ifF (by decide +kernel) <| bb_nil <| ⟨_, _, by rw [hn]; rfl, rfl, rfl⟩⟩⟩)
          · rw [if_neg hz] at hn
            have ne : (!PyData.eqv (.list (iL (hmSums t Y.m (pr.1 + (j : Int))))) (.list [])) = true := by
              cases hq : hmSums t Y.m (pr.1 + (j : Int)) with
              | nil => exact absurd hq hz
              | cons a r => rfl
            refine bb_one <| ss_if (et_cmp <| ee_var 8 rfl <| ee_lst <| ea_nil <| ⟨by decide, br_ne ck <| ⟨⟨?_, rfl⟩, ifT ne <|
              bb_one <| ss_dput 6 ck <| ee_sum ck <| ea_cons <| ee_var 8 rfl <| ea_nil <| ⟨_, rfl, _, _, rfl, rfl, ee_var 7 rfl <| ⟨_, _, rfl, rfl, hmNext_new t Y.m pr.1 j, ?_, ⟨.dat (.int (pr.1 + (j : Int))), .dat (.list (iL (hmSums t Y.m (pr.1 + (j : Int))))), ?_, rfl, rfl⟩⟩⟩⟩⟩)
            · exact (shp_ints _).ok
            · have := hmNext_len t Y.m pr.1 j
              omega
            · rw [hn]
              rfl
      · rintro ρ ⟨d7, d8, rfl, e7, e8⟩
        refine bb_one <| ss_moveD 3 6 ck rfl <| ⟨.dat (.int pr.1), .dat (.int pr.2), .fI (hmStep Y.m t pr), d7, d8, d9, ?_, rfl, rfl, rfl, e7, e8, e9⟩
        rw [rngD_len, eS]
        rfl
    · rintro ρ ⟨d4, d5, d6, d7, d8, d9, rfl, e4, e5, e6, e7, e8, e9⟩
      rw [List.length_map, List.take_length]
      exact bb_one <| ss_ret <| ee_sumV 3 ck rfl <| h
end
end FB

namespace FB
open PySem PySem.Spec PyProof.Rows L2 DL FM
/-! ### the law's own hands: wells, draws, bags, ferries -/
section
variable {P : Program} {w : World} {K : PySem.W.Frag} {mg : Str → Option Value} {base : Heap} {C : Addr}
theorem sc_well : FnScope ["cell", "turn"] ["cell", "turn"] (defScope s__law_well) := ⟨rfl, rfl, rfl, by decide +kernel, rfl, by decide +kernel, by decide +kernel⟩
theorem bag_new {H : Hp} {p : Addr} {z c t : Int} (h : 0 ≤ t ∧ t ≤ 2 ^ 59) : BagOk (upd H p (.lst [.int z, .int (c % 2305843009213693951), .int t])) p bagN := by
  refine ⟨z, _, t, upd_same, Int.emod_nonneg _ (by decide), Int.emod_lt_of_pos _ (by decide), h.1, ?_⟩
  have e : ((bagN : Nat) : Int) = 2 ^ 59 := by unfold bagN; exact Int.natCast_pow 2 59
  rw [e]
  omega
theorem ea_run {X : Cx} {F : Fm} {σ : L2.St} {H : Hp} {ρ : List Sl} {es : List Expr} {Φ : List PyData → List Sl → Prop} {Q : List V → Hp → Prop} (S : Stt F H σ ρ) (h : EA X ρ es Φ) (k : KA F σ (gh F ρ H) Φ Q) : tA X es σ H Q := h F σ H Q S k
theorem ok_well {f : Addr} {fd : FuncData} (F : Fun K "_law_well" "_law_well" s__law_well f fd) (T : GT mg) : FnOk P w K mg base CX0 1 f fd ["cell", "turn"] spW := by
  refine F.ok sc_well (fun vs H Q E h => ?_) (fun cdv A outer s H vs Q E hr h => ?_)
  · obtain ⟨c, t, rfl, _⟩ := h
    rfl
  · obtain ⟨c, t, rfl, ht, k⟩ := h
    have ck : CK (cxOf CX0 P w K mg base ["cell", "turn"] "_law_well" (defScope s__law_well) f cdv A outer s H E).nox := ⟨rfl, sc_well.nd, by
      show (A.deeper (envOfC "_law_well" (defScope s__law_well) s.heap.objs.size f cdv)).units + 100 < cLine
      have := hr.un
      omega, T.b⟩
    refine ⟨_, pss_cons (ps_if ptW (pss_one (ps_ret (pe_lst paW))) pss_nil) (pss_one (ps_ret (pe_lst paW))), ?_⟩
    have St : Stt ⟨[], [], H⟩ H (start ["cell", "turn"] [.int c, .int t]) [.dat (.int c), .dat (.int t)] := ⟨(fun _ m => nomatch m), fun a o _ e => e, fun a e => e, List.nodup_nil, (fun a m => nomatch m), (fun a m => nomatch m), ⟨⟨_, rfl, .int c⟩, ⟨_, rfl, .int t⟩, trivial⟩⟩
    refine (et_cmp (Ψ := fun _ ρ1 => ρ1 = [.dat (.int c), .dat (.int t)]) <| ee_var 0 rfl <| ee_pow <| ee_int <| ee_int <| ⟨by decide, br_ge rfl⟩) _ _ H _ St fun b H1 ρ1 er S1 g1 => ?_
    subst er
    have s1 : Same H H1 := fun a o e => S1.fr a o (fun z => nomatch z) e
    have fin : ∀ (z : Int) (H2 : Hp) (us : List V) (ds : List PyData) (ρ2 : List Sl), Stt ⟨[], [], H⟩ H2 (start ["cell", "turn"] [.int c, .int t]) ρ2 → RpAll (gh ⟨[], [], H⟩ ρ2 H2) us ds → ds = [.int z, .int (c % 2305843009213693951), .int t] → us.length ≤ sizeLine ∧ ∀ p, H2 p = none → Q (.ref p) (upd H2 p (.lst us)) := fun z H2 us ds ρ2 S2 r ed => by
      subst ed
      match us, r with
      | [_, _, _], .cons (.int _) (.cons (.int _) (.cons (.int _) .nil)) =>
        refine ⟨by show 3 ≤ sizeLine; decide, fun p hp => k p _ (fun a o e => ?_) ?_ (bag_new ht)⟩
        · have e2 : H2 a = some o := S2.fr a o (fun z => nomatch z) e
          rw [upd_ne (ne_of_none e2 hp)]; exact e2
        · cases q : H p with
          | none => rfl
          | some o => have := S2.fr p o (fun z => nomatch z) q; rw [hp] at this; cases this
    cases b with
    | true =>
      refine iteT ?_
      exact ea_run (Φ := fun ds _ => ds = [.int (c - 10 ^ (18 : Int).toNat), .int (c % 2305843009213693951), .int t]) S1 (ea_cons <| ee_sub <| ee_var 0 rfl <| ee_pow <| ee_int <| ee_int <| ⟨by decide, ea_cons <| ee_mod <| ee_var 0 rfl <| ee_int <| ⟨by decide, ea_cons <| ee_var 1 rfl <| ea_nil rfl⟩⟩) fun us H2 ds ρ2 ed S2 g2 r => fin _ H2 us ds ρ2 S2 r ed
    | false =>
      refine iteF ?_
      exact ea_run (Φ := fun ds _ => ds = [.int 0, .int (c % 2305843009213693951), .int t]) S1 (ea_cons <| ee_int <| ea_cons <| ee_mod <| ee_var 0 rfl <| ee_int <| ⟨by decide, ea_cons <| ee_var 1 rfl <| ea_nil rfl⟩) fun us H2 ds ρ2 ed S2 g2 r => fin _ H2 us ds ρ2 S2 r ed
def S_take : SpecB := fun ds n k => ∃ m : Int, ds = [.int m] ∧ (1 ≤ m ∧ m < 1073741824) ∧ 1 ≤ n ∧ ∀ v, 0 ≤ v → v < m → k (.int v) (n - 1)
theorem sc_take : FnScope ["bag", "many", "found", "p", "n"] ["bag", "many"] (defScope s__law_take) := ⟨rfl, rfl, rfl, by decide +kernel, rfl, by decide +kernel, by decide +kernel⟩
theorem ok_take {f : Addr} {fd : FuncData} (F : Fun K "_law_take" "_law_take" s__law_take f fd) (T : GT mg) : FnOk P w K mg base CX0 1 f fd ["bag", "many"] (spB S_take) := by
  refine fn_B F sc_take T.b (fun ds n q ⟨_, e, _⟩ => by rw [e]; rfl) ?_
  rintro cdv A outer s H E b _ n q hr ck ⟨m, rfl, ⟨m1, m2⟩, n1, h⟩
  refine bb_open fun z w0 t ⟨a1, a2, a3, a4⟩ => ?_
  have a2' : w0 < 2305843009213693951 := a2
  refine bb_cons <| ss_if (et_cmp <| ee_ixOwn 0 rfl <| ee_int <| ⟨0, .int z, _, rfl, rfl, rfl, ee_int <| br_gt <| ite2 (fun c => ?_) (fun c => bb_nil ?_)⟩)
  · exact bb_cons <| ss_set 2 ck <| ee_mod <| ee_ixOwn 0 rfl <| ee_int <| ⟨0, .int z, _, rfl, rfl, rfl, ee_var 1 rfl <| ⟨by omega,
      bb_cons <| ss_ixset 0 <| ee_fdiv <| ee_ixOwn 0 rfl <| ee_int <| ⟨0, .int z, _, rfl, rfl, rfl, ee_var 1 rfl <| ⟨by omega, ⟨_, rfl, ee_int ⟨0, 0, _, rfl, rfl, rfl,
      bb_one <| ss_ret <| ee_var 2 rfl <| ⟨_, w0, t, n - 1, rfl, ⟨a1, a2, a3, by omega⟩, h _ (Int.emod_nonneg _ (by omega)) (Int.emod_lt_of_pos _ (by omega))⟩⟩⟩⟩⟩⟩⟩
  · refine bb_cons <| ss_ixset 0 <| ee_add <| ee_ixOwn 0 rfl <| ee_int <| ⟨2, .int t, _, rfl, rfl, rfl, ee_int <| ⟨_, rfl, ee_int ⟨2, 2, _, rfl, rfl, rfl,
      bb_cons <| ss_set 3 ck <| ee_int <|
      bb_cons <| ss_set 4 ck <| ee_mod <| ee_add <| ee_ixOwn 0 rfl <| ee_int <| ⟨1, .int w0, _, rfl, rfl, rfl, ee_mul <| ee_int <| ee_ixOwn 0 rfl <| ee_int <| ⟨2, .int (t + 1), _, rfl, rfl, rfl, ⟨.inl ⟨by decide, by decide⟩, ee_var 3 rfl <| ⟨by decide, ?_⟩⟩⟩⟩⟩⟩⟩
    have n0 := Int.emod_nonneg (w0 + 1000003 * (t + 1)) (b := 2305843009213693951) (by decide)
    have n2 := Int.emod_lt_of_pos (w0 + 1000003 * (t + 1)) (b := 2305843009213693951) (by decide)
    generalize (w0 + 1000003 * (t + 1)) % 2305843009213693951 = v1 at *
    refine bb_cons <| ss_set 4 ck <| ee_mod <| ee_add <| ee_add <| ee_mul <| ee_var 4 rfl <| ee_var 4 rfl <| ⟨.inl ⟨by omega, by omega⟩, ee_mul <| ee_int <| ee_pow <| ee_ixOwn 0 rfl <| ee_int <| ⟨2, .int (t + 1), _, rfl, rfl, rfl, ee_int <| ⟨⟨by decide, by decide, by omega⟩, ⟨.inl ⟨by decide, by decide⟩, ee_int <| ee_var 3 rfl <| ⟨by decide, ?_⟩⟩⟩⟩⟩
    have n3 := Int.emod_nonneg (v1 * v1 + 7919 * (t + 1) ^ (2 : Int).toNat + 5) (b := 2305843009213693951) (by decide)
    have n4 := Int.emod_lt_of_pos (v1 * v1 + 7919 * (t + 1) ^ (2 : Int).toNat + 5) (b := 2305843009213693951) (by decide)
    generalize (v1 * v1 + 7919 * (t + 1) ^ (2 : Int).toNat + 5) % 2305843009213693951 = v2 at *
    exact bb_one <| ss_ret <| ee_mod <| ee_fdiv <| ee_mod <| ee_pow <| ee_var 4 rfl <| ee_int <| ⟨⟨by decide, by decide, by omega⟩, ee_var 3 rfl <| ⟨by decide, ee_int <| ⟨by decide, ee_var 1 rfl <| ⟨by omega, ⟨z, w0, t + 1, n - 1, rfl, ⟨a1, a2, by omega, by omega⟩, h _ (Int.emod_nonneg _ (by omega)) (Int.emod_lt_of_pos _ (by omega))⟩⟩⟩⟩⟩
theorem at2 (x y v : Int) (h0 : 0 ≤ v) (h1 : v < 2) : ∃ c, atI [PyData.int x, .int y] v = some (.int c) ∧ (c = x ∨ c = y) := by
  rcases (by omega : v = 0 ∨ v = 1) with rfl | rfl
  · exact ⟨x, rfl, .inl rfl⟩
  · exact ⟨y, rfl, .inr rfl⟩
def S_lferry : SpecB := fun ds n k => ∃ little : Bool, ds = [.bool little] ∧ 10 ≤ n ∧ ∀ F : Fy, F.Ok → (little = true → F.s ≤ 3 ∧ F.w ≤ 3 ∧ F.a ≤ 3 ∧ F.m ≤ 2) → ∀ n', n ≤ n' + 10 → k (dF F) n'
theorem sc_lferry : FnScope ["bag", "little", "seats", "waits1", "away1"] ["bag", "little"] (defScope s__law_ferry) := ⟨rfl, rfl, rfl, by decide +kernel, rfl, by decide +kernel, by decide +kernel⟩
theorem ok_lferry {f : Addr} {fd : FuncData} (F : Fun K "_law_ferry" "_law_ferry" s__law_ferry f fd) (T : GT mg) (g__law_take : Kn P w K mg base 1 "_law_take" ["bag", "many"] (spB S_take)) : FnOk P w K mg base CX0 2 f fd ["bag", "little"] (spB S_lferry) := by
  refine fn_B F sc_lferry T.b (fun ds n q ⟨_, e, _⟩ => by rw [e]; rfl) ?_
  rintro cdv A outer s H E b _ n q hr ck ⟨little, rfl, n1, h⟩
  refine bb_cons <| ss_if (et_val <| ee_var 1 rfl <| ⟨_, rfl, ite2 (fun c => ?_) (fun c => bb_nil ?_)⟩)
  · exact bb_one <| ss_ret <| ee_tup <| ea_cons <| ee_add <| ee_int <| ee_callG 0 ⟨_, hr, g__law_take⟩ rfl <| ea_cons <| ee_int <| ea_nil <| ⟨_, rfl, 3, rfl, ⟨by decide, by decide⟩, by omega, fun v1 a1 b1 =>
      ea_cons <| ee_add <| ee_int <| ee_callG 0 ⟨_, hr, g__law_take⟩ rfl <| ea_cons <| ee_int <| ea_nil <| ⟨_, rfl, 3, rfl, ⟨by decide, by decide⟩, by omega, fun v2 a2 b2 =>
      ea_cons <| ee_add <| ee_int <| ee_callG 0 ⟨_, hr, g__law_take⟩ rfl <| ea_cons <| ee_int <| ea_nil <| ⟨_, rfl, 3, rfl, ⟨by decide, by decide⟩, by omega, fun v3 a3 b3 =>
      ea_cons <| ee_add <| ee_int <| ee_callG 0 ⟨_, hr, g__law_take⟩ rfl <| ea_cons <| ee_int <| ea_nil <| ⟨_, rfl, 2, rfl, ⟨by decide, by decide⟩, by omega, fun v4 a4 b4 =>
      ea_nil ⟨by show 4 ≤ 1000000; decide, ⟨_, rfl, h ⟨1 + v1, 1 + v2, 1 + v3, 1 + v4⟩ ⟨by show 1 ≤ 1 + v1; omega, by show 1 + v1 ≤ 12; omega, by show 1 ≤ 1 + v2; omega, by show 1 + v2 ≤ 20; omega, by show 1 ≤ 1 + v3; omega, by show 1 + v3 ≤ 20; omega, by show 1 ≤ 1 + v4; omega, by show 1 + v4 ≤ 9; omega⟩ (fun _ => ⟨by show 1 + v1 ≤ 3; omega, by show 1 + v2 ≤ 3; omega, by show 1 + v3 ≤ 3; omega, by show 1 + v4 ≤ 2; omega⟩) _ (by omega)⟩⟩⟩⟩⟩⟩
  · refine bb_cons <| ss_par (i := 2) (j := 3) ck <| ea_cons <| ee_add <| ee_int <| ee_callG 0 ⟨_, hr, g__law_take⟩ rfl <| ea_cons <| ee_int <| ea_nil <| ⟨_, rfl, 12, rfl, ⟨by decide, by decide⟩, by omega, fun v1 a1 b1 =>
      ea_cons <| ee_add <| ee_int <| ee_callG 0 ⟨_, hr, g__law_take⟩ rfl <| ea_cons <| ee_ix <| ee_lst <| ea_cons <| ee_int <| ea_cons <| ee_int <| ea_nil <| ⟨le2, ee_callG 0 ⟨_, hr, g__law_take⟩ rfl <| ea_cons <| ee_int <| ea_nil <| ⟨_, rfl, 2, rfl, ⟨by decide, by decide⟩, by omega, fun u2 c2 d2 => ?_⟩⟩⟩
    obtain ⟨x2, e2, x2'⟩ := at2 4 20 u2 c2 d2
    refine ⟨_, e2, ea_nil <| ⟨_, rfl, x2, rfl, ⟨by omega, by omega⟩, by omega, fun v2 a2 b2 => ea_nil ⟨_, _, rfl,
      bb_cons <| ss_set 4 ck <| ee_add <| ee_int <| ee_callG 0 ⟨_, hr, g__law_take⟩ rfl <| ea_cons <| ee_ix <| ee_lst <| ea_cons <| ee_int <| ea_cons <| ee_int <| ea_nil <| ⟨le2, ee_callG 0 ⟨_, hr, g__law_take⟩ rfl <| ea_cons <| ee_int <| ea_nil <| ⟨_, rfl, 2, rfl, ⟨by decide, by decide⟩, by omega, fun u3 c3 d3 => ?_⟩⟩⟩⟩⟩
    obtain ⟨x3, e3, x3'⟩ := at2 4 20 u3 c3 d3
    refine ⟨_, e3, ea_nil <| ⟨_, rfl, x3, rfl, ⟨by omega, by omega⟩, by omega, fun v3 a3 b3 =>
      bb_one <| ss_ret <| ee_tup <| ea_cons <| ee_var 2 rfl <| ea_cons <| ee_var 3 rfl <| ea_cons <| ee_var 4 rfl <| ea_cons <| ee_add <| ee_int <| ee_callG 0 ⟨_, hr, g__law_take⟩ rfl <| ea_cons <| ee_ix <| ee_lst <| ea_cons <| ee_int <| ea_cons <| ee_int <| ea_nil <| ⟨le2, ee_callG 0 ⟨_, hr, g__law_take⟩ rfl <| ea_cons <| ee_int <| ea_nil <| ⟨_, rfl, 2, rfl, ⟨by decide, by decide⟩, by omega, fun u4 c4 d4 => ?_⟩⟩⟩⟩
    obtain ⟨x4, e4, x4'⟩ := at2 2 9 u4 c4 d4
    exact ⟨_, e4, ea_nil <| ⟨_, rfl, x4, rfl, ⟨by omega, by omega⟩, by omega, fun v4 a4 b4 => ea_nil ⟨by show 4 ≤ 1000000; decide, ⟨_, rfl, h ⟨1 + v1, 1 + v2, 1 + v3, 1 + v4⟩ ⟨by show 1 ≤ 1 + v1; omega, by show 1 + v1 ≤ 12; omega, by show 1 ≤ 1 + v2; omega, by show 1 + v2 ≤ 20; omega, by show 1 ≤ 1 + v3; omega, by show 1 + v3 ≤ 20; omega, by show 1 ≤ 1 + v4; omega, by show 1 + v4 ≤ 9; omega⟩ (fun z => absurd z c) _ (by omega)⟩⟩⟩⟩
end
end FB

namespace FB
open PySem PySem.Spec PyProof.Rows L2 DL FM
section
variable {P : Program} {w : World} {K : PySem.W.Frag} {mg : Str → Option Value} {base : Heap} {C : Addr}
theorem sc_bags : FnScope ["script", "most", "k", "cell"] ["script", "most"] (defScope s__law_bags) := ⟨rfl, rfl, rfl, by decide +kernel, rfl, by decide +kernel, by decide +kernel⟩
theorem cutV_ints (ns : List Int) (lo hi : Option Int) : ∃ ms : List Int, cutV (ns.map V.int) lo hi = ms.map V.int ∧ ms.length ≤ ns.length := by
  unfold cutV
  refine ⟨(ns.drop _).take _, by rw [List.map_take, List.map_drop], ?_⟩
  rw [List.length_take, List.length_drop]
  omega
theorem ok_bags {f : Addr} {fd : FuncData} (F : Fun K "_law_bags" "_law_bags" s__law_bags f fd) (T : GT mg) (g : Kn P w K mg base 1 "_law_well" ["cell", "turn"] spW) : FnOk P w K mg base CX0 2 f fd ["script", "most"] (spBags K) := by
  refine F.ok sc_bags (fun vs H Q E h => ?_) (fun cdv A outer s H vs Q E hr h => ?_)
  · obtain ⟨a, ns, m, rfl, _⟩ := h
    rfl
  · obtain ⟨a, ns, m, rfl, hS, hn, hm, k⟩ := h
    have ck : CK (cxOf CX0 P w K mg base ["script", "most", "k", "cell"] "_law_bags" (defScope s__law_bags) f cdv A outer s H E).nox := ⟨rfl, sc_bags.nd, by
      show (A.deeper (envOfC "_law_bags" (defScope s__law_bags) s.heap.objs.size f cdv)).units + 100 < cLine
      have := hr.un
      omega, T.b⟩
    obtain ⟨fw, fdw, Gw, mgw, kpw, bdw⟩ := g
    have hr1 : Room 1 _ := hr
    refine ⟨_, pss_one (ps_ret (pe_lc (g := gTup K 2 (gCons (gName 2) (gCons (gName 3) gNil))) (own := [("k", 2), ("cell", 3)]) ck.calm ck.nd (pi_enum rfl (ck.bt _ (by simp [bNames])) (pa_cons (pe_op op_cat (pe_slice sl_list (pe_var (i := 0) rfl (Or.inl rfl) (by decide) (by decide)) po_none (po_some (pe_var (i := 1) rfl (Or.inl rfl) (by decide) (by decide)))) (pe_lst (pa_cons pe_int pa_nil))) pa_nil) rfl) (blkOk_by rfl)
      (fun s H C cl fp => pg_tup ck.blk.calm (pgs_cons (pg_name (i := 2) ck.blk.nd rfl (Or.inl rfl) (hf := Or.inr rfl)) (pgs_cons (pg_name (i := 3) ck.blk.nd rfl (Or.inl rfl) (hf := Or.inr rfl)) pgs_nil))) (fun s H C cl fp => pts_nil)
      (fun s H C cl fp => pe_call Gw hr1 rfl mgw kpw bdw .nil pass0 (pa_cons (pe_var (i := 3) rfl (Or.inl rfl) (by decide) (by decide)) (pa_cons (pe_op op_mul pe_int (pe_var (i := 2) rfl (Or.inl rfl) (by decide) (by decide))) pa_nil))))), ?_⟩
    obtain ⟨ms, em, lm⟩ := cutV_ints ns none (some m)
    refine ⟨_, rfl, _, rfl, m, rfl, a, ns.map V.int, rfl, hS, fun p hp => ?_⟩
    rw [em]
    refine ⟨by show 1 ≤ sizeLine; decide, fun p2 hp2 => ?_⟩
    have np : p ≠ p2 := fun z => by rw [← z, upd_same] at hp2; cases hp2
    refine ⟨p, p2, ms.map V.int, _, rfl, rfl, by rw [upd_ne np, upd_same], upd_same, big_le (by rw [List.length_map]; show ms.length + 1 ≤ 1000000; omega), fun p3 hp3 => ⟨_, _, rfl, .of upd_same, fun D hD => ?_⟩⟩
    have e3 : ms.map V.int ++ [V.int 0] = (ms ++ [0]).map V.int := by rw [List.map_append]; rfl
    rw [e3] at hD ⊢
    have hL : (ms ++ [0]).length ≤ 64 := by rw [List.length_append]; show ms.length + 1 ≤ 64; omega
    generalize ms ++ [0] = zs at *
    have s0 : Same H (upd (upd (upd H p (.lst (ms.map V.int))) p2 (.lst [V.int 0])) p3 (.lst (zs.map V.int))) := ((same_new hp).trans (same_new hp2)).trans (same_new hp3)
    have e0 : (upd (upd (upd H p (.lst (ms.map V.int))) p2 (.lst [V.int 0])) p3 (.lst (zs.map V.int))) p3 = some (.lst (zs.map V.int)) := upd_same
    generalize (upd (upd (upd H p (.lst (ms.map V.int))) p2 (.lst [V.int 0])) p3 (.lst (zs.map V.int))) = H1 at *
    refine ⟨fun i m H2 => m = zs.length - i ∧ i ≤ zs.length ∧ Same H1 H2 ∧ ∃ bs : List Addr, H2 D = some (.lst (bs.map V.ref)) ∧ bs.length = i ∧ bs.Nodup ∧ D ∉ bs ∧ ∀ b ∈ bs, BagOk H2 b bagN, ⟨_, rfl, Nat.zero_le _, same_new hD, [], upd_same, rfl, List.nodup_nil, (fun z => nomatch z), (fun _ z => nomatch z)⟩, ?_⟩
    rintro i m' H2 ⟨rfl, hi, s2, bs, eD, lb, nd, nD, hb⟩
    have eq3 : SqL K H2 p3 (zs.map V.int) := .of (s2 _ _ e0)
    by_cases hlt : i < zs.length
    · refine .inr ⟨⟨_, .int zs[i], eq3, by rw [List.getElem?_map, List.getElem?_eq_getElem hlt]; rfl⟩, fun H3 => Same H1 H3 ∧ ∃ bs : List Addr, H3 D = some (.lst (bs.map V.ref)) ∧ bs.length = i + 1 ∧ bs.Nodup ∧ D ∉ bs ∧ ∀ b ∈ bs, BagOk H3 b bagN, fun H3 ⟨a1, a2⟩ => ⟨zs.length - (i + 1), by omega, rfl, hlt, a1, a2⟩, ?_⟩
      rintro x H3 ⟨T, x, rfl, hT, rfl, hx⟩
      have hx' := hx _ eq3
      rw [List.getElem?_map, List.getElem?_eq_getElem hlt] at hx'
      cases hx'
      refine ⟨T, _, rfl, .of upd_same, rfl, _, _, rfl, _, _, rfl, rfl, ?_⟩
      refine ⟨rfl, ?_⟩
      unfold tYes
      dsimp only
      rw [if_pos rfl]
      refine ⟨_, rfl, _, rfl, _, _, rfl, rfl, .inl ⟨by decide, by decide⟩, zs[i], 977 * (i : Int), rfl, ⟨by omega, by omega⟩, fun b H4 s4 hb0 bo => ?_⟩
      have sT : Same H2 H4 := (same_new hT).trans s4
      have nbs : b ∉ bs := fun z => by
        obtain ⟨z1, w1, t1, e1, _⟩ := hb b z
        rw [(same_new hT) _ _ e1] at hb0; cases hb0
      have nbD : b ≠ D := fun z => by
        rw [z, (same_new hT) _ _ eD] at hb0; cases hb0
      refine ⟨bs.map V.ref, sT _ _ eD, big_lt (by rw [List.length_map]; omega), fun a o e => ?_, bs ++ [b], ?_, by rw [List.length_append, lb]; rfl, ?_, ?_, ?_⟩
      · have : a ≠ D := fun z => by rw [z, hD] at e; cases e
        rw [upd_ne this]
        exact sT _ _ (s2 _ _ e)
      · rw [upd_same, List.map_append]; rfl
      · exact List.nodup_append.mpr ⟨nd, by simp, fun x hx y hy z => nbs (by rw [← List.mem_singleton.mp hy, ← z]; exact hx)⟩
      · intro z
        rcases List.mem_append.mp z with z | z
        · exact nD z
        · exact nbD (List.mem_singleton.mp z).symm
      · intro c hc
        have bk : BagOk H4 c bagN := by
          rcases List.mem_append.mp hc with z | z
          · obtain ⟨z1, w1, t1, e1, r⟩ := hb c z
            exact ⟨z1, w1, t1, sT _ _ e1, r⟩
          · rw [List.mem_singleton.mp z]; exact bo
        have ncD : c ≠ D := fun z => by
          rcases List.mem_append.mp hc with y | y
          · exact nD (z ▸ y)
          · exact nbD ((List.mem_singleton.mp y).symm.trans z)
        obtain ⟨z1, w1, t1, e1, r⟩ := bk
        exact ⟨z1, w1, t1, by rw [upd_ne ncD]; exact e1, r⟩
    · refine .inl ⟨⟨_, eq3, by rw [List.length_map]; omega⟩, k D bs H2 (s0.trans s2) eD nd nD hb⟩
end
end FB

namespace FB
open PySem PySem.Spec PyProof.Rows L2 DL FM
/-! ### rows of the law -/
section
variable {P : Program} {w : World} {K : PySem.W.Frag} {mg : Str → Option Value} {base : Heap} {C : Addr}
def S_row : SpecB := fun ds n k => ∃ (F : Fy) (t : Int), ds = [dF F, .int t] ∧ F.Ok ∧ (1 ≤ t ∧ t ≤ 61) ∧ 200 ≤ n ∧ ∀ row : List Int, row.length = t.toNat → (∀ x ∈ row, 0 ≤ x ∧ x ≤ F.m) → ∀ n', n ≤ n' + 200 → k (.tuple (iL row)) n'
theorem sc_row : FnScope ["bag", "ferry1", "ticks1", "idle", "found", "turn"] ["bag", "ferry1", "ticks1"] (defScope s__law_row) := ⟨rfl, rfl, rfl, by decide +kernel, rfl, by decide +kernel, by decide +kernel⟩
theorem ok_row {f : Addr} {fd : FuncData} (F : Fun K "_law_row" "_law_row" s__law_row f fd) (T : GT mg) (g__law_take : Kn P w K mg base 1 "_law_take" ["bag", "many"] (spB S_take)) : FnOk P w K mg base CX0 2 f fd ["bag", "ferry1", "ticks1"] (spB S_row) := by
  refine fn_B F sc_row T.b (fun ds n q ⟨_, _, e, _⟩ => by rw [e]; rfl) ?_
  rintro cdv A outer s H E b _ n q hr ck ⟨Y, t, rfl, okF, ht, hn, h⟩
  have m1 := okF.m1
  have m2 := okF.m2
  refine bb_cons <| ss_set 3 ck <| ee_callG 0 ⟨_, hr, g__law_take⟩ rfl <| ea_cons <| ee_int <| ea_nil <| ⟨_, rfl, 6, rfl, ⟨by decide, by decide⟩, by omega, fun v0 a0 b0 =>
    bb_cons <| ss_setL 4 ck <| ea_nil <| ⟨by decide, fun l =>
    bb_cons <| ss_for ck <| ii_range1 ck <| ea_cons <| ee_var 2 rfl <| ea_nil <| ⟨t, rfl, by omega, fun i ρ => ∃ (row : List Int) (n' : Nat) (d5 : Sl), ρ = [.bag b n', .dat (dF Y), .dat (.int t), .dat (.int v0), .own l (iL row), d5] ∧ d5.ad = [] ∧ row.length = i ∧ (∀ x ∈ row, 0 ≤ x ∧ x ≤ Y.m) ∧ n ≤ n' + (1 + 2 * i), ⟨[], n - 1, .non, rfl, rfl, rfl, (fun x h => nomatch h), by omega⟩, ?_, ?_⟩⟩⟩
  · rintro i d ρ hd ⟨row, n', d5, rfl, e5, hl, hx, hb⟩
    obtain ⟨hi, rfl⟩ := rngD_get hd
    refine ⟨_, gg_name 5 ck <|
      bb_one <| ss_app 4 rfl <| ee_if (et_cmp <| ee_callG 0 ⟨_, hr, g__law_take⟩ rfl <| ea_cons <| ee_int <| ea_nil <| ⟨_, rfl, 6, rfl, ⟨by decide, by decide⟩, by omega, fun v1 a1 b1 => ee_var 3 rfl <| br_lt <| ite2 (fun c => ee_int <| ⟨_, rfl, by rw [iL_len]; omega, ?_⟩)
       (fun c => ee_callG 0 ⟨_, hr, g__law_take⟩ rfl <| ea_cons <| ee_add <| ee_ix <| ee_var 1 rfl <| ee_int <| ⟨_, rfl, ee_int <| ea_nil <| ⟨_, rfl, Y.m + 1, rfl, ⟨by omega, by omega⟩, by omega, fun v2 a2 b2 => ⟨_, rfl, by rw [iL_len]; omega, ?_⟩⟩⟩)⟩)⟩
    · refine ⟨row ++ [0], n' - 1, .dat (.int (0 + (i : Int))), ?_, rfl, by rw [List.length_append, hl]; rfl, fun x hx' => ?_, by omega⟩
      · rw [show iL (row ++ [0]) = iL row ++ [PyData.int 0] from List.map_append]; rfl
      · rcases List.mem_append.mp hx' with z | z
        · exact hx x z
        · rw [List.mem_singleton.mp z]; exact ⟨Int.le_refl 0, by omega⟩
    · refine ⟨row ++ [v2], n' - 1 - 1, .dat (.int (0 + (i : Int))), ?_, rfl, by rw [List.length_append, hl]; rfl, fun x hx' => ?_, by omega⟩
      · rw [show iL (row ++ [v2]) = iL row ++ [PyData.int v2] from List.map_append]; rfl
      · rcases List.mem_append.mp hx' with z | z
        · exact hx x z
        · rw [List.mem_singleton.mp z]; exact ⟨a2, by omega⟩
  · rintro ρ ⟨row, n', d5, rfl, e5, hl, hx, hb⟩
    rw [rngD_len] at hl hb
    exact bb_freeze 4 rfl <| bb_one <| ss_ret <| ee_tuple ck <| ea_cons <| ee_var 4 rfl <| ea_nil <| ⟨_, rfl, h row hl hx n' (by omega)⟩
end
end FB

namespace FB
open PySem PySem.Spec PyProof.Rows L2 DL FM
section
variable {P : Program} {w : World} {K : PySem.W.Frag} {mg : Str → Option Value} {base : Heap} {C : Addr}
def S_left : DSpec := fun ds k => ∃ (F : Fy) (row : List Int), ds = [dF F, .tuple (iL row)] ∧ F.Ok ∧ row.length ≤ 61 ∧ (∀ x ∈ row, 0 ≤ x ∧ x ≤ 9) ∧ k (pt ((leftOf F row).map dLv))
theorem sc_left : FnScope ["ferry1", "row", "found", "seats", "waits1", "away1", "most1", "bank", "aboard", "back1", "tick", "many"] ["ferry1", "row"] (defScope s__law_left) := ⟨rfl, rfl, rfl, by decide +kernel, rfl, by decide +kernel, by decide +kernel⟩
theorem rep_iL (n : Nat) (t : Int) : (List.replicate n [PyData.int t]).flatten = iL (List.replicate n t) := by
  rw [List.flatten_replicate_singleton]; exact List.map_replicate.symm
theorem ne_nil {l : List Int} : (!PyData.eqv (.list (iL l)) (.list [])) = decide (l ≠ []) := by
  cases l with
  | nil => rfl
  | cons a r => rfl
abbrev ls0 : LS := ⟨0, 0, 0, 0, []⟩
structure LsI (F : Fy) (s : LS) (i : Nat) (B A : List Int) : Prop where
  b : B.length = s.bank
  a : A.length = s.ab
  hd : ∀ x, A.head? = some x → x = s.since
  nb : B.length ≤ 9 * i
  na : A.length ≤ F.s.toNat
  nf : s.found.length ≤ i
theorem ok_left {f : Addr} {fd : FuncData} (F : Fun K "_law_left" "_law_left" s__law_left f fd) (T : GT mg) : FnOk P w K mg base CX0 1 f fd ["ferry1", "row"] (spD S_left) := by
  refine fn_D F sc_left T.b (fun ds q ⟨_, _, e, _⟩ => by rw [e]; rfl) ?_
  rintro cdv A outer s H E _ q hr ck ⟨Y, row, rfl, okF, hl, hx, h⟩
  have s1 := okF.s1
  have s2 := okF.s2
  refine bb_cons <| ss_asg <| ee_var 0 rfl <| gg_tup ck <| ggs_cons <| gg_name 3 ck <| ggs_cons <| gg_name 4 ck <| ggs_cons <| gg_name 5 ck <| ggs_cons <| gg_name 6 ck <| ggs_nil <|
    bb_cons <| ss_par3 (i := 7) (j := 8) (l := 9) ck <| ea_cons <| ee_lst <| ea_nil <| ⟨by decide, ea_cons <| ee_lst <| ea_nil <| ⟨by decide, ea_cons <| ee_int <| ea_nil <| ⟨_, _, _, rfl,
    bb_cons <| ss_setL 2 ck <| ea_nil <| ⟨by decide, fun l =>
    bb_cons <| ss_for ck <| ii_enumT ck <| ea_cons <| ee_var 1 rfl <| ea_nil <| ⟨_, rfl, fun i ρ => ∃ B A d10 d11, ρ = [.dat (dF Y), .dat (.tuple (iL row)), .own l ((lsRun Y ls0 0 (row.take i)).found.map dLv), .dat (.int Y.s), .dat (.int Y.w), .dat (.int Y.a), .dat (.int Y.m), .dat (.list (iL B)), .dat (.list (iL A)), .dat (.int (lsRun Y ls0 0 (row.take i)).back), d10, d11] ∧ d10.ad = [] ∧ d11.ad = [] ∧ LsI Y (lsRun Y ls0 0 (row.take i)) i B A,
      ⟨[], [], .non, .non, rfl, rfl, rfl, ⟨rfl, rfl, (fun x h => nomatch h), Nat.le_refl _, Nat.zero_le _, Nat.le_refl _⟩⟩, ?_, ?_⟩⟩⟩⟩⟩
  · rintro i d ρ hd ⟨B, A, d10, d11, rfl, e10, e11, hI⟩
    obtain ⟨x, hp, rfl⟩ := enumD_map PyData.int hd
    have hi : i < row.length := (List.getElem?_eq_some_iff.mp hp).1
    obtain ⟨x0, x9⟩ := hx x (List.mem_of_getElem? hp)
    have eS : lsRun Y ls0 0 (row.take (i + 1)) = lsStep Y (lsRun Y ls0 0 (row.take i)) (i : Int) x := by
      rw [List.take_succ, hp, lsRun_app]
      rw [List.length_take, Nat.min_eq_left (Nat.le_of_lt hi)]
      show lsStep Y _ (0 + (i : Int)) x = _
      rw [Int.zero_add]
    generalize lsRun Y ls0 0 (row.take i) = z at *
    obtain ⟨Ib, Ia, Ih, Inb, Ina, Inf⟩ := hI
    refine ⟨_, gg_tup ck <| ggs_cons <| gg_name 10 ck <| ggs_cons <| gg_name 11 ck <| ggs_nil <|
      bb_cons <| ss_set 7 ck <| ee_add <| ee_var 7 rfl <| ee_mul <| ee_lst <| ea_cons <| ee_var 10 rfl <| ea_nil <| ⟨(by show 1 ≤ 1000000; decide), ee_var 11 rfl <| ⟨⟨by omega, by omega, (by show 1 * x.toNat ≤ 1000000; omega)⟩, ⟨?_, ?_⟩⟩⟩⟩
    · rw [rep_iL, iL_len, iL_len, List.length_replicate]; omega
    · have eB : iL B ++ (List.replicate x.toNat [PyData.int (i : Int)]).flatten = iL (B ++ List.replicate x.toNat (i : Int)) := by rw [rep_iL]; exact List.map_append.symm
      rw [eB]
      have lB : (B ++ List.replicate x.toNat (i : Int)).length = z.bank + x.toNat := by rw [List.length_append, List.length_replicate, Ib]
      generalize B ++ List.replicate x.toNat (i : Int) = B1 at *
      have st : ∀ z', lsStep Y z (i : Int) x = z' → lsRun Y ls0 0 (row.take (i + 1)) = z' := fun z' e => eS.trans e
      refine bb_one <| ss_if (et_cmp <| ee_var 10 rfl <| ee_var 9 rfl <| br_ge <| ite2 (fun c => ?_) (fun c => bb_nil ?_))
      · have c' : z.back ≤ (i : Int) := of_decide_eq_true c
        refine bb_cons <| ss_while (fun m ρ => ∃ (j : Nat) (B2 : List Int), m = B2.length ∧ ρ = [.dat (dF Y), .dat (.tuple (iL row)), .own l (z.found.map dLv), .dat (.int Y.s), .dat (.int Y.w), .dat (.int Y.a), .dat (.int Y.m), .dat (.list (iL B2)), .dat (.list (iL (A ++ List.replicate j (i : Int)))), .dat (.int z.back), .dat (.int (i : Int)), .dat (.int x)] ∧ B2.length + j = B1.length ∧ A.length + j ≤ Y.s.toNat) ⟨B1.length, 0, B1, rfl, ?_, rfl, by omega⟩ (fun m ρ hI => ?_)
        · rw [List.replicate_zero, List.append_nil]; rfl
        · obtain ⟨j, B2, rfl, rfl, b1, b2⟩ := hI
          refine et_M (t := decide (B2 ≠ []) && decide (((A.length + j : Nat) : Int) < Y.s)) (et_bool <| ew_andM (et_cmp <| ee_var 7 rfl <| ee_lst <| ea_nil <| ⟨by decide, br_ne ck <| ⟨⟨(shp_ints _).ok, (shp_ints []).ok⟩, ⟨ne_nil, rfl⟩⟩⟩) (fun _ => ew_one <| et_cmp <| ee_len ck <| ea_cons <| ee_var 8 rfl <| ea_nil <| ee_var 3 rfl <| br_lt <| ⟨by rw [iL_len, List.length_append, List.length_replicate], rfl⟩)) (ite2 (fun c1 => ?_) (fun c1 => ?_))
          · rw [Bool.and_eq_true] at c1
            have n0 : B2 ≠ [] := of_decide_eq_true c1.1
            have n1 : ((A.length + j : Nat) : Int) < Y.s := of_decide_eq_true c1.2
            have n2 : 0 < B2.length := List.length_pos_iff.mpr n0
            have e1 : DL.cutD (iL B2) (some 1) none = iL (B2.drop 1) := by rw [cutD_from (by decide)]; exact List.map_drop.symm
            have e2 : iL (A ++ List.replicate j (i : Int)) ++ [PyData.int (i : Int)] = iL (A ++ List.replicate (j + 1) (i : Int)) := by
              rw [List.replicate_succ', ← List.append_assoc]; exact (List.map_append (l₂ := [(i : Int)])).symm
            refine bb_cons <| ss_set 7 ck <| ee_sl <| ee_var 7 rfl <| ee_int <| ⟨_, rfl, bb_one <| ss_set 8 ck <| ee_add <| ee_var 8 rfl <| ee_lst <| ea_cons <| ee_var 10 rfl <| ea_nil <| ⟨(by show 1 ≤ 1000000; decide), ⟨?_, ⟨(B2.drop 1).length, by rw [List.length_drop]; omega, j + 1, B2.drop 1, rfl, ?_, by rw [List.length_drop]; omega, by omega⟩⟩⟩⟩
            · rw [iL_len, List.length_append, List.length_replicate]
              show A.length + j + 1 ≤ 1000000
              omega
            · rw [e1, e2]; rfl
          · have hj : j = min (z.bank + x.toNat) (Y.s.toNat - z.ab) := by
              by_cases n0 : B2 = []
              · rw [n0] at b1
                have : ([] : List Int).length = 0 := rfl
                omega
              · rw [decide_eq_true n0, Bool.true_and] at c1
                have n1 : ¬ ((A.length + j : Nat) : Int) < Y.s := fun y => c1 (decide_eq_true y)
                omega
            have lA : (A ++ List.replicate j (i : Int)).length = z.ab + j := by rw [List.length_append, List.length_replicate, Ia]
            have lB2 : B2.length = z.bank + x.toNat - j := by omega
            have hd0 : A ++ List.replicate j (i : Int) ≠ [] → (A ++ List.replicate j (i : Int)).head? = some (if z.ab = 0 then (i : Int) else z.since) := fun hne => by
              cases A with
              | nil =>
                have : z.ab = 0 := by rw [← Ia]; rfl
                rw [if_pos this]
                cases j with
                | zero => exact absurd rfl hne
                | succ j => rfl
              | cons a r =>
                have : z.ab ≠ 0 := by rw [← Ia]; simp
                rw [if_neg this, ← Ih a rfl]; rfl
            have hA2 : ∀ y, (A ++ List.replicate j (i : Int)).head? = some y → y = (if z.ab = 0 then (i : Int) else z.since) := fun y hy => by
              have hne : A ++ List.replicate j (i : Int) ≠ [] := fun q => by rw [q] at hy; cases hy
              rw [hd0 hne] at hy; exact (Option.some.inj hy).symm
            generalize A ++ List.replicate j (i : Int) = A2 at *
            refine bb_one <| ss_if (et_M (t := decide (A2 ≠ []) && (decide ((A2.length : Int) = Y.s) || decide (Y.w ≤ (i : Int) - (if z.ab = 0 then (i : Int) else z.since)))) (et_bool <| ew_andM (et_cmp <| ee_var 8 rfl <| ee_lst <| ea_nil <| ⟨by decide, br_ne ck <| ⟨⟨(shp_ints _).ok, (shp_ints []).ok⟩, ⟨ne_nil, rfl⟩⟩⟩) (fun hs => ew_one <| et_bool <| ew_orM (et_cmp <| ee_len ck <| ea_cons <| ee_var 8 rfl <| ea_nil <| ee_var 3 rfl <| br_eq ck <| ⟨by rw [iL_len], rfl⟩)
              (fun _ => ew_one <| et_cmp <| ee_sub <| ee_var 10 rfl <| ee_ix <| ee_var 8 rfl <| ee_int <| ⟨.int (if z.ab = 0 then (i : Int) else z.since), ?_, ee_var 4 rfl <| br_ge <| ⟨rfl, rfl⟩⟩))) (ite2 (fun c2 => ?_) (fun c2 => bb_nil ?_)))
            · have hne : A2 ≠ [] := of_decide_eq_true hs
              refine atI_nat (Int.le_refl 0) (iL_at ?_)
              rw [← hd0 hne, List.head?_eq_getElem?]; rfl
            · have e : lsRun Y ls0 0 (row.take (i + 1)) = ⟨z.bank + x.toNat - j, 0, if z.ab = 0 then (i : Int) else z.since, (i : Int) + Y.a, z.found ++ [((i : Int), ((z.ab + j : Nat) : Int))]⟩ := st _ (by
                unfold lsStep
                rw [if_pos c', ← hj, if_pos ?_]
                rw [Bool.and_eq_true, Bool.or_eq_true] at c2
                refine ⟨fun q => of_decide_eq_true c2.1 (List.eq_nil_of_length_eq_zero (lA.trans q)), c2.2.imp (fun y => ?_) of_decide_eq_true⟩
                rw [← lA]; exact of_decide_eq_true y)
              refine bb_cons <| ss_app 2 rfl <| ee_tup <| ea_cons <| ee_var 10 rfl <| ea_cons <| ee_len ck <| ea_cons <| ee_var 8 rfl <| ea_nil <| ea_nil <| ⟨le2, ⟨_, rfl, by rw [List.length_map]; omega,
                bb_one <| ss_par (i := 8) (j := 9) ck <| ea_cons <| ee_lst <| ea_nil <| ⟨by decide, ea_cons <| ee_add <| ee_var 10 rfl <| ee_var 5 rfl <| ea_nil <| ⟨_, _, rfl, B2, [], .dat (.int (i : Int)), .dat (.int x), ?_, rfl, rfl, ?_⟩⟩⟩⟩
              · have e3 : (z.found ++ [((i : Int), ((z.ab + j : Nat) : Int))]).map dLv = z.found.map dLv ++ [PyData.tuple [.int (i : Int), .int ((iL A2).length : Int)]] := by rw [List.map_append, iL_len, lA]; rfl
                rw [e]
                dsimp only
                rw [e3]
                rfl
              · rw [e]
                exact ⟨lB2, rfl, (fun y hy => nomatch hy), by omega, Nat.zero_le _, by rw [List.length_append]; show z.found.length + 1 ≤ i + 1; omega⟩
            · have e : lsRun Y ls0 0 (row.take (i + 1)) = ⟨z.bank + x.toNat - j, z.ab + j, if z.ab = 0 then (i : Int) else z.since, z.back, z.found⟩ := st _ (by
                unfold lsStep
                rw [if_pos c', ← hj, if_neg ?_]
                rintro ⟨q1, q2⟩
                have hne : A2 ≠ [] := fun q => q1 (by rw [← lA, q]; rfl)
                refine c2 ?_
                rw [decide_eq_true hne, Bool.true_and, Bool.or_eq_true]
                exact q2.imp (fun y => decide_eq_true (by rw [lA]; exact y)) decide_eq_true)
              refine ⟨B2, A2, .dat (.int (i : Int)), .dat (.int x), ?_, rfl, rfl, ?_⟩
              · rw [e]
              · rw [e]
                exact ⟨lB2, lA, hA2, by omega, by rw [lA]; omega, Nat.le_succ_of_le Inf⟩
      · have c' : ¬ z.back ≤ (i : Int) := fun y => c (decide_eq_true y)
        have e := st _ (show lsStep Y z (i : Int) x = ⟨z.bank + x.toNat, z.ab, z.since, z.back, z.found⟩ by unfold lsStep; rw [if_neg c'])
        refine ⟨B1, A, .dat (.int (i : Int)), .dat (.int x), ?_, rfl, rfl, ?_⟩
        · rw [e]; rfl
        · rw [e]; exact ⟨lB, Ia, Ih, by rw [lB, ← Ib]; omega, Ina, Nat.le_succ_of_le Inf⟩
  · rintro ρ ⟨B, A, d10, d11, rfl, e10, e11, hI⟩
    have eE : row.take (enumD (iL row)).length = row := by rw [enumD_len, iL_len, List.take_length]
    rw [eE]
    exact bb_freeze 2 rfl <| bb_one <| ss_ret <| ee_tupleP ck <| ea_cons <| ee_var 2 rfl <| ea_nil <| ⟨_, rfl, h⟩
end
end FB

namespace FB
open PySem PySem.Spec PyProof.Rows L2 DL FM
section
variable {P : Program} {w : World} {K : PySem.W.Frag} {mg : Str → Option Value} {base : Heap} {C : Addr}
def dBP (last : Int) (ls : Lvs) : PyData := .tuple [.int last, pt (ls.map dLv)]
def dBk (F : Fy) (row : List Int) : PyData := .tuple [dBP ((row.length : Int) - 1) (leftOf F row), .tuple (iL row)]
def S_book : SpecB := fun ds n k => ∃ (F : Fy) (t : Int), ds = [dF F, .int t] ∧ F.Ok ∧ (1 ≤ t ∧ t ≤ 61) ∧ 200 ≤ n ∧ ∀ row : List Int, 1 ≤ row.length → row.length ≤ t.toNat → (∀ x ∈ row, 0 ≤ x ∧ x ≤ F.m) → (leftOf F row).length ≤ 10 → ∀ n', n ≤ n' + 200 → k (dBk F row) n'
theorem sc_book : FnScope ["bag", "ferry1", "ticks1", "row", "left1"] ["bag", "ferry1", "ticks1"] (defScope s__law_book) := ⟨rfl, rfl, rfl, by decide +kernel, rfl, by decide +kernel, by decide +kernel⟩
theorem sl_tupE {lo hi : Option Int} {xs ys : List PyData} {k : PyData → Prop} (e : DL.cutD xs lo hi = ys) (h : k (.tuple ys)) : slK lo hi (.tuple xs) k := by
  show k (.tuple (DL.cutD xs lo hi))
  rw [e]; exact h
theorem sl_lstE {lo hi : Option Int} {xs ys : List PyData} {k : PyData → Prop} (e : DL.cutD xs lo hi = ys) (h : k (.list ys)) : slK lo hi (.list xs) k := by
  show k (.list (DL.cutD xs lo hi))
  rw [e]; exact h
theorem ok_book {f : Addr} {fd : FuncData} (F : Fun K "_law_book" "_law_book" s__law_book f fd) (T : GT mg) (g__law_row : Kn P w K mg base 2 "_law_row" ["bag", "ferry1", "ticks1"] (spB S_row)) (g__law_left : Kn P w K mg base 2 "_law_left" ["ferry1", "row"] (spD S_left)) : FnOk P w K mg base CX0 3 f fd ["bag", "ferry1", "ticks1"] (spB S_book) := by
  refine fn_B F sc_book T.b (fun ds n q ⟨_, _, e, _⟩ => by rw [e]; rfl) ?_
  rintro cdv A outer s H E b _ n q hr ck ⟨Y, t, rfl, okF, ht, hn, h⟩
  have m2 := okF.m2
  refine bb_cons <| ss_set 3 ck <| ee_callG 0 ⟨_, hr, g__law_row⟩ rfl <| ea_cons <| ee_var 1 rfl <| ea_cons <| ee_var 2 rfl <| ea_nil <| ⟨_, rfl, Y, t, rfl, okF, ht, hn, fun row0 hl0 hx0 n' hn' =>
    bb_cons <| ss_set 4 ck <| ee_call ⟨_, hr, g__law_left⟩ <| ea_cons <| ee_var 1 rfl <| ea_cons <| ee_var 3 rfl <| ea_nil <| ⟨Y, row0, rfl, okF, by omega, fun x hx => by have := hx0 x hx; omega,
    bb_cons <| ss_while (fun m ρ => ∃ row : List Int, m = row.length ∧ ρ = [.bag b n', .dat (dF Y), .dat (.int t), .dat (.tuple (iL row)), .dat (pt ((leftOf Y row).map dLv))] ∧ 1 ≤ row.length ∧ row.length ≤ t.toNat ∧ (∀ x ∈ row, 0 ≤ x ∧ x ≤ Y.m)) ⟨_, row0, rfl, rfl, by omega, by omega, hx0⟩ (fun m ρ hI => ?_)⟩⟩
  obtain ⟨row, rfl, rfl, l1, l2, hx⟩ := hI
  obtain ⟨a1, a2, a3⟩ := left_ok Y row
  refine et_M (t := decide ((10 : Int) < ((leftOf Y row).length : Int))) (et_cmp <| ee_len ck <| ea_cons <| ee_varU 4 (.pt _) rfl <| ea_nil <| ee_int <| br_gt <| ⟨by rw [List.length_map], rfl⟩) (ite2 (fun c => ?_) (fun c => ?_))
  · have c' : (10 : Int) < ((leftOf Y row).length : Int) := of_decide_eq_true c
    have hp : (leftOf Y row)[10]? = some (leftOf Y row)[10] := List.getElem?_eq_getElem (by omega)
    have g0 := pair_ge (leftOf Y row) 0 10 _ (fun p hp => (a1 p hp).1) a3 hp
    have g1 := a1 _ (List.mem_of_getElem? hp)
    generalize (leftOf Y row)[10] = p at *
    have ha : atI ((leftOf Y row).map dLv) 10 = some (dLv p) := atI_nat (by decide) (by rw [List.getElem?_map, show (10 : Int).toNat = 10 from rfl, hp]; rfl)
    have ec : DL.cutD (iL row) none (some p.1) = iL (row.take p.1.toNat) := by rw [cutD_to (by omega)]; exact List.map_take.symm
    refine bb_cons <| ss_set 3 ck <| ee_sl <| ee_var 3 rfl <| ee_ix <| ee_ix <| ee_varU 4 (.pt _) rfl <| ee_int <| ⟨_, ha, ee_int <| ⟨_, rfl, ⟨_, rfl, sl_tupE ec ?_⟩⟩⟩
    have lt : (row.take p.1.toNat).length = p.1.toNat := by rw [List.length_take]; omega
    exact bb_one <| ss_set 4 ck <| ee_call ⟨_, hr, g__law_left⟩ <| ea_cons <| ee_var 1 rfl <| ea_cons <| ee_var 3 rfl <| ea_nil <| ⟨Y, row.take p.1.toNat, rfl, okF, by omega, fun x hx' => by have := hx x (List.mem_of_mem_take hx'); omega, (row.take p.1.toNat).length, by omega, row.take p.1.toNat, rfl, rfl, by omega, by omega, fun x hx' => hx x (List.mem_of_mem_take hx')⟩
  · have c' : ¬ (10 : Int) < ((leftOf Y row).length : Int) := fun z => c (decide_eq_true z)
    refine bb_one <| ss_ret <| ee_tup <| ea_cons <| ee_tup <| ea_cons <| ee_sub <| ee_len ck <| ea_cons <| ee_var 3 rfl <| ea_nil <| ee_int <| ea_cons <| ee_var 4 rfl <| ea_nil <| ⟨le2, ea_cons <| ee_var 3 rfl <| ea_nil <| ⟨le2, ⟨n', rfl, ?_⟩⟩⟩
    have := h row l1 l2 hx (by omega) n' hn'
    unfold dBk at this
    rw [iL_len]
    exact this
end
end FB

namespace FB
open PySem PySem.Spec PyProof.Rows L2 DL FM
/-! ### equal, and of the same kinds all through -/
section
variable {P : Program} {w : World} {K : PySem.W.Frag} {mg : Str → Option Value} {base : Heap} {C : Addr}
def S_same (n : Nat) : DSpec := fun ds k => ∃ a b, ds = [a, b] ∧ Nst n a ∧ Nst n b ∧ k (.bool (dEq a b))
noncomputable def sameF : PyData → PyData
  | .tuple [x, y] => .bool (dEq x y)
  | _ => .none
theorem sameF_zip : ∀ xs ys : List PyData, (zipD xs ys).map sameF = (List.zipWith dEq xs ys).map PyData.bool
  | [], _ => rfl
  | _ :: _, [] => rfl
  | x :: xs, y :: ys => congrArg (List.cons (PyData.bool (dEq x y))) (sameF_zip xs ys)
theorem same_all : ∀ xs ys : List PyData, xs.length = ys.length → ((List.zipWith dEq xs ys).all id = true ↔ xs = ys)
  | [], [], _ => ⟨fun _ => rfl, fun _ => rfl⟩
  | [], _ :: _, h => nomatch h
  | _ :: _, [], h => nomatch h
  | x :: xs, y :: ys, h => by
    have ih := same_all xs ys (Nat.succ.inj h)
    show (dEq x y && (List.zipWith dEq xs ys).all id) = true ↔ _
    rw [Bool.and_eq_true, ih, dEq_iff]
    exact ⟨fun ⟨a, b⟩ => by rw [a, b], fun e => ⟨(List.cons.inj e).1, (List.cons.inj e).2⟩⟩
theorem nst_list {n : Nat} {xs : List PyData} (h : Nst n (.list xs)) : ∃ m, n = m + 1 ∧ xs.length ≤ 1000000 ∧ ∀ x ∈ xs, Nst m x := by
  cases n with
  | zero => exact h.elim
  | succ m => exact ⟨m, rfl, h.1, h.2⟩
theorem nst_tup {n : Nat} {xs : List PyData} (h : Nst n (.tuple xs)) : ∃ m, n = m + 1 ∧ xs.length ≤ 1000000 ∧ ∀ x ∈ xs, Nst m x := by
  cases n with
  | zero => exact h.elim
  | succ m => exact ⟨m, rfl, h.1, h.2⟩
theorem nst_str {n : Nat} {a : PyData} (h : Nst n a) : isS a = false := by
  cases a with
  | str s => cases n <;> exact h.elim
  | _ => rfl
theorem nst_nd {n : Nat} {a : PyData} (h : Nst n a) (x) : a ≠ .dict x := fun e => by subst e; cases n <;> exact h.elim
theorem isL_iff {d : PyData} (h : isL d = true) : ∃ ds, d = .list ds := by cases d <;> first | exact ⟨_, rfl⟩ | cases h
theorem isB_iff {d : PyData} (h : isB d = true) : ∃ x, d = .bool x := by cases d <;> first | exact ⟨_, rfl⟩ | cases h
theorem zipD_mem {xs ys : List PyData} {d : PyData} (h : d ∈ zipD xs ys) : ∃ x y, d = .tuple [x, y] ∧ x ∈ xs ∧ y ∈ ys := by
  obtain ⟨i, hi⟩ := List.mem_iff_getElem?.mp h
  obtain ⟨x, y, h1, h2, rfl⟩ := zipD_get hi
  exact ⟨x, y, rfl, List.mem_of_getElem? h1, List.mem_of_getElem? h2⟩
theorem zipD_le (xs ys : List PyData) : (zipD xs ys).length ≤ xs.length := by
  unfold zipD
  rw [List.length_zipWith]; omega
theorem sc_same : FnScope ["a", "b", "x", "y"] ["a", "b"] (defScope s__law_same) := ⟨rfl, rfl, rfl, by decide +kernel, rfl, by decide +kernel, by decide +kernel⟩
theorem ok_same1 {f : Addr} {fd : FuncData} (F : Fun K "_law_same" "_law_same" s__law_same f fd) (T : GT mg) (n : Nat) (g : ∀ m, n = m + 1 → Kn P w K mg base n "_law_same" ["a", "b"] (spD (S_same m))) : FnOk P w K mg base CX0 (n + 1) f fd ["a", "b"] (spD (S_same n)) := by
  refine fn_D F sc_same T.b (fun ds q ⟨_, _, e, _⟩ => by rw [e]; rfl) ?_
  rintro cdv A outer s H E _ q hr ck ⟨a, b, rfl, na, nb, h⟩
  refine bb_cons <| ss_if (et_M (t := (isL a && isL b) || (isT a && isT b)) (et_bool <| ew_orM (et_bool <| ew_andM (et_val <| ee_isList ck <| ee_var 0 rfl <| ⟨_, rfl, rfl, rfl⟩) (fun _ => ew_one <| et_val <| ee_isList ck <| ee_var 1 rfl <| ⟨_, rfl, rfl, rfl⟩))
      (fun _ => ew_one <| et_bool <| ew_andM (et_val <| ee_isTup ck <| ee_var 0 rfl <| ⟨_, rfl, rfl, rfl⟩) (fun _ => ew_one <| et_val <| ee_isTup ck <| ee_var 1 rfl <| ⟨_, rfl, rfl, rfl⟩))) (ite2 (fun c => ?_) (fun c => ?_)))
  · rw [Bool.or_eq_true, Bool.and_eq_true, Bool.and_eq_true] at c
    rcases c with ⟨c1, c2⟩ | ⟨c1, c2⟩
    · obtain ⟨xs, rfl⟩ := isL_iff c1
      obtain ⟨ys, rfl⟩ := isL_iff c2
      obtain ⟨m, rfl, l1, n1⟩ := nst_list na
      obtain ⟨m', e', l2, n2⟩ := nst_list nb
      obtain rfl : m = m' := Nat.succ.inj e'
      refine bb_one <| ss_ret <| ee_and <| ee_cmp <| ee_len ck <| ea_cons <| ee_var 0 rfl <| ea_nil <| ee_len ck <| ea_cons <| ee_var 1 rfl <| ea_nil <| br_eq ck <| ⟨_, rfl, ite2 (fun c => ?_) (fun c => ?_)⟩
      · have hl : xs.length = ys.length := by have := of_decide_eq_true c; omega
        refine ee_one <| ee_all ck <| ea_cons <| ee_lc [("x", 2), ("y", 3)] ck (blkOk_by rfl) <| ii_zip2L ck <| ea_cons <| ee_var 0 rfl <| ea_cons <| ee_var 1 rfl <| ea_nil <| ⟨xs, ys, rfl, lcK_map sameF ?_ [2, 3] (fun j hj => hj) (fun d hd _ _ _ _ _ => ?_) <| ea_nil <| ⟨_, congrArg (fun y => [PyData.list y]) (sameF_zip xs ys), fin (q := q) h (congrArg PyData.bool (dEq_of ((same_all xs ys hl).trans ⟨fun e => by rw [e], fun e => by cases e; rfl⟩)))⟩⟩
        · exact Nat.le_trans (zipD_le xs ys) l1
        · obtain ⟨x, y, rfl, hx, hy⟩ := zipD_mem hd
          exact gg_tup (js := [2, 3]) ck.blk <| ggs_cons (js := [2]) (ks := [3]) <| gg_name 2 ck.blk <| ggs_cons (js := [3]) (ks := []) <| gg_name 3 ck.blk <| ggs_nil <| fun _ _ _ _ _ => ee_call ⟨_, hr, g m rfl⟩ <| ea_cons <| ee_var 2 rfl <| ea_cons <| ee_var 3 rfl <| ea_nil <| ⟨x, y, rfl, n1 x hx, n2 y hy, rfl⟩
      · exact fin (q := q) h (congrArg PyData.bool (dEq_f fun e => by cases e; exact c (decide_eq_true rfl)).symm)
    · obtain ⟨xs, rfl⟩ := isT_iff c1 (nst_nd na)
      obtain ⟨ys, rfl⟩ := isT_iff c2 (nst_nd nb)
      obtain ⟨m, rfl, l1, n1⟩ := nst_tup na
      obtain ⟨m', e', l2, n2⟩ := nst_tup nb
      obtain rfl : m = m' := Nat.succ.inj e'
      refine bb_one <| ss_ret <| ee_and <| ee_cmp <| ee_len ck <| ea_cons <| ee_var 0 rfl <| ea_nil <| ee_len ck <| ea_cons <| ee_var 1 rfl <| ea_nil <| br_eq ck <| ⟨_, rfl, ite2 (fun c => ?_) (fun c => ?_)⟩
      · have hl : xs.length = ys.length := by have := of_decide_eq_true c; omega
        refine ee_one <| ee_all ck <| ea_cons <| ee_lc [("x", 2), ("y", 3)] ck (blkOk_by rfl) <| ii_zip2T ck <| ea_cons <| ee_var 0 rfl <| ea_cons <| ee_var 1 rfl <| ea_nil <| ⟨xs, ys, rfl, lcK_map sameF ?_ [2, 3] (fun j hj => hj) (fun d hd _ _ _ _ _ => ?_) <| ea_nil <| ⟨_, congrArg (fun y => [PyData.list y]) (sameF_zip xs ys), fin (q := q) h (congrArg PyData.bool (dEq_of ((same_all xs ys hl).trans ⟨fun e => by rw [e], fun e => by cases e; rfl⟩)))⟩⟩
        · exact Nat.le_trans (zipD_le xs ys) l1
        · obtain ⟨x, y, rfl, hx, hy⟩ := zipD_mem hd
          exact gg_tup (js := [2, 3]) ck.blk <| ggs_cons (js := [2]) (ks := [3]) <| gg_name 2 ck.blk <| ggs_cons (js := [3]) (ks := []) <| gg_name 3 ck.blk <| ggs_nil <| fun _ _ _ _ _ => ee_call ⟨_, hr, g m rfl⟩ <| ea_cons <| ee_var 2 rfl <| ea_cons <| ee_var 3 rfl <| ea_nil <| ⟨x, y, rfl, n1 x hx, n2 y hy, rfl⟩
      · exact fin (q := q) h (congrArg PyData.bool (dEq_f fun e => by cases e; exact c (decide_eq_true rfl)).symm)
  · have no : a = b → isL a = false ∧ isT a = false := fun e => by
      subst e
      cases h1 : isL a <;> cases h2 : isT a <;> first | exact ⟨rfl, rfl⟩ | exact absurd (by rw [h1, h2]; rfl) c
    refine bb_nil <| bb_cons <| ss_if (et_M (t := isBLT a || isBLT b) (et_bool <| ew_orM (et_val <| ee_isBLT ck <| ee_var 0 rfl <| ⟨_, rfl, rfl, rfl⟩) (fun _ => ew_one <| et_val <| ee_isBLT ck <| ee_var 1 rfl <| ⟨_, rfl, rfl, rfl⟩)) (ite2 (fun c2 => ?_) (fun c2 => ?_)))
    · have no2 : a = b → isB a = true := fun e => by
        obtain ⟨h1, h2⟩ := no e
        subst e
        rw [Bool.or_self] at c2
        unfold isBLT at c2
        rw [h1, h2, Bool.or_self, Bool.or_false] at c2
        exact c2
      refine bb_one <| ss_ret <| ee_and <| ee_isBool ck <| ee_var 0 rfl <| ⟨_, rfl, ite2 (fun c3 => ee_and <| ee_isBool ck <| ee_var 1 rfl <| ⟨_, rfl, ite2 (fun c4 => ?_) (fun c4 => ?_)⟩) (fun c3 => ?_)⟩
      · obtain ⟨x, rfl⟩ := isB_iff c3
        obtain ⟨y, rfl⟩ := isB_iff c4
        exact ee_one <| ee_cmp <| ee_var 0 rfl <| ee_var 1 rfl <| br_eq ck <| fin (q := q) h (congrArg PyData.bool (dEq_of (decide_eq_true_iff.trans ⟨fun e => by rw [e], fun e => by cases e; rfl⟩)))
      · exact fin (q := q) h (congrArg PyData.bool (dEq_f fun e => c4 (by rw [← e]; exact no2 e)).symm)
      · exact fin (q := q) h (congrArg PyData.bool (dEq_f fun e => c3 (no2 e)).symm)
    · have c2' : isBLT a = false ∧ isBLT b = false := by
        cases h1 : isBLT a <;> cases h2 : isBLT b <;> first | exact ⟨rfl, rfl⟩ | exact absurd (by rw [h1, h2]; rfl) c2
      refine bb_nil <| bb_cons <| ss_if (et_M (t := isI a || isI b) (et_bool <| ew_orM (et_val <| ee_isInt ck <| ee_var 0 rfl <| ⟨_, rfl, rfl, rfl⟩) (fun _ => ew_one <| et_val <| ee_isInt ck <| ee_var 1 rfl <| ⟨_, rfl, rfl, rfl⟩)) (ite2 (fun c3 => ?_) (fun c3 => ?_)))
      · refine bb_one <| ss_ret <| ee_and <| ee_isInt ck <| ee_var 0 rfl <| ⟨_, rfl, ite2 (fun c4 => ee_and <| ee_isInt ck <| ee_var 1 rfl <| ⟨_, rfl, ite2 (fun c5 => ?_) (fun c5 => ?_)⟩) (fun c4 => ?_)⟩
        · cases a with
          | int x =>
            cases b with
            | int y => exact ee_one <| ee_cmp <| ee_var 0 rfl <| ee_var 1 rfl <| br_eq ck <| fin (q := q) h (congrArg PyData.bool (dEq_of (decide_eq_true_iff.trans ⟨fun e => by rw [e], fun e => by cases e; rfl⟩)))
            | bool y => exact nomatch c2'.2
            | _ => exact nomatch c5
          | bool x => exact nomatch c2'.1
          | _ => exact nomatch c4
        · refine fin (q := q) h (congrArg PyData.bool (dEq_f fun e => ?_).symm)
          rw [e, Bool.or_self] at c3
          exact c5 c3
        · refine fin (q := q) h (congrArg PyData.bool (dEq_f fun e => ?_).symm)
          rw [← e, Bool.or_self] at c3
          exact c4 c3
      · have c3' : isI a = false ∧ isI b = false := by
          cases h1 : isI a <;> cases h2 : isI b <;> first | exact ⟨rfl, rfl⟩ | exact absurd (by rw [h1, h2]; rfl) c3
        have ea : a = .none := by
          cases a with
          | none => rfl
          | bool x => exact nomatch c2'.1
          | int x => exact nomatch c3'.1
          | str x => exact nomatch nst_str na
          | list x => exact nomatch c2'.1
          | tuple x => exact nomatch c2'.1
          | dict x => cases n <;> exact na.elim
        have eb : b = .none := by
          cases b with
          | none => rfl
          | bool x => exact nomatch c2'.2
          | int x => exact nomatch c3'.2
          | str x => exact nomatch nst_str nb
          | list x => exact nomatch c2'.2
          | tuple x => exact nomatch c2'.2
          | dict x => cases n <;> exact nb.elim
        subst ea
        subst eb
        refine bb_nil <| bb_cons <| ss_if (et_M (t := false) (et_bool <| ew_orM (s := false) (t := false) (et_val <| ee_isStr ck <| ee_var 0 rfl <| ⟨_, rfl, rfl, rfl⟩) (fun _ => ew_one <| et_val <| ee_isStr ck <| ee_var 1 rfl <| ⟨_, rfl, rfl, rfl⟩)) (ifF rfl <| bb_nil <|
          bb_one <| ss_ret <| ee_and <| ee_cmp <| ee_var 0 rfl <| ee_non <| br_isN <| ⟨_, rfl, ifT rfl <| ee_one <| ee_cmp <| ee_var 1 rfl <| ee_non <| br_isN <| fin (q := q) h (congrArg PyData.bool (dEq_t rfl).symm)⟩))
theorem ok_same {f : Addr} {fd : FuncData} (F : Fun K "_law_same" "_law_same" s__law_same f fd) (T : GT mg) (hm : mg "_law_same" = some (.ref f)) (hk : PySem.W.keepIn K (.ref f) = true) (hb : Binds K fd ["a", "b"] []) : ∀ n, FnOk P w K mg base CX0 (n + 1) f fd ["a", "b"] (spD (S_same n))
  | 0 => ok_same1 F T 0 fun m e => nomatch e
  | n + 1 => ok_same1 F T (n + 1) fun m e => by
    obtain rfl := Nat.succ.inj e
    exact ⟨f, fd, ok_same F T hm hk hb n, hm, hk, hb⟩
end
end FB

namespace FB
open PySem PySem.Spec PyProof.Rows L2 DL FM
/-! ### books bent -/
theorem _root_.FM.BkOk.one {F : Fy} {last t v : Int} {ls : Lvs} (ok : BkOk F last ls) (h0 : 0 ≤ t) (h1 : t ≤ last) (v1 : 1 ≤ v) (v2 : v ≤ F.s) : BkOk F last [(t, v)] :=
  ⟨ok.l0, ok.l1, (by show 1 ≤ 10; decide), (fun p h => by rw [List.mem_singleton.mp h]; exact ⟨h0, h1⟩), (fun p h => by rw [List.mem_singleton.mp h]; exact ⟨v1, v2⟩), List.pairwise_singleton _ _⟩
theorem _root_.FM.BkOk.out {F : Fy} {last : Int} {ls : Lvs} (ok : BkOk F last ls) (i : Nat) : BkOk F last (ls.take i ++ ls.drop (i + 1)) := by
  have e : ls.take i ++ ls.drop (i + 1) = ls.eraseIdx i := (List.eraseIdx_eq_take_drop_succ ls i).symm
  have sub : (ls.take i ++ ls.drop (i + 1)).Sublist ls := by rw [e]; exact List.eraseIdx_sublist ls i
  exact ⟨ok.l0, ok.l1, Nat.le_trans sub.length_le ok.n, fun p hp => ok.tk p (sub.subset hp), fun p hp => ok.ld p (sub.subset hp), ok.up.sublist sub⟩
theorem _root_.FM.BkOk.move {F : Fy} {last : Int} {ls : Lvs} {i : Nat} {p : Int × Int} {t : Int} (ok : BkOk F last ls) (h : ls[i]? = some p) (h0 : 0 ≤ t) (h1 : t ≤ last) (hb : ∀ q, 0 < i → ls[i - 1]? = some q → q.1 < t) (hf : ∀ q, ls[i + 1]? = some q → t < q.1) : BkOk F last (ls.set i (t, p.2)) := by
  have hl := ok.ld p (List.mem_of_getElem? h)
  obtain ⟨hi, e⟩ := List.getElem?_eq_some_iff.mp h
  have up := List.pairwise_iff_getElem.mp ok.up
  refine ⟨ok.l0, ok.l1, by rw [List.length_set]; exact ok.n, fun q hq => ?_, fun q hq => ?_, ?_⟩
  · rcases List.mem_or_eq_of_mem_set hq with z | z
    · exact ok.tk q z
    · rw [z]; exact ⟨h0, h1⟩
  · rcases List.mem_or_eq_of_mem_set hq with z | z
    · exact ok.ld q z
    · rw [z]; exact hl
  · rw [List.pairwise_iff_getElem]
    intro a b ha hb' lt
    rw [List.length_set] at ha hb'
    rw [List.getElem_set, List.getElem_set]
    by_cases za : i = a
    · subst za
      rw [if_pos rfl, if_neg (by omega)]
      have n1 : i + 1 < ls.length := by omega
      have f1 := hf ls[i + 1] (List.getElem?_eq_getElem n1)
      rcases Nat.lt_or_ge (i + 1) b with y | y
      · have := up (i + 1) b n1 hb' y
        show t < ls[b].1
        omega
      · obtain rfl : b = i + 1 := by omega
        exact f1
    · rw [if_neg za]
      by_cases zb : i = b
      · subst zb
        rw [if_pos rfl]
        have n1 : i - 1 < ls.length := by omega
        have f1 := hb ls[i - 1] (by omega) (List.getElem?_eq_getElem n1)
        rcases Nat.lt_or_ge a (i - 1) with y | y
        · have := up a (i - 1) ha n1 y
          show ls[a].1 < t
          omega
        · obtain rfl : a = i - 1 := by omega
          exact f1
      · rw [if_neg zb]
        exact up a b ha hb' lt
section
variable {P : Program} {w : World} {K : PySem.W.Frag} {mg : Str → Option Value} {base : Heap} {C : Addr}
def S_bent : SpecB := fun ds n k => ∃ (F : Fy) (last : Int) (ls : Lvs), ds = [dF F, dBP last ls] ∧ F.Ok ∧ BkOk F last ls ∧ 10 ≤ n ∧ ∀ ls' : Lvs, BkOk F last ls' → ∀ n', n ≤ n' + 10 → k (dBP last ls') n'
theorem sc_bent : FnScope ["bag", "ferry1", "book1", "k", "way", "low", "high", "last", "left1", "tick", "load"] ["bag", "ferry1", "book1"] (defScope s__law_bent) := ⟨rfl, rfl, rfl, by decide +kernel, rfl, by decide +kernel, by decide +kernel⟩
theorem nilT (ls : Lvs) : PyData.eqv (.tuple (ls.map dLv)) (.tuple []) = decide (ls = []) := by
  cases ls with
  | nil => rfl
  | cons p r =>
    rw [decide_eq_false (fun z => nomatch z)]
    rw [List.map_cons]
    simp [PyData.eqv, PyData.eqvAll]
theorem atI_lv {ls : Lvs} {k : Int} {p : Int × Int} (h0 : 0 ≤ k) (h : ls[k.toNat]? = some p) : atI (ls.map dLv) k = some (dLv p) := atI_nat h0 (by rw [List.getElem?_map, h]; rfl)
theorem ok_bent {f : Addr} {fd : FuncData} (F : Fun K "_law_bent" "_law_bent" s__law_bent f fd) (T : GT mg) (g__law_take : Kn P w K mg base 1 "_law_take" ["bag", "many"] (spB S_take)) : FnOk P w K mg base CX0 2 f fd ["bag", "ferry1", "book1"] (spB S_bent) := by
  refine fn_B F sc_bent T.b (fun ds n q ⟨_, _, _, e, _⟩ => by rw [e]; rfl) ?_
  rintro cdv A outer s H E b _ n q hr ck ⟨Y, last, ls, rfl, okF, bk, hn, h⟩
  have s1 := okF.s1
  have s2 := okF.s2
  have l0 := bk.l0
  have l1 := bk.l1
  have n10 := bk.n
  refine bb_cons <| ss_asg <| ee_var 2 rfl <| gg_tup ck <| ggs_cons <| gg_name 7 ck <| ggs_cons <| gg_name 8 ck <| ggs_nil <|
    bb_cons <| ss_if (et_M (t := decide (ls = [])) (et_cmp <| ee_varU 8 (.pt _) rfl <| ee_tup <| ea_nil <| ⟨by decide, br_eq ck <| ⟨⟨(shp_tpairs _).ok, (shp_tints []).ok⟩, ⟨nilT ls, rfl⟩⟩⟩) (ite2 (fun c => ?_) (fun c => bb_nil ?_)))
  · refine bb_one <| ss_ret <| ee_tup <| ea_cons <| ee_var 7 rfl <| ea_cons <| ee_tupP <| ea_cons <| ee_tup <| ea_cons <| ee_callG 0 ⟨_, hr, g__law_take⟩ rfl <| ea_cons <| ee_add <| ee_var 7 rfl <| ee_int <| ea_nil <| ⟨_, rfl, last + 1, rfl, ⟨by omega, by omega⟩, by omega, fun u u0 u1 => ea_cons <| ee_add <| ee_int <| ee_callG 0 ⟨_, hr, g__law_take⟩ rfl <| ea_cons <| ee_ix <| ee_var 1 rfl <| ee_int <| ⟨_, rfl, ea_nil <| ⟨_, rfl, Y.s, rfl, ⟨by omega, by omega⟩, by omega, fun v v0 v1 => ea_nil <| ⟨le2, ea_nil <| ⟨(by show 1 ≤ 1000000; decide), ea_nil <| ⟨le2, ⟨_, rfl, ?_⟩⟩⟩⟩⟩⟩⟩
    exact h [(u, 1 + v)] (bk.one u0 (by omega) (by omega) (by omega)) _ (by omega)
  · have hne : ls ≠ [] := fun z => c (decide_eq_true z)
    have lp : 0 < ls.length := List.length_pos_iff.mpr hne
    refine bb_cons <| ss_set 3 ck <| ee_callG 0 ⟨_, hr, g__law_take⟩ rfl <| ea_cons <| ee_len ck <| ea_cons <| ee_varU 8 (.pt _) rfl <| ea_nil <| ea_nil <| ⟨_, rfl, ((ls.map dLv).length : Int), rfl, ⟨by rw [List.length_map]; omega, by rw [List.length_map]; omega⟩, by omega, fun k k0 k1 => ?_⟩
    rw [List.length_map] at k1
    have hk : ls[k.toNat]? = some ls[k.toNat] := List.getElem?_eq_getElem (by omega)
    generalize ls[k.toNat] = p at hk
    have hp := bk.tk p (List.mem_of_getElem? hk)
    have hi : k.toNat < ls.length := by omega
    have c1 : DL.cutD (ls.map dLv) none (some k) = (ls.take k.toNat).map dLv := by rw [cutD_to k0, List.map_take]
    have c2 : DL.cutD (ls.map dLv) (some (k + 1)) none = (ls.drop (k.toNat + 1)).map dLv := by rw [cutD_from (by omega), show (k + 1).toNat = k.toNat + 1 by omega, List.map_drop]
    have l1 : (DL.cutD (ls.map dLv) none (some k)).length ≤ 10 := by rw [c1, List.length_map, List.length_take]; omega
    have l2 : (DL.cutD (ls.map dLv) (some (k + 1)) none).length ≤ 10 := by rw [c2, List.length_map, List.length_drop]; omega
    have es : ∀ z : Int × Int, (DL.cutD (ls.map dLv) none (some k) ++ [dLv z]) ++ DL.cutD (ls.map dLv) (some (k + 1)) none = (ls.set k.toNat z).map dLv := fun z => by
      rw [c1, c2, List.set_eq_take_append_cons_drop, if_pos hi, List.map_append, List.map_cons, List.append_assoc]
      rfl
    refine bb_cons <| ss_asg <| ee_ix <| ee_varU 8 (.pt _) rfl <| ee_var 3 rfl <| ⟨dLv p, atI_lv k0 hk, gg_tup ck <| ggs_cons <| gg_name 9 ck <| ggs_cons <| gg_name 10 ck <| ggs_nil <|
      bb_cons <| ss_set 4 ck <| ee_callG 0 ⟨_, hr, g__law_take⟩ rfl <| ea_cons <| ee_int <| ea_nil <| ⟨_, rfl, 3, rfl, ⟨by decide, by decide⟩, by omega, fun y y0 y1 => ?_⟩⟩
    refine bb_cons <| ss_if (et_cmp <| ee_var 4 rfl <| ee_int <| br_eq ck <| ite2 (fun d1 => ?_) (fun d1 => bb_nil ?_))
    · refine bb_one <| ss_ret <| ee_tup <| ea_cons <| ee_var 7 rfl <| ea_cons <| ee_addP <| ee_slP <| ee_var 8 rfl <| ee_var 3 rfl <| ⟨_, rfl, _, rfl, ee_slP <| ee_var 8 rfl <| ee_add <| ee_var 3 rfl <| ee_int <| ⟨_, rfl, _, rfl, ⟨_, _, rfl, rfl, ?_, ea_nil <| ⟨le2, ⟨_, rfl, ?_⟩⟩⟩⟩⟩
      · omega
      · rw [c1, c2, ← List.map_append]
        exact h _ (bk.out k.toNat) _ (by omega)
    · refine bb_cons <| ss_if (et_cmp <| ee_var 4 rfl <| ee_int <| br_eq ck <| ite2 (fun d2 => ?_) (fun d2 => bb_nil ?_))
      · refine bb_one <| ss_ret <| ee_tup <| ea_cons <| ee_var 7 rfl <| ea_cons <| ee_addP <| ee_addP <| ee_slP <| ee_var 8 rfl <| ee_var 3 rfl <| ⟨_, rfl, _, rfl, ee_tupP <| ea_cons <| ee_tup <| ea_cons <| ee_var 9 rfl <| ea_cons <| ee_add <| ee_int <| ee_callG 0 ⟨_, hr, g__law_take⟩ rfl <| ea_cons <| ee_ix <| ee_var 1 rfl <| ee_int <| ⟨_, rfl, ea_nil <| ⟨_, rfl, Y.s, rfl, ⟨by omega, by omega⟩, by omega, fun u u0 u1 => ea_nil <| ⟨le2, ea_nil <| ⟨(by show 1 ≤ 1000000; decide), ⟨_, _, rfl, rfl, ?_, ee_slP <| ee_var 8 rfl <| ee_add <| ee_var 3 rfl <| ee_int <| ⟨_, rfl, _, rfl, ⟨_, _, rfl, rfl, ?_, ea_nil <| ⟨le2, ⟨_, rfl, ?_⟩⟩⟩⟩⟩⟩⟩⟩⟩⟩
        · show (DL.cutD (ls.map dLv) none (some k)).length + 1 ≤ 1000000
          omega
        · rw [List.length_append]
          show (DL.cutD (ls.map dLv) none (some k)).length + 1 + _ ≤ 1000000
          omega
        · rw [es (p.1, 1 + u)]
          exact h _ (bk.swap hk (by omega) (by omega)) _ (by omega)
      · -- another tick
        have hlow : ∃ L : Int, (if 0 < k then (ls.getD (k.toNat - 1) (0, 0)).1 + 1 else 0) = L ∧ 0 ≤ L ∧ L ≤ p.1 ∧ ∀ q, 0 < k.toNat → ls[k.toNat - 1]? = some q → q.1 < L := by
          refine ⟨_, rfl, ?_⟩
          by_cases z : 0 < k
          · rw [if_pos z]
            have e1 : ls[k.toNat - 1]? = some ls[k.toNat - 1] := List.getElem?_eq_getElem (by omega)
            have e2 : ls.getD (k.toNat - 1) (0, 0) = ls[k.toNat - 1] := by rw [List.getD_eq_getElem?_getD, e1]; rfl
            rw [e2]
            have a1 := bk.tk _ (List.mem_of_getElem? e1)
            have a2 := List.pairwise_iff_getElem.mp bk.up (k.toNat - 1) k.toNat (by omega) hi (by omega)
            rw [(List.getElem?_eq_some_iff.mp hk).2] at a2
            refine ⟨by omega, by omega, fun q _ hq => ?_⟩
            rw [e1] at hq; cases hq
            omega
          · rw [if_neg z]
            exact ⟨Int.le_refl 0, hp.1, fun q y _ => absurd y (by omega)⟩
        have hhigh : ∃ U : Int, (if k + 1 < (ls.length : Int) then (ls.getD (k.toNat + 1) (0, 0)).1 - 1 else last) = U ∧ U ≤ last ∧ p.1 ≤ U ∧ ∀ q, ls[k.toNat + 1]? = some q → U < q.1 := by
          refine ⟨_, rfl, ?_⟩
          by_cases z : k + 1 < (ls.length : Int)
          · rw [if_pos z]
            have e1 : ls[k.toNat + 1]? = some ls[k.toNat + 1] := List.getElem?_eq_getElem (by omega)
            have e2 : ls.getD (k.toNat + 1) (0, 0) = ls[k.toNat + 1] := by rw [List.getD_eq_getElem?_getD, e1]; rfl
            rw [e2]
            have a1 := bk.tk _ (List.mem_of_getElem? e1)
            have a2 := List.pairwise_iff_getElem.mp bk.up k.toNat (k.toNat + 1) hi (by omega) (by omega)
            rw [(List.getElem?_eq_some_iff.mp hk).2] at a2
            refine ⟨by omega, by omega, fun q hq => ?_⟩
            rw [e1] at hq; cases hq
            omega
          · rw [if_neg z]
            exact ⟨Int.le_refl last, hp.2, fun q hq => absurd (List.getElem?_eq_some_iff.mp hq).1 (by omega)⟩
        obtain ⟨L, eL, L0, L1, Lq⟩ := hlow
        obtain ⟨U, eU, U0, U1, Uq⟩ := hhigh
        refine bb_cons <| ss_set 5 ck <| ee_M (d := .int L) (ee_if (et_cmp <| ee_var 3 rfl <| ee_int <| br_gt <| ite2 (fun z => ?_) (fun z => ee_int ⟨?_, rfl⟩))) ?_
        · have z' : (0 : Int) < k := of_decide_eq_true z
          have e1 : ls[(k - 1).toNat]? = some (ls.getD (k.toNat - 1) (0, 0)) := by
            rw [show (k - 1).toNat = k.toNat - 1 by omega, List.getD_eq_getElem?_getD, List.getElem?_eq_getElem (by omega)]; rfl
          rw [if_pos z'] at eL
          exact ee_add <| ee_ix <| ee_ix <| ee_varU 8 (.pt _) rfl <| ee_sub <| ee_var 3 rfl <| ee_int <| ⟨_, atI_lv (by omega) e1, ee_int <| ⟨_, rfl, ee_int ⟨congrArg PyData.int eL, rfl⟩⟩⟩
        · rw [if_neg fun y => z (decide_eq_true y)] at eL
          rw [eL]
        · refine bb_cons <| ss_set 6 ck <| ee_M (d := .int U) (ee_if (et_cmp <| ee_add <| ee_var 3 rfl <| ee_int <| ee_len ck <| ea_cons <| ee_varU 8 (.pt _) rfl <| ea_nil <| br_lt <| ite2 (fun z => ?_) (fun z => ee_var 7 rfl ⟨?_, rfl⟩))) ?_
          · have z' : k + 1 < ((ls.map dLv).length : Int) := of_decide_eq_true z
            rw [List.length_map] at z'
            have e1 : ls[(k + 1).toNat]? = some (ls.getD (k.toNat + 1) (0, 0)) := by
              rw [show (k + 1).toNat = k.toNat + 1 by omega, List.getD_eq_getElem?_getD, List.getElem?_eq_getElem (by omega)]; rfl
            rw [if_pos z'] at eU
            exact ee_sub <| ee_ix <| ee_ix <| ee_varU 8 (.pt _) rfl <| ee_add <| ee_var 3 rfl <| ee_int <| ⟨_, atI_lv (by omega) e1, ee_int <| ⟨_, rfl, ee_int ⟨congrArg PyData.int eU, rfl⟩⟩⟩
          · have z' : ¬ k + 1 < ((ls.map dLv).length : Int) := fun y => z (decide_eq_true y)
            rw [List.length_map] at z'
            rw [if_neg z'] at eU
            rw [eU]
          · refine bb_one <| ss_ret <| ee_tup <| ea_cons <| ee_var 7 rfl <| ea_cons <| ee_addP <| ee_addP <| ee_slP <| ee_var 8 rfl <| ee_var 3 rfl <| ⟨_, rfl, _, rfl, ee_tupP <| ea_cons <| ee_tup <| ea_cons <| ee_add <| ee_var 5 rfl <| ee_callG 0 ⟨_, hr, g__law_take⟩ rfl <| ea_cons <| ee_add <| ee_sub <| ee_var 6 rfl <| ee_var 5 rfl <| ee_int <| ea_nil <| ⟨_, rfl, U - L + 1, rfl, ⟨by omega, by omega⟩, by omega, fun u u0 u1 => ea_cons <| ee_var 10 rfl <| ea_nil <| ⟨le2, ea_nil <| ⟨(by show 1 ≤ 1000000; decide), ⟨_, _, rfl, rfl, ?_, ee_slP <| ee_var 8 rfl <| ee_add <| ee_var 3 rfl <| ee_int <| ⟨_, rfl, _, rfl, ⟨_, _, rfl, rfl, ?_, ea_nil <| ⟨le2, ⟨_, rfl, ?_⟩⟩⟩⟩⟩⟩⟩⟩⟩
            · show (DL.cutD (ls.map dLv) none (some k)).length + 1 ≤ 1000000
              omega
            · rw [List.length_append]
              show (DL.cutD (ls.map dLv) none (some k)).length + 1 + _ ≤ 1000000
              omega
            · rw [es (L + u, p.2)]
              exact h _ (bk.move hk (by omega) (by omega) (fun q y hq => by have := Lq q y hq; omega) (fun q hq => by have := Uq q hq; omega)) _ (by omega)
end
end FB

namespace FB
open PySem PySem.Spec PyProof.Rows L2 DL FM
/-! ### k03: rows, sums, ends -/
section
variable {P : Program} {w : World} {K : PySem.W.Frag} {mg : Str → Option Value} {base : Heap} {C : Addr}
abbrev dR (r : List Int) : PyData := .tuple (iL r)
def S_rows : DSpec := fun ds k => ∃ (F : Fy) (t : Int), ds = [dF F, .int t] ∧ F.Ok ∧ F.m ≤ 2 ∧ (0 ≤ t ∧ t ≤ 6) ∧ k (.list ((allRows F.m t.toNat).map dR))
def plusD (r : List Int) : PyData → PyData
  | .int x => .tuple (iL r ++ [.int x])
  | _ => .none
theorem plus_map (r : List Int) (m : Int) : (rngD 0 (m + 1).toNat).map (plusD r) = ((List.range (m + 1).toNat).map fun (x : Nat) => r ++ [(x : Int)]).map dR := by
  unfold rngD
  rw [List.map_map, List.map_map]
  refine List.map_congr_left fun x _ => ?_
  show PyData.tuple (iL r ++ [.int (0 + (x : Int))]) = .tuple (iL (r ++ [(x : Int)]))
  rw [show iL (r ++ [(x : Int)]) = iL r ++ iL [(x : Int)] from List.map_append, Int.zero_add]
  rfl
def S_sums : DSpec := fun ds k => ∃ r : List Int, ds = [.tuple (iL r)] ∧ r.length ≤ 1000 ∧ k (.list (iL (sumsFrom 0 r)))
theorem sc_sums : FnScope ["row", "found", "many"] ["row"] (defScope s__law_sums) := ⟨rfl, rfl, rfl, by decide +kernel, rfl, by decide +kernel, by decide +kernel⟩
theorem nilI (l : List Int) : (!PyData.eqv (.list (iL l)) (.list [])) = decide (l ≠ []) := by
  cases l with
  | nil => rfl
  | cons p r => rfl
theorem ok_sums {f : Addr} {fd : FuncData} (F : Fun K "_law_sums" "_law_sums" s__law_sums f fd) (T : GT mg) : FnOk P w K mg base CX0 1 f fd ["row"] (spD S_sums) := by
  refine fn_D F sc_sums T.b (fun ds q ⟨_, e, _⟩ => by rw [e]; rfl) ?_
  rintro cdv A outer s H E _ q hr ck ⟨r, rfl, hl, h⟩
  refine bb_cons <| ss_setL 1 ck <| ea_nil <| ⟨by decide, fun l =>
    bb_cons <| ss_for ck <| ii_tup <| ee_var 0 rfl <| ⟨_, rfl, fun i ρ => ∃ d2, ρ = [.dat (.tuple (iL r)), .own l (iL (sumsFrom 0 (r.take i))), d2] ∧ d2.ad = [], ⟨.non, rfl, rfl⟩, ?_, ?_⟩⟩
  · rintro i d ρ hd ⟨d2, rfl, e2⟩
    rw [List.getElem?_map] at hd
    cases hx : r[i]? with
    | none => rw [hx] at hd; cases hd
    | some x =>
    rw [hx] at hd
    cases hd
    have eS : sumsFrom 0 (r.take (i + 1)) = sumsFrom 0 (r.take i) ++ [x + (sumsFrom 0 (r.take i)).getLastD 0] := by
      rw [List.take_succ, hx]
      show sumsFrom 0 (r.take i ++ [x]) = _
      rw [sums_snoc, Int.add_comm]
    have hlen : (sumsFrom 0 (r.take i)).length ≤ 1000 := by rw [sums_len, List.length_take]; omega
    generalize sumsFrom 0 (r.take i) = S at *
    refine ⟨_, gg_name 2 ck <| bb_one <| ss_app 1 rfl <| ee_add <| ee_var 2 rfl <| ee_M (d := .int (S.getLastD 0)) (ee_if (et_ownNe 1 ck rfl (shp_ints S).ok (ite2 (fun c => ?_) (fun c => ee_int ⟨?_, rfl⟩)))) ⟨_, rfl, by rw [iL_len]; omega, .dat (.int x), ?_, rfl⟩⟩
    · rw [nilI, decide_eq_true_eq] at c
      have hp : 0 < S.length := List.length_pos_iff.mpr c
      have ha : atI (iL S) (-1) = some (.int (S.getLastD 0)) := by
        unfold atI ixN
        rw [if_neg (by decide), iL_len, if_pos (by omega)]
        show (iL S)[(-1 + (S.length : Int)).toNat]? = _
        rw [show (-1 + (S.length : Int)).toNat = S.length - 1 by omega, List.getElem?_map, ← List.getLast?_eq_getElem?, List.getLastD_eq_getLast?]
        cases q0 : S.getLast? with
        | none => exact absurd (List.getLast?_eq_none_iff.mp q0) c
        | some x => rfl
      exact ee_ixOwn 1 rfl <| ee_neg <| ee_int <| ⟨_, rfl, ⟨-1, _, _, rfl, rfl, ha, ⟨rfl, rfl⟩⟩⟩
    · rw [nilI] at c
      have : S = [] := by
        cases S with
        | nil => rfl
        | cons a b => exact absurd rfl c
      rw [this]; rfl
    · rw [eS]
      show [_, Sl.own l (iL S ++ [PyData.int (x + S.getLastD 0)]), _] = _
      rw [show iL (S ++ [x + S.getLastD 0]) = iL S ++ [PyData.int (x + S.getLastD 0)] from List.map_append]
  · rintro ρ ⟨d2, rfl, e2⟩
    rw [iL_len, List.take_length]
    exact bb_freeze 1 rfl <| bb_one <| ss_ret <| ee_var 1 rfl <| h
/-- None as a great one -/
def d999 (v : Int) : PyData := if v = 999 then .none else .int v
def f999 : PyData → PyData
  | .int v => d999 v
  | _ => .none
def S_ends : DSpec := fun ds k => ∃ (l : List Int) (mn mx : Int), ds = [.list (iL l)] ∧ Ends l mn mx ∧ k (.tuple [d999 mn, d999 mx])
theorem ends_at {l ms : List Int} {mn mx : Int} (E : Ends l mn mx) (hp : ms.Perm l) (hw : ms.Pairwise (· ≤ ·)) : atI (iL ms) 0 = some (.int mn) ∧ atI (iL ms) (-1) = some (.int mx) := by
  have h0 : 0 < ms.length := List.length_pos_iff.mpr fun z => by
    have := hp.mem_iff.mpr E.a
    rw [z] at this; cases this
  have pw := List.pairwise_iff_getElem.mp hw
  constructor
  · have e : ms[0]? = some ms[0] := List.getElem?_eq_getElem h0
    have h1 := E.le _ (hp.mem_iff.mp (List.getElem_mem h0))
    obtain ⟨j, hj⟩ := List.mem_iff_getElem?.mp (hp.mem_iff.mpr E.a)
    obtain ⟨hj1, hj2⟩ := List.getElem?_eq_some_iff.mp hj
    have h2 : ms[0] ≤ mn := by
      rcases Nat.eq_zero_or_pos j with z | z
      · subst z; omega
      · have := pw 0 j h0 hj1 z; omega
    have : ms[0] = mn := by omega
    exact atI_nat (by decide) (iL_at (by rw [← this]; exact e))
  · have hl : ms.length - 1 < ms.length := by omega
    have h1 := E.le _ (hp.mem_iff.mp (List.getElem_mem hl))
    obtain ⟨j, hj⟩ := List.mem_iff_getElem?.mp (hp.mem_iff.mpr E.b)
    obtain ⟨hj1, hj2⟩ := List.getElem?_eq_some_iff.mp hj
    have h2 : mx ≤ ms[ms.length - 1] := by
      rcases Nat.lt_or_ge j (ms.length - 1) with z | z
      · have := pw j (ms.length - 1) hj1 hl z; omega
      · obtain rfl : j = ms.length - 1 := by omega
        omega
    have e2 : ms[ms.length - 1] = mx := by omega
    unfold atI ixN
    rw [if_neg (by decide), iL_len, if_pos (by omega)]
    show (iL ms)[(-1 + (ms.length : Int)).toNat]? = _
    rw [show (-1 + (ms.length : Int)).toNat = ms.length - 1 by omega]
    exact iL_at (by rw [List.getElem?_eq_getElem hl, e2])
def S_tick : DSpec := fun ds k => ∃ (r : List Int) (c : Int), ds = [.tuple (iL r), .int c] ∧ r.length ≤ 1000 ∧ k (.int (tick999 r c))
def S_wait : DSpec := fun ds k => ∃ (F : Fy) (last : Int) (ls : Lvs) (r : List Int), ds = [.tuple (iL r), dLs ls] ∧ F.Ok ∧ BkOk F last ls ∧ r.length ≤ 1000 ∧ k (.int (wait999 ls r))
def tkD (r : List Int) : PyData → PyData
  | .int c => .int (tick999 r c)
  | _ => .none
end
end FB

namespace FB
open PySem PySem.Spec PyProof.Rows L2 DL FM
/-! ### ways told on tick by tick -/
theorem _root_.DL.ss_join {X : Cx} {ρ ρ1 : List Sl} {st : Stmt} {D : DE} (h : SS X ρ st { D with nx := fun ρ' => ρ' = ρ1 }) (q : D.nx ρ1) : SS X ρ st D := fun F σ H E S k =>
  h F σ H E S ⟨fun σ' H' ρ' e S' g => k.nx σ' H' ρ' (by rw [show ρ' = ρ1 from e]; exact q) S' g, k.rt, k.bk, k.ct⟩
theorem putK_put : ∀ {t : Tb} {k : Key2} {c : Int}, (t.Pairwise fun a b => a.1 ≠ b.1) → putK (kvP t) (kP k) (V.int c) = kvP (putS t k c)
  | [], k, c, _ => rfl
  | e :: t, k, c, nd => by
    have nd' := List.pairwise_cons.mp nd
    have ih := putK_put (k := k) (c := c) nd'.2
    unfold putK at ih ⊢
    unfold putS
    have e0 : kvP (e :: t) = (kP e.1, V.int e.2) :: kvP t := rfl
    rw [e0, List.any_cons]
    by_cases h : e.1 = k
    · have hk : kP e.1 = kP k := by rw [h]
      rw [if_pos h, decide_eq_true hk, Bool.true_or, if_pos rfl, List.map_cons, if_pos hk, hk]
      have : ((kvP t).map fun kv => if kv.1 = kP k then (kv.1, V.int c) else kv) = kvP t := by
        refine (List.map_congr_left fun kv hkv => ?_).trans (List.map_id _)
        obtain ⟨x, hx, rfl⟩ := List.mem_map.mp hkv
        have : x.1 ≠ k := fun z => nd'.1 x hx (h.trans z.symm)
        exact if_neg (kP_ne this)
      rw [this]; rfl
    · have hk : kP e.1 ≠ kP k := kP_ne h
      rw [if_neg h, decide_eq_false hk, Bool.false_or, List.map_cons, if_neg hk]
      by_cases a : (kvP t).any (fun kv => decide (kv.1 = kP k)) = true
      · rw [if_pos a] at ih ⊢
        rw [ih]; rfl
      · rw [if_neg a] at ih ⊢
        rw [List.cons_append, ih]; rfl
section
variable {P : Program} {w : World} {K : PySem.W.Frag} {mg : Str → Option Value} {base : Heap} {C : Addr}
def S_ways : DSpec := fun ds k => ∃ (F : Fy) (last : Int) (ls : Lvs), ds = [dF F, dBP last ls] ∧ F.Ok ∧ BkOk F last ls ∧ k (.int (howMany F last ls))
abbrev wS (F : Fy) (last : Int) (ls : Lvs) (d3 found back later d13 d14 d15 d16 d17 d18 d19 d20 : Sl) : List Sl := [.dat (dF F), .dat (dBP last ls), .fI ls, d3, .dat (.int F.s), .dat (.int F.w), .dat (.int F.a), .dat (.int F.m), .dat (.int last), .dat (pt (ls.map dLv)), found, back, later, d13, d14, d15, d16, d17, d18, d19, d20]
theorem sc_ways : FnScope ["ferry1", "book1", "due", "tick", "seats", "waits1", "away1", "most1", "last", "left1", "found", "back1", "later", "bank", "first", "more", "full", "goes", "mark", "here", "since"] ["ferry1", "book1"] (defScope s__law_ways) := ⟨rfl, rfl, rfl, by decide +kernel, rfl, by decide +kernel, by decide +kernel⟩
theorem ok_ways {f : Addr} {fd : FuncData} (F : Fun K "_law_ways" "_law_ways" s__law_ways f fd) (T : GT mg) : FnOk P w K mg base CX0 1 f fd ["ferry1", "book1"] (spD S_ways) := by
  refine fn_D F sc_ways T.b (fun ds q ⟨_, _, _, e, _⟩ => by rw [e]; rfl) ?_
  rintro cdv A outer s H E _ q hr ck ⟨Y, last, ls, rfl, okF, bk, h⟩
  have s1 := okF.s1
  have s2 := okF.s2
  have m1 := okF.m1
  have m2 := okF.m2
  have l0 := bk.l0
  have l1 := bk.l1
  have ndl : (ls.map (·.1)).Nodup := by
    rw [List.Nodup, List.pairwise_map]
    exact bk.up.imp fun h => Int.ne_of_lt h
  have up0 : upto ls ((0 : Nat) : Int) = [] := List.filter_eq_nil_iff.mpr fun p hp => by rw [decide_eq_true_eq]; have := bk.tk p hp; omega
  refine bb_cons <| ss_asg <| ee_var 0 rfl <| gg_tup ck <| ggs_cons <| gg_name 4 ck <| ggs_cons <| gg_name 5 ck <| ggs_cons <| gg_name 6 ck <| ggs_cons <| gg_name 7 ck <| ggs_nil <|
    bb_cons <| ss_asg <| ee_var 1 rfl <| gg_tup ck <| ggs_cons <| gg_name 8 ck <| ggs_cons <| gg_name 9 ck <| ggs_nil <|
    bb_cons <| ss_setDT 2 ck <| ee_var 9 rfl <| ⟨ls, rfl, ndl, bb_cons <| ss_parDP (i := 10) (j := 11) ck fun a0 =>
    bb_cons <| ss_for ck <| ii_range1 ck <| ea_cons <| ee_add <| ee_var 8 rfl <| ee_int <| ea_nil <| ⟨last + 1, rfl, by omega, fun i ρ => ∃ a d3 d13 d14 d15 d16 d17 d18 d19 d20, ρ = wS Y last ls d3 (.dP a (waysT Y ls i)) (.dat (.int (backOf Y (upto ls (i : Int))))) .non d13 d14 d15 d16 d17 d18 d19 d20,
      ⟨a0, .non, .non, .non, .non, .non, .non, .non, .non, .non, ?_⟩, ?_, ?_⟩⟩
  · rw [up0]; rfl
  · rintro i d ρ hd ⟨a, d3, d13, d14, d15, d16, d17, d18, d19, d20, rfl⟩
    obtain ⟨hi, rfl⟩ := rngD_get hd
    rw [Int.zero_add]
    have hi61 : (i : Int) ≤ 60 := by omega
    refine ⟨_, gg_name 3 ck <| bb_cons <| ss_setDEP 12 ck fun al => ?_⟩
    show BB _ (wS Y last ls (.dat (.int (i : Int))) (.dP a (waysT Y ls i)) (.dat (.int (backOf Y (upto ls (i : Int))))) (.dP al []) d13 d14 d15 d16 d17 d18 d19 d20) _ _
    have hT := ways_in okF ls i
    have hTn := ways_nd okF bk i
    have hTl := ways_len okF bk (show i ≤ 61 by omega)
    have hm61 : Y.m * (i : Int) ≤ 9 * 60 := Int.le_trans (Int.mul_le_mul_of_nonneg_right m2 (Int.natCast_nonneg i)) (by omega)
    have hm0 : 0 ≤ Y.m * (i : Int) := Int.mul_nonneg (by omega) (Int.natCast_nonneg i)
    have eW : waysT Y ls (i + 1) = (waysT Y ls i).foldl (fun later e => stepsS (stepK Y (backOf Y (upto ls (i : Int))) (dueAt ls (i : Int)) (i : Int) e.1) e.2 later (Y.m + 1).toNat) [] := rfl
    have eB := back_S (F := Y) bk (i : Int)
    generalize waysT Y ls i = tb at *
    generalize hbk : backOf Y (upto ls (i : Int)) = back at *
    generalize hdu : dueAt ls (i : Int) = due at *
    have inS : ∀ n, InT (Y.m * i + Y.m) (i : Int) ((tb.take n).foldl (fun later e => stepsS (stepK Y back due (i : Int) e.1) e.2 later (Y.m + 1).toNat) []) := fun n => tick_in okF (Int.natCast_nonneg i) (tb.take n) [] (fun e he => by have := hT e (List.mem_of_mem_take he); omega) (fun e he => nomatch he)
    refine bb_cons <| ss_forP 10 ck rfl (fun od => ⟨fun n ρ => ∃ d13 d14 d15 d16 d17 d18 d19 d20, ρ = wS Y last ls (.dat (.int (i : Int))) (.lP a od tb) (.dat (.int back)) (.dP al ((tb.take n).foldl (fun later e => stepsS (stepK Y back due (i : Int) e.1) e.2 later (Y.m + 1).toNat) [])) d13 d14 d15 d16 d17 d18 d19 d20,
      ⟨_, _, _, _, _, _, _, _, rfl⟩, fun n ρ2 ⟨_, _, _, _, _, _, _, _, e⟩ => by rw [e]; rfl, ?_, ?_⟩)
    · rintro n ⟨⟨kb, kf⟩, cv⟩ ρ2 hp ⟨d13, d14, d15, d16, d17, d18, d19, d20, rfl⟩
      have hin := inS n
      have hnd := tick_nd (stepK Y back due (i : Int)) (Y.m + 1).toNat (tb.take n)
      have eT : (tb.take (n + 1)).foldl (fun later e => stepsS (stepK Y back due (i : Int) e.1) e.2 later (Y.m + 1).toNat) [] = stepsS (stepK Y back due (i : Int) (kb, kf)) cv ((tb.take n).foldl (fun later e => stepsS (stepK Y back due (i : Int) e.1) e.2 later (Y.m + 1).toNat) []) (Y.m + 1).toNat := by
        rw [List.take_succ, hp]
        exact List.foldl_append
      have hk := hT _ (List.mem_of_getElem? hp)
      have hlk : tb.lookup (kb, kf) = some cv := lookup_nd hTn hp
      generalize (tb.take n).foldl (fun later e => stepsS (stepK Y back due (i : Int) e.1) e.2 later (Y.m + 1).toNat) [] = L0 at *
      refine ⟨_, ggs_cons <| gg_name 13 ck <| ggs_cons <| gg_name 14 ck <| ggs_nil <| ?_⟩
      show BB _ (wS Y last ls (.dat (.int (i : Int))) (.lP a od tb) (.dat (.int back)) (.dP al L0) (.dat (.int kb)) (.dat (.int kf)) d15 d16 d17 d18 d19 d20) _ _
      refine bb_one <| ss_for ck <| ii_range1 ck <| ea_cons <| ee_add <| ee_var 7 rfl <| ee_int <| ea_nil <| ⟨Y.m + 1, rfl, by omega, fun j ρ => ∃ d15 d16 d17 d18 d19 d20, ρ = wS Y last ls (.dat (.int (i : Int))) (.lP a od tb) (.dat (.int back)) (.dP al (stepsS (stepK Y back due (i : Int) (kb, kf)) cv L0 j)) (.dat (.int kb)) (.dat (.int kf)) d15 d16 d17 d18 d19 d20,
        ⟨_, _, _, _, _, _, rfl⟩, ?_, ?_⟩
      · rintro j d ρ3 hd3 ⟨d15, d16, d17, d18, d19, d20, rfl⟩
        obtain ⟨hj, rfl⟩ := rngD_get hd3
        dsimp only
        rw [Int.zero_add, stepsS_S]
        have hin1 := stepsS_in okF (back := back) (due := due) (c := cv) (κ := (kb, kf)) (Int.natCast_nonneg i) (by dsimp only at hk ⊢; omega) hin j (by omega)
        have hnd1 := stepsS_nd (stepK Y back due (i : Int) (kb, kf)) cv L0 hnd j
        have hlen : (stepsS (stepK Y back due (i : Int) (kb, kf)) cv L0 j).length < 1000000 := by
          have := tab_len (A := 549) (B := 60) hnd1 fun e he => by have := hin1 e he; omega
          omega
        generalize stepsS (stepK Y back due (i : Int) (kb, kf)) cv L0 j = L1 at *
        refine ⟨_, gg_name 15 ck <| bb_cons <| ss_par (i := 19) (j := 20) ck <| ea_cons <| ee_add <| ee_var 13 rfl <| ee_var 15 rfl <| ea_cons <| ee_var 14 rfl <| ea_nil <| ⟨_, _, rfl, ?_⟩⟩
        show BB _ (wS Y last ls (.dat (.int (i : Int))) (.lP a od tb) (.dat (.int back)) (.dP al L1) (.dat (.int kb)) (.dat (.int kf)) (.dat (.int (j : Int))) d16 d17 d18 (.dat (.int (kb + (j : Int)))) (.dat (.int kf))) _ _
        have hst : ∀ sn, (if back ≤ (i : Int) ∧ 0 < kb + (j : Int) ∧ kf < 0 then (i : Int) else kf) = sn → stepK Y back due (i : Int) (kb, kf) (j : Int) = (if (if 0 ≤ sn ∧ (Y.s ≤ kb + (j : Int) ∨ Y.w ≤ (i : Int) - sn) then min (kb + (j : Int)) Y.s else 0) = due then some (if 0 ≤ sn ∧ (Y.s ≤ kb + (j : Int) ∨ Y.w ≤ (i : Int) - sn) then (kb + (j : Int) - min (kb + (j : Int)) Y.s, -1) else (kb + (j : Int), sn)) else none) := fun sn e => by
          subst e; rfl
        obtain ⟨sn, hsn⟩ : ∃ sn, (if back ≤ (i : Int) ∧ 0 < kb + (j : Int) ∧ kf < 0 then (i : Int) else kf) = sn := ⟨_, rfl⟩
        rw [hst sn hsn]
        clear hst
        generalize hhe : kb + (j : Int) = he at *
        refine bb_cons <| ss_join (ρ1 := wS Y last ls (.dat (.int (i : Int))) (.lP a od tb) (.dat (.int back)) (.dP al L1) (.dat (.int kb)) (.dat (.int kf)) (.dat (.int (j : Int))) d16 d17 d18 (.dat (.int he)) (.dat (.int sn))) (ss_if (et_M (t := decide (back ≤ (i : Int)) && (decide (0 < he) && decide (kf < 0))) (et_bool <| ew_andM (et_cmp <| ee_var 3 rfl <| ee_var 11 rfl <| br_ge <| ⟨rfl, rfl⟩) (fun _ => ew_andM (et_cmp <| ee_var 19 rfl <| ee_int <| br_gt <| ⟨rfl, rfl⟩) (fun _ => ew_one <| et_cmp <| ee_var 20 rfl <| ee_int <| br_lt <| ⟨rfl, rfl⟩))) (ite2 (fun c => bb_one <| ss_set 20 ck <| ee_var 3 rfl <| ?_) (fun c => bb_nil ?_)))) ?_
        · rw [Bool.and_eq_true, Bool.and_eq_true, decide_eq_true_eq, decide_eq_true_eq, decide_eq_true_eq] at c
          rw [if_pos c] at hsn
          rw [← hsn]; rfl
        · rw [Bool.and_eq_true, Bool.and_eq_true, decide_eq_true_eq, decide_eq_true_eq, decide_eq_true_eq] at c
          rw [if_neg c] at hsn
          rw [← hsn]
        · refine bb_cons <| ss_set 16 ck <| ee_min ck <| ea_cons <| ee_var 19 rfl <| ea_cons <| ee_var 4 rfl <| ea_nil <| ?_
          refine bb_cons <| ss_set 17 ck <| ee_M (d := .bool (decide (0 ≤ sn) && (decide (Y.s ≤ he) || decide (Y.w ≤ (i : Int) - sn)))) (ee_andM (ee_cmp <| ee_var 20 rfl <| ee_int <| br_ge <| ⟨rfl, rfl⟩) (fun _ => ee_one <| ee_orM (ee_cmp <| ee_var 19 rfl <| ee_var 4 rfl <| br_ge <| ⟨rfl, rfl⟩) (fun _ => ee_one <| ee_cmp <| ee_sub <| ee_var 3 rfl <| ee_var 20 rfl <| ee_var 5 rfl <| br_ge <| ⟨rfl, rfl⟩))) ?_
          have hg : (decide (0 ≤ sn) && (decide (Y.s ≤ he) || decide (Y.w ≤ (i : Int) - sn))) = true ↔ (0 ≤ sn ∧ (Y.s ≤ he ∨ Y.w ≤ (i : Int) - sn)) := by
            rw [Bool.and_eq_true, Bool.or_eq_true, decide_eq_true_eq, decide_eq_true_eq, decide_eq_true_eq]
          have hif : ∀ {α : Type} (x y : α), (if 0 ≤ sn ∧ (Y.s ≤ he ∨ Y.w ≤ (i : Int) - sn) then x else y) = if (decide (0 ≤ sn) && (decide (Y.s ≤ he) || decide (Y.w ≤ (i : Int) - sn))) = true then x else y := fun x y => by
            by_cases z : 0 ≤ sn ∧ (Y.s ≤ he ∨ Y.w ≤ (i : Int) - sn)
            · rw [if_pos z, if_pos (hg.mpr z)]
            · rw [if_neg z, if_neg (fun y => z (hg.mp y))]
          rw [hif, hif]
          generalize (decide (0 ≤ sn) && (decide (Y.s ≤ he) || decide (Y.w ≤ (i : Int) - sn))) = go
          clear hg hif
          show BB _ (wS Y last ls (.dat (.int (i : Int))) (.lP a od tb) (.dat (.int back)) (.dP al L1) (.dat (.int kb)) (.dat (.int kf)) (.dat (.int (j : Int))) (.dat (.int (min he Y.s))) (.dat (.bool go)) d18 (.dat (.int he)) (.dat (.int sn))) _ _
          refine bb_one <| ss_if (et_M (t := decide ((if go = true then min he Y.s else 0) = due)) (et_cmp <| ee_M (d := .int (if go = true then min he Y.s else 0)) (ee_if <| et_val <| ee_var 17 rfl <| ⟨_, rfl, ite2 (fun c => ee_var 16 rfl ⟨by rw [if_pos c], rfl⟩) (fun c => ee_int ⟨by rw [if_neg c], rfl⟩)⟩) <| ee_getF 2 ck rfl (ee_var 3 rfl <| ⟨_, rfl, ee_int <| ⟨_, rfl, br_eq ck <| ⟨by rw [← hdu]; rfl, rfl⟩⟩⟩) ⟨rfl, rfl, rfl, rfl⟩) (ite2 (fun c => ?_) (fun c => bb_nil ?_)))
          · rw [decide_eq_true_eq] at c
            rw [if_pos c]
            refine bb_cons <| ss_set 18 ck <| ee_M (d := bt [.int (if go = true then (he - min he Y.s, (-1 : Int)) else (he, sn)).1, .int (if go = true then (he - min he Y.s, (-1 : Int)) else (he, sn)).2]) (ee_if <| et_val <| ee_var 17 rfl <| ⟨_, rfl, ite2 (fun c => ee_tupB <| ea_cons <| ee_sub <| ee_var 19 rfl <| ee_var 16 rfl <| ea_cons <| ee_neg <| ee_int <| ⟨_, rfl, ea_nil <| ⟨le2, by rw [if_pos c], rfl⟩⟩) (fun c => ee_tupB <| ea_cons <| ee_var 19 rfl <| ea_cons <| ee_var 20 rfl <| ea_nil <| ⟨le2, by rw [if_neg c], rfl⟩)⟩) ?_
            generalize (if go = true then (he - min he Y.s, (-1 : Int)) else (he, sn)) = mk
            refine bb_one <| ss_dputP 12 ck <| ee_add <| ee_getP 12 ck rfl (ee_var 18 rfl <| ⟨mk.1, mk.2, rfl, ee_int <| ⟨0, rfl, rfl, ee_dgetP 10 ck rfl <| ea_cons <| ee_var 13 rfl <| ea_cons <| ee_var 14 rfl <| ea_nil <| ⟨kb, kf, cv, rfl, rfl, hlk, ⟨_, rfl, rfl, ee_var 18 rfl <| ⟨mk.1, mk.2, addS L1 mk cv, rfl, rfl, hlen, putK_put hnd1, ⟨_, _, _, _, _, _, rfl⟩⟩⟩⟩⟩⟩) ⟨rfl, rfl, rfl, rfl⟩
          · rw [decide_eq_true_eq] at c
            rw [if_neg c]
            exact ⟨_, _, _, _, _, _, rfl⟩
      · rintro ρ3 ⟨d15, d16, d17, d18, d19, d20, rfl⟩
        rw [rngD_len]
        exact ⟨_, _, _, _, _, _, _, _, by rw [eT]⟩
    · rintro ρ2 ⟨d13, d14, d15, d16, d17, d18, d19, d20, rfl⟩
      rw [List.take_length, ← eW]
      refine bb_cons <| ss_join (ρ1 := wS Y last ls (.dat (.int (i : Int))) (.dP a tb) (.dat (.int (backOf Y (upto ls ((i : Int) + 1))))) (.dP al (waysT Y ls (i + 1))) d13 d14 d15 d16 d17 d18 d19 d20) (ss_if <| et_dinF 2 ck <| ee_var 3 rfl <| ⟨_, ls, rfl, rfl, ite2 (fun c => bb_one <| ss_set 11 ck <| ee_add <| ee_var 3 rfl <| ee_var 6 rfl <| ?_) (fun c => bb_nil ?_)⟩) ?_
      · rw [eB, if_pos c]; rfl
      · rw [eB, if_neg c]; rfl
      · refine bb_one <| ss_moveDP 10 12 ck rfl ⟨al, .dat (.int (i : Int)), d13, d14, d15, d16, d17, d18, d19, d20, ?_⟩
        rw [show ((i + 1 : Nat) : Int) = (i : Int) + 1 by omega]
        rfl
  · rintro ρ ⟨a, d3, d13, d14, d15, d16, d17, d18, d19, d20, rfl⟩
    rw [rngD_len]
    have hW := ways_is okF bk
    unfold waysOf at hW
    have hTn := ways_nd okF bk (last + 1).toNat
    have hTl := ways_len okF bk (show (last + 1).toNat ≤ 61 by omega)
    generalize waysT Y ls (last + 1).toNat = tb at *
    refine bb_one <| ss_ret <| ee_sum ck <| ea_cons <| ee_valsP 10 18 ck [("mark", 18)] (blkOk_by rfl) rfl (by decide) (by show 18 < 21; decide) rfl hTn (by omega) (ea_nil ⟨tb.map (·.2), by rw [List.map_map]; rfl, ?_⟩)
    rw [hW]
    exact h
end
end FB

namespace FB
open PySem PySem.Spec PyProof.Rows L2 DL FM
/-! ### rows put together -/
def unI : PyData → Int
  | .int i => i
  | _ => 0
theorem unI_map (r : List Int) : (iL r).map unI = r := by
  unfold iL
  rw [List.map_map]
  exact (List.map_congr_left fun _ _ => rfl).trans (List.map_id _)
def sumsD : PyData → PyData
  | .tuple xs => .list (iL (sumsFrom 0 (xs.map unI)))
  | _ => .none
theorem sumsD_at (r : List Int) : sumsD (.tuple (iL r)) = .list (iL (sumsFrom 0 r)) := by
  show PyData.list (iL (sumsFrom 0 ((iL r).map unI))) = _
  rw [unI_map]
def maxD : PyData → PyData
  | .tuple [.int a, .int b] => .int (max a b)
  | _ => .none
def minD : PyData → PyData
  | .tuple [.int a, .int b] => .int (min a b)
  | _ => .none
theorem zip_max : ∀ xs ys : List Int, (zipD (iL xs) (iL ys)).map maxD = iL (List.zipWith max xs ys)
  | [], _ => rfl
  | _ :: _, [] => rfl
  | x :: xs, y :: ys => congrArg (List.cons (PyData.int (max x y))) (zip_max xs ys)
theorem zip_min : ∀ xs ys : List Int, (zipD (iL xs) (iL ys)).map minD = iL (List.zipWith min xs ys)
  | [], _ => rfl
  | _ :: _, [] => rfl
  | x :: xs, y :: ys => congrArg (List.cons (PyData.int (min x y))) (zip_min xs ys)
theorem no_items {α β : Type} (l : List α) : l.filterMap (fun _ => (none : Option β)) = [] := by
  induction l with
  | nil => rfl
  | cons a l ih => rw [List.filterMap_cons]; exact ih
section
variable {P : Program} {w : World} {K : PySem.W.Frag} {mg : Str → Option Value} {base : Heap} {C : Addr}
theorem sc_row_of : FnScope ["sums", "one", "ahead1"] ["sums"] (defScope s__law_row_of) := ⟨rfl, rfl, rfl, by decide +kernel, rfl, by decide +kernel, by decide +kernel⟩
theorem ok_row_of {f : Addr} {fd : FuncData} {k : Nat} (F : Fun K "_law_row_of" "_law_row_of" s__law_row_of f fd) (T : GT mg) : FnOk P w K mg base CX0 (k + 1) f fd ["sums"] (spD S_steps_of) := by
  refine fn_D F sc_row_of T.b (fun ds q ⟨_, e, _⟩ => by rw [e]; rfl) ?_
  rintro cdv A outer s H E _ q hr ck ⟨sums, rfl, hl, h⟩
  have ec : [PyData.int 0] ++ DL.cutD (iL sums) none (some (-1)) = iL (0 :: sums.dropLast) := by
    rw [cutD_but]
    show [PyData.int 0] ++ (List.map PyData.int sums).dropLast = _
    rw [← List.map_dropLast]; rfl
  have lz : (zipD (iL sums) (iL (0 :: sums.dropLast))).length ≤ 1000000 := by
    unfold zipD
    rw [List.length_zipWith, iL_len]
    omega
  refine bb_one <| ss_ret <| ee_tuple ck <| ea_cons <| ee_lc [("one", 1), ("ahead1", 2)] ck (blkOk_by rfl) <| ii_zip2L ck <| ea_cons <| ee_var 0 rfl <| ea_cons <| ee_add <| ee_lst <| ea_cons <| ee_int <| ea_nil <| ⟨by decide, ee_sl <| ee_var 0 rfl <| ee_neg <| ee_int <| ⟨_, rfl, ⟨_, rfl, ⟨?_, ea_nil <| ⟨_, _, rfl, ?_⟩⟩⟩⟩⟩
  · have : (DL.cutD (iL sums) none (some (-1))).length ≤ 1000 := by rw [cutD_but, List.length_dropLast, iL_len]; omega
    show 1 + (DL.cutD (iL sums) none (some (-1))).length ≤ 1000000
    omega
  · rw [ec]
    refine lcK_map subD lz [1, 2] (fun j hj => hj) (fun d hd _ _ _ _ _ => ?_) <| ea_nil ?_
    · rw [zipD_iL] at hd
      obtain ⟨pr, _, rfl⟩ := List.mem_map.mp hd
      exact gg_tup (js := [1, 2]) ck.blk <| ggs_cons (js := [1]) (ks := [2]) <| gg_name 1 ck.blk <| ggs_cons (js := [2]) (ks := []) <| gg_name 2 ck.blk <| ggs_nil <| fun _ _ _ _ _ => ee_sub <| ee_var 1 rfl <| ee_var 2 rfl <| rfl
    · rw [zip_sub]
      exact h
def S_steps_so : DSpec := fun ds k => ∃ (F : Fy) (last : Int) (ls : Lvs) (row : List Int), ds = [dF F, dBP last ls, .tuple (iL row)] ∧ F.Ok ∧ BkOk F last ls ∧ (row.length : Int) = last + 1 ∧ (∀ x ∈ row, 0 ≤ x ∧ x ≤ F.m) ∧ leftOf F row = ls ∧ k (.bool true)
abbrev gS (F : Fy) (last : Int) (ls : Lvs) (row : List Int) (st : List (Int × Int)) (d5 d6 d7 d8 d9 d10 : Sl) : List Sl := [.dat (dF F), .dat (dBP last ls), .dat (.tuple (iL row)), .dat (.list (st.map dLv)), .dat (.list [.list (iL (sumsFrom 0 row)), .list (iL (lo st)), .list (iL (hi st))]), d5, d6, d7, d8, d9, d10]
theorem sc_steps_so : FnScope ["ferry1", "book1", "own", "steps1", "sums", "one", "other", "row", "some", "step", "pair"] ["ferry1", "book1", "own"] (defScope s__law_steps_so) := ⟨rfl, rfl, rfl, by decide +kernel, rfl, by decide +kernel, by decide +kernel⟩
theorem ok_steps_so {f : Addr} {fd : FuncData} {k : Nat} (F : Fun K "_law_steps_so" "_law_steps_so" s__law_steps_so f fd) (T : GT mg) (g_stairs : Kn P w K mg base k "stairs" ["ferry", "book"] (spD (S_fb dStairs))) (g_few : Kn P w K mg base k "fewest_row" ["ferry", "book"] (spD (S_fb dFew))) (g_most : Kn P w K mg base k "most_row" ["ferry", "book"] (spD (S_fb dMost)))
    (g_sums : Kn P w K mg base k "_law_sums" ["row"] (spD S_sums)) (g_left : Kn P w K mg base k "_law_left" ["ferry1", "row"] (spD S_left)) (g_row : Kn P w K mg base k "_law_row_of" ["sums"] (spD S_steps_of)) : FnOk P w K mg base CX0 (k + 1) f fd ["ferry1", "book1", "own"] (spD S_steps_so) := by
  refine fn_D F sc_steps_so T.b (fun ds q ⟨_, _, _, _, e, _⟩ => by rw [e]; rfl) ?_
  rintro cdv A outer s H E _ q hr ck ⟨Y, last, ls, row, rfl, okF, bk, hl, hx, hleft, h⟩
  have l0 := bk.l0
  have l1 := bk.l1
  have m2 := okF.m2
  obtain ⟨st, hs, gO⟩ := gd_own okF bk hl hx hleft
  obtain ⟨gL, gH⟩ := gd_ends okF bk hs
  have gLl := gL.left okF bk hs
  have gHl := gH.left okF bk hs
  have lst := stairs_len hs
  have eF : dFew Y last ls = .tuple (iL (stepsOf (lo st))) := by unfold dFew; rw [hs]
  have eM : dMost Y last ls = .tuple (iL (stepsOf (hi st))) := by unfold dMost; rw [hs]
  have eL : sumsFrom 0 (stepsOf (lo st)) = lo st := by rw [stepsOf_eq, sums_steps]
  have eH : sumsFrom 0 (stepsOf (hi st)) = hi st := by rw [stepsOf_eq, sums_steps]
  refine bb_cons <| ss_set 3 ck <| ee_call ⟨_, hr, g_stairs⟩ <| ea_cons <| ee_var 0 rfl <| ea_cons <| ee_varU 1 (.two (.pt _)) rfl <| ea_nil <| ⟨Y, last, ls, rfl, okF, bk, ?_⟩
  unfold dStairs
  rw [hs]
  refine bb_cons <| ss_setLc 4 [("row", 7)] ck (blkOk_by rfl) (hsw := rfl) <| ii_tup <| ee_tup <| ea_cons <| ee_var 2 rfl <| ea_cons <| ee_call ⟨_, hr, g_few⟩ <| ea_cons <| ee_var 0 rfl <| ea_cons <| ee_varU 1 (.two (.pt _)) rfl <| ea_nil <| ⟨Y, last, ls, rfl, okF, bk, ea_cons <| ee_call ⟨_, hr, g_most⟩ <| ea_cons <| ee_var 0 rfl <| ea_cons <| ee_varU 1 (.two (.pt _)) rfl <| ea_nil <| ⟨Y, last, ls, rfl, okF, bk, ea_nil <| ⟨(by show 3 ≤ 1000000; decide), _, rfl, ?_⟩⟩⟩
  rw [eF, eM]
  refine lcK_map sumsD (by show 3 ≤ 1000000; decide) [7] (fun j hj => hj) (fun d hd _ _ _ _ _ => gg_name 7 ck.blk <| fun _ _ _ _ _ => ?_) ?_
  · have : ∃ r : List Int, d = .tuple (iL r) ∧ r.length ≤ 1000 := by
      rcases List.mem_cons.mp hd with e | hd
      · exact ⟨_, e, by omega⟩
      · rcases List.mem_cons.mp hd with e | hd
        · exact ⟨_, e, by rw [gLl.2.1]; omega⟩
        · exact ⟨_, List.mem_singleton.mp hd, by rw [gHl.2.1]; omega⟩
    obtain ⟨r, rfl, hr1⟩ := this
    exact ee_call ⟨_, hr, g_sums⟩ <| ea_cons <| ee_var 7 rfl <| ea_nil <| ⟨r, rfl, hr1, sumsD_at r⟩
  · have eS : [PyData.tuple (iL row), .tuple (iL (stepsOf (lo st))), .tuple (iL (stepsOf (hi st)))].map sumsD = [.list (iL (sumsFrom 0 row)), .list (iL (lo st)), .list (iL (hi st))] := by
      show [sumsD _, sumsD _, sumsD _] = _
      rw [sumsD_at, sumsD_at, sumsD_at, eL, eH]
    rw [eS]
    show BB _ (gS Y last ls row st .non .non .non .non .non .non) _ _
    have gd3 : ∀ (i : Nat) (d : PyData), [PyData.list (iL (sumsFrom 0 row)), .list (iL (lo st)), .list (iL (hi st))][i]? = some d → ∃ S, d = .list (iL S) ∧ Gd Y st S := fun i d hd => by
      have hm := List.mem_of_getElem? hd
      rcases List.mem_cons.mp hm with e | hm
      · exact ⟨_, e, gO⟩
      · rcases List.mem_cons.mp hm with e | hm
        · exact ⟨_, e, gL⟩
        · exact ⟨_, List.mem_singleton.mp hm, gH⟩
    have shI : ∀ l : List Int, Shp 1 (.list (iL l)) := shp_ints
    have sh2 : ∀ a b : List Int, Shp 2 (.list [.list (iL a), .list (iL b)]) := fun a b => shp_list fun d hd => by
      rcases List.mem_cons.mp hd with e | hd
      · rw [e]; exact shI a
      · rw [List.mem_singleton.mp hd]; exact shI b
    have lm : ∀ f : PyData → PyData, ((st.map dLv).map f).length ≤ 1000000 := fun f => by rw [List.length_map, List.length_map, lst]; omega
    have ls1 : (st.map dLv).length ≤ 1000000 := by rw [List.length_map, lst]; omega
    refine bb_cons <| ss_if (et_M (t := false) (et_cmp <| ee_lst <| ea_cons <| ee_ix <| ee_var 4 rfl <| ee_int <| ⟨_, rfl, ea_cons <| ee_ix <| ee_var 4 rfl <| ee_int <| ⟨_, rfl, ea_nil <| ⟨le2, ee_lst <| ea_cons <| ee_lc [("step", 9)] ck (blkOk_by rfl) <| ii_list <| ee_var 3 rfl <| ⟨_, rfl, lcK_map fstD ls1 [9] (fun j hj => hj) (fun d hd _ _ _ _ _ => ?_) <| ea_cons <| ee_lc [("step", 9)] ck (blkOk_by rfl) <| ii_list <| ee_var 3 rfl <| ⟨_, rfl, lcK_map sndD ls1 [9] (fun j hj => hj) (fun d hd _ _ _ _ _ => ?_) <| ea_nil <| ⟨le2, ?_⟩⟩⟩⟩⟩⟩) (ifF rfl <| bb_nil ?_))
    · obtain ⟨p, _, rfl⟩ := List.mem_map.mp hd
      exact gg_name 9 ck.blk <| fun _ _ _ _ _ => ee_ix <| ee_var 9 rfl <| ee_int <| ⟨_, rfl, rfl⟩
    · obtain ⟨p, _, rfl⟩ := List.mem_map.mp hd
      exact gg_name 9 ck.blk <| fun _ _ _ _ _ => ee_ix <| ee_var 9 rfl <| ee_int <| ⟨_, rfl, rfl⟩
    · rw [map_fst, map_snd]
      exact br_ne ck ⟨⟨(sh2 _ _).ok, (sh2 _ _).ok⟩, ⟨by rw [(sh2 _ _).refl]; rfl, rfl⟩⟩
    refine bb_cons <| ss_if (et_M (t := false) (et_cmp <| ee_lc [("one", 5), ("step", 9)] ck (blkOk_by rfl) <| ii_zip2L ck <| ea_cons <| ee_ix <| ee_var 4 rfl <| ee_int <| ⟨_, rfl, ea_cons <| ee_var 3 rfl <| ea_nil <| ⟨_, _, rfl, fun _ => none, ?_, fun d hd => ⟨[5, 9], fun j hj => hj, fun _ _ _ _ _ => ?_⟩, ?_⟩⟩) (ifF rfl <| bb_nil ?_))
    · unfold zipD
      rw [List.length_zipWith]; omega
    · obtain ⟨i, hi⟩ := List.mem_iff_getElem?.mp hd
      obtain ⟨x, y, e1, e2, rfl⟩ := zipD_get hi
      rw [List.getElem?_map] at e1 e2
      cases q1 : (sumsFrom 0 row)[i]? with
      | none => rw [q1] at e1; cases e1
      | some v =>
        rw [q1] at e1; cases e1
        cases q2 : st[i]? with
        | none => rw [q2] at e2; cases e2
        | some p =>
          rw [q2] at e2; cases e2
          have hlt : i < st.length := (List.getElem?_eq_some_iff.mp q2).1
          have hv : p.1 ≤ v ∧ v ≤ p.2 := by
            have b := btw_at _ _ _ gO.bt i (List.getElem?_eq_some_iff.mp q1).1
            obtain ⟨f1, f2⟩ := getD_map_mem hlt
            rw [f1, f2, List.getD_eq_getElem?_getD, q1] at b
            rw [(List.getElem?_eq_some_iff.mp q2).2] at b
            exact b
          exact gg_tup (js := [5, 9]) ck.blk <| ggs_cons (js := [5]) (ks := [9]) <| gg_name 5 ck.blk <| ggs_cons (js := [9]) (ks := []) <| gg_name 9 ck.blk <| ggs_nil <| fun _ _ _ _ _ => et_not <| et_chain <| ee_ix <| ee_var 9 rfl <| ee_int <| ⟨_, rfl, ee_var 5 rfl <| br_le <| ifT (decide_eq_true hv.1) <| ee_ix <| ee_var 9 rfl <| ee_int <| ⟨_, rfl, br_le <| ifF (by show (!decide (v ≤ p.2)) = false; rw [decide_eq_true hv.2]; rfl) rfl⟩⟩
    · rw [no_items]
      exact ee_lst <| ea_nil <| ⟨by decide, br_ne ck ⟨⟨(shp_ints []).ok, (shp_ints []).ok⟩, ⟨rfl, rfl⟩⟩⟩
    refine bb_cons <| ss_for ck <| ii_list <| ee_var 4 rfl <| ⟨_, rfl, fun i ρ => ∃ d5 d6 d7 d8 d9 d10, ρ = gS Y last ls row st d5 d6 d7 d8 d9 d10, ⟨_, _, _, _, _, _, rfl⟩, ?_, ?_⟩
    · rintro i d ρ hd ⟨d5, d6, d7, d8, d9, d10, rfl⟩
      obtain ⟨S, rfl, gS'⟩ := gd3 i d hd
      have nS := gS'.len hs
      refine ⟨_, gg_name 5 ck <| bb_one <| ss_for ck <| ii_list <| ee_var 4 rfl <| ⟨_, rfl, fun i ρ => ∃ d6 d7 d8 d9 d10, ρ = gS Y last ls row st (.dat (.list (iL S))) d6 d7 d8 d9 d10, ⟨_, _, _, _, _, rfl⟩, ?_, ?_⟩⟩
      · rintro i d ρ hd ⟨d6, d7, d8, d9, d10, rfl⟩
        obtain ⟨S2, rfl, g2⟩ := gd3 i d hd
        have nS2 := g2.len hs
        have lz : (zipD (iL S) (iL S2)).length ≤ 1000000 := by
          unfold zipD
          rw [List.length_zipWith, iL_len, iL_len]; omega
        have atP : ∀ d ∈ zipD (iL S) (iL S2), ∃ a b : Int, d = .tuple [.int a, .int b] := fun d hd => by
          rw [zipD_iL] at hd
          obtain ⟨pr, _, rfl⟩ := List.mem_map.mp hd
          exact ⟨_, _, rfl⟩
        refine ⟨_, gg_name 6 ck <| bb_one <| ss_for ck <| ii_tup <| ee_tup <| ea_cons <| ee_lc [("pair", 10)] ck (blkOk_by rfl) <| ii_zipN ck <| ea_cons <| ee_var 5 rfl <| ea_cons <| ee_var 6 rfl <| ea_nil <| ⟨_, _, rfl, lcK_map maxD lz [10] (fun j hj => hj) (fun d hd _ _ _ _ _ => ?_) <| ea_cons <| ee_lc [("pair", 10)] ck (blkOk_by rfl) <| ii_zipN ck <| ea_cons <| ee_var 5 rfl <| ea_cons <| ee_var 6 rfl <| ea_nil <| ⟨_, _, rfl, lcK_map minD lz [10] (fun j hj => hj) (fun d hd _ _ _ _ _ => ?_) <| ea_nil <| ⟨le2, _, rfl, fun i ρ => ∃ d7 d8 d9 d10, ρ = gS Y last ls row st (.dat (.list (iL S))) (.dat (.list (iL S2))) d7 d8 d9 d10, ⟨_, _, _, _, rfl⟩, ?_, ?_⟩⟩⟩⟩
        · obtain ⟨a, b, rfl⟩ := atP d hd
          exact gg_name 10 ck.blk <| fun _ _ _ _ _ => ee_maxT ck.blk <| ea_cons <| ee_var 10 rfl <| ea_nil <| ⟨a, b, rfl, rfl⟩
        · obtain ⟨a, b, rfl⟩ := atP d hd
          exact gg_name 10 ck.blk <| fun _ _ _ _ _ => ee_minT ck.blk <| ea_cons <| ee_var 10 rfl <| ea_nil <| ⟨a, b, rfl, rfl⟩
        · rintro i d ρ hd ⟨d7, d8, d9, d10, rfl⟩
          have : ∃ Z, d = .list (iL Z) ∧ Gd Y st Z := by
            have hm := List.mem_of_getElem? hd
            rw [zip_max, zip_min] at hm
            rcases List.mem_cons.mp hm with e | hm
            · exact ⟨_, e, gS'.max g2⟩
            · exact ⟨_, List.mem_singleton.mp hm, gS'.min g2⟩
          obtain ⟨Z, rfl, gZ⟩ := this
          have nZ := gZ.len hs
          obtain ⟨z1, z2, z3⟩ := gZ.left okF bk hs
          refine ⟨_, gg_name 8 ck <| bb_one <| ss_if (et_M (t := false) (et_cmp <| ee_un <| ee_call ⟨_, hr, g_left⟩ <| ea_cons <| ee_var 0 rfl <| ea_cons <| ee_call ⟨_, hr, g_row⟩ <| ea_cons <| ee_var 8 rfl <| ea_nil <| ⟨Z, rfl, by omega, ea_nil <| ⟨Y, stepsOf Z, rfl, okF, by omega, fun x hx => by have := z3 x hx; omega, ⟨_, .pt _, ee_ix <| ee_varU 1 (.two (.pt _)) rfl <| ee_int <| ⟨_, rfl, ?_⟩⟩⟩⟩) (ifF rfl <| bb_nil ⟨_, _, _, _, rfl⟩))⟩
          rw [z1]
          exact br_ne ck ⟨⟨(shp_tpairs ls).ok, (shp_tpairs ls).ok⟩, ⟨by rw [(shp_tpairs ls).refl]; rfl, rfl⟩⟩
        · rintro ρ ⟨d7, d8, d9, d10, rfl⟩
          exact ⟨_, _, _, _, _, rfl⟩
      · rintro ρ ⟨d6, d7, d8, d9, d10, rfl⟩
        exact ⟨_, _, _, _, _, _, rfl⟩
    · rintro ρ ⟨d5, d6, d7, d8, d9, d10, rfl⟩
      exact bb_one <| ss_ret <| ee_bl h
end
end FB

namespace FB
open PySem PySem.Spec PyProof.Rows L2 DL FM
/-! ### mends, by ways -/
theorem how_pos {F : Fy} (ok : F.Ok) {last : Int} {ls : Lvs} (bk : BkOk F last ls) : decide (0 < howMany F last ls) = !(stairs F last ls).isNone := by
  rw [howMany_is ok bk]
  have h := doing_none ok bk
  cases hs : stairs F last ls with
  | none =>
    rw [h.mp hs]; rfl
  | some st =>
    have : doing F last ls ≠ [] := fun z => by rw [h.mpr z] at hs; cases hs
    have := List.length_pos_iff.mpr this
    rw [decide_eq_true (by omega)]; rfl
section
variable {P : Program} {w : World} {K : PySem.W.Frag} {mg : Str → Option Value} {base : Heap} {C : Addr}
def S_lmends4 : DSpec := fun ds k => ∃ (F : Fy) (last : Int) (ls : Lvs), ds = [dF F, dBP last ls] ∧ F.Ok ∧ BkOk F last ls ∧ k (dMends F last ls)
abbrev nS (F : Fy) (last : Int) (ls : Lvs) (found d5 d6 d7 d8 d9 : Sl) : List Sl := [.dat (dF F), .dat (dBP last ls), found, .dat (.int last), .dat (pt (ls.map dLv)), d5, d6, d7, d8, d9]
theorem sc_lmends4 : FnScope ["ferry1", "book1", "found", "last", "left1", "k", "other", "tick", "load", "bent"] ["ferry1", "book1"] (defScope s__law_mends) := ⟨rfl, rfl, rfl, by decide +kernel, rfl, by decide +kernel, by decide +kernel⟩
theorem ok_lmends4 {f : Addr} {fd : FuncData} {k : Nat} (F : Fun K "_law_mends" "_law_mends" s__law_mends f fd) (T : GT mg) (g_ways : Kn P w K mg base k "_law_ways" ["ferry1", "book1"] (spD S_ways)) : FnOk P w K mg base CX0 (k + 1) f fd ["ferry1", "book1"] (spD S_lmends4) := by
  refine fn_D F sc_lmends4 T.b (fun ds q ⟨_, _, _, e, _⟩ => by rw [e]; rfl) ?_
  rintro cdv A outer s H E _ q hr ck ⟨Y, last, ls, rfl, okF, ok, h⟩
  have n10 := ok.n
  have s2 := okF.s2
  have s1 := okF.s1
  refine bb_cons <| ss_asg <| ee_var 1 rfl <| gg_tup ck <| ggs_cons <| gg_name 3 ck <| ggs_cons <| gg_name 4 ck <| ggs_nil <|
    bb_cons <| ss_setL 2 ck <| ea_nil <| ⟨by decide, fun l =>
    bb_cons <| ss_for ck <| ii_enumT ck <| ea_cons <| ee_varU 4 (.pt _) rfl <| ea_nil <| ⟨_, rfl, fun i ρ => ∃ d5 d6 d7 d8 d9, ρ = nS Y last ls (.own l ((mendsTo Y last ls i).map dLv)) d5 d6 d7 d8 d9, ⟨_, _, _, _, _, rfl⟩, ?_, ?_⟩⟩
  · rintro i d ρ hd ⟨d5, d6, d7, d8, d9, rfl⟩
    obtain ⟨p, hp, rfl⟩ := enumD_map dLv hd
    have eg : ls.getD i (0, 0) = p := by rw [List.getD_eq_getElem?_getD, hp]; rfl
    have hi : i < ls.length := (List.getElem?_eq_some_iff.mp hp).1
    refine ⟨_, gg_tup ck <| ggs_cons <| gg_name 5 ck <| ggs_cons <| gg_tup ck <| ggs_cons <| gg_name 7 ck <| ggs_cons <| gg_name 8 ck <| ggs_nil <| ggs_nil <|
      bb_one <| ss_for ck <| ii_range2 ck <| ea_cons <| ee_int <| ea_cons <| ee_add <| ee_ix <| ee_var 0 rfl <| ee_int <| ⟨_, rfl, ee_int <| ea_nil <| ⟨1, Y.s + 1, rfl, by omega, fun j ρ => ∃ d6 d9, ρ = nS Y last ls (.own l ((mendsTo Y last ls i ++ mendsRow Y last ls i p j).map dLv)) (.dat (.int (i : Int))) d6 (.dat (.int p.1)) (.dat (.int p.2)) d9, ⟨d6, d9, ?_⟩, ?_, ?_⟩⟩⟩
    · rw [show mendsRow Y last ls i p 0 = [] from rfl, List.append_nil]
      rfl
    · rintro j d ρ hd ⟨d6, d9, rfl⟩
      obtain ⟨hj, rfl⟩ := rngD_get hd
      have c1 : DL.cutD (ls.map dLv) none (some (i : Int)) = (ls.take i).map dLv := by rw [cutD_to (by omega), Int.toNat_natCast, List.map_take]
      have c2 : DL.cutD (ls.map dLv) (some ((i : Int) + 1)) none = (ls.drop (i + 1)).map dLv := by rw [cutD_from (by omega), show ((i : Int) + 1).toNat = i + 1 by omega, List.map_drop]
      have es : (DL.cutD (ls.map dLv) none (some (i : Int)) ++ [dLv (p.1, 1 + (j : Int))]) ++ DL.cutD (ls.map dLv) (some ((i : Int) + 1)) none = (ls.set i (p.1, 1 + (j : Int))).map dLv := by
        rw [c1, c2, List.set_eq_take_append_cons_drop, if_pos hi, List.map_append, List.map_cons, List.append_assoc]
        rfl
      have l1 : (DL.cutD (ls.map dLv) none (some (i : Int))).length ≤ 10 := by rw [c1, List.length_map, List.length_take]; omega
      have l2 : (DL.cutD (ls.map dLv) (some ((i : Int) + 1)) none).length ≤ 10 := by rw [c2, List.length_map, List.length_drop]; omega
      have ml : (mendsTo Y last ls i ++ mendsRow Y last ls i p j).length ≤ 1000 := by
        have a1 := mendsTo_len last ls okF.s2 i
        have a2 := mendsRow_len Y last ls i p j
        rw [List.length_append]; omega
      refine ⟨_, gg_name 6 ck <|
        bb_cons <| ss_set 9 ck <| ee_tup <| ea_cons <| ee_var 3 rfl <| ea_cons <| ee_addP <| ee_addP <| ee_slP <| ee_var 4 rfl <| ee_var 5 rfl <| ⟨_, rfl, _, rfl, ee_tupP <| ea_cons <| ee_tup <| ea_cons <| ee_var 7 rfl <| ea_cons <| ee_var 6 rfl <| ea_nil <| ⟨le2, ea_nil <| ⟨(by show 1 ≤ 1000000; decide), ⟨_, _, rfl, rfl, ?_, ee_slP <| ee_var 4 rfl <| ee_add <| ee_var 5 rfl <| ee_int <| ⟨_, rfl, _, rfl, ⟨_, _, rfl, rfl, ?_, ea_nil <| ⟨le2, ?_⟩⟩⟩⟩⟩⟩⟩⟩
      · show (DL.cutD (ls.map dLv) none (some (i : Int))).length + 1 ≤ 1000000
        omega
      · rw [List.length_append]
        show (DL.cutD (ls.map dLv) none (some (i : Int))).length + 1 + _ ≤ 1000000
        omega
      · have es' : PyData.tuple [.int last, pt ((DL.cutD (ls.map dLv) none (some (i : Int)) ++ [dLv (p.1, 1 + (j : Int))]) ++ DL.cutD (ls.map dLv) (some ((i : Int) + 1)) none)] = dBP last (ls.set i (p.1, 1 + (j : Int))) := by rw [es]; rfl
        rw [es']
        have okS : BkOk Y last (ls.set i (p.1, 1 + (j : Int))) := ok.swap hp (by omega) (by omega)
        refine bb_one <| ss_if (et_M (t := decide (1 + (j : Int) ≠ p.2) && !(stairs Y last (ls.set i (p.1, 1 + (j : Int)))).isNone) (et_bool <| ew_andM (et_cmp <| ee_var 6 rfl <| ee_var 8 rfl <| br_ne ck <| ⟨?_, rfl⟩) (fun _ => ew_one <| et_cmp <| ee_call ⟨_, hr, g_ways⟩ <| ea_cons <| ee_var 0 rfl <| ea_cons <| ee_var 9 rfl <| ea_nil <| ⟨Y, last, _, rfl, okF, okS, ee_int <| br_gt <| ⟨how_pos okF okS, rfl⟩⟩))
         (ite2 (fun c =>
        bb_one <| ss_app 2 rfl <| ee_tup <| ea_cons <| ee_var 5 rfl <| ea_cons <| ee_var 6 rfl <| ea_nil <| ⟨le2, ⟨_, rfl, by rw [List.length_map]; omega,
          ⟨.dat (.int (1 + (j : Int))), .dat (dBP last (ls.set i (p.1, 1 + (j : Int)))), ?_⟩⟩⟩)
         (fun c =>
        bb_nil <| ⟨.dat (.int (1 + (j : Int))), .dat (dBP last (ls.set i (p.1, 1 + (j : Int)))), ?_⟩)))
        · by_cases z : (1 + (j : Int) = p.2)
          · rw [decide_eq_true z, decide_eq_false fun y => y z]; rfl
          · rw [decide_eq_false z, decide_eq_true z]; rfl
        · rw [mendsRow_S, if_pos c, ← List.append_assoc, List.map_append (l₂ := [_])]
          rfl
        · rw [mendsRow_S, if_neg c, List.append_nil]
          rfl
    · rintro ρ ⟨d6, d9, rfl⟩
      refine ⟨.dat (.int (i : Int)), d6, .dat (.int p.1), .dat (.int p.2), d9, ?_⟩
      rw [rngD_len, mendsTo_S, eg, show (Y.s + 1 - 1).toNat = Y.s.toNat by omega]
  · rintro ρ ⟨d5, d6, d7, d8, d9, rfl⟩
    rw [enumD_len, List.length_map]
    exact bb_freeze 2 rfl <| bb_one <| ss_ret <| ee_var 2 rfl <| h
end
end FB

namespace FB
open PySem PySem.Spec PyProof.Rows L2 DL FM
/-! ### k04: the law -/
theorem how_zero {F : Fy} (ok : F.Ok) {last : Int} {ls : Lvs} (bk : BkOk F last ls) : decide (howMany F last ls = 0) = (stairs F last ls).isNone := by
  have h := how_pos ok bk
  have n0 : 0 ≤ howMany F last ls := by rw [howMany_is ok bk]; omega
  cases hs : (stairs F last ls).isNone with
  | true =>
    rw [hs] at h
    have : ¬ 0 < howMany F last ls := of_decide_eq_false h
    exact decide_eq_true (by omega)
  | false =>
    rw [hs] at h
    have : 0 < howMany F last ls := of_decide_eq_true h
    exact decide_eq_false (by omega)
theorem bar_none {F : Fy} (ok : F.Ok) {last : Int} {ls : Lvs} (bk : BkOk F last ls) : isNone (dO (firstBar F last ls)) = !(stairs F last ls).isNone := by
  have l1 := bk.l1
  have l0 := bk.l0
  cases hs : stairs F last ls with
  | none =>
    have : firstBar F last ls ≠ none := fun z => by
      unfold firstBar at z
      rw [hs] at z
      cases q : (List.range ls.length).find? (fun i => (stairs F (ls.getD i (0, 0)).1 (ls.take (i + 1))).isNone) with
      | none => rw [q] at z; exact nomatch z
      | some i => rw [q] at z; exact nomatch z
    cases q : firstBar F last ls with
    | none => exact absurd q this
    | some i => rfl
  | some st =>
    have hne : doing F last ls ≠ [] := fun z => by rw [(doing_none ok bk).mpr z] at hs; cases hs
    obtain ⟨r, hr⟩ := List.exists_mem_of_ne_nil _ hne
    obtain ⟨⟨r1, r2⟩, r3⟩ := (doing_iff l0).mp hr
    have : firstBar F last ls = none := by
      unfold firstBar
      rw [find_no (fun j hj => by
        have e1 : ls[j]? = some ls[j] := List.getElem?_eq_getElem hj
        obtain ⟨st', hs'⟩ := own_bars ok (row := r) (by omega) r2 (i := j) (p := ls[j]) (by rw [r3]; exact e1)
        rw [r3] at hs'
        rw [List.getD_eq_getElem?_getD, e1]
        show (stairs F ls[j].1 _).isNone = false
        rw [hs']; rfl), hs]
      rfl
    rw [this]; rfl
theorem nst_pair4 (n : Nat) (p : Int × Int) : Nst (n + 1) (dLv p) := ⟨le2, fun y hy => by
  rcases List.mem_cons.mp hy with e | e
  · rw [e]; cases n <;> trivial
  · rw [List.mem_singleton.mp e]; cases n <;> trivial⟩
section
variable {P : Program} {w : World} {K : PySem.W.Frag} {mg : Str → Option Value} {base : Heap} {C : Addr}
structure G4 (P : Program) (w : World) (K : PySem.W.Frag) (mg : Str → Option Value) (base : Heap) (k : Nat) : Prop where
  stairs : Kn P w K mg base k "stairs" ["ferry", "book"] (spD (S_fb dStairs))
  can : Kn P w K mg base k "can_be" ["ferry", "book"] (spD (S_fb dCan))
  bar : Kn P w K mg base k "first_bar" ["ferry", "book"] (spD (S_fb dBar))
  many : Kn P w K mg base k "how_many" ["ferry", "book"] (spD (S_fb dMany))
  mends : Kn P w K mg base k "mends" ["ferry", "book"] (spD (S_fb dMends))
  bags : Kn P w K mg base k "_law_bags" ["script", "most"] (spBags K)
  take : Kn P w K mg base k "_law_take" ["bag", "many"] (spB S_take)
  fer : Kn P w K mg base k "_law_ferry" ["bag", "little"] (spB S_lferry)
  book : Kn P w K mg base k "_law_book" ["bag", "ferry1", "ticks1"] (spB S_book)
  bent : Kn P w K mg base k "_law_bent" ["bag", "ferry1", "book1"] (spB S_bent)
  ways : Kn P w K mg base k "_law_ways" ["ferry1", "book1"] (spD S_ways)
  steps : Kn P w K mg base k "_law_steps_so" ["ferry1", "book1", "own"] (spD S_steps_so)
  lmends : Kn P w K mg base k "_law_mends" ["ferry1", "book1"] (spD S_lmends4)
  same : Kn P w K mg base k "_law_same" ["a", "b"] (spD (S_same 3))
theorem sc_law : FnScope ["script", "bag", "ferry1", "some", "book1", "own", "many", "short"] ["script"] (defScope s_law) := ⟨rfl, rfl, rfl, by decide +kernel, rfl, by decide +kernel, by decide +kernel⟩
def spLaw (K : PySem.W.Frag) : Sp := fun vs H Q _ => ∃ (a : Addr) (ns : List Int), vs = [.ref a] ∧ SqL K H a (ns.map V.int) ∧ ns.length ≤ 63 ∧ ∀ H', Q (.bl true) H'
theorem ok_law {f : Addr} {fd : FuncData} {k : Nat} (F : Fun K "law" "law" s_law f fd) (T : GT mg) (g : G4 P w K mg base k) : FnOk P w K mg base CX0 (k + 1) f fd ["script"] (spLaw K) := by
  refine F.ok sc_law (fun vs H Q E h => ?_) (fun cdv A outer s H vs Q E hr h => ?_)
  · obtain ⟨a, ns, rfl, _⟩ := h
    rfl
  obtain ⟨a, ns, rfl, hS, hn, hq⟩ := h
  have ck : CK (cxOf CX0 P w K mg base ["script", "bag", "ferry1", "some", "book1", "own", "many", "short"] "law" (defScope s_law) f cdv A outer s H E).nox := ⟨rfl, sc_law.nd, by
    show (A.deeper (envOfC "law" (defScope s_law) s.heap.objs.size f cdv)).units + 100 < cLine
    have := hr.un
    omega, T.b⟩
  refine ⟨_, pssW, ?_⟩
  refine law_loop (i := 0) (j := 1) ck ⟨_, hr, g.bags⟩ hn (by decide) rfl hS (by show 1 < 8; decide) (fun b => ?_) ?_ hq
  · refine bb_cons <| ss_set 2 ck <| ee_callG 1 ⟨_, hr, g.fer⟩ rfl <| ea_cons <| ee_bl <| ea_nil <| ⟨_, rfl, false, rfl, by unfold bagN; decide, fun Y0 ok0 _ n' hn' => ?_⟩
    have big : 10 + 1000 ≤ bagN := by unfold bagN; decide
    have okY : (⟨min 6 Y0.s, Y0.w, Y0.a, min 3 Y0.m⟩ : Fy).Ok := ⟨by have := ok0.s1; dsimp only; omega, by dsimp only; omega, ok0.w1, ok0.w2, ok0.a1, ok0.a2, by have := ok0.m1; dsimp only; omega, by dsimp only; omega⟩
    refine bb_cons <| ss_set 2 ck <| ee_tup <| ea_cons <| ee_min ck <| ea_cons <| ee_int <| ea_cons <| ee_ix <| ee_var 2 rfl <| ee_int <| ⟨_, rfl, ea_nil <| ea_cons <| ee_ix <| ee_var 2 rfl <| ee_int <| ⟨_, rfl, ea_cons <| ee_ix <| ee_var 2 rfl <| ee_int <| ⟨_, rfl, ea_cons <| ee_min ck <| ea_cons <| ee_int <| ea_cons <| ee_ix <| ee_var 2 rfl <| ee_int <| ⟨_, rfl, ea_nil <| ea_nil <| ⟨(by show 4 ≤ 1000000; decide), ?_⟩⟩⟩⟩⟩
    show BB _ [.non, .bag b n', .dat (dF (⟨min 6 Y0.s, Y0.w, Y0.a, min 3 Y0.m⟩ : Fy)), .non, .non, .non, .non, .non] _ _
    generalize (⟨min 6 Y0.s, Y0.w, Y0.a, min 3 Y0.m⟩ : Fy) = Y at okY
    have okF := okY
    refine bb_cons <| ss_asg (js := [4, 5]) <| ee_callG 1 ⟨_, hr, g.book⟩ rfl <| ea_cons <| ee_var 2 rfl <| ea_cons <| ee_add <| ee_int <| ee_callG 1 ⟨_, hr, g.take⟩ rfl <| ea_cons <| ee_int <| ea_nil <| ⟨_, rfl, 24, rfl, ⟨by decide, by decide⟩, by omega, fun v v0 v1 => ea_nil <| ⟨_, rfl, Y, 1 + v, rfl, okF, ⟨by omega, by omega⟩, by omega, fun row l1 l2 hx h10 n2 hn2 => ?_⟩⟩
    unfold dBk
    have bk := left_bk l1 (by omega) h10
    have hlr : (row.length : Int) = (row.length : Int) - 1 + 1 := by omega
    generalize hla : (row.length : Int) - 1 = last at *
    generalize hle : leftOf Y row = ls at *
    refine gg_tup ck <| ggs_cons <| gg_name 4 ck <| ggs_cons <| gg_name 5 ck <| ggs_nil <| ?_
    show BB _ [.non, .bag b n2, .dat (dF Y), .non, .dat (dBP last ls), .dat (.tuple (iL row)), .non, .non] _ _
    refine bb_cons <| ss_if (et_not <| et_val <| ee_call ⟨_, hr, g.steps⟩ <| ea_cons <| ee_var 2 rfl <| ea_cons <| ee_var 4 rfl <| ea_cons <| ee_var 5 rfl <| ea_nil <| ⟨Y, last, ls, row, rfl, okF, bk, hlr, hx, hle, ⟨_, rfl, ifF rfl <| bb_nil ?_⟩⟩)
    refine bb_cons <| ss_for ck <| ii_tup <| ee_tup <| ea_cons <| ee_var 4 rfl <| ea_cons <| ee_callG 1 ⟨_, hr, g.bent⟩ rfl <| ea_cons <| ee_var 2 rfl <| ea_cons <| ee_var 4 rfl <| ea_nil <| ⟨_, rfl, Y, last, ls, rfl, okF, bk, by omega, fun ls' bk' n3 hn3 => ea_nil <| ⟨le2, _, rfl, fun i ρ => ∃ d3 d6, ρ = [.non, .bag b n3, .dat (dF Y), d3, .dat (dBP last ls), .dat (.tuple (iL row)), d6, .non], ⟨_, _, rfl⟩, ?_, ?_⟩⟩
    · rintro i d ρ hd ⟨d3, d6, rfl⟩
      have : ∃ lx, d = dBP last lx ∧ BkOk Y last lx := by
        have hm := List.mem_of_getElem? hd
        rcases List.mem_cons.mp hm with e | hm
        · exact ⟨ls, e, bk⟩
        · exact ⟨ls', List.mem_singleton.mp hm, bk'⟩
      obtain ⟨lx, rfl, bx⟩ := this
      have v_ : ∀ (gg : Fy → Int → Lvs → PyData) (k : PyData → Prop), k (gg Y last lx) → S_fb gg [dF Y, dB last lx] k := fun gg k h => ⟨Y, last, lx, rfl, okF, bx, h⟩
      refine ⟨_, gg_name 3 ck <| bb_cons <| ss_set 6 ck <| ee_call ⟨_, hr, g.ways⟩ <| ea_cons <| ee_var 2 rfl <| ea_cons <| ee_var 3 rfl <| ea_nil <| ⟨Y, last, lx, rfl, okF, bx, ?_⟩⟩
      show BB _ [.non, .bag b n3, .dat (dF Y), .dat (dBP last lx), .dat (dBP last ls), .dat (.tuple (iL row)), .dat (.int (howMany Y last lx)), .non] _ _
      refine bb_cons <| ss_if (et_M (t := false) (et_bool <| ew_orM (s := false) (t := false) (et_not <| et_val <| ee_call ⟨_, hr, g.same⟩ <| ea_cons <| ee_call ⟨_, hr, g.many⟩ <| ea_cons <| ee_var 2 rfl <| ea_cons <| ee_varU 3 (.two (.pt _)) rfl <| ea_nil <| v_ dMany _ <| ea_cons <| ee_var 6 rfl <| ea_nil <| ⟨_, _, rfl, trivial, trivial, ⟨_, rfl, ⟨by rw [dEq_t rfl]; rfl, rfl⟩⟩⟩) (fun _ => ew_one <| et_cmp <| ee_cmp <| ee_call ⟨_, hr, g.stairs⟩ <| ea_cons <| ee_var 2 rfl <| ea_cons <| ee_varU 3 (.two (.pt _)) rfl <| ea_nil <| v_ dStairs _ <| ee_non <| br_isN <| ee_cmp <| ee_var 6 rfl <| ee_int <| br_eq ck <| br_ne ck <| ⟨?_, rfl⟩)) (ifF rfl <| bb_nil ?_))
      · rw [dSt_no, how_zero okF bx, decide_eq_true rfl]; rfl
      refine bb_one <| ss_if (et_M (t := false) (et_bool <| ew_orM (s := false) (t := false) (et_cmp <| ee_call ⟨_, hr, g.can⟩ <| ea_cons <| ee_var 2 rfl <| ea_cons <| ee_varU 3 (.two (.pt _)) rfl <| ea_nil <| v_ dCan _ <| ee_cmp <| ee_var 6 rfl <| ee_int <| br_gt <| br_ne ck <| ⟨?_, rfl⟩) (fun _ => ew_one <| et_cmp <| ee_cmp <| ee_call ⟨_, hr, g.bar⟩ <| ea_cons <| ee_var 2 rfl <| ea_cons <| ee_varU 3 (.two (.pt _)) rfl <| ea_nil <| v_ dBar _ <| ee_non <| br_isN <| ee_cmp <| ee_var 6 rfl <| ee_int <| br_gt <| br_ne ck <| ⟨?_, rfl⟩)) (ifF rfl <| bb_nil ⟨_, _, rfl⟩))
      · show (!decide ((!(stairs Y last lx).isNone) = decide (0 < howMany Y last lx))) = false
        rw [how_pos okF bx, decide_eq_true rfl]; rfl
      · rw [bar_none okF bx]
        show (!decide ((!(stairs Y last lx).isNone) = decide (0 < howMany Y last lx))) = false
        rw [how_pos okF bx, decide_eq_true rfl]; rfl
    rintro ρ ⟨d3, d6, rfl⟩
    refine bb_cons <| ss_asg (js := [7, 5]) <| ee_callG 1 ⟨_, hr, g.book⟩ rfl <| ea_cons <| ee_var 2 rfl <| ea_cons <| ee_add <| ee_int <| ee_callG 1 ⟨_, hr, g.take⟩ rfl <| ea_cons <| ee_int <| ea_nil <| ⟨_, rfl, 10, rfl, ⟨by decide, by decide⟩, by omega, fun v v0 v1 => ea_nil <| ⟨_, rfl, Y, 1 + v, rfl, okF, ⟨by omega, by omega⟩, by omega, fun row2 r1 r2 rx r10 n4 hn4 => ?_⟩⟩
    unfold dBk
    have bk2 := left_bk r1 (by omega) r10
    generalize (row2.length : Int) - 1 = last2 at *
    generalize leftOf Y row2 = ls2 at *
    refine gg_tup ck <| ggs_cons <| gg_name 7 ck <| ggs_cons <| gg_name 5 ck <| ggs_nil <| ?_
    show BB _ [.non, .bag b n4, .dat (dF Y), d3, .dat (dBP last ls), .dat (.tuple (iL row2)), d6, .dat (dBP last2 ls2)] _ _
    refine bb_one <| ss_for ck <| ii_tup <| ee_tup <| ea_cons <| ee_var 7 rfl <| ea_cons <| ee_callG 1 ⟨_, hr, g.bent⟩ rfl <| ea_cons <| ee_var 2 rfl <| ea_cons <| ee_var 7 rfl <| ea_nil <| ⟨_, rfl, Y, last2, ls2, rfl, okF, bk2, by omega, fun ls' bk' n3 hn3 => ea_nil <| ⟨le2, _, rfl, fun i ρ => ∃ d3, ρ = [.non, .bag b n3, .dat (dF Y), d3, .dat (dBP last ls), .dat (.tuple (iL row2)), d6, .dat (dBP last2 ls2)], ⟨_, rfl⟩, ?_, ?_⟩⟩
    · rintro i d ρ hd ⟨d3, rfl⟩
      have : ∃ lx, d = dBP last2 lx ∧ BkOk Y last2 lx := by
        have hm := List.mem_of_getElem? hd
        rcases List.mem_cons.mp hm with e | hm
        · exact ⟨ls2, e, bk2⟩
        · exact ⟨ls', List.mem_singleton.mp hm, bk'⟩
      obtain ⟨lx, rfl, bx⟩ := this
      have nM : Nst 3 (dMends Y last2 lx) := ⟨by
        have := mendsTo_len last2 lx okF.s2 lx.length
        have := bx.n
        rw [List.length_map]
        show (mendsTo Y last2 lx lx.length).length ≤ 1000000
        omega, fun y hy => by
          obtain ⟨p, _, rfl⟩ := List.mem_map.mp hy
          exact nst_pair4 1 p⟩
      exact ⟨_, gg_name 3 ck <| bb_one <| ss_if (et_not <| et_val <| ee_call ⟨_, hr, g.same⟩ <| ea_cons <| ee_call ⟨_, hr, g.mends⟩ <| ea_cons <| ee_var 2 rfl <| ea_cons <| ee_varU 3 (.two (.pt _)) rfl <| ea_nil <| ⟨Y, last2, lx, rfl, okF, bx, ea_cons <| ee_call ⟨_, hr, g.lmends⟩ <| ea_cons <| ee_var 2 rfl <| ea_cons <| ee_var 3 rfl <| ea_nil <| ⟨Y, last2, lx, rfl, okF, bx, ea_nil <| ⟨_, _, rfl, nM, nM, ⟨_, rfl, ifF (by rw [dEq_t rfl]; rfl) <| bb_nil ⟨_, rfl⟩⟩⟩⟩⟩)⟩
    · rintro ρ ⟨d3, rfl⟩
      rfl
  · exact bb_one <| ss_ret <| ee_bl rfl
end
end FB

namespace FB
open PySem PySem.Spec PyProof.Rows L2 DL FM
theorem KnM.mono {P : Program} {w : World} {K : PySem.W.Frag} {mg : Str → Option Value} {base : Heap} {j k : Nat} {C : Addr} {m : Str} {ps : List Str} {sp : Sp} (h : KnM P w K mg base j C m ps sp) (hj : j ≤ k) : KnM P w K mg base k C m ps sp := by
  obtain ⟨f, fd, a, b⟩ := h
  exact ⟨f, fd, a.mono hj, b⟩
theorem KnK.mono {P : Program} {w : World} {K : PySem.W.Frag} {mg : Str → Option Value} {base : Heap} {j k : Nat} {x : Str} {C : Addr} {ps : List Str} {sp : Sp} (h : KnK P w K mg base j x C ps sp) (hj : j ≤ k) : KnK P w K mg base k x C ps sp := by
  obtain ⟨f, fd, a, b, c⟩ := h
  exact ⟨f, fd, a, b.mono hj, c⟩
theorem all_mk {l : PySem.W.OpenLaw} {w : World} {K : PySem.W.Frag} {h : Heap} {mg : Str → Option Value} {fa C : Addr} {f1 f2 f3 f4 f5 f6 f7 f8 f9 f10 f11 f12 f13 f14 f15 f16 f17 f18 f19 f20 f21 f22 f23 f24 f25 f26 f27 f28 f29 f30 f31 f32 f33 f34 f35 f36 : Addr} (X : K.In h) (G : h.Ns mainGlobals mg) (hfa : mg "law" = some (.ref fa))
    {od1 an1 od2 an2 od3 an3 od4 an4 od5 an5 od6 an6 od7 an7 od8 an8 od9 an9 od10 an10 od11 an11 od12 an12 od13 an13 od14 an14 od15 an15 od16 an16 od17 an17 od18 an18 od19 an19 od20 an20 od21 an21 od22 an22 od23 an23 od24 an24 od25 an25 od26 an26 od27 an27 od28 an28 od29 an29 od30 an30 od31 an31 od32 an32 od33 an33 od34 an34 od35 an35 od36 an36 : Option Addr} {sl1 sl2 sl3 sl4 sl5 sl6 sl7 sl8 sl9 sl10 sl11 sl12 sl13 sl14 sl15 sl16 sl17 sl18 sl19 sl20 sl21 sl22 sl23 sl24 sl25 sl26 sl27 sl28 sl29 sl30 sl31 sl32 sl33 sl34 sl35 sl36 : Array (Option Value)} {oc1 kV1 dc1 pm1 cd1 ct1 oc2 kV2 dc2 pm2 cd2 ct2 oc3 kV3 dc3 pm3 cd3 ct3 oc4 kV4 dc4 pm4 cd4 ct4 oc5 kV5 dc5 pm5 cd5 ct5 oc6 kV6 dc6 pm6 cd6 ct6 oc7 kV7 dc7 pm7 cd7 ct7 oc8 kV8 dc8 pm8 cd8 ct8 oc9 kV9 dc9 pm9 cd9 ct9 oc10 kV10 dc10 pm10 cd10 ct10 oc11 kV11 dc11 pm11 cd11 ct11 oc12 kV12 dc12 pm12 cd12 ct12 oc13 kV13 dc13 pm13 cd13 ct13 oc14 kV14 dc14 pm14 cd14 ct14 oc15 kV15 dc15 pm15 cd15 ct15 oc16 kV16 dc16 pm16 cd16 ct16 oc17 kV17 dc17 pm17 cd17 ct17 oc18 kV18 dc18 pm18 cd18 ct18 oc19 kV19 dc19 pm19 cd19 ct19 oc20 kV20 dc20 pm20 cd20 ct20 oc21 kV21 dc21 pm21 cd21 ct21 oc22 kV22 dc22 pm22 cd22 ct22 oc23 kV23 dc23 pm23 cd23 ct23 oc24 kV24 dc24 pm24 cd24 ct24 oc25 kV25 dc25 pm25 cd25 ct25 oc26 kV26 dc26 pm26 cd26 ct26 oc27 kV27 dc27 pm27 cd27 ct27 oc28 kV28 dc28 pm28 cd28 ct28 oc29 kV29 dc29 pm29 cd29 ct29 oc30 kV30 dc30 pm30 cd30 ct30 oc31 kV31 dc31 pm31 cd31 ct31 oc32 kV32 dc32 pm32 cd32 ct32 oc33 kV33 dc33 pm33 cd33 ct33 oc34 kV34 dc34 pm34 cd34 ct34 oc35 kV35 dc35 pm35 cd35 ct35 oc36 kV36 dc36 pm36 cd36 ct36 : Value} {tML tMV tEN : Tok}
    (aC : PySem.W.nsIn K mainGlobals "Bounds" = some (some (.ref C)))
    (a1 : PySem.W.nsIn K mainGlobals "is_whole" = some (some (.ref f1))) (l1 : K.lookup f1 = some ⟨oc1, od1, .func (PySem.W.fnOf "is_whole" "is_whole" (defArgs s_is_whole) (defBody s_is_whole) (defScope s_is_whole) .none kV1 dc1 pm1 an1 cd1 ct1), sl1⟩) (c1 : PySem.W.codeIn K cd1 "is_whole" = true) (k1 : PySem.W.keepIn K (.ref f1) = true)
    (a2 : PySem.W.nsIn K mainGlobals "is_within" = some (some (.ref f2))) (l2 : K.lookup f2 = some ⟨oc2, od2, .func (PySem.W.fnOf "is_within" "is_within" (defArgs s_is_within) (defBody s_is_within) (defScope s_is_within) .none kV2 dc2 pm2 an2 cd2 ct2), sl2⟩) (c2 : PySem.W.codeIn K cd2 "is_within" = true) (k2 : PySem.W.keepIn K (.ref f2) = true)
    (a3 : PySem.W.nsIn K mainGlobals "is_ferry" = some (some (.ref f3))) (l3 : K.lookup f3 = some ⟨oc3, od3, .func (PySem.W.fnOf "is_ferry" "is_ferry" (defArgs s_is_ferry) (defBody s_is_ferry) (defScope s_is_ferry) .none kV3 dc3 pm3 an3 cd3 ct3), sl3⟩) (c3 : PySem.W.codeIn K cd3 "is_ferry" = true) (k3 : PySem.W.keepIn K (.ref f3) = true)
    (a4 : PySem.W.nsIn K mainGlobals "look_at_ferry" = some (some (.ref f4))) (l4 : K.lookup f4 = some ⟨oc4, od4, .func (PySem.W.fnOf "look_at_ferry" "look_at_ferry" (defArgs s_look_at_ferry) (defBody s_look_at_ferry) (defScope s_look_at_ferry) .none kV4 dc4 pm4 an4 cd4 ct4), sl4⟩) (c4 : PySem.W.codeIn K cd4 "look_at_ferry" = true) (k4 : PySem.W.keepIn K (.ref f4) = true)
    (a5 : PySem.W.nsIn K mainGlobals "is_leaving" = some (some (.ref f5))) (l5 : K.lookup f5 = some ⟨oc5, od5, .func (PySem.W.fnOf "is_leaving" "is_leaving" (defArgs s_is_leaving) (defBody s_is_leaving) (defScope s_is_leaving) .none kV5 dc5 pm5 an5 cd5 ct5), sl5⟩) (c5 : PySem.W.codeIn K cd5 "is_leaving" = true) (k5 : PySem.W.keepIn K (.ref f5) = true)
    (a6 : PySem.W.nsIn K mainGlobals "is_book_of" = some (some (.ref f6))) (l6 : K.lookup f6 = some ⟨oc6, od6, .func (PySem.W.fnOf "is_book_of" "is_book_of" (defArgs s_is_book_of) (defBody s_is_book_of) (defScope s_is_book_of) .none kV6 dc6 pm6 an6 cd6 ct6), sl6⟩) (c6 : PySem.W.codeIn K cd6 "is_book_of" = true) (k6 : PySem.W.keepIn K (.ref f6) = true)
    (a7 : PySem.W.nsIn K mainGlobals "look_at" = some (some (.ref f7))) (l7 : K.lookup f7 = some ⟨oc7, od7, .func (PySem.W.fnOf "look_at" "look_at" (defArgs s_look_at) (defBody s_look_at) (defScope s_look_at) .none kV7 dc7 pm7 an7 cd7 ct7), sl7⟩) (c7 : PySem.W.codeIn K cd7 "look_at" = true) (k7 : PySem.W.keepIn K (.ref f7) = true)
    (a8 : PySem.W.findIn K (.ref C) "at_least" = some (some (.ref f8))) (i8 : PySem.W.isFn K (.ref f8) = true) (l8 : K.lookup f8 = some ⟨oc8, od8, .func (PySem.W.fnOf "at_least" "Bounds.at_least" (defArgs s_Bounds_at_least) (defBody s_Bounds_at_least) (defScope s_Bounds_at_least) .none kV8 dc8 pm8 an8 cd8 ct8), sl8⟩) (c8 : PySem.W.codeIn K cd8 "Bounds.at_least" = true) (k8 : PySem.W.keepIn K (.ref f8) = true)
    (a9 : PySem.W.findIn K (.ref C) "at_most" = some (some (.ref f9))) (i9 : PySem.W.isFn K (.ref f9) = true) (l9 : K.lookup f9 = some ⟨oc9, od9, .func (PySem.W.fnOf "at_most" "Bounds.at_most" (defArgs s_Bounds_at_most) (defBody s_Bounds_at_most) (defScope s_Bounds_at_most) .none kV9 dc9 pm9 an9 cd9 ct9), sl9⟩) (c9 : PySem.W.codeIn K cd9 "Bounds.at_most" = true) (k9 : PySem.W.keepIn K (.ref f9) = true)
    (a10 : PySem.W.findIn K (.ref C) "leaving" = some (some (.ref f10))) (i10 : PySem.W.isFn K (.ref f10) = true) (l10 : K.lookup f10 = some ⟨oc10, od10, .func (PySem.W.fnOf "leaving" "Bounds.leaving" (defArgs s_Bounds_leaving) (defBody s_Bounds_leaving) (defScope s_Bounds_leaving) .none kV10 dc10 pm10 an10 cd10 ct10), sl10⟩) (c10 : PySem.W.codeIn K cd10 "Bounds.leaving" = true) (k10 : PySem.W.keepIn K (.ref f10) = true)
    (a11 : PySem.W.findIn K (.ref C) "__init__" = some (some (.ref f11))) (i11 : PySem.W.isFn K (.ref f11) = true) (l11 : K.lookup f11 = some ⟨oc11, od11, .func (PySem.W.fnOf "__init__" "Bounds.__init__" (defArgs s_Bounds___init__) (defBody s_Bounds___init__) (defScope s_Bounds___init__) .none kV11 dc11 pm11 an11 cd11 ct11), sl11⟩) (c11 : PySem.W.codeIn K cd11 "Bounds.__init__" = true) (k11 : PySem.W.keepIn K (.ref f11) = true)
    (a12 : PySem.W.findIn K (.ref C) "stairs" = some (some (.ref f12))) (i12 : PySem.W.isFn K (.ref f12) = true) (l12 : K.lookup f12 = some ⟨oc12, od12, .func (PySem.W.fnOf "stairs" "Bounds.stairs" (defArgs s_Bounds_stairs) (defBody s_Bounds_stairs) (defScope s_Bounds_stairs) .none kV12 dc12 pm12 an12 cd12 ct12), sl12⟩) (c12 : PySem.W.codeIn K cd12 "Bounds.stairs" = true) (k12 : PySem.W.keepIn K (.ref f12) = true)
    (a13 : PySem.W.nsIn K mainGlobals "stairs_so" = some (some (.ref f13))) (l13 : K.lookup f13 = some ⟨oc13, od13, .func (PySem.W.fnOf "stairs_so" "stairs_so" (defArgs s_stairs_so) (defBody s_stairs_so) (defScope s_stairs_so) .none kV13 dc13 pm13 an13 cd13 ct13), sl13⟩) (c13 : PySem.W.codeIn K cd13 "stairs_so" = true) (k13 : PySem.W.keepIn K (.ref f13) = true)
    (a14 : PySem.W.nsIn K mainGlobals "stairs" = some (some (.ref f14))) (l14 : K.lookup f14 = some ⟨oc14, od14, .func (PySem.W.fnOf "stairs" "stairs" (defArgs s_stairs) (defBody s_stairs) (defScope s_stairs) .none kV14 dc14 pm14 an14 cd14 ct14), sl14⟩) (c14 : PySem.W.codeIn K cd14 "stairs" = true) (k14 : PySem.W.keepIn K (.ref f14) = true)
    (a15 : PySem.W.nsIn K mainGlobals "can_be" = some (some (.ref f15))) (l15 : K.lookup f15 = some ⟨oc15, od15, .func (PySem.W.fnOf "can_be" "can_be" (defArgs s_can_be) (defBody s_can_be) (defScope s_can_be) .none kV15 dc15 pm15 an15 cd15 ct15), sl15⟩) (c15 : PySem.W.codeIn K cd15 "can_be" = true) (k15 : PySem.W.keepIn K (.ref f15) = true)
    (a16 : PySem.W.nsIn K mainGlobals "first_bar" = some (some (.ref f16))) (l16 : K.lookup f16 = some ⟨oc16, od16, .func (PySem.W.fnOf "first_bar" "first_bar" (defArgs s_first_bar) (defBody s_first_bar) (defScope s_first_bar) .none kV16 dc16 pm16 an16 cd16 ct16), sl16⟩) (c16 : PySem.W.codeIn K cd16 "first_bar" = true) (k16 : PySem.W.keepIn K (.ref f16) = true)
    (a17 : PySem.W.nsIn K mainGlobals "how_many" = some (some (.ref f17))) (l17 : K.lookup f17 = some ⟨oc17, od17, .func (PySem.W.fnOf "how_many" "how_many" (defArgs s_how_many) (defBody s_how_many) (defScope s_how_many) .none kV17 dc17 pm17 an17 cd17 ct17), sl17⟩) (c17 : PySem.W.codeIn K cd17 "how_many" = true) (k17 : PySem.W.keepIn K (.ref f17) = true)
    (a18 : PySem.W.nsIn K mainGlobals "steps_of" = some (some (.ref f18))) (l18 : K.lookup f18 = some ⟨oc18, od18, .func (PySem.W.fnOf "steps_of" "steps_of" (defArgs s_steps_of) (defBody s_steps_of) (defScope s_steps_of) .none kV18 dc18 pm18 an18 cd18 ct18), sl18⟩) (c18 : PySem.W.codeIn K cd18 "steps_of" = true) (k18 : PySem.W.keepIn K (.ref f18) = true)
    (a19 : PySem.W.nsIn K mainGlobals "fewest_row" = some (some (.ref f19))) (l19 : K.lookup f19 = some ⟨oc19, od19, .func (PySem.W.fnOf "fewest_row" "fewest_row" (defArgs s_fewest_row) (defBody s_fewest_row) (defScope s_fewest_row) .none kV19 dc19 pm19 an19 cd19 ct19), sl19⟩) (c19 : PySem.W.codeIn K cd19 "fewest_row" = true) (k19 : PySem.W.keepIn K (.ref f19) = true)
    (a20 : PySem.W.nsIn K mainGlobals "most_row" = some (some (.ref f20))) (l20 : K.lookup f20 = some ⟨oc20, od20, .func (PySem.W.fnOf "most_row" "most_row" (defArgs s_most_row) (defBody s_most_row) (defScope s_most_row) .none kV20 dc20 pm20 an20 cd20 ct20), sl20⟩) (c20 : PySem.W.codeIn K cd20 "most_row" = true) (k20 : PySem.W.keepIn K (.ref f20) = true)
    (a21 : PySem.W.nsIn K mainGlobals "mends" = some (some (.ref f21))) (l21 : K.lookup f21 = some ⟨oc21, od21, .func (PySem.W.fnOf "mends" "mends" (defArgs s_mends) (defBody s_mends) (defScope s_mends) .none kV21 dc21 pm21 an21 cd21 ct21), sl21⟩) (c21 : PySem.W.codeIn K cd21 "mends" = true) (k21 : PySem.W.keepIn K (.ref f21) = true)
    (a22 : PySem.W.nsIn K mainGlobals "_law_well" = some (some (.ref f22))) (l22 : K.lookup f22 = some ⟨oc22, od22, .func (PySem.W.fnOf "_law_well" "_law_well" (defArgs s__law_well) (defBody s__law_well) (defScope s__law_well) .none kV22 dc22 pm22 an22 cd22 ct22), sl22⟩) (c22 : PySem.W.codeIn K cd22 "_law_well" = true) (k22 : PySem.W.keepIn K (.ref f22) = true)
    (a23 : PySem.W.nsIn K mainGlobals "_law_take" = some (some (.ref f23))) (l23 : K.lookup f23 = some ⟨oc23, od23, .func (PySem.W.fnOf "_law_take" "_law_take" (defArgs s__law_take) (defBody s__law_take) (defScope s__law_take) .none kV23 dc23 pm23 an23 cd23 ct23), sl23⟩) (c23 : PySem.W.codeIn K cd23 "_law_take" = true) (k23 : PySem.W.keepIn K (.ref f23) = true)
    (a24 : PySem.W.nsIn K mainGlobals "_law_bags" = some (some (.ref f24))) (l24 : K.lookup f24 = some ⟨oc24, od24, .func (PySem.W.fnOf "_law_bags" "_law_bags" (defArgs s__law_bags) (defBody s__law_bags) (defScope s__law_bags) .none kV24 dc24 pm24 an24 cd24 ct24), sl24⟩) (c24 : PySem.W.codeIn K cd24 "_law_bags" = true) (k24 : PySem.W.keepIn K (.ref f24) = true)
    (a25 : PySem.W.nsIn K mainGlobals "_law_ferry" = some (some (.ref f25))) (l25 : K.lookup f25 = some ⟨oc25, od25, .func (PySem.W.fnOf "_law_ferry" "_law_ferry" (defArgs s__law_ferry) (defBody s__law_ferry) (defScope s__law_ferry) .none kV25 dc25 pm25 an25 cd25 ct25), sl25⟩) (c25 : PySem.W.codeIn K cd25 "_law_ferry" = true) (k25 : PySem.W.keepIn K (.ref f25) = true)
    (a26 : PySem.W.nsIn K mainGlobals "_law_row" = some (some (.ref f26))) (l26 : K.lookup f26 = some ⟨oc26, od26, .func (PySem.W.fnOf "_law_row" "_law_row" (defArgs s__law_row) (defBody s__law_row) (defScope s__law_row) .none kV26 dc26 pm26 an26 cd26 ct26), sl26⟩) (c26 : PySem.W.codeIn K cd26 "_law_row" = true) (k26 : PySem.W.keepIn K (.ref f26) = true)
    (a27 : PySem.W.nsIn K mainGlobals "_law_left" = some (some (.ref f27))) (l27 : K.lookup f27 = some ⟨oc27, od27, .func (PySem.W.fnOf "_law_left" "_law_left" (defArgs s__law_left) (defBody s__law_left) (defScope s__law_left) .none kV27 dc27 pm27 an27 cd27 ct27), sl27⟩) (c27 : PySem.W.codeIn K cd27 "_law_left" = true) (k27 : PySem.W.keepIn K (.ref f27) = true)
    (a28 : PySem.W.nsIn K mainGlobals "_law_book" = some (some (.ref f28))) (l28 : K.lookup f28 = some ⟨oc28, od28, .func (PySem.W.fnOf "_law_book" "_law_book" (defArgs s__law_book) (defBody s__law_book) (defScope s__law_book) .none kV28 dc28 pm28 an28 cd28 ct28), sl28⟩) (c28 : PySem.W.codeIn K cd28 "_law_book" = true) (k28 : PySem.W.keepIn K (.ref f28) = true)
    (a29 : PySem.W.nsIn K mainGlobals "_law_bent" = some (some (.ref f29))) (l29 : K.lookup f29 = some ⟨oc29, od29, .func (PySem.W.fnOf "_law_bent" "_law_bent" (defArgs s__law_bent) (defBody s__law_bent) (defScope s__law_bent) .none kV29 dc29 pm29 an29 cd29 ct29), sl29⟩) (c29 : PySem.W.codeIn K cd29 "_law_bent" = true) (k29 : PySem.W.keepIn K (.ref f29) = true)
    (a30 : PySem.W.nsIn K mainGlobals "_law_sums" = some (some (.ref f30))) (l30 : K.lookup f30 = some ⟨oc30, od30, .func (PySem.W.fnOf "_law_sums" "_law_sums" (defArgs s__law_sums) (defBody s__law_sums) (defScope s__law_sums) .none kV30 dc30 pm30 an30 cd30 ct30), sl30⟩) (c30 : PySem.W.codeIn K cd30 "_law_sums" = true) (k30 : PySem.W.keepIn K (.ref f30) = true)
    (a31 : PySem.W.nsIn K mainGlobals "_law_ways" = some (some (.ref f31))) (l31 : K.lookup f31 = some ⟨oc31, od31, .func (PySem.W.fnOf "_law_ways" "_law_ways" (defArgs s__law_ways) (defBody s__law_ways) (defScope s__law_ways) .none kV31 dc31 pm31 an31 cd31 ct31), sl31⟩) (c31 : PySem.W.codeIn K cd31 "_law_ways" = true) (k31 : PySem.W.keepIn K (.ref f31) = true)
    (a32 : PySem.W.nsIn K mainGlobals "_law_row_of" = some (some (.ref f32))) (l32 : K.lookup f32 = some ⟨oc32, od32, .func (PySem.W.fnOf "_law_row_of" "_law_row_of" (defArgs s__law_row_of) (defBody s__law_row_of) (defScope s__law_row_of) .none kV32 dc32 pm32 an32 cd32 ct32), sl32⟩) (c32 : PySem.W.codeIn K cd32 "_law_row_of" = true) (k32 : PySem.W.keepIn K (.ref f32) = true)
    (a33 : PySem.W.nsIn K mainGlobals "_law_steps_so" = some (some (.ref f33))) (l33 : K.lookup f33 = some ⟨oc33, od33, .func (PySem.W.fnOf "_law_steps_so" "_law_steps_so" (defArgs s__law_steps_so) (defBody s__law_steps_so) (defScope s__law_steps_so) .none kV33 dc33 pm33 an33 cd33 ct33), sl33⟩) (c33 : PySem.W.codeIn K cd33 "_law_steps_so" = true) (k33 : PySem.W.keepIn K (.ref f33) = true)
    (a34 : PySem.W.nsIn K mainGlobals "_law_mends" = some (some (.ref f34))) (l34 : K.lookup f34 = some ⟨oc34, od34, .func (PySem.W.fnOf "_law_mends" "_law_mends" (defArgs s__law_mends) (defBody s__law_mends) (defScope s__law_mends) .none kV34 dc34 pm34 an34 cd34 ct34), sl34⟩) (c34 : PySem.W.codeIn K cd34 "_law_mends" = true) (k34 : PySem.W.keepIn K (.ref f34) = true)
    (a35 : PySem.W.nsIn K mainGlobals "_law_same" = some (some (.ref f35))) (l35 : K.lookup f35 = some ⟨oc35, od35, .func (PySem.W.fnOf "_law_same" "_law_same" (defArgs s__law_same) (defBody s__law_same) (defScope s__law_same) .none kV35 dc35 pm35 an35 cd35 ct35), sl35⟩) (c35 : PySem.W.codeIn K cd35 "_law_same" = true) (k35 : PySem.W.keepIn K (.ref f35) = true)
    (a36 : PySem.W.nsIn K mainGlobals "law" = some (some (.ref f36))) (l36 : K.lookup f36 = some ⟨oc36, od36, .func (PySem.W.fnOf "law" "law" (defArgs s_law) (defBody s_law) (defScope s_law) .none kV36 dc36 pm36 an36 cd36 ct36), sl36⟩) (c36 : PySem.W.codeIn K cd36 "law" = true) (k36 : PySem.W.keepIn K (.ref f36) = true)
    (pg : PySem.W.plainGet K C Str.empty = true) (hd : PySem.W.hasDictIn K C = true) (po : PySem.W.plainOver K C = true) (sa : PySem.W.findIn K (.ref C) "__setattr__" = some (some (.builtin "object.__setattr__"))) (mk : PySem.W.makesIn K C = true) (kc : PySem.W.keepIn K (.ref C) = true)
    (q0 : PySem.W.findIn K (.ref C) "ferry" = some none) (q1 : PySem.W.findIn K (.ref C) "last" = some none) (q2 : PySem.W.findIn K (.ref C) "leavings" = some none) (q3 : PySem.W.findIn K (.ref C) "least" = some none) (q4 : PySem.W.findIn K (.ref C) "most" = some none) (q5 : PySem.W.findIn K (.ref C) "good" = some none) (q6 : PySem.W.findIn K (.ref C) "gone" = some none)
    (z0 : PySem.W.nsIn K mainGlobals "len" = some none) (z1 : PySem.W.nsIn K mainGlobals "range" = some none) (z2 : PySem.W.nsIn K mainGlobals "zip" = some none) (z3 : PySem.W.nsIn K mainGlobals "enumerate" = some none) (z4 : PySem.W.nsIn K mainGlobals "sum" = some none) (z5 : PySem.W.nsIn K mainGlobals "min" = some none) (z6 : PySem.W.nsIn K mainGlobals "max" = some none) (z7 : PySem.W.nsIn K mainGlobals "all" = some none) (z8 : PySem.W.nsIn K mainGlobals "isinstance" = some none) (z9 : PySem.W.nsIn K mainGlobals "tuple" = some none) (z10 : PySem.W.nsIn K mainGlobals "list" = some none) (z11 : PySem.W.nsIn K mainGlobals "dict" = some none) (z12 : PySem.W.nsIn K mainGlobals "sorted" = some none) (z13 : PySem.W.nsIn K mainGlobals "int" = some none) (z14 : PySem.W.nsIn K mainGlobals "bool" = some none) (z15 : PySem.W.nsIn K mainGlobals "str" = some none)
    (vML : PySem.W.nsIn K mainGlobals "MOST_LAST" = some (some (.int 60 tML))) (vMV : PySem.W.nsIn K mainGlobals "MOST_LEAVINGS" = some (some (.int 10 tMV))) (vEN : PySem.W.nsIn K mainGlobals "ENDLESS" = some (some (.int 1000000 tEN))) :
    ∃ fd : FuncData, (∀ (s : Shared) (v : Value), BindsTo s fd ⟨[v], []⟩ [("script", v)]) ∧ ∀ base : Heap, K.In base → base.Ns mainGlobals mg → FnOk l.prog w K mg base CX0 8 fa fd ["script"] (spLaw K) := by
  have e := hfa.symm.trans (PySem.W.mg_of X G a36)
  cases e
  have T : GT mg := ⟨fun x hx => by
    simp only [bNames, List.mem_cons, List.not_mem_nil, or_false] at hx
    rcases hx with rfl | rfl | rfl | rfl | rfl | rfl | rfl | rfl | rfl | rfl | rfl | rfl | rfl | rfl | rfl | rfl
    · exact PySem.W.mg_none_of X G z0
    · exact PySem.W.mg_none_of X G z1
    · exact PySem.W.mg_none_of X G z2
    · exact PySem.W.mg_none_of X G z3
    · exact PySem.W.mg_none_of X G z4
    · exact PySem.W.mg_none_of X G z5
    · exact PySem.W.mg_none_of X G z6
    · exact PySem.W.mg_none_of X G z7
    · exact PySem.W.mg_none_of X G z8
    · exact PySem.W.mg_none_of X G z9
    · exact PySem.W.mg_none_of X G z10
    · exact PySem.W.mg_none_of X G z11
    · exact PySem.W.mg_none_of X G z12
    · exact PySem.W.mg_none_of X G z13
    · exact PySem.W.mg_none_of X G z14
    · exact PySem.W.mg_none_of X G z15, ⟨_, PySem.W.mg_of X G vML⟩, ⟨_, PySem.W.mg_of X G vMV⟩, ⟨_, PySem.W.mg_of X G vEN⟩⟩
  have B : CB K C bNs := ⟨⟨pg, hd, po, sa⟩, fun x hx => by
    simp only [bNs, List.mem_cons, List.not_mem_nil, or_false] at hx
    rcases hx with rfl | rfl | rfl | rfl | rfl | rfl | rfl
    · exact q0
    · exact q1
    · exact q2
    · exact q3
    · exact q4
    · exact q5
    · exact q6⟩
  refine ⟨PySem.W.fnOf "law" "law" (defArgs s_law) (defBody s_law) (defScope s_law) .none kV36 dc36 pm36 an36 cd36 ct36, fun s v => .of_eq rfl, fun base _ _ => ?_⟩
  have F := fun_mk (st := s_is_whole) l1 c1 k1
  have b := F.binds (ps := ["thing"]) fun _ _ _ _ _ _ us hl => match us, hl with | [_], _ => rfl
  have n_is_whole : Kn l.prog w K mg base 1 "is_whole" ["thing"] (spD S_is_whole) := ⟨_, _, ok_is_whole F T, PySem.W.mg_of X G a1, k1, b⟩
  clear F b
  have F := fun_mk (st := s_is_within) l2 c2 k2
  have b := F.binds (ps := ["thing", "low", "high"]) fun _ _ _ _ _ _ us hl => match us, hl with | [_, _, _], _ => rfl
  have n_is_within : Kn l.prog w K mg base 2 "is_within" ["thing", "low", "high"] (spD S_is_within) := ⟨_, _, ok_is_within F T (n_is_whole.mono (by decide)), PySem.W.mg_of X G a2, k2, b⟩
  clear F b
  have F := fun_mk (st := s_is_ferry) l3 c3 k3
  have b := F.binds (ps := ["thing"]) fun _ _ _ _ _ _ us hl => match us, hl with | [_], _ => rfl
  have n_is_ferry : Kn l.prog w K mg base 3 "is_ferry" ["thing"] (spD S_is_ferry) := ⟨_, _, ok_is_ferry F T n_is_within, PySem.W.mg_of X G a3, k3, b⟩
  clear F b
  have F := fun_mk (st := s_look_at_ferry) l4 c4 k4
  have b := F.binds (ps := ["ferry"]) fun _ _ _ _ _ _ us hl => match us, hl with | [_], _ => rfl
  have n_look_at_ferry : Kn l.prog w K mg base 4 "look_at_ferry" ["ferry"] (spD S_look_at_ferry) := ⟨_, _, ok_look_at_ferry F T n_is_ferry, PySem.W.mg_of X G a4, k4, b⟩
  clear F b
  have F := fun_mk (st := s_is_leaving) l5 c5 k5
  have b := F.binds (ps := ["ferry", "last", "thing"]) fun _ _ _ _ _ _ us hl => match us, hl with | [_, _, _], _ => rfl
  have n_is_leaving : Kn l.prog w K mg base 3 "is_leaving" ["ferry", "last", "thing"] (spD S_is_leaving) := ⟨_, _, ok_is_leaving F T n_is_within, PySem.W.mg_of X G a5, k5, b⟩
  clear F b
  have F := fun_mk (st := s_is_book_of) l6 c6 k6
  have b := F.binds (ps := ["ferry", "thing"]) fun _ _ _ _ _ _ us hl => match us, hl with | [_, _], _ => rfl
  have n_is_book_of : Kn l.prog w K mg base 4 "is_book_of" ["ferry", "thing"] (spD S_is_book_of) := ⟨_, _, ok_is_book_of F T (n_is_within.mono (by decide)) n_is_leaving, PySem.W.mg_of X G a6, k6, b⟩
  clear F b
  have F := fun_mk (st := s_look_at) l7 c7 k7
  have b := F.binds (ps := ["ferry", "book"]) fun _ _ _ _ _ _ us hl => match us, hl with | [_, _], _ => rfl
  have n_look_at : Kn l.prog w K mg base 5 "look_at" ["ferry", "book"] (spD S_look_at) := ⟨_, _, ok_look_at F T n_look_at_ferry n_is_book_of, PySem.W.mg_of X G a7, k7, b⟩
  clear F b
  have F := fun_mk (st := s_Bounds_at_least) l8 c8 k8
  have b := F.binds (ps := ["self", "tick", "many"]) fun _ _ _ _ _ _ us hl => match us, hl with | [_, _, _], _ => rfl
  have m_at_least : KnM l.prog w K mg base 1 C "at_least" ["self", "tick", "many"] (spM C S_at_least) := ⟨_, _, ok_at_least F T B, ⟨a8, i8, k8⟩, b⟩
  clear F b
  have F := fun_mk (st := s_Bounds_at_most) l9 c9 k9
  have b := F.binds (ps := ["self", "tick", "many"]) fun _ _ _ _ _ _ us hl => match us, hl with | [_, _, _], _ => rfl
  have m_at_most : KnM l.prog w K mg base 1 C "at_most" ["self", "tick", "many"] (spM C S_at_most) := ⟨_, _, ok_at_most F T B, ⟨a9, i9, k9⟩, b⟩
  clear F b
  have F := fun_mk (st := s_Bounds_leaving) l10 c10 k10
  have b := F.binds (ps := ["self", "home", "gone", "tick", "load"]) fun _ _ _ _ _ _ us hl => match us, hl with | [_, _, _, _, _], _ => rfl
  have m_leaving : KnM l.prog w K mg base 2 C "leaving" ["self", "home", "gone", "tick", "load"] (spM C S_leaving) := ⟨_, _, ok_leaving F T B m_at_least m_at_most, ⟨a10, i10, k10⟩, b⟩
  clear F b
  have F := fun_mk (st := s_Bounds___init__) l11 c11 k11
  have b := F.binds (ps := ["self", "ferry", "book"]) fun _ _ _ _ _ _ us hl => match us, hl with | [_, _, _], _ => rfl
  have n_Bounds : KnK l.prog w K mg base 3 "Bounds" C ["self", "ferry", "book"] (spM C S_init) := ⟨_, _, ⟨mk, a11, i11, kc⟩, ok_init F T B m_leaving (m_at_most.mono (by decide)), PySem.W.mg_of X G aC, b⟩
  clear F b
  have F := fun_mk (st := s_Bounds_stairs) l12 c12 k12
  have b := F.binds (ps := ["self"]) fun _ _ _ _ _ _ us hl => match us, hl with | [_], _ => rfl
  have m_stairs : KnM l.prog w K mg base 1 C "stairs" ["self"] (spF C S_stairsM) := ⟨_, _, ok_stairsM F T B, ⟨a12, i12, k12⟩, b⟩
  clear F b
  have F := fun_mk (st := s_stairs_so) l13 c13 k13
  have b := F.binds (ps := ["ferry", "book"]) fun _ _ _ _ _ _ us hl => match us, hl with | [_, _], _ => rfl
  have n_stairs_so : Kn l.prog w K mg base 5 "stairs_so" ["ferry", "book"] (spD (S_fb dStairs)) := ⟨_, _, ok_stairs_so F T B (m_stairs.mono (by decide)) n_Bounds, PySem.W.mg_of X G a13, k13, b⟩
  clear F b
  have F := fun_mk (st := s_stairs) l14 c14 k14
  have b := F.binds (ps := ["ferry", "book"]) fun _ _ _ _ _ _ us hl => match us, hl with | [_, _], _ => rfl
  have n_stairs : Kn l.prog w K mg base 6 "stairs" ["ferry", "book"] (spD (S_fb dStairs)) := ⟨_, _, ok_stairs F T n_look_at n_stairs_so, PySem.W.mg_of X G a14, k14, b⟩
  clear F b
  have F := fun_mk (st := s_can_be) l15 c15 k15
  have b := F.binds (ps := ["ferry", "book"]) fun _ _ _ _ _ _ us hl => match us, hl with | [_, _], _ => rfl
  have n_can_be : Kn l.prog w K mg base 6 "can_be" ["ferry", "book"] (spD (S_fb dCan)) := ⟨_, _, ok_can_be F T n_look_at n_stairs_so, PySem.W.mg_of X G a15, k15, b⟩
  clear F b
  have F := fun_mk (st := s_first_bar) l16 c16 k16
  have b := F.binds (ps := ["ferry", "book"]) fun _ _ _ _ _ _ us hl => match us, hl with | [_, _], _ => rfl
  have n_first_bar : Kn l.prog w K mg base 6 "first_bar" ["ferry", "book"] (spD (S_fb dBar)) := ⟨_, _, ok_first_bar F T n_look_at n_stairs_so, PySem.W.mg_of X G a16, k16, b⟩
  clear F b
  have F := fun_mk (st := s_how_many) l17 c17 k17
  have b := F.binds (ps := ["ferry", "book"]) fun _ _ _ _ _ _ us hl => match us, hl with | [_, _], _ => rfl
  have n_how_many : Kn l.prog w K mg base 6 "how_many" ["ferry", "book"] (spD (S_fb dMany)) := ⟨_, _, ok_how_many F T n_look_at n_stairs_so, PySem.W.mg_of X G a17, k17, b⟩
  clear F b
  have F := fun_mk (st := s_steps_of) l18 c18 k18
  have b := F.binds (ps := ["sums"]) fun _ _ _ _ _ _ us hl => match us, hl with | [_], _ => rfl
  have n_steps_of : Kn l.prog w K mg base 1 "steps_of" ["sums"] (spD S_steps_of) := ⟨_, _, ok_steps_of F T, PySem.W.mg_of X G a18, k18, b⟩
  clear F b
  have F := fun_mk (st := s_fewest_row) l19 c19 k19
  have b := F.binds (ps := ["ferry", "book"]) fun _ _ _ _ _ _ us hl => match us, hl with | [_, _], _ => rfl
  have n_fewest_row : Kn l.prog w K mg base 6 "fewest_row" ["ferry", "book"] (spD (S_fb dFew)) := ⟨_, _, ok_fewest_row F T n_look_at n_stairs_so (n_steps_of.mono (by decide)), PySem.W.mg_of X G a19, k19, b⟩
  clear F b
  have F := fun_mk (st := s_most_row) l20 c20 k20
  have b := F.binds (ps := ["ferry", "book"]) fun _ _ _ _ _ _ us hl => match us, hl with | [_, _], _ => rfl
  have n_most_row : Kn l.prog w K mg base 6 "most_row" ["ferry", "book"] (spD (S_fb dMost)) := ⟨_, _, ok_most_row F T n_look_at n_stairs_so (n_steps_of.mono (by decide)), PySem.W.mg_of X G a20, k20, b⟩
  clear F b
  have F := fun_mk (st := s_mends) l21 c21 k21
  have b := F.binds (ps := ["ferry", "book"]) fun _ _ _ _ _ _ us hl => match us, hl with | [_, _], _ => rfl
  have n_mends : Kn l.prog w K mg base 6 "mends" ["ferry", "book"] (spD (S_fb dMends)) := ⟨_, _, ok_mends F T n_look_at n_stairs_so, PySem.W.mg_of X G a21, k21, b⟩
  clear F b
  have F := fun_mk (st := s__law_well) l22 c22 k22
  have b := F.binds (ps := ["cell", "turn"]) fun _ _ _ _ _ _ us hl => match us, hl with | [_, _], _ => rfl
  have n__law_well : Kn l.prog w K mg base 1 "_law_well" ["cell", "turn"] (spW) := ⟨_, _, ok_well F T, PySem.W.mg_of X G a22, k22, b⟩
  clear F b
  have F := fun_mk (st := s__law_take) l23 c23 k23
  have b := F.binds (ps := ["bag", "many"]) fun _ _ _ _ _ _ us hl => match us, hl with | [_, _], _ => rfl
  have n__law_take : Kn l.prog w K mg base 1 "_law_take" ["bag", "many"] (spB S_take) := ⟨_, _, ok_take F T, PySem.W.mg_of X G a23, k23, b⟩
  clear F b
  have F := fun_mk (st := s__law_bags) l24 c24 k24
  have b := F.binds (ps := ["script", "most"]) fun _ _ _ _ _ _ us hl => match us, hl with | [_, _], _ => rfl
  have n__law_bags : Kn l.prog w K mg base 2 "_law_bags" ["script", "most"] (spBags K) := ⟨_, _, ok_bags F T n__law_well, PySem.W.mg_of X G a24, k24, b⟩
  clear F b
  have F := fun_mk (st := s__law_ferry) l25 c25 k25
  have b := F.binds (ps := ["bag", "little"]) fun _ _ _ _ _ _ us hl => match us, hl with | [_, _], _ => rfl
  have n__law_ferry : Kn l.prog w K mg base 2 "_law_ferry" ["bag", "little"] (spB S_lferry) := ⟨_, _, ok_lferry F T n__law_take, PySem.W.mg_of X G a25, k25, b⟩
  clear F b
  have F := fun_mk (st := s__law_row) l26 c26 k26
  have b := F.binds (ps := ["bag", "ferry1", "ticks1"]) fun _ _ _ _ _ _ us hl => match us, hl with | [_, _, _], _ => rfl
  have n__law_row : Kn l.prog w K mg base 2 "_law_row" ["bag", "ferry1", "ticks1"] (spB S_row) := ⟨_, _, ok_row F T n__law_take, PySem.W.mg_of X G a26, k26, b⟩
  clear F b
  have F := fun_mk (st := s__law_left) l27 c27 k27
  have b := F.binds (ps := ["ferry1", "row"]) fun _ _ _ _ _ _ us hl => match us, hl with | [_, _], _ => rfl
  have n__law_left : Kn l.prog w K mg base 1 "_law_left" ["ferry1", "row"] (spD S_left) := ⟨_, _, ok_left F T, PySem.W.mg_of X G a27, k27, b⟩
  clear F b
  have F := fun_mk (st := s__law_book) l28 c28 k28
  have b := F.binds (ps := ["bag", "ferry1", "ticks1"]) fun _ _ _ _ _ _ us hl => match us, hl with | [_, _, _], _ => rfl
  have n__law_book : Kn l.prog w K mg base 3 "_law_book" ["bag", "ferry1", "ticks1"] (spB S_book) := ⟨_, _, ok_book F T n__law_row (n__law_left.mono (by decide)), PySem.W.mg_of X G a28, k28, b⟩
  clear F b
  have F := fun_mk (st := s__law_bent) l29 c29 k29
  have b := F.binds (ps := ["bag", "ferry1", "book1"]) fun _ _ _ _ _ _ us hl => match us, hl with | [_, _, _], _ => rfl
  have n__law_bent : Kn l.prog w K mg base 2 "_law_bent" ["bag", "ferry1", "book1"] (spB S_bent) := ⟨_, _, ok_bent F T n__law_take, PySem.W.mg_of X G a29, k29, b⟩
  clear F b
  have F := fun_mk (st := s__law_sums) l30 c30 k30
  have b := F.binds (ps := ["row"]) fun _ _ _ _ _ _ us hl => match us, hl with | [_], _ => rfl
  have n__law_sums : Kn l.prog w K mg base 1 "_law_sums" ["row"] (spD S_sums) := ⟨_, _, ok_sums F T, PySem.W.mg_of X G a30, k30, b⟩
  clear F b
  have F := fun_mk (st := s__law_ways) l31 c31 k31
  have b := F.binds (ps := ["ferry1", "book1"]) fun _ _ _ _ _ _ us hl => match us, hl with | [_, _], _ => rfl
  have n__law_ways : Kn l.prog w K mg base 1 "_law_ways" ["ferry1", "book1"] (spD S_ways) := ⟨_, _, ok_ways F T, PySem.W.mg_of X G a31, k31, b⟩
  clear F b
  have F := fun_mk (st := s__law_row_of) l32 c32 k32
  have b := F.binds (ps := ["sums"]) fun _ _ _ _ _ _ us hl => match us, hl with | [_], _ => rfl
  have n__law_row_of : Kn l.prog w K mg base 1 "_law_row_of" ["sums"] (spD S_steps_of) := ⟨_, _, ok_row_of F T, PySem.W.mg_of X G a32, k32, b⟩
  clear F b
  have F := fun_mk (st := s__law_steps_so) l33 c33 k33
  have b := F.binds (ps := ["ferry1", "book1", "own"]) fun _ _ _ _ _ _ us hl => match us, hl with | [_, _, _], _ => rfl
  have n__law_steps_so : Kn l.prog w K mg base 7 "_law_steps_so" ["ferry1", "book1", "own"] (spD S_steps_so) := ⟨_, _, ok_steps_so F T n_stairs n_fewest_row n_most_row (n__law_sums.mono (by decide)) (n__law_left.mono (by decide)) (n__law_row_of.mono (by decide)), PySem.W.mg_of X G a33, k33, b⟩
  clear F b
  have F := fun_mk (st := s__law_mends) l34 c34 k34
  have b := F.binds (ps := ["ferry1", "book1"]) fun _ _ _ _ _ _ us hl => match us, hl with | [_, _], _ => rfl
  have n__law_mends : Kn l.prog w K mg base 2 "_law_mends" ["ferry1", "book1"] (spD S_lmends4) := ⟨_, _, ok_lmends4 F T n__law_ways, PySem.W.mg_of X G a34, k34, b⟩
  clear F b
  have F := fun_mk (st := s__law_same) l35 c35 k35
  have b := F.binds (ps := ["a", "b"]) fun _ _ _ _ _ _ us hl => match us, hl with | [_, _], _ => rfl
  have n__law_same : Kn l.prog w K mg base 4 "_law_same" ["a", "b"] (spD (S_same 3)) := ⟨_, _, ok_same F T (PySem.W.mg_of X G a35) k35 b 3, PySem.W.mg_of X G a35, k35, b⟩
  clear F b
  have F := fun_mk (st := s_law) l36 c36 k36
  exact ok_law F T ⟨n_stairs.mono (by decide), n_can_be.mono (by decide), n_first_bar.mono (by decide), n_how_many.mono (by decide), n_mends.mono (by decide), n__law_bags.mono (by decide), n__law_take.mono (by decide), n__law_ferry.mono (by decide), n__law_book.mono (by decide), n__law_bent.mono (by decide), n__law_ways.mono (by decide), n__law_steps_so.mono (by decide), n__law_mends.mono (by decide), n__law_same.mono (by decide)⟩
end FB
open PySem PySem.W PyProof.Rows
set_option maxHeartbeats 0 in
theorem PySem.Challenge.cw_ferryback_k04_whole_long_books_holds : PySem.Challenge.rw_ferryback_k04_whole_long_books.Holds := by
  w_on; o_law; k_head; (case hw => w_witness2)
  k_fill
  refine L2.walk_of (l := PySem.Challenge.rw_ferryback_k04_whole_long_books) (n := 63) (k := 8) (x := "script") (CX := fun _ => L2.CX0) (sp := fun w => FB.spLaw _) rfl (by decide) rfl ⟨rfl, by decide, by decide⟩ (fun w h Y => PySem.W.kIn_of Y) ?F (fun _ _ a ns hl _ hS => ⟨a, ns, rfl, hS, hl, fun _ => rfl⟩) (fun _ _ _ _ _ h => h)
  case F =>
    intro w mg fa h KX G hmg
    refine' FB.all_mk KX G hmg ?aC ?a1 ?l1 ?c1 ?k1 ?a2 ?l2 ?c2 ?k2 ?a3 ?l3 ?c3 ?k3 ?a4 ?l4 ?c4 ?k4 ?a5 ?l5 ?c5 ?k5 ?a6 ?l6 ?c6 ?k6 ?a7 ?l7 ?c7 ?k7 ?a8 ?i8 ?l8 ?c8 ?k8 ?a9 ?i9 ?l9 ?c9 ?k9 ?a10 ?i10 ?l10 ?c10 ?k10 ?a11 ?i11 ?l11 ?c11 ?k11 ?a12 ?i12 ?l12 ?c12 ?k12 ?a13 ?l13 ?c13 ?k13 ?a14 ?l14 ?c14 ?k14 ?a15 ?l15 ?c15 ?k15 ?a16 ?l16 ?c16 ?k16 ?a17 ?l17 ?c17 ?k17 ?a18 ?l18 ?c18 ?k18 ?a19 ?l19 ?c19 ?k19 ?a20 ?l20 ?c20 ?k20 ?a21 ?l21 ?c21 ?k21 ?a22 ?l22 ?c22 ?k22 ?a23 ?l23 ?c23 ?k23 ?a24 ?l24 ?c24 ?k24 ?a25 ?l25 ?c25 ?k25 ?a26 ?l26 ?c26 ?k26 ?a27 ?l27 ?c27 ?k27 ?a28 ?l28 ?c28 ?k28 ?a29 ?l29 ?c29 ?k29 ?a30 ?l30 ?c30 ?k30 ?a31 ?l31 ?c31 ?k31 ?a32 ?l32 ?c32 ?k32 ?a33 ?l33 ?c33 ?k33 ?a34 ?l34 ?c34 ?k34 ?a35 ?l35 ?c35 ?k35 ?a36 ?l36 ?c36 ?k36 ?pg ?hd ?po ?sa ?mk ?kc ?q0 ?q1 ?q2 ?q3 ?q4 ?q5 ?q6 ?z0 ?z1 ?z2 ?z3 ?z4 ?z5 ?z6 ?z7 ?z8 ?z9 ?z10 ?z11 ?z12 ?z13 ?z14 ?z15 ?vML ?vMV ?vEN
    (case aC => k_is)
    (case a1 => k_is)
    (case l1 => k_is)
    (case c1 => k_is)
    (case k1 => k_is)
    (case a2 => k_is)
    (case l2 => k_is)
    (case c2 => k_is)
    (case k2 => k_is)
    (case a3 => k_is)
    (case l3 => k_is)
    (case c3 => k_is)
    (case k3 => k_is)
    (case a4 => k_is)
    (case l4 => k_is)
    (case c4 => k_is)
    (case k4 => k_is)
    (case a5 => k_is)
    (case l5 => k_is)
    (case c5 => k_is)
    (case k5 => k_is)
    (case a6 => k_is)
    (case l6 => k_is)
    (case c6 => k_is)
    (case k6 => k_is)
    (case a7 => k_is)
    (case l7 => k_is)
    (case c7 => k_is)
    (case k7 => k_is)
    (case a8 => k_is)
    (case i8 => k_is)
    (case l8 => k_is)
    (case c8 => k_is)
    (case k8 => k_is)
    (case a9 => k_is)
    (case i9 => k_is)
    (case l9 => k_is)
    (case c9 => k_is)
    (case k9 => k_is)
    (case a10 => k_is)
    (case i10 => k_is)
    (case l10 => k_is)
    (case c10 => k_is)
    (case k10 => k_is)
    (case a11 => k_is)
    (case i11 => k_is)
    (case l11 => k_is)
    (case c11 => k_is)
    (case k11 => k_is)
    (case a12 => k_is)
    (case i12 => k_is)
    (case l12 => k_is)
    (case c12 => k_is)
    (case k12 => k_is)
    (case a13 => k_is)
    (case l13 => k_is)
    (case c13 => k_is)
    (case k13 => k_is)
    (case a14 => k_is)
    (case l14 => k_is)
    (case c14 => k_is)
    (case k14 => k_is)
    (case a15 => k_is)
    (case l15 => k_is)
    (case c15 => k_is)
    (case k15 => k_is)
    (case a16 => k_is)
    (case l16 => k_is)
    (case c16 => k_is)
    (case k16 => k_is)
    (case a17 => k_is)
    (case l17 => k_is)
    (case c17 => k_is)
    (case k17 => k_is)
    (case a18 => k_is)
    (case l18 => k_is)
    (case c18 => k_is)
    (case k18 => k_is)
    (case a19 => k_is)
    (case l19 => k_is)
    (case c19 => k_is)
    (case k19 => k_is)
    (case a20 => k_is)
    (case l20 => k_is)
    (case c20 => k_is)
    (case k20 => k_is)
    (case a21 => k_is)
    (case l21 => k_is)
    (case c21 => k_is)
    (case k21 => k_is)
    (case a22 => k_is)
    (case l22 => k_is)
    (case c22 => k_is)
    (case k22 => k_is)
    (case a23 => k_is)
    (case l23 => k_is)
    (case c23 => k_is)
    (case k23 => k_is)
    (case a24 => k_is)
    (case l24 => k_is)
    (case c24 => k_is)
    (case k24 => k_is)
    (case a25 => k_is)
    (case l25 => k_is)
    (case c25 => k_is)
    (case k25 => k_is)
    (case a26 => k_is)
    (case l26 => k_is)
    (case c26 => k_is)
    (case k26 => k_is)
    (case a27 => k_is)
    (case l27 => k_is)
    (case c27 => k_is)
    (case k27 => k_is)
    (case a28 => k_is)
    (case l28 => k_is)
    (case c28 => k_is)
    (case k28 => k_is)
    (case a29 => k_is)
    (case l29 => k_is)
    (case c29 => k_is)
    (case k29 => k_is)
    (case a30 => k_is)
    (case l30 => k_is)
    (case c30 => k_is)
    (case k30 => k_is)
    (case a31 => k_is)
    (case l31 => k_is)
    (case c31 => k_is)
    (case k31 => k_is)
    (case a32 => k_is)
    (case l32 => k_is)
    (case c32 => k_is)
    (case k32 => k_is)
    (case a33 => k_is)
    (case l33 => k_is)
    (case c33 => k_is)
    (case k33 => k_is)
    (case a34 => k_is)
    (case l34 => k_is)
    (case c34 => k_is)
    (case k34 => k_is)
    (case a35 => k_is)
    (case l35 => k_is)
    (case c35 => k_is)
    (case k35 => k_is)
    (case a36 => k_is)
    (case l36 => k_is)
    (case c36 => k_is)
    (case k36 => k_is)
    (case pg => k_is)
    (case hd => k_is)
    (case po => k_is)
    (case sa => k_is)
    (case mk => k_is)
    (case kc => k_is)
    (case q0 => k_is)
    (case q1 => k_is)
    (case q2 => k_is)
    (case q3 => k_is)
    (case q4 => k_is)
    (case q5 => k_is)
    (case q6 => k_is)
    (case z0 => k_is)
    (case z1 => k_is)
    (case z2 => k_is)
    (case z3 => k_is)
    (case z4 => k_is)
    (case z5 => k_is)
    (case z6 => k_is)
    (case z7 => k_is)
    (case z8 => k_is)
    (case z9 => k_is)
    (case z10 => k_is)
    (case z11 => k_is)
    (case z12 => k_is)
    (case z13 => k_is)
    (case z14 => k_is)
    (case z15 => k_is)
    (case vML => k_is)
    (case vMV => k_is)
    (case vEN => k_is)

