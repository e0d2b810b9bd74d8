import PyProof.Rows.All
import Wide.All
import OpenK.AllK
import Wide.FinOn
import HandS.ForMost
import HandS.TupAny
import HandS.TupMul
import HandS.Zip
import HandS.Wide
import HandS.IsInst
import HandS.Style
import HandS.Conv
import HandS.Deep
import HandS.SortInts
import HandS.NoneIn
import HandS.Codes
import HandS.Lambda
import KE.GoesEnum
import KE.KDictZip
import KE.KDictItemsList
import KE.KAssignIn
import KE.KDictSum
import HandS.ExcCtx
import HandS.CallSlots
import HandS.HotCalls
import HandS.ExcIs
import HandS.EndTab
import PySem.Challenge.RW_ferryback_k01_what_are_books_and_who_is
set_option Elab.async false
set_option linter.all false
set_option maxRecDepth 100000
set_option maxHeartbeats 4000000
namespace DL
open PySem PySem.Spec PyProof.Rows L2

/-! ### 1. weakest readings of pieces of syntax -/
section
variable {X : Cx} {e : Expr} {es : List Expr} {st : Stmt} {sts : List Stmt} {σ : L2.St} {H : Hp}
@[irreducible] def tW (X : Cx) (e : Expr) : TE := fun σ H Q => ∀ (pins : List (Addr × Obj)) (s : Shared), Inv X pins σ H s → wpAny (model X.prog X.w) X.A (eval e X.env) (EP X pins σ Q) X.xe s
@[irreducible] def tT (X : Cx) (e : Expr) : TT := fun σ H Q => ∀ (pins : List (Addr × Obj)) (s : Shared), Inv X pins σ H s → wpAny (model X.prog X.w) X.A (isTrue e X.env (eval e X.env)) (TP X pins σ Q) X.xe s
@[irreducible] def tWW (X : Cx) (e : Expr) : TT := fun σ H Q => ∀ (whole : Sem Value) (pins : List (Addr × Obj)) (s : Shared), Inv X pins σ H s → wpAny (model X.prog X.w) X.A (isTrue e X.env whole) (TP X pins σ Q) X.xe s
@[irreducible] def tA (X : Cx) (es : List Expr) : TA := fun σ H Q => ∀ (pos : Pos) (pins : List (Addr × Obj)) (s : Shared), Inv X pins σ H s → wpAny (model X.prog X.w) X.A (spliced (backTo pos (starEach es X.env))) (AP X pins σ Q) X.xe s
@[irreducible] def tG (X : Cx) (tg : Expr) : TG := fun v σ H Q => ∀ (pins : List (Addr × Obj)) (s : Shared) (u : Value), Inv X pins σ H s → RelV v u → wpAny (model X.prog X.w) X.A (assign tg X.env u) (fun _ s' => ∃ σ' H', Inv X pins σ' H' s' ∧ Q σ' H') X.xe s
@[irreducible] def tGs (X : Cx) (ts : List Expr) : TGs := fun vs σ H Q => ∀ (pins : List (Addr × Obj)) (s : Shared) (us : List Value), Inv X pins σ H s → Vals vs us → wpAny (model X.prog X.w) X.A (assignInOrder ((assignEach ts X.env).map (·.2)) us) (fun _ s' => ∃ σ' H', Inv X pins σ' H' s' ∧ Q σ' H') X.xe s
@[irreducible] def tS (X : Cx) (st : Stmt) : TS := fun D σ H => ∀ (pins : List (Addr × Obj)) (s : Shared), Inv X pins σ H s → wpAny (model X.prog X.w) X.A (exec st X.env) (SP X pins D) X.xe s
@[irreducible] def tB (X : Cx) (sts : List Stmt) : TS := fun D σ H => ∀ (pins : List (Addr × Obj)) (s : Shared), Inv X pins σ H s → wpAny (model X.prog X.w) X.A (execs sts X.env) (SP X pins D) X.xe s
theorem peW : PE X e (tW X e) := ⟨fun pins s _ _ _ I h => by unfold tW at h; exact h pins s I⟩
theorem ptW : PT X e (tT X e) := ⟨fun pins s _ _ _ I h => by unfold tT at h; exact h pins s I⟩
theorem pwW : PW X e (tWW X e) := ⟨fun wh pins s _ _ _ I h => by unfold tWW at h; exact h wh pins s I⟩
theorem paW : PA X es (tA X es) := ⟨fun pos pins s _ _ _ I h => by unfold tA at h; exact h pos pins s I⟩
theorem pgW : PG X e (tG X e) := ⟨fun pins s _ _ _ u _ I r h => by unfold tG at h; exact h pins s u I r⟩
theorem pgsW : PGs X es (tGs X es) := ⟨fun pins s _ _ _ us _ I r h => by unfold tGs at h; exact h pins s us I r⟩
theorem psW : PS X st (tS X st) := ⟨fun pins s _ _ _ I h => by unfold tS at h; exact h pins s I⟩
theorem pssW : PSs X sts (tB X sts) := ⟨fun pins s _ _ _ I h => by unfold tB at h; exact h pins s I⟩
theorem ofPE {t : TE} {Q : VK} (h : PE X e t) (q : t σ H Q) : tW X e σ H Q := by unfold tW; exact fun pins s I => h.run pins s σ H Q I q
theorem ofPT {t : TT} {Q : Bool → Hp → Prop} (h : PT X e t) (q : t σ H Q) : tT X e σ H Q := by unfold tT; exact fun pins s I => h.run pins s σ H Q I q
theorem ofPW {t : TT} {Q : Bool → Hp → Prop} (h : PW X e t) (q : t σ H Q) : tWW X e σ H Q := by unfold tWW; exact fun wh pins s I => h.run wh pins s σ H Q I q
theorem ofPA {t : TA} {Q : List V → Hp → Prop} (h : PA X es t) (q : t σ H Q) : tA X es σ H Q := by unfold tA; exact fun pos pins s I => h.run pos pins s σ H Q I q
theorem ofPG {t : TG} {v : V} {Q : L2.St → Hp → Prop} (h : PG X e t) (q : t v σ H Q) : tG X e v σ H Q := by unfold tG; exact fun pins s u I r => h.run pins s σ H v u Q I r q
theorem ofPGs {t : TGs} {vs : List V} {Q : L2.St → Hp → Prop} (h : PGs X es t) (q : t vs σ H Q) : tGs X es vs σ H Q := by unfold tGs; exact fun pins s us I r => h.run pins s σ H vs us Q I r q
theorem ofPS {t : TS} {D : Ends} (h : PS X st t) (q : t D σ H) : tS X st D σ H := by unfold tS; exact fun pins s I => h.run pins s σ H D I q
theorem ofPSs {t : TS} {D : Ends} (h : PSs X sts t) (q : t D σ H) : tB X sts D σ H := by unfold tB; exact fun pins s I => h.run pins s σ H D I q
end

/-! ### 2. heaps with some addresses hidden; data under a heap -/
def mask (l : List Addr) (H : Hp) : Hp := fun a => if a ∈ l then none else H a
theorem mask_in {l : List Addr} {H : Hp} {a : Addr} (h : a ∈ l) : mask l H a = none := by unfold mask; rw [if_pos h]
theorem mask_out {l : List Addr} {H : Hp} {a : Addr} (h : a ∉ l) : mask l H a = H a := by unfold mask; rw [if_neg h]
theorem mask_le {l : List Addr} {H : Hp} : Same (mask l H) H := fun a o e => by
  by_cases h : a ∈ l
  · rw [mask_in h] at e; cases e
  · rw [mask_out h] at e; exact e
theorem mask_some {l : List Addr} {H : Hp} {a : Addr} {o : HO} (e : mask l H a = some o) : a ∉ l ∧ H a = some o := by
  by_cases h : a ∈ l
  · rw [mask_in h] at e; cases e
  · rw [mask_out h] at e; exact ⟨h, e⟩
/-- less is hidden, more stands -/
theorem mask_mono {l l' : List Addr} {H H' : Hp} (hl : ∀ a, a ∈ l' → H a ≠ none → a ∈ l) (s : ∀ a o, a ∉ l → H a = some o → H' a = some o) : Same (mask l H) (mask l' H') := fun a o e => by
  obtain ⟨h1, h2⟩ := mask_some e
  have h3 : a ∉ l' := fun m => h1 (hl a m (by rw [h2]; exact fun z => nomatch z))
  rw [mask_out h3]
  exact s a o h1 h2
theorem mask_sub {l l' : List Addr} {H : Hp} (hl : ∀ a, a ∈ l' → a ∈ l) : Same (mask l H) (mask l' H) := mask_mono (fun a m _ => hl a m) fun _ _ _ e => e
theorem mask_same {l : List Addr} {H H' : Hp} (s : Same H H') : Same (mask l H) (mask l H') := mask_mono (fun _ m _ => m) fun a o _ e => s a o e
theorem same_rd {H H' : Hp} {a : Addr} {u : HO} (e : Same H H') (h : Rd H a u) : Rd H' a u := by
  rcases h with h | ⟨o, h⟩
  · exact Or.inl (e a _ h)
  · exact Or.inr ⟨o, e a _ h⟩
theorem same_l {K : PySem.W.Frag} {H H' : Hp} {a : Addr} {xs : List V} (e : Same H H') (h : SqL K H a xs) : SqL K H' a xs := by
  rcases h with h | h
  · exact Or.inl (same_rd e h)
  · exact Or.inr h
theorem same_t {K : PySem.W.Frag} {H H' : Hp} {a : Addr} {xs : List V} (e : Same H H') (h : SqT K H a xs) : SqT K H' a xs := by
  rcases h with h | h
  · exact Or.inl (same_rd e h)
  · exact Or.inr h
theorem same_new {H : Hp} {p : Addr} {o : HO} (h : H p = none) : Same H (upd H p o) := fun a u e => by
  rw [upd_ne (ne_of_none e h)]; exact e
/-! a value reads as data: its lists and tuples stand in the heap, tracked -/
mutual
inductive Rp (H : Hp) : V → PyData → Prop
  | non : Rp H .non .none
  | bl (b : Bool) : Rp H (.bl b) (.bool b)
  | int (i : Int) : Rp H (.int i) (.int i)
  | str (x : Str) : Rp H (.str x) (.str x)
  | lst {a : Addr} {xs : List V} {ds : List PyData} : H a = some (.lst xs) → RpAll H xs ds → Rp H (.ref a) (.list ds)
  | tup {a : Addr} {xs : List V} {ds : List PyData} : H a = some (.tup xs) → RpAll H xs ds → Rp H (.ref a) (.tuple ds)
inductive RpAll (H : Hp) : List V → List PyData → Prop
  | nil : RpAll H [] []
  | cons {v : V} {vs : List V} {d : PyData} {ds : List PyData} : Rp H v d → RpAll H vs ds → RpAll H (v :: vs) (d :: ds)
end
mutual
theorem Rp.up {H H' : Hp} (s : Same H H') : ∀ (d : PyData) (v : V), Rp H v d → Rp H' v d
  | .none, _, h => by cases h; exact .non
  | .bool b, _, h => by cases h; exact .bl b
  | .int i, _, h => by cases h; exact .int i
  | .str x, _, h => by cases h; exact .str x
  | .list ds, _, h => by
    cases h with
    | lst q a => exact .lst (s _ _ q) (RpAll.up s ds _ a)
  | .tuple ds, _, h => by
    cases h with
    | tup q a => exact .tup (s _ _ q) (RpAll.up s ds _ a)
  | .dict _, _, h => by cases h
theorem RpAll.up {H H' : Hp} (s : Same H H') : ∀ (ds : List PyData) (vs : List V), RpAll H vs ds → RpAll H' vs ds
  | [], _, h => by cases h; exact .nil
  | d :: ds, _, h => by
    cases h with
    | cons h1 h2 => exact .cons (Rp.up s d _ h1) (RpAll.up s ds _ h2)
end
mutual
theorem Rp.dp {K : PySem.W.Frag} {H : Hp} : ∀ (d : PyData) (v : V), Rp H v d → Dp K H v d
  | .none, _, h => by cases h; exact .non
  | .bool b, _, h => by cases h; exact .bl b
  | .int i, _, h => by cases h; exact .int i
  | .str x, _, h => by cases h; exact .str x
  | .list ds, _, h => by
    cases h with
    | lst q a => exact .lst (.of q) (RpAll.dp ds _ a)
  | .tuple ds, _, h => by
    cases h with
    | tup q a => exact .tup (.of q) (RpAll.dp ds _ a)
  | .dict _, _, h => by cases h
theorem RpAll.dp {K : PySem.W.Frag} {H : Hp} : ∀ (ds : List PyData) (vs : List V), RpAll H vs ds → DpAll K H vs ds
  | [], _, h => by cases h; exact .nil
  | d :: ds, _, h => by
    cases h with
    | cons h1 h2 => exact .cons (Rp.dp d _ h1) (RpAll.dp ds _ h2)
end
section
variable {H : Hp}
theorem RpAll.length : ∀ {ds : List PyData} {vs : List V}, RpAll H vs ds → vs.length = ds.length
  | [], _, h => by cases h; rfl
  | _ :: ds, _, h => by
    cases h with
    | cons _ h2 => rw [List.length_cons, List.length_cons, RpAll.length h2]
theorem RpAll.get : ∀ {ds : List PyData} {vs : List V} {i : Nat} {d : PyData}, RpAll H vs ds → ds[i]? = some d → ∃ v, vs[i]? = some v ∧ Rp H v d
  | [], _, _, _, _, e => by simp at e
  | _ :: ds, _, 0, d, h, e => by
    cases h with
    | cons h1 _ => exact ⟨_, rfl, by rw [List.getElem?_cons_zero] at e; cases e; exact h1⟩
  | _ :: ds, _, i + 1, d, h, e => by
    cases h with
    | cons _ h2 =>
      rw [List.getElem?_cons_succ] at e
      obtain ⟨v, e1, h1⟩ := RpAll.get h2 e
      exact ⟨v, by rw [List.getElem?_cons_succ]; exact e1, h1⟩
theorem RpAll.app : ∀ {ds es : List PyData} {vs us : List V}, RpAll H vs ds → RpAll H us es → RpAll H (vs ++ us) (ds ++ es)
  | [], _, _, _, h, g => by cases h; exact g
  | _ :: ds, _, _, _, h, g => by
    cases h with
    | cons h1 h2 => exact .cons h1 (RpAll.app h2 g)
theorem RpAll.tk : ∀ {ds : List PyData} {vs : List V} (n : Nat), RpAll H vs ds → RpAll H (vs.take n) (ds.take n)
  | _, _, 0, _ => by rw [List.take_zero, List.take_zero]; exact .nil
  | [], _, n + 1, h => by cases h; exact .nil
  | _ :: ds, _, n + 1, h => by
    cases h with
    | cons h1 h2 => exact .cons h1 (RpAll.tk n h2)
theorem RpAll.dr : ∀ {ds : List PyData} {vs : List V} (n : Nat), RpAll H vs ds → RpAll H (vs.drop n) (ds.drop n)
  | _, _, 0, h => h
  | [], _, n + 1, h => by cases h; exact .nil
  | _ :: ds, _, n + 1, h => by
    cases h with
    | cons _ h2 => exact RpAll.dr n h2
theorem RpAll.st : ∀ {ds : List PyData} {vs : List V} {i : Nat} {v : V} {d : PyData}, RpAll H vs ds → Rp H v d → RpAll H (vs.set i v) (ds.set i d)
  | [], _, _, _, _, h, _ => by cases h; exact .nil
  | _ :: ds, _, 0, _, _, h, g => by
    cases h with
    | cons _ h2 => exact .cons g h2
  | _ :: ds, _, i + 1, _, _, h, g => by
    cases h with
    | cons h1 h2 => exact .cons h1 (RpAll.st h2 g)
theorem RpAll.rv : ∀ {ds : List PyData} {vs : List V}, RpAll H vs ds → RpAll H vs.reverse ds.reverse
  | [], _, h => by cases h; exact .nil
  | _ :: ds, _, h => by
    cases h with
    | cons h1 h2 => rw [List.reverse_cons, List.reverse_cons]; exact RpAll.app (RpAll.rv h2) (.cons h1 .nil)
theorem RpAll.rep {v : V} {d : PyData} (h : Rp H v d) : ∀ n : Nat, RpAll H (List.replicate n v) (List.replicate n d)
  | 0 => .nil
  | n + 1 => .cons h (RpAll.rep h n)
theorem RpAll.repF {vs : List V} {ds : List PyData} (h : RpAll H vs ds) : ∀ n : Nat, RpAll H (List.replicate n vs).flatten (List.replicate n ds).flatten
  | 0 => .nil
  | n + 1 => by
    rw [List.replicate_succ, List.replicate_succ, List.flatten_cons, List.flatten_cons]
    exact RpAll.app h (RpAll.repF h n)
theorem RpAll.ints : ∀ {ns : List Int} {vs : List V}, RpAll H vs (ns.map PyData.int) → vs = ns.map V.int
  | [], _, h => by cases h; rfl
  | n :: ns, _, h => by
    cases h with
    | cons h1 h2 => cases h1; rw [RpAll.ints h2]; rfl
theorem RpAll.ofInts : ∀ (ns : List Int), RpAll H (ns.map V.int) (ns.map PyData.int)
  | [] => .nil
  | n :: ns => .cons (.int n) (RpAll.ofInts ns)
theorem RpAll.bools : ∀ {ns : List Bool} {vs : List V}, RpAll H vs (ns.map PyData.bool) → vs = ns.map V.bl
  | [], _, h => by cases h; rfl
  | n :: ns, _, h => by
    cases h with
    | cons h1 h2 => cases h1; rw [RpAll.bools h2]; rfl
end

/-! ### 3. slots: what a name holds -/
inductive Fd where
  | dat (d : PyData)
  | own (a : Addr) (ds : List PyData)
def fdA : List (Str × Fd) → List Addr
  | [] => []
  | (_, .own a _) :: r => a :: fdA r
  | (_, .dat _) :: r => fdA r
/-- what is known of a value, and stays so while the heap grows -/
structure Kw where
  R : Hp → V → Prop
  up : ∀ (G G' : Hp) (v : V), Same G G' → R G v → R G' v
inductive Sl where
  | any (r : Kw)
  | tb (p : Addr) (q : Str)
  | non
  | dat (d : PyData)
  | own (a : Addr) (ds : List PyData)
  | bag (a : Addr) (n : Nat)
  | dI (a : Addr) (kvs : List (Int × Int))
  | dP (a : Addr) (kvs : List ((Int × Int) × Int))
  | fI (kvs : List (Int × Int))
  | obj (C : Addr) (fs : List (Str × PyData))
  | bo (p C : Addr) (fs : List (Str × Fd))
  | raw (v : V)
def Sl.ad : Sl → List Addr
  | .own a _ => [a]
  | .bag a _ => [a]
  | .tb p _ => [p]
  | .dI a _ => [a]
  | .dP a _ => [a]
  | .bo p _ fs => p :: fdA fs
  | _ => []
def os : List Sl → List Addr
  | [] => []
  | s :: r => s.ad ++ os r
def bagP : Int := 2305843009213693951
def BagOk (H : Hp) (a : Addr) (n : Nat) : Prop := ∃ z w t : Int, H a = some (.lst [.int z, .int w, .int t]) ∧ 0 ≤ w ∧ w < bagP ∧ 0 ≤ t ∧ t + (n : Int) ≤ 2 ^ 60
def kvI (kvs : List (Int × Int)) : List (Key × V) := kvs.map fun p => (Sum.inl p.1, V.int p.2)
def kvP (kvs : List ((Int × Int) × Int)) : List (List Key × V) := kvs.map fun p => ([Sum.inl p.1.1, Sum.inl p.1.2], V.int p.2)
/-- an object's fields as data, by name -/
def FsOk (G : Hp) : List (Str × V) → List (Str × PyData) → Prop
  | [], [] => True
  | v :: vs, d :: ds => (v.1 = d.1 ∧ Rp G v.2 d.2) ∧ FsOk G vs ds
  | _, _ => False
def ObjAt (G : Hp) (a C : Addr) (fs : List (Str × PyData)) : Prop := ∃ dx vs, G a = some (.ins C dx vs) ∧ FsOk G vs fs
/-- .. of an object under way: a field may be a list of one's own -/
def FdOk (G H : Hp) : List (Str × V) → List (Str × Fd) → Prop
  | [], [] => True
  | v :: vs, (n, .dat d) :: ds => (v.1 = n ∧ Rp G v.2 d) ∧ FdOk G H vs ds
  | v :: vs, (n, .own a xs) :: ds => (v.1 = n ∧ v.2 = .ref a ∧ ∃ us, H a = some (.lst us) ∧ RpAll G us xs) ∧ FdOk G H vs ds
  | _, _ => False
theorem FdOk.up {G G' H H' : Hp} (g : Same G G') : ∀ {vs : List (Str × V)} {fs : List (Str × Fd)}, FdOk G H vs fs → (∀ a ∈ fdA fs, ∀ o, H a = some o → H' a = some o) → FdOk G' H' vs fs
  | [], [], _, _ => trivial
  | v :: vs, (n, .dat d) :: ds, h, k => ⟨⟨h.1.1, Rp.up g _ _ h.1.2⟩, FdOk.up g h.2 k⟩
  | v :: vs, (n, .own a xs) :: ds, h, k => ⟨⟨h.1.1, h.1.2.1, by
    obtain ⟨_, _, us, e, r⟩ := h.1
    exact ⟨us, k a (.head _) _ e, RpAll.up g _ _ r⟩⟩, FdOk.up g h.2 fun b m => k b (.tail _ m)⟩
  | [], _ :: _, h, _ => h.elim
  | _ :: _, [], h, _ => h.elim
theorem FdOk.ad {G H : Hp} : ∀ {vs : List (Str × V)} {fs : List (Str × Fd)}, FdOk G H vs fs → ∀ a ∈ fdA fs, H a ≠ none
  | [], [], _, _, m => nomatch m
  | v :: vs, (n, .dat d) :: ds, h, a, m => FdOk.ad h.2 a m
  | v :: vs, (n, .own b xs) :: ds, h, a, m => by
    rcases List.mem_cons.mp m with z | z
    · obtain ⟨_, _, us, e, _⟩ := h.1
      rw [z, e]; exact fun z => nomatch z
    · exact FdOk.ad h.2 a z
  | [], _ :: _, h, _, _ => h.elim
  | _ :: _, [], h, _, _ => h.elim
theorem FsOk.up {G G' : Hp} (g : Same G G') : ∀ {vs : List (Str × V)} {fs : List (Str × PyData)}, FsOk G vs fs → FsOk G' vs fs
  | [], [], _ => trivial
  | v :: vs, d :: ds, h => ⟨⟨h.1.1, Rp.up g _ _ h.1.2⟩, FsOk.up g h.2⟩
  | [], _ :: _, h => h.elim
  | _ :: _, [], h => h.elim
theorem ObjAt.up {G G' : Hp} {a C : Addr} {fs : List (Str × PyData)} (g : Same G G') (h : ObjAt G a C fs) : ObjAt G' a C fs := by
  obtain ⟨dx, vs, e, f⟩ := h
  exact ⟨dx, vs, g _ _ e, f.up g⟩
theorem FsOk.get {G : Hp} : ∀ {vs : List (Str × V)} {fs : List (Str × PyData)} {n : Str} {d : PyData}, FsOk G vs fs → fs.lookup n = some d → ∃ v, vs.lookup n = some v ∧ Rp G v d
  | [], [], _, _, _, e => by simp at e
  | (m, v) :: vs, (m', d') :: ds, n, d, h, e => by
    have e1 : m = m' := h.1.1
    subst e1
    rw [List.lookup_cons] at e ⊢
    cases q : n == m with
    | true => rw [q] at e; cases e; exact ⟨v, rfl, h.1.2⟩
    | false => rw [q] at e; exact FsOk.get h.2 e
  | [], _ :: _, _, _, h, _ => h.elim
  | _ :: _, [], _, _, h, _ => h.elim
/-- the table at p: each code object that it tells bears the name q -/
def TbAt (G H : Hp) (p : Addr) (q : Str) : Prop := ∃ ps : Array Value, H p = some (.tbl ps) ∧ TriplesOk ps.toList ∧ ∀ (pos : Pos) (cv : Value), codeAmong pos ps.toList = some cv → ∃ c, cv = .ref c ∧ G c = some (LamX.CodeO c q)
def SlotOk (G H : Hp) (x : Option V) : Sl → Prop
  | .any r => ∃ v, x = some v ∧ r.R G v
  | .tb p q => TbAt G H p q
  | .non => True
  | .dat d => ∃ v, x = some v ∧ Rp G v d
  | .own a ds => x = some (.ref a) ∧ ∃ vs, H a = some (.lst vs) ∧ RpAll G vs ds
  | .bag a n => x = some (.ref a) ∧ BagOk H a n
  | .dI a kvs => x = some (.ref a) ∧ H a = some (.dK (kvI kvs))
  | .dP a kvs => x = some (.ref a) ∧ H a = some (.dT (kvP kvs))
  | .fI kvs => ∃ a, x = some (.ref a) ∧ G a = some (.dK (kvI kvs))
  | .obj C fs => ∃ a, x = some (.ref a) ∧ ObjAt G a C fs
  | .bo p C fs => x = some (.ref p) ∧ ∃ dx vs, H p = some (.ins C dx vs) ∧ FdOk G H vs fs
  | .raw v => x = some v
def SlotsOk (G H : Hp) : L2.St → List Sl → Prop
  | [], [] => True
  | x :: xs, s :: ss => SlotOk G H x s ∧ SlotsOk G H xs ss
  | _, _ => False
structure Fm where
  hd : List Addr
  po : List Addr
  H0 : Hp
abbrev gh (F : Fm) (ρ : List Sl) (H : Hp) : Hp := mask (F.hd ++ os ρ) H
structure Stt (F : Fm) (H : Hp) (σ : L2.St) (ρ : List Sl) : Prop where
  hd : ∀ a ∈ F.hd, H a ≠ none
  fr : ∀ a o, a ∉ F.po → F.H0 a = some o → H a = some o
  dm : ∀ a, F.H0 a ≠ none → H a ≠ none
  nd : (os ρ).Nodup
  nw : ∀ a ∈ os ρ, a ∈ F.po ∨ F.H0 a = none
  ap : ∀ a ∈ os ρ, a ∉ F.hd
  sl : SlotsOk (gh F ρ H) H σ ρ

theorem SlotOk.up {G G' H H' : Hp} {x : Option V} {s : Sl} (h : SlotOk G H x s) (g : Same G G') (k : ∀ a ∈ s.ad, ∀ o, H a = some o → H' a = some o) : SlotOk G' H' x s := by
  cases s with
  | non => trivial
  | dat d => obtain ⟨v, e, q⟩ := h; exact ⟨v, e, Rp.up g d v q⟩
  | any r => obtain ⟨v, e, q⟩ := h; exact ⟨v, e, r.up _ _ _ g q⟩
  | tb p q =>
    obtain ⟨ps, h1, h2, h3⟩ := h
    refine ⟨ps, k p (List.mem_singleton.mpr rfl) _ h1, h2, fun pos cv hc => ?_⟩
    obtain ⟨c, e1, e2⟩ := h3 pos cv hc
    exact ⟨c, e1, g _ _ e2⟩
  | own a ds => obtain ⟨e, vs, q, r⟩ := h; exact ⟨e, vs, k a (List.mem_singleton.mpr rfl) _ q, RpAll.up g ds vs r⟩
  | bag a n => obtain ⟨e, z, w, t, q, r⟩ := h; exact ⟨e, z, w, t, k a (List.mem_singleton.mpr rfl) _ q, r⟩
  | dI a kvs => obtain ⟨e, q⟩ := h; exact ⟨e, k a (List.mem_singleton.mpr rfl) _ q⟩
  | dP a kvs => obtain ⟨e, q⟩ := h; exact ⟨e, k a (List.mem_singleton.mpr rfl) _ q⟩
  | fI kvs => obtain ⟨a, e, q⟩ := h; exact ⟨a, e, g _ _ q⟩
  | obj C fs => obtain ⟨a, e, q⟩ := h; exact ⟨a, e, q.up g⟩
  | bo p C fs => obtain ⟨e, dx, vs, q, r⟩ := h; exact ⟨e, dx, vs, k p (.head _) _ q, r.up g fun a m => k a (.tail _ m)⟩
  | raw v => exact h
theorem SlotsOk.up {G G' H H' : Hp} (g : Same G G') : ∀ {σ : L2.St} {ρ : List Sl}, SlotsOk G H σ ρ → (∀ a ∈ os ρ, ∀ o, H a = some o → H' a = some o) → SlotsOk G' H' σ ρ
  | [], [], _, _ => trivial
  | x :: xs, s :: ss, h, k => ⟨h.1.up g fun a m => k a (List.mem_append_left _ m), SlotsOk.up g h.2 fun a m => k a (List.mem_append_right _ m)⟩
  | [], _ :: _, h, _ => h.elim
  | _ :: _, [], h, _ => h.elim
theorem SlotsOk.get {G H : Hp} : ∀ {σ : L2.St} {ρ : List Sl} {i : Nat} {s : Sl}, SlotsOk G H σ ρ → ρ[i]? = some s → ∃ x, σ[i]? = some x ∧ SlotOk G H x s
  | [], [], _, _, _, e => by simp at e
  | x :: xs, t :: ss, 0, s, h, e => ⟨x, rfl, by rw [List.getElem?_cons_zero] at e; cases e; exact h.1⟩
  | x :: xs, t :: ss, i + 1, s, h, e => by
    rw [List.getElem?_cons_succ] at e
    obtain ⟨y, e1, q⟩ := SlotsOk.get h.2 e
    exact ⟨y, by rw [List.getElem?_cons_succ]; exact e1, q⟩
  | [], _ :: _, _, _, h, _ => h.elim
  | _ :: _, [], _, _, h, _ => h.elim
theorem SlotsOk.set {G H : Hp} : ∀ {σ : L2.St} {ρ : List Sl} (i : Nat) {x : Option V} {s : Sl}, SlotsOk G H σ ρ → SlotOk G H x s → SlotsOk G H (σ.set i x) (ρ.set i s)
  | [], [], _, _, _, _, _ => trivial
  | y :: xs, t :: ss, 0, x, s, h, q => ⟨q, h.2⟩
  | y :: xs, t :: ss, i + 1, x, s, h, q => ⟨h.1, SlotsOk.set i h.2 q⟩
  | [], _ :: _, _, _, _, h, _ => h.elim
  | _ :: _, [], _, _, _, h, _ => h.elim
theorem SlotsOk.ad {G H : Hp} : ∀ {σ : L2.St} {ρ : List Sl}, SlotsOk G H σ ρ → ∀ a ∈ os ρ, H a ≠ none
  | [], [], _, a, m => nomatch m
  | x :: xs, s :: ss, h, a, m => by
    rcases List.mem_append.mp m with m | m
    · have q := h.1
      cases s with
      | non => exact nomatch m
      | dat d => exact nomatch m
      | any r => exact nomatch m
      | tb p q' => obtain ⟨_, e, _⟩ := q; rw [List.mem_singleton.mp m, e]; exact fun z => nomatch z
      | fI v => exact nomatch m
      | obj C fs => exact nomatch m
      | raw v => exact nomatch m
      | bo p C fs =>
        obtain ⟨_, dx, vs, e, r⟩ := q
        rcases List.mem_cons.mp m with z | z
        · rw [z, e]; exact fun z => nomatch z
        · exact r.ad a z
      | own b ds => obtain ⟨_, vs, e, _⟩ := q; rw [List.mem_singleton.mp m, e]; exact fun z => nomatch z
      | bag b n => obtain ⟨_, z, w, t, e, _⟩ := q; rw [List.mem_singleton.mp m, e]; exact fun z => nomatch z
      | dI b ds => obtain ⟨_, e⟩ := q; rw [List.mem_singleton.mp m, e]; exact fun z => nomatch z
      | dP b ds => obtain ⟨_, e⟩ := q; rw [List.mem_singleton.mp m, e]; exact fun z => nomatch z
    · exact SlotsOk.ad h.2 a m
  | [], _ :: _, h, _, _ => h.elim
  | _ :: _, [], h, _, _ => h.elim
theorem os_set_sub : ∀ {ρ : List Sl} {i : Nat} {s : Sl} {a : Addr}, a ∈ os (ρ.set i s) → a ∈ s.ad ∨ a ∈ os ρ
  | [], _, _, _, m => nomatch m
  | t :: r, 0, s, a, m => (List.mem_append.mp m).elim .inl fun z => .inr (List.mem_append_right _ z)
  | t :: r, i + 1, s, a, m => (List.mem_append.mp m).elim (fun z => .inr (List.mem_append_left _ z)) fun z => (os_set_sub z).elim .inl fun y => .inr (List.mem_append_right _ y)
theorem os_at : ∀ {ρ : List Sl} {i : Nat} {s : Sl} {a : Addr}, ρ[i]? = some s → a ∈ s.ad → a ∈ os ρ
  | [], _, _, _, e, _ => by simp at e
  | t :: r, 0, s, a, e, m => by
    rw [List.getElem?_cons_zero] at e; cases e
    exact List.mem_append_left _ m
  | t :: r, i + 1, s, a, e, m => by
    rw [List.getElem?_cons_succ] at e
    exact List.mem_append_right _ (os_at e m)
/-- one slot's own address is another's nowhere -/
theorem os_set_nodup : ∀ {ρ : List Sl} {i : Nat} {s : Sl}, (os ρ).Nodup → s.ad.Nodup → (∀ a ∈ s.ad, a ∉ os ρ) → (os (ρ.set i s)).Nodup
  | [], _, _, h, _, _ => h
  | t :: r, 0, s, h, n, d => by
    show (s.ad ++ os r).Nodup
    exact List.nodup_append.mpr ⟨n, (List.nodup_append.mp h).2.1, fun a ma b mb e => d a ma (List.mem_append_right _ (e ▸ mb))⟩
  | t :: r, i + 1, s, h, n, d => by
    show (t.ad ++ os (r.set i s)).Nodup
    obtain ⟨h1, h2, h3⟩ := List.nodup_append.mp h
    refine List.nodup_append.mpr ⟨h1, os_set_nodup h2 n (fun a m z => d a m (List.mem_append_right _ z)), fun a ma b mb e => ?_⟩
    rcases os_set_sub mb with z | z
    · exact d b z (List.mem_append_left _ (e ▸ ma))
    · exact h3 a ma b z e
/-- a slot whose address stays -/
theorem os_set_same : ∀ {ρ : List Sl} {i : Nat} {s t : Sl}, ρ[i]? = some t → s.ad = t.ad → os (ρ.set i s) = os ρ
  | [], _, _, _, e, _ => by simp at e
  | u :: r, 0, s, t, e, h => by
    rw [List.getElem?_cons_zero] at e; cases e
    show s.ad ++ os r = _ ++ os r
    rw [h]
  | u :: r, i + 1, s, t, e, h => by
    rw [List.getElem?_cons_succ] at e
    show u.ad ++ os (r.set i s) = u.ad ++ os r
    rw [os_set_same e h]
/-- a slot whose address goes -/
theorem os_set_out : ∀ {ρ : List Sl} {i : Nat} {s : Sl}, (os ρ).Nodup → s.ad = [] → (os (ρ.set i s)).Nodup := fun h e =>
  os_set_nodup h (by rw [e]; exact List.nodup_nil) fun a m => by rw [e] at m; cases m
/-- the slot that goes takes its address with it -/
theorem os_gone : ∀ {ρ : List Sl} {i : Nat} {s t : Sl} {a : Addr}, (os ρ).Nodup → ρ[i]? = some t → a ∈ t.ad → s.ad = [] → a ∉ os (ρ.set i s)
  | [], _, _, _, _, _, e, _, _ => by simp at e
  | u :: r, 0, s, t, a, h, e, m, g => by
    rw [List.getElem?_cons_zero] at e; cases e
    show a ∉ s.ad ++ os r
    rw [g, List.nil_append]
    exact fun z => (List.nodup_append.mp h).2.2 a m a z rfl
  | u :: r, i + 1, s, t, a, h, e, m, g => by
    rw [List.getElem?_cons_succ] at e
    obtain ⟨h1, h2, h3⟩ := List.nodup_append.mp h
    intro z
    rcases List.mem_append.mp (show a ∈ u.ad ++ os (r.set i s) from z) with z | z
    · exact h3 a z a (os_at e m) rfl
    · exact os_gone h2 e m g z

section
variable {F : Fm} {H H' : Hp} {σ : L2.St} {ρ ρ' : List Sl} {i : Nat} {v : V} {d : PyData} {a : Addr}
theorem Stt.ad (S : Stt F H σ ρ) : ∀ a ∈ F.hd ++ os ρ, H a ≠ none := fun a m => (List.mem_append.mp m).elim (S.hd a) (S.sl.ad a)
/-- the heap grows -/
theorem Stt.ext (S : Stt F H σ ρ) (e : Same H H') : Stt F H' σ ρ := by
  have up : ∀ a, H a ≠ none → H' a ≠ none := fun a h => by
    cases q : H a with
    | none => exact absurd q h
    | some o => rw [e a o q]; exact fun z => nomatch z
  exact ⟨fun a m => up a (S.hd a m), fun a o n q => e a o (S.fr a o n q), fun a h => up a (S.dm a h), S.nd, S.nw, S.ap, S.sl.up (mask_same e) fun a _ o q => e a o q⟩
theorem Stt.gext (S : Stt F H σ ρ) (e : Same H H') : Same (gh F ρ H) (gh F ρ H') := mask_same e
/-- a slot gets a datum -/
theorem Stt.set (S : Stt F H σ ρ) (i : Nat) {s : Sl} (hs : s.ad = []) (q : SlotOk (gh F ρ H) H (some v) s) : Stt F H (σ.set i (some v)) (ρ.set i s) := by
  have sub : ∀ a, a ∈ os (ρ.set i s) → a ∈ os ρ := fun a m => (os_set_sub m).elim (fun z => by rw [hs] at z; cases z) id
  have g : Same (gh F ρ H) (gh F (ρ.set i s) H) := mask_sub fun a m => (List.mem_append.mp m).elim (List.mem_append_left _) fun z => List.mem_append_right _ (sub a z)
  exact ⟨S.hd, S.fr, S.dm, os_set_out S.nd hs, fun a m => S.nw a (sub a m), fun a m => S.ap a (sub a m), (S.sl.set i q).up g fun _ _ _ e => e⟩
theorem Stt.gset (S : Stt F H σ ρ) (i : Nat) {s : Sl} (hs : s.ad = []) : Same (gh F ρ H) (gh F (ρ.set i s) H) :=
  mask_sub fun a m => (List.mem_append.mp m).elim (List.mem_append_left _) fun z => List.mem_append_right _ ((os_set_sub z).elim (fun z => by rw [hs] at z; cases z) id)
/-- a slot is forgotten, or what it owns becomes a datum -/
theorem Stt.wk (S : Stt F H σ ρ) (i : Nat) {s : Sl} (hs : s.ad = []) (q : ∀ x, σ[i]? = some x → SlotOk (gh F (ρ.set i s) H) H x s) : Stt F H σ (ρ.set i s) := by
  have sub : ∀ a, a ∈ os (ρ.set i s) → a ∈ os ρ := fun a m => (os_set_sub m).elim (fun z => by rw [hs] at z; cases z) id
  have g := S.gset i (ρ := ρ) hs
  have h2 := S.sl.up (G' := gh F (ρ.set i s) H) (H' := H) g fun _ _ _ e => e
  refine ⟨S.hd, S.fr, S.dm, os_set_out S.nd hs, fun a m => S.nw a (sub a m), fun a m => S.ap a (sub a m), ?_⟩
  by_cases hi : i < σ.length
  · have q' := q (σ[i]) (List.getElem?_eq_getElem hi)
    have h3 := h2.set i q'
    rw [List.set_getElem_self] at h3
    exact h3
  · have l : σ.length = ρ.length := by
      have : ∀ {σ : L2.St} {ρ : List Sl} {G H : Hp}, SlotsOk G H σ ρ → σ.length = ρ.length := by
        intro σ
        induction σ with
        | nil =>
          intro ρ G H h
          cases ρ with
          | nil => rfl
          | cons _ _ => exact h.elim
        | cons x xs ih =>
          intro ρ G H h
          cases ρ with
          | nil => exact h.elim
          | cons _ _ => rw [List.length_cons, List.length_cons, ih h.2]
      exact this S.sl
    have e : ρ.set i s = ρ := List.set_eq_of_length_le (by omega)
    rw [e]
    exact S.sl
theorem Stt.len (S : Stt F H σ ρ) : σ.length = ρ.length := by
  have : ∀ {σ : L2.St} {ρ : List Sl} {G H : Hp}, SlotsOk G H σ ρ → σ.length = ρ.length := by
    intro σ
    induction σ with
    | nil =>
      intro ρ G H h
      cases ρ with
      | nil => rfl
      | cons _ _ => exact h.elim
    | cons x xs ih =>
      intro ρ G H h
      cases ρ with
      | nil => exact h.elim
      | cons _ _ => rw [List.length_cons, List.length_cons, ih h.2]
  exact this S.sl
/-- an own list becomes a datum -/
theorem Stt.freeze {ds : List PyData} (S : Stt F H σ ρ) (e : ρ[i]? = some (.own a ds)) : Stt F H σ (ρ.set i (.dat (.list ds))) := by
  refine S.wk i rfl fun x hx => ?_
  obtain ⟨y, hy, e1, vs, q, r⟩ := S.sl.get e
  rw [hy] at hx; cases hx
  have g := S.gset (s := .dat (.list ds)) i (ρ := ρ) rfl
  refine ⟨_, e1, .lst ?_ (RpAll.up g ds vs r)⟩
  refine (mask_out fun m => ?_).trans q
  rcases List.mem_append.mp m with m | m
  · exact S.ap a (os_at e (List.mem_singleton.mpr rfl)) m
  · exact os_gone S.nd e (List.mem_singleton.mpr rfl) rfl m
/-- a slot gets a new object of one's own -/
theorem Stt.new (S : Stt F H σ ρ) (i : Nat) {s : Sl} (hn : H a = none) (e : Same H H') (hs : s.ad = [a]) (ha : H' a ≠ none) (q : SlotOk (mask (a :: (F.hd ++ os ρ)) H') H' (some v) s) : Stt F H' (σ.set i (some v)) (ρ.set i s) := by
  have S1 := S.ext e
  have no : a ∉ os ρ := fun m => S.sl.ad a m hn
  have sub : ∀ b, b ∈ os (ρ.set i s) → b = a ∨ b ∈ os ρ := fun b m => (os_set_sub m).elim (fun z => .inl (by rw [hs] at z; exact List.mem_singleton.mp z)) .inr
  have g1 : Same (mask (a :: (F.hd ++ os ρ)) H') (gh F (ρ.set i s) H') := mask_sub fun b m => (List.mem_append.mp m).elim (fun z => List.mem_cons_of_mem _ (List.mem_append_left _ z)) fun z =>
    (sub b z).elim (fun y => by rw [y]; exact List.mem_cons_self) fun y => List.mem_cons_of_mem _ (List.mem_append_right _ y)
  have g2 : Same (gh F ρ H) (mask (a :: (F.hd ++ os ρ)) H') := mask_mono (fun b m hb => (List.mem_cons.mp m).elim (fun z => absurd (z ▸ hn) hb) id) fun b o _ q => e b o q
  refine ⟨S1.hd, S1.fr, S1.dm, os_set_nodup S.nd (by rw [hs]; simp) (fun b m => by rw [hs] at m; rw [List.mem_singleton.mp m]; exact no), fun b m => ?_, fun b m => (sub b m).elim (fun z hb => S.hd b hb (z ▸ hn)) (S.ap b), ?_⟩
  · rcases sub b m with z | z
    · right
      cases h0 : F.H0 b with
      | none => rfl
      | some o => exact absurd (z ▸ hn) (S.dm b (by rw [h0]; exact fun z => nomatch z))
    · exact S.nw b z
  · exact ((S.sl.up (H' := H') g2 fun b _ o q => e b o q).set i q).up g1 fun _ _ _ e => e
theorem Stt.gnew (S : Stt F H σ ρ) (i : Nat) {s : Sl} (hn : H a = none) (e : Same H H') (hs : s.ad = [a]) : Same (gh F ρ H) (gh F (ρ.set i s) H') :=
  mask_mono (fun b m hb => (List.mem_append.mp m).elim (List.mem_append_left _) fun z => (os_set_sub z).elim (fun y => by rw [hs] at y; exact absurd ((List.mem_singleton.mp y) ▸ hn) hb) (List.mem_append_right _)) fun b o _ q => e b o q
/-- an own object is written -/
theorem Stt.wr (S : Stt F H σ ρ) {s t : Sl} {o : HO} (e : ρ[i]? = some t) (ht : t.ad = [a]) (hs : s.ad = [a]) (hx : ∀ x, SlotOk (gh F ρ H) H x t → SlotOk (gh F ρ (upd H a o)) (upd H a o) x s) : Stt F (upd H a o) σ (ρ.set i s) := by
  have eo : os (ρ.set i s) = os ρ := os_set_same e (by rw [hs, ht])
  have ma : a ∈ os ρ := os_at e (by rw [ht]; exact List.mem_singleton.mpr rfl)
  have ge : gh F ρ (upd H a o) = gh F ρ H := by
    funext b
    by_cases hb : b ∈ F.hd ++ os ρ
    · exact (mask_in hb).trans (mask_in hb).symm
    · exact (mask_out hb).trans ((upd_ne fun z => hb (by rw [z]; exact List.mem_append_right _ ma)).trans (mask_out hb).symm)
  have up : ∀ b, H b ≠ none → upd H a o b ≠ none := fun b h => by
    by_cases z : b = a
    · rw [z, upd_same]; exact fun z => nomatch z
    · rw [upd_ne z]; exact h
  refine ⟨fun b m => up b (S.hd b m), fun b u n q => ?_, fun b h => up b (S.dm b h), by rw [eo]; exact S.nd, fun b m => S.nw b (by rw [← eo]; exact m), fun b m => S.ap b (by rw [← eo]; exact m), ?_⟩
  · have nb : b ≠ a := fun z => by
      rcases S.nw a ma with y | y
      · exact n (by rw [z]; exact y)
      · rw [z, y] at q; cases q
    rw [upd_ne nb]
    exact S.fr b u n q
  · rw [show gh F (ρ.set i s) (upd H a o) = gh F ρ (upd H a o) by unfold gh; rw [eo]]
    rw [ge] at hx ⊢
    have go : ∀ {ρ' : List Sl} {σ : L2.St} {ρ : List Sl} {i : Nat}, SlotsOk (gh F ρ' H) H σ ρ → (os ρ).Nodup → ρ[i]? = some t → (∀ x, SlotOk (gh F ρ' H) H x t → SlotOk (gh F ρ' H) (upd H a o) x s) → SlotsOk (gh F ρ' H) (upd H a o) σ (ρ.set i s) := by
      intro ρ' σ
      induction σ with
      | nil =>
        intro ρ i h nd e hx
        cases ρ with
        | nil => simp at e
        | cons _ _ => exact h.elim
      | cons x xs ih =>
        intro ρ i h nd e hx
        cases ρ with
        | nil => exact h.elim
        | cons u r =>
          have other : ∀ {σ : L2.St} {ρ : List Sl} , SlotsOk (gh F ρ' H) H σ ρ → a ∉ os ρ → SlotsOk (gh F ρ' H) (upd H a o) σ ρ := fun {σ ρ} h n =>
            h.up (fun _ _ e => e) fun b m u q => by rw [upd_ne fun z => n (by rw [← z]; exact m)]; exact q
          obtain ⟨h1, h2, h3⟩ := List.nodup_append.mp nd
          cases i with
          | zero =>
            rw [List.getElem?_cons_zero] at e; cases e
            exact ⟨hx x h.1, other h.2 fun m => h3 a (by rw [ht]; exact List.mem_singleton.mpr rfl) a m rfl⟩
          | succ i =>
            rw [List.getElem?_cons_succ] at e
            have na : a ∉ u.ad := fun m => h3 a m a (os_at e (by rw [ht]; exact List.mem_singleton.mpr rfl)) rfl
            exact ⟨h.1.up (fun _ _ e => e) fun b m u q => by rw [upd_ne fun z => na (by rw [← z]; exact m)]; exact q, ih h.2 h2 e hx⟩
    exact go (ρ' := ρ) S.sl S.nd e hx
theorem Stt.gwr (S : Stt F H σ ρ) {s t : Sl} {o : HO} (e : ρ[i]? = some t) (ht : t.ad = [a]) (hs : s.ad = [a]) : Same (gh F ρ H) (gh F (ρ.set i s) (upd H a o)) := by
  have eo : os (ρ.set i s) = os ρ := os_set_same e (by rw [hs, ht])
  have ma : a ∈ os ρ := os_at e (by rw [ht]; exact List.mem_singleton.mpr rfl)
  intro b u q
  obtain ⟨h1, h2⟩ := mask_some q
  show mask (F.hd ++ os (ρ.set i s)) (upd H a o) b = some u
  rw [eo, mask_out h1, upd_ne fun z => h1 (by rw [z]; exact List.mem_append_right _ ma)]
  exact h2
end
end DL

namespace DL
open PySem PySem.Spec PyProof.Rows L2

/-! ### 4. the judgements over data -/
def KE (F : Fm) (σ : L2.St) (G : Hp) (Φ : PyData → List Sl → Prop) (Q : VK) : Prop :=
  ∀ v H' d ρ', Φ d ρ' → Stt F H' σ ρ' → Same G (gh F ρ' H') → Rp (gh F ρ' H') v d → Q v H'
def KT (F : Fm) (σ : L2.St) (G : Hp) (Φ : Bool → List Sl → Prop) (Q : Bool → Hp → Prop) : Prop :=
  ∀ b H' ρ', Φ b ρ' → Stt F H' σ ρ' → Same G (gh F ρ' H') → Q b H'
def KA (F : Fm) (σ : L2.St) (G : Hp) (Φ : List PyData → List Sl → Prop) (Q : List V → Hp → Prop) : Prop :=
  ∀ vs H' ds ρ', Φ ds ρ' → Stt F H' σ ρ' → Same G (gh F ρ' H') → RpAll (gh F ρ' H') vs ds → Q vs H'
def EE (X : Cx) (ρ : List Sl) (e : Expr) (Φ : PyData → List Sl → Prop) : Prop :=
  ∀ (F : Fm) (σ : L2.St) (H : Hp) (Q : VK), Stt F H σ ρ → KE F σ (gh F ρ H) Φ Q → tW X e σ H Q
def ET (X : Cx) (ρ : List Sl) (e : Expr) (Φ : Bool → List Sl → Prop) : Prop :=
  ∀ (F : Fm) (σ : L2.St) (H : Hp) (Q : Bool → Hp → Prop), Stt F H σ ρ → KT F σ (gh F ρ H) Φ Q → tT X e σ H Q
def EW (X : Cx) (ρ : List Sl) (e : Expr) (Φ : Bool → List Sl → Prop) : Prop :=
  ∀ (F : Fm) (σ : L2.St) (H : Hp) (Q : Bool → Hp → Prop), Stt F H σ ρ → KT F σ (gh F ρ H) Φ Q → tWW X e σ H Q
def EA (X : Cx) (ρ : List Sl) (es : List Expr) (Φ : List PyData → List Sl → Prop) : Prop :=
  ∀ (F : Fm) (σ : L2.St) (H : Hp) (Q : List V → Hp → Prop), Stt F H σ ρ → KA F σ (gh F ρ H) Φ Q → tA X es σ H Q
/-- js: the slots that the target stores -/
def GG (X : Cx) (ρ : List Sl) (tg : Expr) (d : PyData) (js : List Nat) (Φ : List Sl → Prop) : Prop :=
  ∀ (F : Fm) (σ : L2.St) (H : Hp) (v : V) (Q : L2.St → Hp → Prop), Stt F H σ ρ → Rp (gh F ρ H) v d → (∀ σ' ρ', Φ ρ' → Stt F H σ' ρ' → Same (gh F ρ H) (gh F ρ' H) → (σ'.length = σ.length ∧ ∀ i, i ∉ js → σ'[i]? = σ[i]?) → Q σ' H) → tG X tg v σ H Q
def GGs (X : Cx) (ρ : List Sl) (ts : List Expr) (ds : List PyData) (js : List Nat) (Φ : List Sl → Prop) : Prop :=
  ∀ (F : Fm) (σ : L2.St) (H : Hp) (vs : List V) (Q : L2.St → Hp → Prop), Stt F H σ ρ → RpAll (gh F ρ H) vs ds → (∀ σ' ρ', Φ ρ' → Stt F H σ' ρ' → Same (gh F ρ H) (gh F ρ' H) → (σ'.length = σ.length ∧ ∀ i, i ∉ js → σ'[i]? = σ[i]?) → Q σ' H) → tGs X ts vs σ H Q
structure DE where
  nx : List Sl → Prop
  rt : PyData → List Sl → Prop
  bk : List Sl → Prop := fun _ => False
  ct : List Sl → Prop := fun _ => False
structure KD (F : Fm) (G : Hp) (D : DE) (E : Ends) : Prop where
  nx : ∀ σ' H' ρ', D.nx ρ' → Stt F H' σ' ρ' → Same G (gh F ρ' H') → E.nx σ' H'
  rt : ∀ v σ' H' d ρ', D.rt d ρ' → Stt F H' σ' ρ' → Same G (gh F ρ' H') → Rp (gh F ρ' H') v d → E.rt v H'
  bk : ∀ σ' H' ρ', D.bk ρ' → Stt F H' σ' ρ' → Same G (gh F ρ' H') → E.bk σ' H'
  ct : ∀ σ' H' ρ', D.ct ρ' → Stt F H' σ' ρ' → Same G (gh F ρ' H') → E.ct σ' H'
def SS (X : Cx) (ρ : List Sl) (st : Stmt) (D : DE) : Prop :=
  ∀ (F : Fm) (σ : L2.St) (H : Hp) (E : Ends), Stt F H σ ρ → KD F (gh F ρ H) D E → tS X st E σ H
def BB (X : Cx) (ρ : List Sl) (sts : List Stmt) (D : DE) : Prop :=
  ∀ (F : Fm) (σ : L2.St) (H : Hp) (E : Ends), Stt F H σ ρ → KD F (gh F ρ H) D E → tB X sts E σ H
theorem KD.to {F : Fm} {G G' : Hp} {D : DE} {E : Ends} (k : KD F G D E) (g : Same G G') : KD F G' D E :=
  ⟨fun σ H ρ a b c => k.nx σ H ρ a b (g.trans c), fun v σ H d ρ a b c r => k.rt v σ H d ρ a b (g.trans c) r, fun σ H ρ a b c => k.bk σ H ρ a b (g.trans c), fun σ H ρ a b c => k.ct σ H ρ a b (g.trans c)⟩
/-- what every context of ours has -/
def bNames : List Str := ["len", "range", "zip", "enumerate", "sum", "min", "max", "all", "isinstance", "tuple", "list", "dict", "sorted", "int", "bool", "str"]
structure CK (X : Cx) : Prop where
  calm : X.calm = true
  nd : X.N.Nodup
  hu : X.A.units + 100 < cLine
  bt : ∀ x ∈ bNames, X.mg x = none
section
variable {X : Cx} {ρ : List Sl} {e a b c : Expr} {pos : Pos} {Φ : PyData → List Sl → Prop} {Ψ : Bool → List Sl → Prop} {D : DE}
theorem EE.mono {Φ' : PyData → List Sl → Prop} (h : EE X ρ e Φ) (m : ∀ d ρ', Φ d ρ' → Φ' d ρ') : EE X ρ e Φ' := fun F σ H Q S k => h F σ H Q S fun v H' d ρ' a => k v H' d ρ' (m d ρ' a)
theorem ET.mono {Ψ' : Bool → List Sl → Prop} (h : ET X ρ e Ψ) (m : ∀ d ρ', Ψ d ρ' → Ψ' d ρ') : ET X ρ e Ψ' := fun F σ H Q S k => h F σ H Q S fun v H' ρ' a => k v H' ρ' (m v ρ' a)
theorem BB.mono {sts : List Stmt} {D' : DE} (h : BB X ρ sts D) (h1 : ∀ ρ', D.nx ρ' → D'.nx ρ') (h2 : ∀ d ρ', D.rt d ρ' → D'.rt d ρ') (h3 : ∀ ρ', D.bk ρ' → D'.bk ρ') (h4 : ∀ ρ', D.ct ρ' → D'.ct ρ') : BB X ρ sts D' :=
  fun F σ H E S k => h F σ H E S ⟨fun σ H ρ a => k.nx σ H ρ (h1 ρ a), fun v σ H d ρ a => k.rt v σ H d ρ (h2 d ρ a), fun σ H ρ a => k.bk σ H ρ (h3 ρ a), fun σ H ρ a => k.ct σ H ρ (h4 ρ a)⟩

/-! ### names and constants -/
theorem ee_var (i : Nat) {x : Str} {d : PyData} (hs : ρ[i]? = some (.dat d)) (q : Φ d ρ) (hN : X.N[i]? = some x := by rfl) (hv : Vis X.env.scope x := by first | exact Or.inl rfl | exact Or.inr (Or.inl rfl) | exact Or.inr (Or.inr rfl))
    (hd : (x == ("__debug__" : Str)) = false := by decide) (hcd : (x == ("__classdict__" : Str)) = false := by decide) : EE X ρ (.Name x pos) Φ := fun F σ H Q S k => by
  obtain ⟨y, e1, v, e2, r⟩ := S.sl.get hs
  subst e2
  exact ofPE (pe_var hN hv hd hcd) ⟨v, e1, k v H d ρ q S (Same.refl _) r⟩
/-- a name whose slot is told by a value -/
theorem tw_var (i : Nat) {x : Str} {v : V} {σ : L2.St} {H : Hp} {Q : VK} (hs : σ[i]? = some (some v)) (q : Q v H) (hN : X.N[i]? = some x := by rfl) (hv : Vis X.env.scope x := by first | exact Or.inl rfl | exact Or.inr (Or.inl rfl) | exact Or.inr (Or.inr rfl))
    (hd : (x == ("__debug__" : Str)) = false := by decide) (hcd : (x == ("__classdict__" : Str)) = false := by decide) : tW X (.Name x pos) σ H Q := ofPE (pe_var hN hv hd hcd) ⟨v, hs, q⟩
theorem ee_int {i : Int} {j} (q : Φ (.int i) ρ) : EE X ρ (.Constant (.int i) j pos) Φ := fun F σ H Q S k => ofPE pe_int (k _ H _ ρ q S (Same.refl _) (.int i))
theorem ee_bl {i : Bool} {j} (q : Φ (.bool i) ρ) : EE X ρ (.Constant (.bool i) j pos) Φ := fun F σ H Q S k => ofPE pe_bl (k _ H _ ρ q S (Same.refl _) (.bl i))
theorem ee_non {j} (q : Φ .none ρ) : EE X ρ (.Constant .none j pos) Φ := fun F σ H Q S k => ofPE pe_non (k _ H _ ρ q S (Same.refl _) .non)
theorem ee_str {i : Str} {j} (q : Φ (.str i) ρ) : EE X ρ (.Constant (.str i) j pos) Φ := fun F σ H Q S k => ofPE pe_str (k _ H _ ρ q S (Same.refl _) (.str i))
theorem ee_globI {x : Str} {i : Int} {t : Tok} (hm : X.mg x = some (.int i t)) (q : Φ (.int i) ρ) (hg : Gl X x := by rfl) (hd : (x == ("__debug__" : Str)) = false := by decide) : EE X ρ (.Name x pos) Φ :=
  fun F σ H Q S k => ofPE (pe_glob (v := .int i) hg hm ⟨t, rfl⟩ hd) (k _ H _ ρ q S (Same.refl _) (.int i))

/-! ### operators -/
def R2D (r : R2) (da db : PyData) (ρ : List Sl) (Φ : PyData → List Sl → Prop) : Prop :=
  ∀ (F : Fm) (σ : L2.St) (H : Hp) (x y : V) (Q : VK), Stt F H σ ρ → Rp (gh F ρ H) x da → Rp (gh F ρ H) y db → KE F σ (gh F ρ H) Φ Q → r x y H Q
theorem KE.to {F : Fm} {σ : L2.St} {G G' : Hp} {Q : VK} (k : KE F σ G Φ Q) (g : Same G G') : KE F σ G' Φ Q := fun v H d ρ a b c r => k v H d ρ a b (g.trans c) r
theorem KT.to {F : Fm} {σ : L2.St} {G G' : Hp} {Q : Bool → Hp → Prop} (k : KT F σ G Ψ Q) (g : Same G G') : KT F σ G' Ψ Q := fun v H ρ a b c => k v H ρ a b (g.trans c)
theorem KA.to {F : Fm} {σ : L2.St} {G G' : Hp} {Φ : List PyData → List Sl → Prop} {Q : List V → Hp → Prop} (k : KA F σ G Φ Q) (g : Same G G') : KA F σ G' Φ Q := fun v H d ρ a b c r => k v H d ρ a b (g.trans c) r
/-- two expressions in a row -/
theorem two {F : Fm} {σ : L2.St} {H : Hp} {Θ : PyData → PyData → List Sl → Prop} (h : EE X ρ a fun da ρ1 => EE X ρ1 b fun db ρ2 => Θ da db ρ2) (S : Stt F H σ ρ) {R : V → V → Hp → Prop}
    (hR : ∀ x y H' da db ρ', Θ da db ρ' → Stt F H' σ ρ' → Same (gh F ρ H) (gh F ρ' H') → Rp (gh F ρ' H') x da → Rp (gh F ρ' H') y db → R x y H') : tW X a σ H fun x H1 => tW X b σ H1 fun y H2 => R x y H2 :=
  h F σ H _ S fun x H1 da ρ1 h1 S1 g1 r1 => h1 F σ H1 _ S1 fun y H2 db ρ2 h2 S2 g2 r2 => hR x y H2 da db ρ2 h2 S2 (g1.trans g2) (Rp.up g2 da x r1) r2
theorem ee_op {op : Operator} {r : R2} (ho : OpR X (binaryOp op) r) (h : EE X ρ a fun da ρ1 => EE X ρ1 b fun db ρ2 => R2D r da db ρ2 Φ) : EE X ρ (.BinOp a op b pos) Φ := fun F σ H Q S k =>
  ofPE (pe_op ho peW peW) (two h S fun x y H2 da db ρ2 h2 S2 g r1 r2 => h2 F σ H2 x y Q S2 r1 r2 (k.to g))
theorem OpR.or {f : Value → Value → Sem Value} {r r' : R2} (h : OpR X f r) (h' : OpR X f r') : OpR X f (fun x y H Q => r x y H Q ∨ r' x y H Q) := fun pins s σ H x y v u Q I rx ry q =>
  q.elim (h pins s σ H x y v u Q I rx ry) (h' pins s σ H x y v u Q I rx ry)
theorem big_le {n : Nat} (h : n ≤ 1000000) : n ≤ sizeLine := Nat.le_trans h (by decide)
theorem big_lt {n : Nat} (h : n < 1000000) : n < sizeLine := Nat.lt_of_lt_of_le h (by decide)
/-- a new object that is a datum from the start -/
theorem KE.new {F : Fm} {σ : L2.St} {H : Hp} {Q : VK} {p : Addr} {o : HO} {d : PyData} (k : KE F σ (gh F ρ H) Φ Q) (S : Stt F H σ ρ) (hp : H p = none) (q : Φ d ρ) (r : (gh F ρ (upd H p o)) p = some o → Rp (gh F ρ (upd H p o)) (.ref p) d) : Q (.ref p) (upd H p o) := by
  have e := same_new (o := o) hp
  refine k _ _ d ρ q (S.ext e) (mask_same e) (r ?_)
  exact (mask_out fun m => S.ad p m hp).trans upd_same
theorem KE.same {F : Fm} {σ : L2.St} {H : Hp} {Q : VK} {v : V} {d : PyData} (k : KE F σ (gh F ρ H) Φ Q) (S : Stt F H σ ρ) (q : Φ d ρ) (r : Rp (gh F ρ H) v d) : Q v H := k v H d ρ q S (Same.refl _) r

@[reducible] def addK : PyData → PyData → (PyData → Prop) → Prop
  | .int i, .int j, k => k (.int (i + j))
  | .list xs, .list ys, k => xs.length + ys.length ≤ 1000000 ∧ k (.list (xs ++ ys))
  | .tuple xs, .tuple ys, k => xs.length + ys.length ≤ 1000000 ∧ k (.tuple (xs ++ ys))
  | _, _, _ => False
theorem ee_add (h : EE X ρ a fun da ρ1 => EE X ρ1 b fun db ρ2 => addK da db fun d => Φ d ρ2) : EE X ρ (.BinOp a .Add b pos) Φ := by
  refine ee_op (OpR.or op_add (OpR.or op_cat op_catA)) (h.mono fun da ρ1 h1 => h1.mono fun db ρ2 h2 => fun F σ H x y Q S rx ry k => ?_)
  cases da <;> cases db <;> first | exact h2.elim | skip
  · cases rx
    cases ry
    exact .inl ⟨_, _, rfl, rfl, k.same S h2 (.int _)⟩
  · cases rx with
    | lst e1 r1 =>
      cases ry with
      | lst e2 r2 =>
        refine .inr (.inl ⟨_, _, _, _, rfl, rfl, mask_le _ _ e1, mask_le _ _ e2, big_le (by rw [r1.length, r2.length]; exact h2.1), fun p hp => ?_⟩)
        exact k.new S hp h2.2 fun e => .lst e ((RpAll.up (mask_same (same_new hp)) _ _ r1).app (RpAll.up (mask_same (same_new hp)) _ _ r2))
  · cases rx with
    | tup e1 r1 =>
      cases ry with
      | tup e2 r2 =>
        have l1 := r1.length
        have l2 := r2.length
        refine .inr (.inr ⟨_, _, _, _, rfl, rfl, .of (mask_le _ _ e1), .of (mask_le _ _ e2), big_le (by rw [l1, l2]; exact h2.1), fun z => ?_, fun _ z => ?_, fun _ _ p hp => ?_⟩)
        · subst z
          cases r1
          exact k.same S h2.2 (.tup e2 r2)
        · subst z
          cases r2
          have h3 := h2.2
          simp only [List.append_nil] at h3
          exact k.same S h3 (.tup e1 r1)
        · exact k.new S hp h2.2 fun e => .tup e ((RpAll.up (mask_same (same_new hp)) _ _ r1).app (RpAll.up (mask_same (same_new hp)) _ _ r2))
@[reducible] def intK (f : Int → Int → (PyData → Prop) → Prop) : PyData → PyData → (PyData → Prop) → Prop
  | .int i, .int j, k => f i j k
  | _, _, _ => False
theorem intK_ints {f : Int → Int → (PyData → Prop) → Prop} {da db : PyData} {k : PyData → Prop} (h : intK f da db k) : ∃ i j, da = .int i ∧ db = .int j ∧ f i j k := by
  cases da <;> cases db <;> first | exact h.elim | exact ⟨_, _, rfl, rfl, h⟩
theorem ee_sub (h : EE X ρ a fun da ρ1 => EE X ρ1 b fun db ρ2 => intK (fun i j k => k (.int (i - j))) da db fun d => Φ d ρ2) : EE X ρ (.BinOp a .Sub b pos) Φ := by
  refine ee_op op_sub (h.mono fun da ρ1 h1 => h1.mono fun db ρ2 h2 => fun F σ H x y Q S rx ry k => ?_)
  obtain ⟨i, j, rfl, rfl, h2⟩ := intK_ints h2
  cases rx
  cases ry
  exact ⟨_, _, rfl, rfl, k.same S h2 (.int _)⟩
@[reducible] def mulK : PyData → PyData → (PyData → Prop) → Prop
  | .int i, .int j, k => CMul i j ∧ k (.int (i * j))
  | .list xs, .int j, k => (j ≤ 1000000 ∧ -1000000 ≤ j ∧ xs.length * j.toNat ≤ 1000000) ∧ k (.list (List.replicate j.toNat xs).flatten)
  | .tuple xs, .int j, k => (xs ≠ [] ∧ 2 ≤ j ∧ j ≤ 1000 ∧ xs.length ≤ 1000) ∧ k (.tuple (List.replicate j.toNat xs).flatten)
  | _, _, _ => False
theorem ee_mul (h : EE X ρ a fun da ρ1 => EE X ρ1 b fun db ρ2 => mulK da db fun d => Φ d ρ2) : EE X ρ (.BinOp a .Mult b pos) Φ := by
  refine ee_op (OpR.or op_mul (OpR.or op_rep op_repT)) (h.mono fun da ρ1 h1 => h1.mono fun db ρ2 h2 => fun F σ H x y Q S rx ry k => ?_)
  cases da <;> cases db <;> first | exact h2.elim | skip
  · cases rx
    cases ry
    exact .inl ⟨_, _, rfl, rfl, h2.1, k.same S h2.2 (.int _)⟩
  · cases ry
    cases rx with
    | lst e1 r1 =>
      obtain ⟨⟨h3, h4, h5⟩, h6⟩ := h2
      refine .inr (.inl ⟨_, _, _, rfl, rfl, mask_le _ _ e1, by omega, by omega, big_le (by rw [r1.length]; exact h5), fun p hp => ?_⟩)
      exact k.new S hp h6 fun e => .lst e (RpAll.repF (RpAll.up (mask_same (same_new hp)) _ _ r1) _)
  · cases ry
    cases rx with
    | tup e1 r1 =>
      obtain ⟨⟨h3, h4, h5, h7⟩, h6⟩ := h2
      have l1 := r1.length
      refine .inr (.inr ⟨_, _, _, rfl, rfl, .of (mask_le _ _ e1), fun z => h3 (List.eq_nil_of_length_eq_zero (by rw [← l1, z]; rfl)), h4, h5, by rw [l1]; exact h7, fun p hp => ?_⟩)
      exact k.new S hp h6 fun e => .tup e (RpAll.repF (RpAll.up (mask_same (same_new hp)) _ _ r1) _)
theorem ee_mod (h : EE X ρ a fun da ρ1 => EE X ρ1 b fun db ρ2 => intK (fun i j k => 0 < j ∧ k (.int (i % j))) da db fun d => Φ d ρ2) : EE X ρ (.BinOp a .Mod b pos) Φ := by
  refine ee_op op_mod (h.mono fun da ρ1 h1 => h1.mono fun db ρ2 h2 => fun F σ H x y Q S rx ry k => ?_)
  obtain ⟨i, j, rfl, rfl, h2⟩ := intK_ints h2
  cases rx
  cases ry
  exact ⟨_, _, rfl, rfl, h2.1, k.same S h2.2 (.int _)⟩
theorem ee_fdiv (h : EE X ρ a fun da ρ1 => EE X ρ1 b fun db ρ2 => intK (fun i j k => (0 < j ∧ j < 1073741824) ∧ k (.int (i / j))) da db fun d => Φ d ρ2) : EE X ρ (.BinOp a .FloorDiv b pos) Φ := by
  refine ee_op op_fdiv (h.mono fun da ρ1 h1 => h1.mono fun db ρ2 h2 => fun F σ H x y Q S rx ry k => ?_)
  obtain ⟨i, j, rfl, rfl, h2⟩ := intK_ints h2
  cases rx
  cases ry
  exact ⟨_, _, rfl, rfl, h2.1, k.same S h2.2 (.int _)⟩
theorem ee_pow (h : EE X ρ a fun da ρ1 => EE X ρ1 b fun db ρ2 => intK (fun i j k => (0 ≤ j ∧ j ≤ 1000000 ∧ i.natAbs < 2 ^ 64) ∧ k (.int (i ^ j.toNat))) da db fun d => Φ d ρ2) : EE X ρ (.BinOp a .Pow b pos) Φ := by
  refine ee_op op_pow (h.mono fun da ρ1 h1 => h1.mono fun db ρ2 h2 => fun F σ H x y Q S rx ry k => ?_)
  obtain ⟨i, j, rfl, rfl, h2⟩ := intK_ints h2
  cases rx
  cases ry
  exact ⟨_, _, rfl, rfl, h2.1, k.same S h2.2 (.int _)⟩
theorem ee_neg (h : EE X ρ a fun da ρ1 => ∃ i, da = .int i ∧ Φ (.int (-i)) ρ1) : EE X ρ (.UnaryOp .USub a pos) Φ := fun F σ H Q S k =>
  ofPE (pe_un un_neg peW) (h F σ H _ S fun v H' d ρ' ⟨i, e, q⟩ S' g r => by
    subst e
    cases r
    exact ⟨i, rfl, k _ H' _ ρ' q S' g (.int _)⟩)

/-! ### comparisons -/
@[reducible] def eqK : PyData → PyData → (Bool → Prop) → Prop
  | .int i, .int j, k => k (decide (i = j))
  | .bool i, .bool j, k => k (decide (i = j))
  | d, e, k => (SeqAt.shaped d = true ∧ SeqAt.shaped e = true) ∧ k (PyData.eqv d e)
@[reducible] def cmpK (f : Int → Int → Bool) : PyData → PyData → (Bool → Prop) → Prop
  | .int i, .int j, k => k (f i j)
  | _, _, _ => False
/-- what a comparison gives, over data -/
def BR (X : Cx) (op : CmpOp) (da db : PyData) (k : Bool → Prop) : Prop :=
  ∀ (F : Fm) (σ : L2.St) (H : Hp) (ρ : List Sl) (x y : V), Stt F H σ ρ → Rp (gh F ρ H) x da → Rp (gh F ρ H) y db → ∃ r : R2, OpR X (compareOp op) r ∧ ∀ Q : VK, (∀ c, k c → Q (.bl c) H) → r x y H Q
theorem dec_iV {i j : Int} : decide (V.int i = V.int j) = decide (i = j) := by simp
theorem dec_bV {i j : Bool} : decide (V.bl i = V.bl j) = decide (i = j) := by simp
theorem br_eq (ck : CK X) {da db : PyData} {k : Bool → Prop} (h : eqK da db k) : BR X .Eq da db k := fun F σ H ρ x y S rx ry => by
  refine ⟨_, OpR.or op_eq (op_eqD (by have := ck.hu; omega)), fun Q q => ?_⟩
  have go : (SeqAt.shaped da = true ∧ SeqAt.shaped db = true) ∧ k (PyData.eqv da db) → (rEqD X.K x y H Q) := fun h => ⟨da, db, (Rp.up mask_le _ _ rx).dp, (Rp.up mask_le _ _ ry).dp, h.1.1, h.1.2, q _ h.2⟩
  cases da <;> cases db <;> first
    | exact .inr (go h)
    | (cases rx; cases ry; refine .inl ⟨rfl, ?_⟩; have h' := q _ h; first | (rw [dec_iV]; exact h') | (rw [dec_bV]; exact h'))
theorem br_ne (ck : CK X) {da db : PyData} {k : Bool → Prop} (h : eqK da db fun c => k (!c)) : BR X .NotEq da db k := fun F σ H ρ x y S rx ry => by
  refine ⟨_, OpR.or op_ne (op_neD (by have := ck.hu; omega)), fun Q q => ?_⟩
  have go : (SeqAt.shaped da = true ∧ SeqAt.shaped db = true) ∧ k (!PyData.eqv da db) → (rNeD X.K x y H Q) := fun h => ⟨da, db, (Rp.up mask_le _ _ rx).dp, (Rp.up mask_le _ _ ry).dp, h.1.1, h.1.2, q _ h.2⟩
  cases da <;> cases db <;> first
    | exact .inr (go h)
    | (cases rx; cases ry; refine .inl ⟨rfl, ?_⟩; have h' := q _ h; first | (rw [dec_iV]; exact h') | (rw [dec_bV]; exact h'))
theorem br_ints {op : CmpOp} {f : Int → Int → Bool} (ho : OpR X (compareOp op) (rI0 fun i j => .bl (f i j))) {da db : PyData} {k : Bool → Prop} (h : cmpK f da db k) : BR X op da db k := fun F σ H ρ x y S rx ry => by
  refine ⟨_, ho, fun Q q => ?_⟩
  cases da <;> cases db <;> first | exact h.elim | skip
  cases rx
  cases ry
  exact ⟨_, _, rfl, rfl, q _ h⟩
theorem br_lt {da db : PyData} {k : Bool → Prop} (h : cmpK (fun i j => decide (i < j)) da db k) : BR X .Lt da db k := br_ints op_lt h
theorem br_le {da db : PyData} {k : Bool → Prop} (h : cmpK (fun i j => decide (i ≤ j)) da db k) : BR X .LtE da db k := br_ints op_le h
theorem br_gt {da db : PyData} {k : Bool → Prop} (h : cmpK (fun i j => decide (j < i)) da db k) : BR X .Gt da db k := br_ints op_gt h
theorem br_ge {da db : PyData} {k : Bool → Prop} (h : cmpK (fun i j => decide (j ≤ i)) da db k) : BR X .GtE da db k := br_ints op_ge h
@[reducible] def isNone : PyData → Bool
  | .none => true
  | _ => false
theorem rp_none {G : Hp} {x : V} {d : PyData} (r : Rp G x d) : decide (x = .non) = isNone d := by
  cases r <;> rfl
theorem br_isN {da : PyData} {k : Bool → Prop} (h : k (isNone da)) : BR X .Is da .none k := fun F σ H ρ x y S rx ry => by
  cases ry
  exact ⟨_, op_isN, fun Q q => ⟨rfl, by rw [rp_none rx]; exact q _ h⟩⟩
theorem br_notN {da : PyData} {k : Bool → Prop} (h : k (!isNone da)) : BR X .IsNot da .none k := fun F σ H ρ x y S rx ry => by
  cases ry
  exact ⟨_, op_notN, fun Q q => ⟨rfl, by rw [rp_none rx]; exact q _ h⟩⟩
theorem br_isB {i j : Bool} {k : Bool → Prop} (h : k (decide (i = j))) : BR X .Is (.bool i) (.bool j) k := fun F σ H ρ x y S rx ry => by
  cases rx
  cases ry
  exact ⟨_, op_isBl, fun Q q => ⟨_, _, rfl, rfl, q _ h⟩⟩
theorem br_notB {i j : Bool} {k : Bool → Prop} (h : k (!decide (i = j))) : BR X .IsNot (.bool i) (.bool j) k := fun F σ H ρ x y S rx ry => by
  cases rx
  cases ry
  exact ⟨_, op_notBl, fun Q q => ⟨_, _, rfl, rfl, q _ h⟩⟩
/-- a comparison, its operator's rule told where both sides are known: by a reading that hangs on the heap -/
def rAnyOf (X : Cx) (op : CmpOp) : R2 := fun x y H Q => ∃ r : R2, OpR X (compareOp op) r ∧ r x y H Q
theorem op_anyOf {op : CmpOp} : OpR X (compareOp op) (rAnyOf X op) := fun pins s σ H x y v u Q I rx ry ⟨r, h, q⟩ => h pins s σ H x y v u Q I rx ry q
theorem ee_cmp {op : CmpOp} (h : EE X ρ a fun da ρ1 => EE X ρ1 b fun db ρ2 => BR X op da db fun c => Φ (.bool c) ρ2) (hm : behindInMarks op b = false := by first | exact nomark _ | with_unfolding_all rfl) : EE X ρ (.Compare a [op] [b] pos) Φ := fun F σ H Q S k =>
  ofPE (pe_cmpR op_anyOf peW peW hm) (two h S fun x y H2 da db ρ2 h2 S2 g r1 r2 => by
    obtain ⟨r, ho, q⟩ := h2 F σ H2 ρ2 x y S2 r1 r2
    exact ⟨r, ho, q _ fun c hc => k _ H2 _ ρ2 hc S2 g (.bl c)⟩)
theorem et_cmp {op : CmpOp} (h : EE X ρ a fun da ρ1 => EE X ρ1 b fun db ρ2 => BR X op da db fun c => Ψ c ρ2) (hm : behindInMarks op b = false := by first | exact nomark _ | with_unfolding_all rfl) : ET X ρ (.Compare a [op] [b] pos) Ψ := fun F σ H Q S k =>
  ofPT (pt_cmpR op_anyOf peW peW hm) (two h S fun x y H2 da db ρ2 h2 S2 g r1 r2 => by
    obtain ⟨r, ho, q⟩ := h2 F σ H2 ρ2 x y S2 r1 r2
    exact ⟨r, ho, q _ fun c hc => ⟨c, rfl, k c H2 ρ2 hc S2 g⟩⟩)
theorem chain_core {F : Fm} {σ : L2.St} {H : Hp} {Q : VK} {op op' : CmpOp} (h : EE X ρ a fun da ρ1 => EE X ρ1 b fun db ρ2 => BR X op da db fun k => if k = true then (EE X ρ2 c fun dc ρ3 => BR X op' db dc fun k' => Φ (.bool k') ρ3) else Φ (.bool false) ρ2)
    (S : Stt F H σ ρ) (k : KE F σ (gh F ρ H) Φ Q) : tChain (rAnyOf X op) (rAnyOf X op') (tW X a) (tW X b) (tW X c) σ H Q := by
  refine two h S fun x y H2 da db ρ2 h2 S2 g r1 r2 => ?_
  obtain ⟨r, ho, q⟩ := h2 F σ H2 ρ2 x y S2 r1 r2
  refine ⟨r, ho, q _ fun b hb => ⟨b, rfl, ?_⟩⟩
  cases b with
  | false =>
    refine iteF (k _ H2 _ ρ2 ?_ S2 g (.bl false))
    rw [if_neg Bool.false_ne_true] at hb
    exact hb
  | true =>
    rw [if_pos rfl] at hb
    refine iteT (hb F σ H2 _ S2 fun z H3 dc ρ3 h3 S3 g3 r3 => ?_)
    obtain ⟨r', ho', q'⟩ := h3 F σ H3 ρ3 y z S3 (Rp.up g3 _ _ r2) r3
    exact ⟨r', ho', q' _ fun c hc => k _ H3 _ ρ3 hc S3 (g.trans g3) (.bl c)⟩
theorem ee_chain {op op' : CmpOp} (h : EE X ρ a fun da ρ1 => EE X ρ1 b fun db ρ2 => BR X op da db fun k => if k = true then (EE X ρ2 c fun dc ρ3 => BR X op' db dc fun k' => Φ (.bool k') ρ3) else Φ (.bool false) ρ2)
    (hm : lastMarks [op, op'] [b, c] = false := by with_unfolding_all rfl) : EE X ρ (.Compare a [op, op'] [b, c] pos) Φ := fun F σ H Q S k => ofPE (pe_chain op_anyOf op_anyOf peW peW peW hm) (chain_core h S k)
theorem et_chain {op op' : CmpOp} (h : EE X ρ a fun da ρ1 => EE X ρ1 b fun db ρ2 => BR X op da db fun k => if k = true then (EE X ρ2 c fun dc ρ3 => BR X op' db dc fun k' => Ψ k' ρ3) else Ψ false ρ2)
    (hm : lastMarks [op, op'] [b, c] = false := by with_unfolding_all rfl) : ET X ρ (.Compare a [op, op'] [b, c] pos) Ψ := fun F σ H Q S k =>
  ofPT (pt_chain op_anyOf op_anyOf peW peW peW hm) (chain_core (Φ := fun d ρ => ∃ b, d = .bool b ∧ Ψ b ρ) (h.mono fun da ρ1 h1 => h1.mono fun db ρ2 h2 => fun F σ H ρ x y S rx ry => by
    obtain ⟨r, ho, q⟩ := h2 F σ H ρ x y S rx ry
    refine ⟨r, ho, fun Q q' => q Q fun c hc => q' c ?_⟩
    cases c with
    | false =>
      rw [if_neg Bool.false_ne_true] at hc ⊢
      exact ⟨_, rfl, hc⟩
    | true =>
      rw [if_pos rfl] at hc ⊢
      refine hc.mono fun dc ρ3 h3 => fun F σ H ρ x y S rx ry => ?_
      obtain ⟨r, ho, q⟩ := h3 F σ H ρ x y S rx ry
      exact ⟨r, ho, fun Q q' => q Q fun c hc => q' c ⟨_, rfl, hc⟩⟩) S fun v H' d ρ' ⟨b, e, hb⟩ S' g r => by
    subst e
    cases r
    exact ⟨b, rfl, k b H' ρ' hb S' g⟩)

/-! ### and, or, not, if -/
theorem et_val (h : EE X ρ e fun d ρ1 => ∃ c, d = .bool c ∧ Ψ c ρ1) (he : ∀ whole, isTrue e X.env whole = (do let v ← whole; standAt e.pos; holding [v] (truthy v)) := by intro _; rfl) : ET X ρ e Ψ := fun F σ H Q S k =>
  ofPT (pt_val peW he) (h F σ H _ S fun v H' d ρ' ⟨c, ec, q⟩ S' g r => by
    subst ec
    cases r
    exact ⟨c, rfl, k c H' ρ' q S' g⟩)
theorem et_not (h : ET X ρ a fun c ρ1 => Ψ (!c) ρ1) : ET X ρ (.UnaryOp .Not a pos) Ψ := fun F σ H Q S k => ofPT (pt_not ptW) (h F σ H _ S fun c H' ρ' q S' g => k _ H' ρ' q S' g)
theorem et_bool {op : BoolOp} {xs : List Expr} (h : EW X ρ (.BoolOp op xs pos) Ψ) : ET X ρ (.BoolOp op xs pos) Ψ := fun F σ H Q S k => ofPT (PW.pt pwW) (h F σ H Q S k)
theorem ew_one {op : BoolOp} (h : ET X ρ a Ψ) : EW X ρ (.BoolOp op [a] pos) Ψ := fun F σ H Q S k => by
  cases op with
  | And => exact ofPW (pw_and1 ptW) (h F σ H Q S k)
  | Or => exact ofPW (pw_or1 ptW) (h F σ H Q S k)
theorem ew_and {r : List Expr} (h : ET X ρ a fun c ρ1 => if c = true then EW X ρ1 (.BoolOp .And (b :: r) pos) Ψ else Ψ false ρ1) : EW X ρ (.BoolOp .And (a :: b :: r) pos) Ψ := fun F σ H Q S k =>
  ofPW (pw_and ptW pwW) (h F σ H _ S fun c H' ρ' q S' g => by
    cases c with
    | true => rw [if_pos rfl] at q; exact iteT (q F σ H' Q S' (k.to g))
    | false => rw [if_neg Bool.false_ne_true] at q; exact iteF (k _ H' ρ' q S' g))
theorem ew_or {r : List Expr} (h : ET X ρ a fun c ρ1 => if c = true then Ψ true ρ1 else EW X ρ1 (.BoolOp .Or (b :: r) pos) Ψ) : EW X ρ (.BoolOp .Or (a :: b :: r) pos) Ψ := fun F σ H Q S k =>
  ofPW (pw_or ptW pwW) (h F σ H _ S fun c H' ρ' q S' g => by
    cases c with
    | true => rw [if_pos rfl] at q; exact iteT (k _ H' ρ' q S' g)
    | false => rw [if_neg Bool.false_ne_true] at q; exact iteF (q F σ H' Q S' (k.to g)))
theorem ee_one {op : BoolOp} (h : EE X ρ a Φ) : EE X ρ (.BoolOp op [a] pos) Φ := fun F σ H Q S k => ofPE (pe_one peW) (h F σ H Q S k)
theorem ee_and {r : List Expr} (h : EE X ρ a fun d ρ1 => ∃ c, d = .bool c ∧ if c = true then EE X ρ1 (.BoolOp .And (b :: r) pos) Φ else Φ (.bool false) ρ1) : EE X ρ (.BoolOp .And (a :: b :: r) pos) Φ := fun F σ H Q S k =>
  ofPE (pe_and peW peW) (h F σ H _ S fun v H' d ρ' ⟨c, e, q⟩ S' g r => by
    subst e
    cases r
    refine ⟨c, rfl, ?_⟩
    cases c with
    | true => rw [if_pos rfl] at q; exact iteT (q F σ H' Q S' (k.to g))
    | false => rw [if_neg Bool.false_ne_true] at q; exact iteF (k _ H' _ ρ' q S' g (.bl false)))
theorem ee_or {r : List Expr} (h : EE X ρ a fun d ρ1 => ∃ c, d = .bool c ∧ if c = true then Φ (.bool true) ρ1 else EE X ρ1 (.BoolOp .Or (b :: r) pos) Φ) : EE X ρ (.BoolOp .Or (a :: b :: r) pos) Φ := fun F σ H Q S k =>
  ofPE (pe_or peW peW) (h F σ H _ S fun v H' d ρ' ⟨c, e, q⟩ S' g r => by
    subst e
    cases r
    refine ⟨c, rfl, ?_⟩
    cases c with
    | true => rw [if_pos rfl] at q; exact iteT (k _ H' _ ρ' q S' g (.bl true))
    | false => rw [if_neg Bool.false_ne_true] at q; exact iteF (q F σ H' Q S' (k.to g)))
theorem ee_not (h : EE X ρ a fun d ρ1 => ∃ c, d = .bool c ∧ Φ (.bool (!c)) ρ1) : EE X ρ (.UnaryOp .Not a pos) Φ := fun F σ H Q S k =>
  ofPE (pe_not peW) (h F σ H _ S fun v H' d ρ' ⟨c, e, q⟩ S' g r => by
    subst e
    cases r
    exact ⟨c, rfl, k _ H' _ ρ' q S' g (.bl _)⟩)
theorem ee_if (h : ET X ρ c fun t ρ1 => if t = true then EE X ρ1 a Φ else EE X ρ1 b Φ) : EE X ρ (.IfExp c a b pos) Φ := fun F σ H Q S k =>
  ofPE (pe_ifExp ptW peW peW) (h F σ H _ S fun t H' ρ' q S' g => by
    cases t with
    | true => rw [if_pos rfl] at q; exact iteT (q F σ H' Q S' (k.to g))
    | false => rw [if_neg Bool.false_ne_true] at q; exact iteF (q F σ H' Q S' (k.to g)))

/-! ### argument lists, displays -/
theorem ea_nil {Φ : List PyData → List Sl → Prop} (q : Φ [] ρ) : EA X ρ [] Φ := fun F σ H Q S k => ofPA pa_nil (k [] H [] ρ q S (Same.refl _) .nil)
theorem ea_cons {Φ : List PyData → List Sl → Prop} {es : List Expr} (h : EE X ρ e fun d ρ1 => EA X ρ1 es fun ds ρ2 => Φ (d :: ds) ρ2) (hs : starEach (e :: es) X.env = (false, eval e X.env) :: starEach es X.env := by rfl) : EA X ρ (e :: es) Φ := fun F σ H Q S k =>
  ofPA (pa_cons peW paW hs) (h F σ H _ S fun v H1 d ρ1 h1 S1 g1 r1 => h1 F σ H1 _ S1 fun vs H2 ds ρ2 h2 S2 g2 r2 => k _ H2 _ ρ2 h2 S2 (g1.trans g2) (.cons (Rp.up g2 _ _ r1) r2))
theorem ee_tup {es : List Expr} {x1} (h : EA X ρ es fun ds ρ1 => ds.length ≤ 1000000 ∧ Φ (.tuple ds) ρ1) : EE X ρ (.Tuple es x1 pos) Φ := fun F σ H Q S k =>
  ofPE (pe_tup paW) (h F σ H _ S fun vs H' ds ρ' ⟨l, q⟩ S' g r => ⟨big_le (by rw [r.length]; exact l), fun p hp => (k.to g).new S' hp q fun e => .tup e (RpAll.up (mask_same (same_new hp)) _ _ r)⟩)
theorem ee_lst {es : List Expr} (h : EA X ρ es fun ds ρ1 => ds.length ≤ 1000000 ∧ Φ (.list ds) ρ1) : EE X ρ (.List es pos) Φ := fun F σ H Q S k =>
  ofPE (pe_lst paW) (h F σ H _ S fun vs H' ds ρ' ⟨l, q⟩ S' g r => ⟨big_le (by rw [r.length]; exact l), fun p hp => (k.to g).new S' hp q fun e => .lst e (RpAll.up (mask_same (same_new hp)) _ _ r)⟩)
end
end DL

namespace DL
open PySem PySem.Spec PyProof.Rows L2

section
variable {X : Cx} {ρ : List Sl} {e a b c : Expr} {pos : Pos} {Φ : PyData → List Sl → Prop} {Ψ : Bool → List Sl → Prop} {D : DE}

/-! ### subscripts, slices -/
theorem RpAll.at {G : Hp} {ds : List PyData} {vs : List V} {i : Int} {d : PyData} (r : RpAll G vs ds) (e : atI ds i = some d) : ∃ v, atI vs i = some v ∧ Rp G v d := by
  unfold atI at e ⊢
  rw [r.length]
  cases q : ixN ds.length i with
  | none => rw [q] at e; cases e
  | some j =>
    rw [q] at e
    exact r.get (show ds[j]? = some d from e)
@[reducible] def ixK : PyData → PyData → (PyData → Prop) → Prop
  | .list xs, .int i, k => ∃ d, atI xs i = some d ∧ k d
  | .tuple xs, .int i, k => ∃ d, atI xs i = some d ∧ k d
  | _, _, _ => False
theorem ee_ix (h : EE X ρ a fun da ρ1 => EE X ρ1 b fun db ρ2 => ixK da db fun d => Φ d ρ2) (hs : PlainIx b := by exact fun _ _ => rfl) : EE X ρ (.Subscript a b pos) Φ := fun F σ H Q S k =>
  ofPE (pe_ix (IxR.or ix_list ix_tup) peW peW hs) (two h S fun x y H2 da db ρ2 h2 S2 g r1 r2 => by
    cases da <;> cases db <;> first | exact h2.elim | skip
    · obtain ⟨d, e, q⟩ := h2
      cases r2
      cases r1 with
      | lst e1 r1 =>
        obtain ⟨v, ev, rv⟩ := r1.at e
        exact .inl ⟨_, _, _, v, rfl, rfl, .of (mask_le _ _ e1), ev, k v H2 d ρ2 q S2 g rv⟩
    · obtain ⟨d, e, q⟩ := h2
      cases r2
      cases r1 with
      | tup e1 r1 =>
        obtain ⟨v, ev, rv⟩ := r1.at e
        exact .inr ⟨_, _, _, v, rfl, rfl, .of (mask_le _ _ e1), ev, k v H2 d ρ2 q S2 g rv⟩)
/-- an own list's item -/
theorem ee_ixOwn (i : Nat) {x : Str} {p2 : Pos} {l : Addr} {ds : List PyData} (hs : ρ[i]? = some (.own l ds)) (h : EE X ρ b fun db ρ2 => ∃ j d ds', db = .int j ∧ ρ2[i]? = some (.own l ds') ∧ atI ds' j = some d ∧ Φ d ρ2) (hN : X.N[i]? = some x := by rfl)
    (hv : Vis X.env.scope x := by first | exact Or.inl rfl | exact Or.inr (Or.inl rfl) | exact Or.inr (Or.inr rfl)) (hp : PlainIx b := by exact fun _ _ => rfl) (hd : (x == ("__debug__" : Str)) = false := by decide) (hcd : (x == ("__classdict__" : Str)) = false := by decide) :
    EE X ρ (.Subscript (.Name x p2) b pos) Φ := fun F σ H Q S k => by
  obtain ⟨y, e1, e2, vs, e3, r3⟩ := S.sl.get hs
  subst e2
  refine ofPE (pe_ix ix_list (pe_var hN hv hd hcd) peW hp) ⟨_, e1, h F σ H _ S fun v H2 db ρ2 ⟨j, d, ds', ej, es, ea, q⟩ S2 g r2 => ?_⟩
  subst ej
  cases r2
  obtain ⟨y', e1', e2', vs', e3', r3'⟩ := S2.sl.get es
  rw [e1] at e1'
  cases e1'
  cases e2'
  obtain ⟨v, ev, rv⟩ := r3'.at ea
  exact ⟨_, _, _, v, rfl, rfl, .of e3', ev, k v H2 d ρ2 q S2 g rv⟩
def tO (X : Cx) : Option Expr → TO
  | none => tNoPart
  | some e => tPart (tW X e)
theorem poW : ∀ o, PO X o (tO X o)
  | none => po_none
  | some e => po_some peW
@[reducible] def EO (X : Cx) (ρ : List Sl) : Option Expr → (Option Int → List Sl → Prop) → Prop
  | none, Φ => Φ none ρ
  | some e, Φ => EE X ρ e fun d ρ1 => ∃ i, d = .int i ∧ Φ (some i) ρ1
theorem eo_run : ∀ {o : Option Expr} {Φ : Option Int → List Sl → Prop} {ρ : List Sl}, EO X ρ o Φ → ∀ {F : Fm} {σ : L2.St} {H : Hp}, Stt F H σ ρ → ∀ {Q : Option Int → Hp → Prop}, (∀ i H' ρ', Φ i ρ' → Stt F H' σ ρ' → Same (gh F ρ H) (gh F ρ' H') → Q i H') → tO X o σ H Q
  | none, _, ρ, h, _, _, H, S, _, q => q none H ρ h S (Same.refl _)
  | some e, _, _, h, F, σ, H, S, Q, q => h F σ H _ S fun v H' d ρ' ⟨i, ei, hi⟩ S' g r => by
    subst ei
    cases r
    exact ⟨i, rfl, q _ H' ρ' hi S' g⟩
def cutD (xs : List PyData) (lo hi : Option Int) : List PyData := (xs.drop (HT.sIx xs.length 0 lo)).take (HT.sIx xs.length xs.length hi - HT.sIx xs.length 0 lo)
theorem RpAll.cut {G : Hp} {ds : List PyData} {vs : List V} (r : RpAll G vs ds) (lo hi : Option Int) : RpAll G (cutV vs lo hi) (cutD ds lo hi) := by
  unfold cutV cutD
  rw [r.length]
  exact (r.dr _).tk _
@[reducible] def slK (lo hi : Option Int) : PyData → (PyData → Prop) → Prop
  | .list xs, k => k (.list (cutD xs lo hi))
  | .tuple xs, k => k (.tuple (cutD xs lo hi))
  | _, _ => False
theorem cut_whole {ds : List PyData} {lo hi : Option Int} (h : HT.sIx ds.length 0 lo = 0 ∧ HT.sIx ds.length ds.length hi = ds.length) : cutD ds lo hi = ds := by
  unfold cutD
  rw [h.1, h.2, List.drop_zero, Nat.sub_zero, List.take_length]
theorem ee_sl {lo hi : Option Expr} {p2 : Pos} (h : EE X ρ a fun da ρ1 => EO X ρ1 lo fun l ρ2 => EO X ρ2 hi fun u ρ3 => slK l u da fun d => Φ d ρ3) : EE X ρ (.Subscript a (.Slice lo hi none p2) pos) Φ := fun F σ H Q S k =>
  ofPE (pe_slice (SlR.or sl_list sl_tupA) peW (poW lo) (poW hi)) (h F σ H _ S fun v H1 da ρ1 h1 S1 g1 r1 => eo_run h1 S1 fun l H2 ρ2 h2 S2 g2 => eo_run h2 S2 fun u H3 ρ3 h3 S3 g3 => by
    have r3 := Rp.up (g2.trans g3) _ _ r1
    have k3 := k.to ((g1.trans g2).trans g3)
    cases da <;> first | exact h3.elim | skip
    · cases r3 with
      | lst e r => exact .inl ⟨_, _, rfl, .of (mask_le _ _ e), fun p hp => k3.new S3 hp h3 fun e => .lst e (RpAll.up (mask_same (same_new hp)) _ _ (r.cut l u))⟩
    · cases r3 with
      | tup e r =>
        refine .inr ⟨_, _, rfl, .of (mask_le _ _ e), fun hw => ?_, fun _ p hp => k3.new S3 hp h3 fun e => .tup e (RpAll.up (mask_same (same_new hp)) _ _ (r.cut l u))⟩
        rw [r.length] at hw
        have h4 : Φ (.tuple (cutD _ l u)) ρ3 := h3
        rw [cut_whole hw] at h4
        exact k3.same S3 h4 (.tup e r))

/-! ### built-ins called -/
def RCD (r : List V → Hp → VK → Prop) (ds : List PyData) (ρ : List Sl) (Φ : PyData → List Sl → Prop) : Prop :=
  ∀ (F : Fm) (σ : L2.St) (H : Hp) (vs : List V) (Q : VK), Stt F H σ ρ → RpAll (gh F ρ H) vs ds → KE F σ (gh F ρ H) Φ Q → r vs H Q
theorem ee_callB {id : String} {r : List V → Hp → VK → Prop} {x : Str} {p : Pos} {es : List Expr} (hc : CallR X (.builtin id) r) (hm : X.mg x = none) (hv : bootBuiltins x = some (.builtin id)) (h : EA X ρ (e :: es) fun ds ρ1 => RCD r ds ρ1 Φ) (hg : Gl X x := by rfl)
    (hn : x ≠ "__name__" := by decide) (hdb : (x == ("__debug__" : Str)) = false := by decide) (he : starEach (e :: es) X.env = (false, eval e X.env) :: starEach es X.env := by rfl) (hpl : (backTo pos (starEach es X.env)).any (·.1) = false := by rfl) : EE X ρ (.Call (.Name x p) (e :: es) [] pos) Φ := fun F σ H Q S k =>
  ofPE (pe_callB hc hg hm hv paW hn hdb he hpl) (h F σ H _ S fun vs H' ds ρ' q S' g r => q F σ H' vs Q S' r (k.to g))
theorem ee_callT {T : String} {r : List V → Hp → VK → Prop} {x : Str} {p : Pos} {es : List Expr} (hc : CallR X (.type T) r) (hm : X.mg x = none) (hv : bootBuiltins x = some (.type T)) (h : EA X ρ (e :: es) fun ds ρ1 => RCD r ds ρ1 Φ) (hg : Gl X x := by rfl)
    (hn : x ≠ "__name__" := by decide) (hdb : (x == ("__debug__" : Str)) = false := by decide) (he : starEach (e :: es) X.env = (false, eval e X.env) :: starEach es X.env := by rfl) (hpl : (backTo pos (starEach es X.env)).any (·.1) = false := by rfl) : EE X ρ (.Call (.Name x p) (e :: es) [] pos) Φ := fun F σ H Q S k =>
  ofPE (pe_callTy hc hg hm hv paW hn hdb he hpl) (h F σ H _ S fun vs H' ds ρ' q S' g r => q F σ H' vs Q S' r (k.to g))
@[reducible] def lenK : List PyData → (PyData → Prop) → Prop
  | [.list xs], k => k (.int xs.length)
  | [.tuple xs], k => k (.int xs.length)
  | _, _ => False
theorem rcd_len {ds : List PyData} (h : lenK ds fun d => Φ d ρ) : RCD (fun xs H Q => ∃ p ys, xs = [.ref p] ∧ (SqL X.K H p ys ∨ SqT X.K H p ys) ∧ Q (.int ys.length) H) ds ρ Φ := fun F σ H vs Q S r k => by
  match ds, h, r with
  | [.list xs], h, .cons (.lst e r) .nil => exact ⟨_, _, rfl, .inl (.of (mask_le _ _ e)), by rw [r.length]; exact k.same S h (.int _)⟩
  | [.tuple xs], h, .cons (.tup e r) .nil => exact ⟨_, _, rfl, .inr (.of (mask_le _ _ e)), by rw [r.length]; exact k.same S h (.int _)⟩
theorem ee_len {p : Pos} (ck : CK X) (h : EA X ρ [e] fun ds ρ1 => lenK ds fun d => Φ d ρ1) (hg : Gl X "len" := by rfl) (he : starEach [e] X.env = (false, eval e X.env) :: starEach [] X.env := by rfl) : EE X ρ (.Call (.Name "len" p) [e] [] pos) Φ :=
  ee_callB call_len_seq (ck.bt _ (by simp [bNames])) PySem.boot_len (fun F σ H Q S k => h F σ H Q S fun vs H' ds ρ' q => k vs H' ds ρ' (rcd_len q)) hg (by decide) (by decide) he rfl
@[reducible] def sumK (ds : List PyData) (k : PyData → Prop) : Prop := ∃ ns : List Int, ds = [.list (ns.map .int)] ∧ k (.int ns.sum)
theorem ee_sum {p : Pos} (ck : CK X) (h : EA X ρ [e] fun ds ρ1 => sumK ds fun d => Φ d ρ1) (hg : Gl X "sum" := by rfl) (he : starEach [e] X.env = (false, eval e X.env) :: starEach [] X.env := by rfl) : EE X ρ (.Call (.Name "sum" p) [e] [] pos) Φ :=
  ee_callB (cr_sum ck.calm) (ck.bt _ (by simp [bNames])) (by decide +kernel) (fun F σ H Q S k => h F σ H Q S fun vs H' ds ρ' q => k vs H' ds ρ' (fun F σ H vs Q S r k => by
    obtain ⟨ns, rfl, q⟩ := q
    match r with
    | .cons (.lst e r) .nil => exact ⟨_, ns, rfl, .of (by rw [← r.ints]; exact mask_le _ _ e), k.same S q (.int _)⟩)) hg (by decide) (by decide) he rfl
@[reducible] def allK (ds : List PyData) (k : PyData → Prop) : Prop := ∃ bs : List Bool, ds = [.list (bs.map .bool)] ∧ k (.bool (bs.all id))
theorem ee_all {p : Pos} (ck : CK X) (h : EA X ρ [e] fun ds ρ1 => allK ds fun d => Φ d ρ1) (hg : Gl X "all" := by rfl) (he : starEach [e] X.env = (false, eval e X.env) :: starEach [] X.env := by rfl) : EE X ρ (.Call (.Name "all" p) [e] [] pos) Φ :=
  ee_callB (cr_all ck.calm) (ck.bt _ (by simp [bNames])) (by decide +kernel) (fun F σ H Q S k => h F σ H Q S fun vs H' ds ρ' q => k vs H' ds ρ' (fun F σ H vs Q S r k => by
    obtain ⟨ns, rfl, q⟩ := q
    match r with
    | .cons (.lst e r) .nil => exact ⟨_, ns, rfl, .of (by rw [← r.bools]; exact mask_le _ _ e), k.same S q (.bl _)⟩)) hg (by decide) (by decide) he rfl
@[reducible] def int2K (f : Int → Int → Int) : List PyData → (PyData → Prop) → Prop
  | [.int i, .int j], k => k (.int (f i j))
  | _, _ => False
theorem ee_max {p : Pos} (ck : CK X) (h : EA X ρ [a, b] fun ds ρ1 => int2K max ds fun d => Φ d ρ1) (hg : Gl X "max" := by rfl) (he : starEach [a, b] X.env = (false, eval a X.env) :: starEach [b] X.env := by rfl) (hpl : (backTo pos (starEach [b] X.env)).any (·.1) = false := by rfl) : EE X ρ (.Call (.Name "max" p) [a, b] [] pos) Φ :=
  ee_callB (call_max2 ck.calm) (ck.bt _ (by simp [bNames])) (by decide +kernel) (fun F σ H Q S k => h F σ H Q S fun vs H' ds ρ' q => k vs H' ds ρ' (fun F σ H vs Q S r k => by
    match ds, q, r with
    | [.int i, .int j], q, .cons (.int _) (.cons (.int _) .nil) =>
      refine ⟨i, j, rfl, k.same S (d := .int (if j > i then j else i)) ?_ (.int _)⟩
      have e : (if j > i then j else i) = max i j := by
        split <;> omega
      rw [e]
      exact q)) hg (by decide) (by decide) he hpl
theorem ee_min {p : Pos} (ck : CK X) (h : EA X ρ [a, b] fun ds ρ1 => int2K min ds fun d => Φ d ρ1) (hg : Gl X "min" := by rfl) (he : starEach [a, b] X.env = (false, eval a X.env) :: starEach [b] X.env := by rfl) (hpl : (backTo pos (starEach [b] X.env)).any (·.1) = false := by rfl) : EE X ρ (.Call (.Name "min" p) [a, b] [] pos) Φ :=
  ee_callB (call_min2 ck.calm) (ck.bt _ (by simp [bNames])) (by decide +kernel) (fun F σ H Q S k => h F σ H Q S fun vs H' ds ρ' q => k vs H' ds ρ' (fun F σ H vs Q S r k => by
    match ds, q, r with
    | [.int i, .int j], q, .cons (.int _) (.cons (.int _) .nil) =>
      refine ⟨i, j, rfl, k.same S (d := .int (if j < i then j else i)) ?_ (.int _)⟩
      have e : (if j < i then j else i) = min i j := by
        split <;> omega
      rw [e]
      exact q)) hg (by decide) (by decide) he hpl
@[reducible] def seqK (f : List PyData → PyData) : List PyData → (PyData → Prop) → Prop
  | [.list xs], k => k (f xs)
  | [.tuple xs], k => k (f xs)
  | _, _ => False
theorem ee_tuple {p : Pos} (ck : CK X) (h : EA X ρ [e] fun ds ρ1 => seqK PyData.tuple ds fun d => Φ d ρ1) (hg : Gl X "tuple" := by rfl) (he : starEach [e] X.env = (false, eval e X.env) :: starEach [] X.env := by rfl) : EE X ρ (.Call (.Name "tuple" p) [e] [] pos) Φ :=
  ee_callT call_tuple_of (ck.bt _ (by simp [bNames])) (by decide +kernel) (fun F σ H Q S k => h F σ H Q S fun vs H' ds ρ' q => k vs H' ds ρ' (fun F σ H vs Q S r k => by
    match ds, q, r with
    | [.list xs], q, .cons (.lst e r) .nil => exact ⟨_, _, rfl, .inl ⟨.of (mask_le _ _ e), fun p hp => k.new S hp q fun e => .tup e (RpAll.up (mask_same (same_new hp)) _ _ r)⟩⟩
    | [.tuple xs], q, .cons (.tup e r) .nil => exact ⟨_, _, rfl, .inr ⟨.of (mask_le _ _ e), k.same S q (.tup e r)⟩⟩)) hg (by decide) (by decide) he rfl
theorem ee_list {p : Pos} (ck : CK X) (h : EA X ρ [e] fun ds ρ1 => seqK PyData.list ds fun d => Φ d ρ1) (hg : Gl X "list" := by rfl) (he : starEach [e] X.env = (false, eval e X.env) :: starEach [] X.env := by rfl) : EE X ρ (.Call (.Name "list" p) [e] [] pos) Φ :=
  ee_callT call_list_of (ck.bt _ (by simp [bNames])) (by decide +kernel) (fun F σ H Q S k => h F σ H Q S fun vs H' ds ρ' q => k vs H' ds ρ' (fun F σ H vs Q S r k => by
    match ds, q, r with
    | [.list xs], q, .cons (.lst e r) .nil => exact ⟨_, _, rfl, .inl (.of (mask_le _ _ e)), fun p hp => k.new S hp q fun e => .lst e (RpAll.up (mask_same (same_new hp)) _ _ r)⟩
    | [.tuple xs], q, .cons (.tup e r) .nil => exact ⟨_, _, rfl, .inr (.of (mask_le _ _ e)), fun p hp => k.new S hp q fun e => .lst e (RpAll.up (mask_same (same_new hp)) _ _ r)⟩)) hg (by decide) (by decide) he rfl
/-- isinstance(e, T) -/
def tyD : PyData → String
  | .none => "NoneType"
  | .bool _ => "bool"
  | .int _ => "int"
  | .str _ => "str"
  | .list _ => "list"
  | .tuple _ => "tuple"
  | .dict _ => "dict"
theorem Rp.ty {K : PySem.W.Frag} {H : Hp} {v : V} {d : PyData} (r : Rp H v d) : TyX K H v (.type (tyD d)) := by
  cases r with
  | non => exact .base .non
  | bl b => exact .base (.bl b)
  | int i => exact .base (.int i)
  | str x => exact .base (.str x)
  | lst e r => exact .base (.lst e)
  | tup e r => exact .base (.tup e)
theorem ee_isi {p p2 : Pos} {T : String} {x : Str} (ck : CK X) (hm : X.mg x = none) (hv : bootBuiltins x = some (.type T)) (h : EE X ρ e fun d ρ1 => ∃ k, kitB (tyD d) T = some k ∧ Φ (.bool k) ρ1) (hg : Gl X "isinstance" := by rfl) (hgx : Gl X x := by rfl)
    (hn : x ≠ "__name__" := by decide) (hdb : (x == ("__debug__" : Str)) = false := by decide) (he : starEach [e, .Name x p2] X.env = (false, eval e X.env) :: starEach [.Name x p2] X.env := by rfl) (hpl : (backTo pos (starEach [.Name x p2] X.env)).any (·.1) = false := by rfl) :
    EE X ρ (.Call (.Name "isinstance" p) [e, .Name x p2] [] pos) Φ := fun F σ H Q S k =>
  ofPE (pe_callB call_isi hg (ck.bt _ (by simp [bNames])) (by decide +kernel) (pa_cons peW (pa_cons (pe_bltn (v := .ty T) hgx hm hv rfl hn hdb) pa_nil) he) (by decide) (by decide) he hpl)
    (h F σ H _ S fun v H' d ρ' ⟨c, hk, q⟩ S' g r => ⟨v, .ty T, _, _, c, rfl, .ty T, (Rp.up mask_le _ _ r).ty, kit_ty hk, k _ H' _ ρ' q S' g (.bl c)⟩)
end

/-! ### defs of one's own called -/
abbrev DSpec := List PyData → (PyData → Prop) → Prop
def spD (S : DSpec) : Sp := fun vs H Q _ => ∃ (hd : List Addr) (ds : List PyData) (k : PyData → Prop), (∀ a ∈ hd, H a ≠ none) ∧ RpAll (mask hd H) vs ds ∧ S ds k ∧ ∀ d v H', k d → Same H H' → Rp (mask hd H') v d → Q v H'
abbrev SpecB := List PyData → Nat → (PyData → Nat → Prop) → Prop
def spB (S : SpecB) : Sp := fun vs H Q _ => ∃ (hd : List Addr) (b : Addr) (us : List V) (ds : List PyData) (n : Nat) (k : PyData → Nat → Prop), vs = .ref b :: us ∧ b ∉ hd ∧ (∀ a ∈ hd, H a ≠ none) ∧ BagOk H b n ∧ RpAll (mask (b :: hd) H) us ds ∧ S ds n k ∧
  ∀ d n' v H', k d n' → (∀ a o, a ≠ b → H a = some o → H' a = some o) → BagOk H' b n' → Rp (mask (b :: hd) H') v d → Q v H'
def Kn (P : Program) (w : World) (K : PySem.W.Frag) (mg : Str → Option Value) (base : Heap) (k : Nat) (x : Str) (ps : List Str) (sp : Sp) : Prop :=
  ∃ (f : Addr) (fd : FuncData), FnOk P w K mg base CX0 k f fd ps sp ∧ mg x = some (.ref f) ∧ PySem.W.keepIn K (.ref f) = true ∧ Binds K fd ps []
theorem Kn.mono {P : Program} {w : World} {K : PySem.W.Frag} {mg : Str → Option Value} {base : Heap} {j k : Nat} {x : Str} {ps : List Str} {sp : Sp} (h : Kn P w K mg base j x ps sp) (hj : j ≤ k) : Kn P w K mg base k x ps sp := by
  obtain ⟨f, fd, a, b⟩ := h
  exact ⟨f, fd, a.mono hj, b⟩
def Cal (X : Cx) (x : Str) (ps : List Str) (sp : Sp) : Prop := ∃ k, Room k X.A ∧ Kn X.prog X.w X.K X.mg X.base k x ps sp
section
variable {X : Cx} {ρ : List Sl} {e a b c : Expr} {pos : Pos} {Φ : PyData → List Sl → Prop} {Ψ : Bool → List Sl → Prop} {D : DE}
theorem ee_call {x : Str} {ps : List Str} {S : DSpec} {p : Pos} {es : List Expr} (cl : Cal X x ps (spD S)) (h : EA X ρ (e :: es) fun ds ρ1 => S ds fun d => Φ d ρ1) (hg : Gl X x := by rfl)
    (hdb : (x == ("__debug__" : Str)) = false := by decide) (he : starEach (e :: es) X.env = (false, eval e X.env) :: starEach es X.env := by rfl) (hpl : (backTo pos (starEach es X.env)).any (·.1) = false := by rfl) : EE X ρ (.Call (.Name x p) (e :: es) [] pos) Φ := fun F σ H Q St k => by
  obtain ⟨j, hr, f, fd, G, hm, kp, bd⟩ := cl
  refine ofPE (pe_call G hr hg hm kp bd .nil pass0 paW hdb he hpl) (h F σ H _ St fun vs H' ds ρ' q St' g r => ?_)
  rw [List.append_nil]
  exact ⟨F.hd ++ os ρ', ds, _, St'.ad, r, q, fun d v H2 hd e2 r2 => k v H2 d ρ' hd (St'.ext e2) (g.trans (St'.gext e2)) r2⟩
theorem ee_call0 {x : Str} {S : DSpec} {p : Pos} (cl : Cal X x [] (spD S)) (h : S [] fun d => Φ d ρ) (hg : Gl X x := by rfl) (hdb : (x == ("__debug__" : Str)) = false := by decide) : EE X ρ (.Call (.Name x p) [] [] pos) Φ := fun F σ H Q St k => by
  obtain ⟨j, hr, f, fd, G, hm, kp, bd⟩ := cl
  exact ofPE (pe_call0 G hr hg hm kp bd .nil pass0 hdb) ⟨F.hd ++ os ρ, [], _, St.ad, .nil, h, fun d v H2 hd e2 r2 => k v H2 d ρ hd (St.ext e2) (St.gext e2) r2⟩
/-- one own object is changed, the heap may grow -/
theorem SlotsOk.chg {G G2 H H2 : Hp} {g : Addr} {s t : Sl} (gg : Same G G2) (kp : ∀ a o, a ≠ g → H a = some o → H2 a = some o) (ht : t.ad = [g]) (hx : ∀ x, SlotOk G H x t → SlotOk G2 H2 x s) :
    ∀ {σ : L2.St} {ρ : List Sl} {i : Nat}, SlotsOk G H σ ρ → (os ρ).Nodup → ρ[i]? = some t → SlotsOk G2 H2 σ (ρ.set i s)
  | [], [], _, _, _, e => by simp at e
  | [], _ :: _, _, h, _, _ => h.elim
  | _ :: _, [], _, h, _, _ => h.elim
  | x :: xs, u :: r, 0, h, nd, e => by
    rw [List.getElem?_cons_zero] at e; cases e
    obtain ⟨h1, h2, h3⟩ := List.nodup_append.mp nd
    exact ⟨hx x h.1, h.2.up gg fun b m o q => kp b o (fun z => h3 g (by rw [ht]; exact List.mem_singleton.mpr rfl) b m z.symm) q⟩
  | x :: xs, u :: r, i + 1, h, nd, e => by
    rw [List.getElem?_cons_succ] at e
    obtain ⟨h1, h2, h3⟩ := List.nodup_append.mp nd
    exact ⟨h.1.up gg fun b m o q => kp b o (fun z => h3 b m g (os_at e (by rw [ht]; exact List.mem_singleton.mpr rfl)) z) q, SlotsOk.chg gg kp ht hx h.2 h2 e⟩
theorem Stt.chg {F : Fm} {H H2 : Hp} {σ : L2.St} {ρ : List Sl} {i : Nat} {s t : Sl} {g : Addr} (S : Stt F H σ ρ) (e : ρ[i]? = some t) (ht : t.ad = [g]) (hs : s.ad = [g]) (kp : ∀ a o, a ≠ g → H a = some o → H2 a = some o) (hg : H2 g ≠ none)
    (hx : ∀ x, SlotOk (gh F ρ H) H x t → SlotOk (gh F (ρ.set i s) H2) H2 x s) : Stt F H2 σ (ρ.set i s) ∧ Same (gh F ρ H) (gh F (ρ.set i s) H2) := by
  have eo : os (ρ.set i s) = os ρ := os_set_same e (by rw [hs, ht])
  have mo : g ∈ os ρ := os_at e (by rw [ht]; exact List.mem_singleton.mpr rfl)
  have ge : Same (gh F ρ H) (gh F (ρ.set i s) H2) := by
    refine mask_mono (fun a m _ => ?_) fun a o na ea => kp a o (fun z => na (by rw [z]; exact List.mem_append_right _ mo)) ea
    rw [eo] at m
    exact m
  have up : ∀ a, H a ≠ none → H2 a ≠ none := fun a ha => by
    by_cases z : a = g
    · rw [z]; exact hg
    · cases q : H a with
      | none => exact absurd q ha
      | some o => rw [kp a o z q]; exact fun z => nomatch z
  refine ⟨⟨fun a m => up a (S.hd a m), fun a o na ea => ?_, fun a ha => up a (S.dm a ha), by rw [eo]; exact S.nd, fun a m => S.nw a (by rw [← eo]; exact m), fun a m => S.ap a (by rw [← eo]; exact m), S.sl.chg ge kp ht hx S.nd e⟩, ge⟩
  refine kp a o (fun z => ?_) (S.fr a o na ea)
  rcases S.nw g mo with y | y
  · exact na (z ▸ y)
  · rw [z, y] at ea; cases ea
/-- a def that draws from the bag in slot i -/
theorem ee_callG (i : Nat) {x y : Str} {ps : List Str} {S : SpecB} {p py : Pos} {es : List Expr} {g : Addr} {n : Nat} (cl : Cal X x ps (spB S)) (hs : ρ[i]? = some (.bag g n)) (h : EA X ρ es fun ds ρ1 => ∃ n1, ρ1[i]? = some (.bag g n1) ∧ S ds n1 fun d n' => Φ d (ρ1.set i (.bag g n'))) (hN : X.N[i]? = some y := by rfl)
    (hv : Vis X.env.scope y := by first | exact Or.inl rfl | exact Or.inr (Or.inl rfl) | exact Or.inr (Or.inr rfl)) (hg : Gl X x := by rfl) (hd : (y == ("__debug__" : Str)) = false := by decide) (hcd : (y == ("__classdict__" : Str)) = false := by decide)
    (hdb : (x == ("__debug__" : Str)) = false := by decide) (he : starEach (.Name y py :: es) X.env = (false, eval (.Name y py) X.env) :: starEach es X.env := by rfl) (hpl : (backTo pos (starEach es X.env)).any (·.1) = false := by rfl) : EE X ρ (.Call (.Name x p) (.Name y py :: es) [] pos) Φ := fun F σ H Q St k => by
  obtain ⟨j, hr, f, fd, G, hm, kp, bd⟩ := cl
  obtain ⟨z, e1, e2, bo⟩ := St.sl.get hs
  subst e2
  refine ofPE (pe_call G hr hg hm kp bd .nil pass0 (pa_cons (pe_var hN hv hd hcd) paW he) hdb he hpl) ⟨_, e1, h F σ H _ St fun vs H' ds ρ' ⟨n1, hs', q⟩ St' g' r => ?_⟩
  show spB S (.ref g :: (vs ++ [])) H' Q E0
  rw [List.append_nil]
  obtain ⟨z', e1', e2', bo'⟩ := St'.sl.get hs'
  rw [e1] at e1'
  cases e1'
  have mo : g ∈ os ρ' := os_at hs' (List.mem_singleton.mpr rfl)
  refine ⟨(F.hd ++ os ρ').filter fun a => decide (a ≠ g), g, vs, ds, n1, _, rfl, fun m => ?_, fun a m => St'.ad a (List.mem_filter.mp m).1, bo', ?_, q, fun d n' v H2 hk kp2 bo2 r2 => ?_⟩
  · have := of_decide_eq_true (List.mem_filter.mp m).2
    exact this rfl
  · refine RpAll.up (mask_sub fun a m => ?_) _ _ r
    rcases List.mem_cons.mp m with z | z
    · rw [z]; exact List.mem_append_right _ mo
    · exact (List.mem_filter.mp z).1
  · have hg2 : H2 g ≠ none := by
      obtain ⟨z2, w2, t2, eo, hw⟩ := id bo2
      rw [eo]
      exact fun z => nomatch z
    have eo2 : os (ρ'.set i (.bag g n')) = os ρ' := os_set_same hs' rfl
    obtain ⟨S2, ge⟩ := St'.chg (s := .bag g n') hs' rfl rfl kp2 hg2 fun x ⟨ex, _⟩ => ⟨ex, bo2⟩
    refine k v H2 d _ hk S2 (g'.trans ge) (Rp.up (mask_sub fun a m => ?_) _ _ r2)
    rcases List.mem_append.mp m with m | m
    · by_cases z : a = g
      · rw [z]; exact List.mem_cons_self
      · exact List.mem_cons_of_mem _ (List.mem_filter.mpr ⟨List.mem_append_left _ m, decide_eq_true z⟩)
    · rw [eo2] at m
      by_cases z : a = g
      · rw [z]; exact List.mem_cons_self
      · exact List.mem_cons_of_mem _ (List.mem_filter.mpr ⟨List.mem_append_right _ m, decide_eq_true z⟩)
end
end DL

namespace DL
open PySem PySem.Spec PyProof.Rows L2

section
variable {X : Cx} {ρ : List Sl} {e a b c : Expr} {pos : Pos} {Φ : PyData → List Sl → Prop} {Ψ : Bool → List Sl → Prop} {D : DE} {Ω : List Sl → Prop}

/-! ### targets -/
theorem gg_name (j : Nat) {x : Str} {d : PyData} (ck : CK X) (q : Ω (ρ.set j (.dat d))) (hi : X.N[j]? = some x := by rfl) (hx : Loc X.env.scope x := by first | exact Or.inl rfl | exact Or.inr rfl)
    (hf : X.fn x = true ∨ X.env.scope.names.lookup x = some .local := by first | exact .inl rfl | exact .inr rfl) : GG X ρ (.Name x pos) d [j] Ω := fun F σ H v Q S r k =>
  ofPG (pg_name ck.nd hi hx hf) (k _ _ q (S.set j rfl ⟨v, rfl, r⟩) (S.gset j rfl) ⟨List.length_set, fun i hi => List.getElem?_set_ne fun z => hi (by rw [z]; exact List.mem_singleton.mpr rfl)⟩)
theorem ggs_nil (q : Ω ρ) : GGs X ρ [] [] [] Ω := fun F σ H vs Q S r k => by
  cases r
  exact ofPGs pgs_nil ⟨rfl, k _ _ q S (Same.refl _) ⟨rfl, fun _ _ => rfl⟩⟩
theorem ggs_cons {t : Expr} {ts : List Expr} {d : PyData} {ds : List PyData} {js ks : List Nat} (h : GG X ρ t d js fun ρ1 => GGs X ρ1 ts ds ks Ω) (hs : (assignEach (t :: ts) X.env).map (·.2) = assign t X.env :: (assignEach ts X.env).map (·.2) := by rfl) : GGs X ρ (t :: ts) (d :: ds) (js ++ ks) Ω := fun F σ H vs Q S r k => by
  cases r with
  | cons r1 r2 =>
    exact ofPGs (pgs_cons pgW pgsW hs) ⟨_, _, rfl, h F σ H _ _ S r1 fun σ1 ρ1 h1 S1 g1 e1 => h1 F σ1 H _ _ S1 (RpAll.up g1 _ _ r2) fun σ2 ρ2 h2 S2 g2 e2 => k σ2 ρ2 h2 S2 (g1.trans g2) ⟨e2.1.trans e1.1, fun i hi =>
      (e2.2 i fun m => hi (List.mem_append_right _ m)).trans (e1.2 i fun m => hi (List.mem_append_left _ m))⟩⟩
theorem gg_tup {ts : List Expr} {kk : Nat} {ds : List PyData} {js : List Nat} {n : Nat} (ck : CK X) (h : GGs X ρ ts ds js Ω) (hl : ds.length = n := by rfl) (hn : (assignEach ts X.env).length = n := by rfl) (hst : (assignEach ts X.env).findIdx? (·.1) = none := by rfl) :
    GG X ρ (.Tuple ts kk pos) (.tuple ds) js Ω := fun F σ H v Q S r k => by
  cases r with
  | tup e r => exact ofPG (pg_tup ck.calm pgsW hn hst) ⟨_, _, rfl, .of (mask_le _ _ e), by rw [r.length]; exact hl, h F σ H _ Q S r k⟩

/-! ### what is walked -/
structure JOk (J : It) (G : Hp) (ds : List PyData) : Prop where
  go : ∀ i H d, Same G H → ds[i]? = some d → J.go i H
  yld : ∀ i H d x H', Same G H → ds[i]? = some d → J.yld i H x H' → Same H H' ∧ ∀ l : List Addr, (∀ a ∈ l, H a ≠ none) → (∀ a ∈ l, G a = none) → Rp (mask l H') x d
  stop : ∀ i H, Same G H → ds.length = i → J.stop i H
def II (X : Cx) (ρ : List Sl) (tg iter : Expr) (Θ : List PyData → List Sl → Prop) : Prop :=
  ∃ wi : TI, PI X tg iter wi ∧ ∀ (F : Fm) (σ : L2.St) (H : Hp) (R : It → Hp → Prop), Stt F H σ ρ → (∀ J H1 ds ρ1, Θ ds ρ1 → Stt F H1 σ ρ1 → Same (gh F ρ H) (gh F ρ1 H1) → JOk J (gh F ρ1 H1) ds → R J H1) → wi σ H R
variable {tg : Expr} {Θ : List PyData → List Sl → Prop}
theorem same_mask {l : List Addr} {G H : Hp} (s : Same G H) (hl : ∀ a ∈ l, G a = none) : Same G (mask l H) := fun a o e => by
  rw [mask_out fun m => by rw [hl a m] at e; cases e]
  exact s a o e
theorem SqL.is {K : PySem.W.Frag} {H : Hp} {a : Addr} {vs : List V} (h : H a = some (.lst vs)) : SqL K H a vs := .of h
theorem jok_list {K : PySem.W.Frag} {G : Hp} {l : Addr} {vs : List V} {ds : List PyData} (e : G l = some (.lst vs)) (r : RpAll G vs ds) : JOk (Itl K l) G ds where
  go := fun i H d s hd => by
    obtain ⟨v, hv, _⟩ := r.get hd
    exact ⟨vs, v, .of (s _ _ e), hv⟩
  yld := fun i H d x H' s hd y => by
    obtain ⟨v, hv, rv⟩ := r.get hd
    obtain ⟨e1, h1⟩ := y
    have e2 := h1 vs (.of (s _ _ e))
    rw [hv] at e2; cases e2
    subst e1
    exact ⟨Same.refl _, fun l _ hl => Rp.up (same_mask s hl) _ _ rv⟩
  stop := fun i H s hi => ⟨vs, .of (s _ _ e), by rw [r.length]; exact Nat.le_of_eq hi⟩
theorem jok_tup {K : PySem.W.Frag} {G : Hp} {l : Addr} {vs : List V} {ds : List PyData} (e : G l = some (.tup vs)) (r : RpAll G vs ds) : JOk (Itt K l) G ds where
  go := fun i H d s hd => by
    obtain ⟨v, hv, _⟩ := r.get hd
    exact ⟨vs, v, .of (s _ _ e), hv⟩
  yld := fun i H d x H' s hd y => by
    obtain ⟨v, hv, rv⟩ := r.get hd
    obtain ⟨e1, h1⟩ := y
    have e2 := h1 vs (.of (s _ _ e))
    rw [hv] at e2; cases e2
    subst e1
    exact ⟨Same.refl _, fun l _ hl => Rp.up (same_mask s hl) _ _ rv⟩
  stop := fun i H s hi => ⟨vs, .of (s _ _ e), by rw [r.length]; exact Nat.le_of_eq hi⟩
theorem ii_list (h : EE X ρ e fun d ρ1 => ∃ ds, d = .list ds ∧ Θ ds ρ1) : II X ρ tg e Θ := ⟨_, pi_list peW, fun F σ H R S k => h F σ H _ S fun v H' d ρ' ⟨ds, ed, q⟩ S' g r => by
  subst ed
  cases r with
  | lst e r => exact ⟨_, rfl, ⟨_, .of (mask_le _ _ e)⟩, k _ H' ds ρ' q S' g (jok_list e r)⟩⟩
theorem ii_tup (h : EE X ρ e fun d ρ1 => ∃ ds, d = .tuple ds ∧ Θ ds ρ1) : II X ρ tg e Θ := ⟨_, pi_tup peW, fun F σ H R S k => h F σ H _ S fun v H' d ρ' ⟨ds, ed, q⟩ S' g r => by
  subst ed
  cases r with
  | tup e r => exact ⟨_, rfl, ⟨_, .of (mask_le _ _ e)⟩, k _ H' ds ρ' q S' g (jok_tup e r)⟩⟩
def rngD (lo : Int) (n : Nat) : List PyData := (List.range n).map fun (i : Nat) => PyData.int (lo + (i : Int))
theorem rngD_len (lo : Int) (n : Nat) : (rngD lo n).length = n := by unfold rngD; rw [List.length_map, List.length_range]
theorem rngD_get {lo : Int} {n i : Nat} {d : PyData} (h : (rngD lo n)[i]? = some d) : i < n ∧ d = .int (lo + (i : Int)) := by
  unfold rngD at h
  rw [List.getElem?_map] at h
  by_cases hi : i < n
  · rw [List.getElem?_range hi] at h
    exact ⟨hi, (Option.some.inj h).symm⟩
  · rw [List.getElem?_eq_none (by rw [List.length_range]; omega)] at h
    cases h
theorem jok_rng {G : Hp} (lo : Int) (n : Nat) : JOk (Itr lo n) G (rngD lo n) where
  go := fun i H d s hd => (rngD_get hd).1
  yld := fun i H d x H' s hd y => by
    obtain ⟨e1, e2⟩ := y
    subst e1 e2
    rw [(rngD_get hd).2]
    exact ⟨Same.refl _, fun l _ _ => .int _⟩
  stop := fun i H s hi => by rw [rngD_len] at hi; exact Nat.le_of_eq hi
theorem ii_range1 {p : Pos} (ck : CK X) (h : EA X ρ [a] fun ds ρ1 => ∃ n : Int, ds = [.int n] ∧ (-1000000000 ≤ n ∧ n ≤ 1000000000) ∧ Θ (rngD 0 n.toNat) ρ1) (hg : Gl X "range" := by rfl) (hs : starEach [a] X.env = [(false, eval a X.env)] := by rfl) : II X ρ tg (.Call (.Name "range" p) [a] [] pos) Θ :=
  ⟨_, pi_range1 hg (ck.bt _ (by simp [bNames])) paW hs, fun F σ H R S k => h F σ H _ S fun vs H' ds ρ' ⟨n, ed, hn, q⟩ S' g r => by
    subst ed
    match r with
    | .cons (.int _) .nil => exact ⟨n, rfl, by omega, by omega, k _ H' _ ρ' q S' g (jok_rng 0 n.toNat)⟩⟩
theorem ii_range2 {p : Pos} (ck : CK X) (h : EA X ρ [a, b] fun ds ρ1 => ∃ m n : Int, ds = [.int m, .int n] ∧ (-1000000000 ≤ m ∧ m ≤ 1000000000 ∧ -1000000000 ≤ n ∧ n ≤ 1000000000) ∧ Θ (rngD m (n - m).toNat) ρ1) (hg : Gl X "range" := by rfl)
    (hs : starEach [a, b] X.env = [(false, eval a X.env), (false, eval b X.env)] := by rfl) (hs2 : starEach [b] X.env = [(false, eval b X.env)] := by rfl) : II X ρ tg (.Call (.Name "range" p) [a, b] [] pos) Θ :=
  ⟨_, pi_range2 hg (ck.bt _ (by simp [bNames])) paW hs hs2, fun F σ H R S k => h F σ H _ S fun vs H' ds ρ' ⟨m, n, ed, hn, q⟩ S' g r => by
    subst ed
    match r with
    | .cons (.int _) (.cons (.int _) .nil) => exact ⟨m, n, rfl, by omega, k _ H' _ ρ' q S' g (jok_rng m (n - m).toNat)⟩⟩
def zipD (ds es : List PyData) : List PyData := List.zipWith (fun d e => .tuple [d, e]) ds es
theorem zipD_get {ds es : List PyData} {i : Nat} {p : PyData} (h : (zipD ds es)[i]? = some p) : ∃ d e, ds[i]? = some d ∧ es[i]? = some e ∧ p = .tuple [d, e] := by
  unfold zipD at h
  rw [List.getElem?_zipWith] at h
  cases h1 : ds[i]? with
  | none => rw [h1] at h; cases h
  | some d =>
    cases h2 : es[i]? with
    | none => rw [h1, h2] at h; cases h
    | some e =>
      rw [h1, h2] at h
      exact ⟨d, e, rfl, rfl, (Option.some.inj h).symm⟩
theorem rp_pair {G H : Hp} {T : Addr} {x y : V} {d e : PyData} (s : Same G H) (hT : H T = none) (rx : Rp G x d) (ry : Rp G y e) : Same H (upd H T (.tup [x, y])) ∧ ∀ l : List Addr, (∀ a ∈ l, H a ≠ none) → (∀ a ∈ l, G a = none) → Rp (mask l (upd H T (.tup [x, y]))) (.ref T) (.tuple [d, e]) := by
  have s2 := same_new (o := .tup [x, y]) hT
  refine ⟨s2, fun l h1 h2 => .tup ((mask_out fun m => h1 T m hT).trans upd_same) ?_⟩
  have s3 := same_mask (s.trans s2) h2
  exact .cons (Rp.up s3 _ _ rx) (.cons (Rp.up s3 _ _ ry) .nil)
theorem jok_zip {K : PySem.W.Frag} {G : Hp} {l m : Addr} {vs us : List V} {ds es : List PyData} (e1 : G l = some (.lst vs)) (e2 : G m = some (.lst us)) (r1 : RpAll G vs ds) (r2 : RpAll G us es) : JOk (Itz K l m) G (zipD ds es) where
  go := fun i H d s hd => by
    obtain ⟨x, y, h1, h2, _⟩ := zipD_get hd
    obtain ⟨v, hv, _⟩ := r1.get h1
    obtain ⟨u, hu, _⟩ := r2.get h2
    exact ⟨vs, us, v, u, .of (s _ _ e1), .of (s _ _ e2), hv, hu⟩
  yld := fun i H d x H' s hd y => by
    obtain ⟨p, q, h1, h2, ed⟩ := zipD_get hd
    obtain ⟨v, hv, rv⟩ := r1.get h1
    obtain ⟨u, hu, ru⟩ := r2.get h2
    obtain ⟨T, x1, y1, ex, hT, eH, f1, f2⟩ := y
    have q1 := f1 vs (.of (s _ _ e1))
    have q2 := f2 us (.of (s _ _ e2))
    rw [hv] at q1; cases q1
    rw [hu] at q2; cases q2
    subst ex eH ed
    exact rp_pair s hT rv ru
  stop := fun i H s hi => ⟨vs, us, .of (s _ _ e1), .of (s _ _ e2), by
    unfold zipD at hi
    rw [List.length_zipWith] at hi
    rw [r1.length, r2.length]
    omega⟩
theorem jok_zipT {K : PySem.W.Frag} {G : Hp} {l m : Addr} {vs us : List V} {ds es : List PyData} (e1 : G l = some (.tup vs)) (e2 : G m = some (.tup us)) (r1 : RpAll G vs ds) (r2 : RpAll G us es) : JOk (RZ.ItzT K l m) G (zipD ds es) where
  go := fun i H d s hd => by
    obtain ⟨x, y, h1, h2, _⟩ := zipD_get hd
    obtain ⟨v, hv, _⟩ := r1.get h1
    obtain ⟨u, hu, _⟩ := r2.get h2
    exact ⟨vs, us, v, u, .of (s _ _ e1), .of (s _ _ e2), hv, hu⟩
  yld := fun i H d x H' s hd y => by
    obtain ⟨p, q, h1, h2, ed⟩ := zipD_get hd
    obtain ⟨v, hv, rv⟩ := r1.get h1
    obtain ⟨u, hu, ru⟩ := r2.get h2
    obtain ⟨T, x1, y1, ex, hT, eH, f1, f2⟩ := y
    have q1 := f1 vs (.of (s _ _ e1))
    have q2 := f2 us (.of (s _ _ e2))
    rw [hv] at q1; cases q1
    rw [hu] at q2; cases q2
    subst ex eH ed
    exact rp_pair s hT rv ru
  stop := fun i H s hi => ⟨vs, us, .of (s _ _ e1), .of (s _ _ e2), by
    unfold zipD at hi
    rw [List.length_zipWith] at hi
    rw [r1.length, r2.length]
    omega⟩
@[reducible] def zipK : List PyData → (List PyData → Prop) → Prop
  | [.list xs, .list ys], k => k (zipD xs ys)
  | [.tuple xs, .tuple ys], k => k (zipD xs ys)
  | _, _ => False
theorem ii_zip {p tpos : Pos} {elts : List Expr} {kk : Nat} (ck : CK X) (h : EA X ρ [a, b] fun ds ρ1 => zipK ds fun zs => Θ zs ρ1) (hg : Gl X "zip" := by rfl)
    (hs : starEach [a, b] X.env = (false, eval a X.env) :: starEach [b] X.env := by rfl) (hpl : (backTo pos (starEach [b] X.env)).any (·.1) = false := by rfl) : II X ρ (.Tuple elts kk tpos) (.Call (.Name "zip" p) [a, b] [] pos) Θ :=
  ⟨_, RZ.pi_zipA hg (ck.bt _ (by simp [bNames])) paW hs hpl, fun F σ H R S k => h F σ H _ S fun vs H' ds ρ' q S' g r => by
    match ds, q, r with
    | [.list xs, .list ys], q, .cons (.lst e1 r1) (.cons (.lst e2 r2) .nil) => exact ⟨_, _, _, _, rfl, .inl ⟨.of (mask_le _ _ e1), .of (mask_le _ _ e2), k _ H' _ ρ' q S' g (jok_zip e1 e2 r1 r2)⟩⟩
    | [.tuple xs, .tuple ys], q, .cons (.tup e1 r1) (.cons (.tup e2 r2) .nil) => exact ⟨_, _, _, _, rfl, .inr ⟨.of (mask_le _ _ e1), .of (mask_le _ _ e2), k _ H' _ ρ' q S' g (jok_zipT e1 e2 r1 r2)⟩⟩⟩
def enumD (ds : List PyData) : List PyData := ds.mapIdx fun i d => .tuple [.int (i : Int), d]
theorem enumD_get {ds : List PyData} {i : Nat} {p : PyData} (h : (enumD ds)[i]? = some p) : ∃ d, ds[i]? = some d ∧ p = .tuple [.int (i : Int), d] := by
  unfold enumD at h
  rw [List.getElem?_mapIdx] at h
  cases h1 : ds[i]? with
  | none => rw [h1] at h; cases h
  | some d =>
    rw [h1] at h
    exact ⟨d, rfl, (Option.some.inj h).symm⟩
theorem enumD_len (ds : List PyData) : (enumD ds).length = ds.length := by unfold enumD; rw [List.length_mapIdx]
theorem jok_enum {K : PySem.W.Frag} {G : Hp} {l : Addr} {vs : List V} {ds : List PyData} (e1 : G l = some (.lst vs)) (r1 : RpAll G vs ds) : JOk (Ite K l) G (enumD ds) where
  go := fun i H d s hd => by
    obtain ⟨x, h1, _⟩ := enumD_get hd
    obtain ⟨v, hv, _⟩ := r1.get h1
    exact ⟨vs, v, .of (s _ _ e1), hv⟩
  yld := fun i H d x H' s hd y => by
    obtain ⟨p, h1, ed⟩ := enumD_get hd
    obtain ⟨v, hv, rv⟩ := r1.get h1
    obtain ⟨T, x1, ex, hT, eH, f1⟩ := y
    have q1 := f1 vs (.of (s _ _ e1))
    rw [hv] at q1; cases q1
    subst ex eH ed
    exact rp_pair s hT (.int _) rv
  stop := fun i H s hi => ⟨vs, .of (s _ _ e1), by rw [enumD_len] at hi; rw [r1.length]; exact Nat.le_of_eq hi⟩
theorem ii_enumL {p tpos : Pos} {elts : List Expr} {kk : Nat} (ck : CK X) (h : EA X ρ [a] fun ds ρ1 => ∃ xs, ds = [.list xs] ∧ Θ (enumD xs) ρ1) (hg : Gl X "enumerate" := by rfl)
    (hs : starEach [a] X.env = [(false, eval a X.env)] := by rfl) : II X ρ (.Tuple elts kk tpos) (.Call (.Name "enumerate" p) [a] [] pos) Θ :=
  ⟨_, pi_enum hg (ck.bt _ (by simp [bNames])) paW hs, fun F σ H R S k => h F σ H _ S fun vs H' ds ρ' ⟨xs, ed, q⟩ S' g r => by
    subst ed
    match r with
    | .cons (.lst e1 r1) .nil => exact ⟨_, _, rfl, .of (mask_le _ _ e1), k _ H' _ ρ' q S' g (jok_enum e1 r1)⟩⟩

/-! ### list comprehensions that change nothing -/
/-- the slots as a comprehension's block sees them: its own names without a value, what is one's own hidden -/
def hideAt (vs : List Nat) : Nat → List Sl → List Sl
  | _, [] => []
  | i, s :: r => (if i ∈ vs then .non else if s.ad = [] then s else .non) :: hideAt vs (i + 1) r
theorem os_hide (vs : List Nat) : ∀ (i : Nat) (ρ : List Sl), os (hideAt vs i ρ) = []
  | _, [] => rfl
  | i, s :: r => by
    unfold hideAt
    show (if i ∈ vs then Sl.non else if s.ad = [] then s else Sl.non).ad ++ os (hideAt vs (i + 1) r) = []
    rw [os_hide vs (i + 1) r, List.append_nil]
    split
    · rfl
    · split
      · assumption
      · rfl
theorem slots_hide {G H G' H' : Hp} {vs : List Nat} (g : Same G G') : ∀ {σ τ : L2.St} {ρ : List Sl} (i : Nat), SlotsOk G H σ ρ → τ.length = σ.length → (∀ j, i + j ∉ vs → τ[j]? = σ[j]?) → SlotsOk G' H' τ (hideAt vs i ρ)
  | [], [], [], _, _, _, _ => trivial
  | [], _ :: _, _, _, _, l, _ => by simp at l
  | _ :: _, [], _, _, _, l, _ => by simp at l
  | [], _, _ :: _, _, h, _, _ => h.elim
  | _ :: _, _, [], _, h, _, _ => h.elim
  | x :: xs, y :: ys, s :: r, i, h, l, e => by
    unfold hideAt
    refine ⟨?_, slots_hide g (i + 1) h.2 (by simpa using l) fun j hj => ?_⟩
    · by_cases hi : i ∈ vs
      · rw [if_pos hi]; trivial
      · rw [if_neg hi]
        have e0 := e 0 (by simpa using hi)
        simp only [List.getElem?_cons_zero, Option.some.injEq] at e0
        subst e0
        by_cases hs : s.ad = []
        · rw [if_pos hs]
          exact h.1.up g fun a m => by rw [hs] at m; cases m
        · rw [if_neg hs]; trivial
    · have := e (j + 1) (by rw [show i + (j + 1) = i + 1 + j by omega]; exact hj)
      simpa using this
@[reducible] def TTs (X : Cx) (ρ : List Sl) : List Expr → (Bool → List Sl → Prop) → Prop
  | [], Ψ => Ψ true ρ
  | [c], Ψ => ET X ρ c Ψ
  | _, _ => False
def tTs (X : Cx) : List Expr → TT
  | [] => tYes
  | [c] => tT X c
  | _ => fun _ _ _ => False
theorem ptsW : ∀ {ifs : List Expr}, PTs X ifs (tTs X ifs)
  | [] => pts_nil
  | [c] => pts_one ptW
  | _ :: _ :: _ => ⟨fun _ _ _ _ _ _ h => h.elim⟩
theorem tts_run : ∀ {ifs : List Expr} {Ψ : Bool → List Sl → Prop} {ρ : List Sl}, TTs X ρ ifs Ψ → ∀ {F : Fm} {σ : L2.St} {H : Hp}, Stt F H σ ρ → ∀ {Q : Bool → Hp → Prop}, (∀ i H' ρ', Ψ i ρ' → Stt F H' σ ρ' → Same (gh F ρ H) (gh F ρ' H') → Q i H') → tTs X ifs σ H Q
  | [], _, ρ, h, _, _, H, S, _, q => q true H ρ h S (Same.refl _)
  | [c], _, _, h, F, σ, H, S, Q, q => h F σ H _ S fun b H' ρ' hb S' g => q b H' ρ' hb S' g
  | _ :: _ :: _, _, _, h, _, _, _, _, _, _ => h.elim
/-- the contexts of a comprehension's block -/
structure Blk (X : Cx) (scope : Scope) (X' : Cx) : Prop where
  ex : ∃ (s : Shared) (H : Hp) (C : Addr) (cl : List (Str × Addr)) (fp : List Addr), X' = X.blk s H scope (compEnvC scope cl C X.env) fp
theorem CK.blk (ck : CK X) {s : Shared} {H : Hp} {scope : Scope} {env : Env} {fp : List Addr} : CK (X.blk s H scope env fp) := ⟨ck.calm, ck.nd, ck.hu, ck.bt⟩
theorem wipe_at {σ : L2.St} {i : Nat} : ∀ {vs : List Nat}, i ∈ vs → i < σ.length → (wipe σ vs)[i]? = some none
  | [], h, _ => nomatch h
  | v :: vs, h, l => by
    unfold wipe
    by_cases z : v = i
    · subst z
      rw [List.getElem?_set_self (by rw [wipe_length]; exact l)]
    · rw [List.getElem?_set_ne z]
      exact wipe_at ((List.mem_cons.mp h).elim (fun y => absurd y.symm z) id) l
theorem wipe_same {σ τ : L2.St} {vs : List Nat} (l : τ.length = σ.length) (h : ∀ i, i ∉ vs → τ[i]? = σ[i]?) : wipe τ vs = wipe σ vs := by
  refine List.ext_getElem? fun i => ?_
  by_cases m : i ∈ vs
  · by_cases hi : i < σ.length
    · rw [wipe_at m hi, wipe_at m (by omega)]
    · rw [List.getElem?_eq_none (by rw [wipe_length]; omega), List.getElem?_eq_none (by rw [wipe_length]; omega)]
  · rw [wipe_out m, wipe_out m, h i m]
/-- a comprehension's part from an item d on: the target, the tests, the element: it gives o -/
def LcB (X : Cx) (scope : Scope) (ρ0 : List Sl) (tg elt : Expr) (ifs : List Expr) (vs : List Nat) (d : PyData) (o : Option PyData) : Prop :=
  ∃ js : List Nat, (∀ j ∈ js, j ∈ vs) ∧ ∀ (s : Shared) (H : Hp) (C : Addr) (cl : List (Str × Addr)) (fp : List Addr), GG (X.blk s H scope (compEnvC scope cl C X.env) fp) ρ0 tg d js fun ρ2 =>
    ∀ (s : Shared) (H : Hp) (C : Addr) (cl : List (Str × Addr)) (fp : List Addr), TTs (X.blk s H scope (compEnvC scope cl C X.env) fp) ρ2 ifs fun t ρ3 =>
      if t = true then ∀ (s : Shared) (H : Hp) (C : Addr) (cl : List (Str × Addr)) (fp : List Addr), EE (X.blk s H scope (compEnvC scope cl C X.env) fp) ρ3 elt fun y _ => o = some y else o = none
def lcG (X : Cx) (scope : Scope) (tg : Expr) : TG := fun v σ' H' Q' => ∀ (s : Shared) (Hb : Hp) (C : Addr) (cl : List (Str × Addr)) (fp : List Addr), tG (X.blk s Hb scope (compEnvC scope cl C X.env) fp) tg v σ' H' Q'
def lcT (X : Cx) (scope : Scope) (ifs : List Expr) : TT := fun σ' H' Q' => ∀ (s : Shared) (Hb : Hp) (C : Addr) (cl : List (Str × Addr)) (fp : List Addr), tTs (X.blk s Hb scope (compEnvC scope cl C X.env) fp) ifs σ' H' Q'
def lcE (X : Cx) (scope : Scope) (elt : Expr) : TE := fun σ' H' Q' => ∀ (s : Shared) (Hb : Hp) (C : Addr) (cl : List (Str × Addr)) (fp : List Addr), tW (X.blk s Hb scope (compEnvC scope cl C X.env) fp) elt σ' H' Q'
theorem lc_run {J : It} {F : Fm} {σ : L2.St} {H1 : Hp} {ρ1 : List Sl} {ds : List PyData} {scope : Scope} {vs : List Nat} {elt : Expr} {ifs : List Expr} {Q : VK}
    (S1 : Stt F H1 σ ρ1) (jo : JOk J (gh F ρ1 H1) ds) (g : PyData → Option PyData) (hz : ds.length ≤ 1000000) (hb : ∀ d ∈ ds, LcB X scope (hideAt vs 0 ρ1) tg elt ifs vs d (g d))
    (q : ∀ D H', Same H1 H' → Rp (gh F ρ1 H') (.ref D) (.list (ds.filterMap g)) → Q (.ref D) H') :
    ∀ D, H1 D = none → ∃ W : Nat → Nat → Hp → Prop, (∃ m, W 0 m (upd H1 D (.lst []))) ∧ ∀ i m H, W i m H →
      (J.stop i H ∧ Q (.ref D) H) ∨ (J.go i H ∧ ∃ Nx : Hp → Prop, (∀ H', Nx H' → ∃ m', m' < m ∧ W (i + 1) m' H') ∧ ∀ x H', J.yld i H x H' →
        lcG X scope tg x (wipe σ vs) H' fun σ2 H2 => wipe σ2 vs = wipe σ vs ∧ lcT X scope ifs σ2 H2 fun b H3 =>
        if b = true then lcE X scope elt σ2 H3 fun y H4 => ∃ acc, H4 D = some (.lst acc) ∧ acc.length < sizeLine ∧ Nx (upd H4 D (.lst (acc ++ [y]))) else Nx H3) := by
  intro D hD
  have sD := same_new (o := .lst []) hD
  have nD : D ∉ F.hd ++ os ρ1 := fun m => S1.ad D m hD
  refine ⟨fun i m H => m = ds.length - i ∧ i ≤ ds.length ∧ Same H1 H ∧ ∃ us, H D = some (.lst us) ∧ RpAll (mask (D :: (F.hd ++ os ρ1)) H) us ((ds.take i).filterMap g), ⟨ds.length, by omega, Nat.zero_le _, sD, [], upd_same, .nil⟩, ?_⟩
  rintro i m H ⟨rfl, hi, s1, us, eD, rD⟩
  have sG : Same (gh F ρ1 H1) H := mask_le.trans s1
  by_cases hlt : i < ds.length
  · have hd : ds[i]? = some ds[i] := List.getElem?_eq_getElem hlt
    have tk : (ds.take (i + 1)).filterMap g = (ds.take i).filterMap g ++ (g ds[i]).toList := by
      rw [List.take_add_one, hd, List.filterMap_append]
      cases hg : g ds[i] <;> simp [hg]
    refine .inr ⟨jo.go i H _ sG hd, fun H' => Same H1 H' ∧ ∃ us, H' D = some (.lst us) ∧ RpAll (mask (D :: (F.hd ++ os ρ1)) H') us ((ds.take (i + 1)).filterMap g), fun H' ⟨a, b⟩ => ⟨ds.length - (i + 1), by omega, rfl, hlt, a, b⟩, fun x H' y s Hb C cl fp => ?_⟩
    obtain ⟨sH, rx⟩ := jo.yld i H _ x H' sG hd y
    obtain ⟨js, hjs, hb1⟩ := hb _ (List.getElem_mem hlt)
    have up : ∀ a ∈ D :: (F.hd ++ os ρ1), H a ≠ none := fun a ma => by
      rcases List.mem_cons.mp ma with z | z
      · rw [z, eD]; exact fun z => nomatch z
      · cases q0 : H1 a with
        | none => exact absurd q0 (S1.ad a z)
        | some o => rw [s1 a o q0]; exact fun z => nomatch z
    have up' : ∀ a ∈ D :: (F.hd ++ os ρ1), H' a ≠ none := fun a ma => by
      cases q0 : H a with
      | none => exact absurd q0 (up a ma)
      | some o => rw [sH a o q0]; exact fun z => nomatch z
    have mk : ∀ H5, Same H1 H5 → Same (gh F ρ1 H1) (mask (D :: (F.hd ++ os ρ1)) H5) := fun H5 s5 => mask_mono (fun a ma ha => by
      rcases List.mem_cons.mp ma with z | z
      · exact absurd (z ▸ hD) ha
      · exact z) fun a o _ e => s5 a o e
    have S2 : Stt ⟨D :: (F.hd ++ os ρ1), [], H'⟩ H' (wipe σ vs) (hideAt vs 0 ρ1) := by
      have eo := os_hide vs 0 ρ1
      refine ⟨up', fun a o _ e => e, fun a e => e, by rw [eo]; exact List.nodup_nil, (fun a ma => by rw [eo] at ma; cases ma), (fun a ma => by rw [eo] at ma; cases ma), ?_⟩
      refine slots_hide (G := gh F ρ1 H1) (H := H1) ?_ 0 S1.sl (wipe_length σ vs) fun j hj => wipe_out (by simpa using hj)
      show Same (gh F ρ1 H1) (mask (D :: (F.hd ++ os ρ1) ++ os (hideAt vs 0 ρ1)) H')
      rw [eo, List.append_nil]
      exact mk H' (s1.trans sH)
    have rx' : Rp (gh ⟨D :: (F.hd ++ os ρ1), [], H'⟩ (hideAt vs 0 ρ1) H') x ds[i] := by
      show Rp (mask (D :: (F.hd ++ os ρ1) ++ os (hideAt vs 0 ρ1)) H') x ds[i]
      rw [os_hide, List.append_nil]
      refine rx _ up fun a ma => ?_
      rcases List.mem_cons.mp ma with z | z
      · rw [z]; exact (mask_out nD).trans hD
      · exact mask_in z
    refine hb1 s Hb C cl fp _ (wipe σ vs) H' x _ S2 rx' fun σ2 ρ2 h2 S3 g3 e3 => ⟨?_, fun s Hb C cl fp => ?_⟩
    · rw [wipe_same e3.1 fun j hj => e3.2 j fun m => hj (hjs j m)]
      exact wipe_same (wipe_length σ vs) fun j hj => wipe_out hj
    · have fin : ∀ {H3 : Hp} {ρ3 : List Sl}, Stt ⟨D :: (F.hd ++ os ρ1), [], H'⟩ H3 σ2 ρ3 → Same H' H3 := fun S a o e => S.fr a o (fun z => nomatch z) e
      have carry : ∀ {H3 : Hp}, Same H' H3 → H3 D = some (.lst us) ∧ RpAll (mask (D :: (F.hd ++ os ρ1)) H3) us ((ds.take i).filterMap g) := fun s3 => ⟨s3 _ _ (sH _ _ eD), RpAll.up (mask_same (sH.trans s3)) _ _ rD⟩
      refine tts_run (h2 s Hb C cl fp) S3 fun t H3 ρ3 h3 S4 g4 => ?_
      cases t with
      | false =>
        rw [if_neg Bool.false_ne_true] at h3
        obtain ⟨c1, c2⟩ := carry (fin S4)
        refine iteF ⟨(s1.trans sH).trans (fin S4), us, c1, ?_⟩
        rw [tk, h3]
        rw [show (none : Option PyData).toList = [] from rfl, List.append_nil]
        exact c2
      | true =>
        rw [if_pos rfl] at h3
        refine iteT fun s Hb C cl fp => h3 s Hb C cl fp _ σ2 H3 _ S4 fun y H4 d ρ4 hd4 S5 g5 r5 => ?_
        obtain ⟨c1, c2⟩ := carry (fin S5)
        refine ⟨us, c1, big_lt ?_, ?_, us ++ [y], upd_same, ?_⟩
        · have l1 := c2.length
          have l2 := List.length_filterMap_le g (ds.take i)
          rw [List.length_take] at l2
          omega
        · have s5 := (s1.trans sH).trans (fin S5)
          intro a o ea
          rw [upd_ne (ne_of_none ea hD)]
          exact s5 a o ea
        · rw [tk, hd4]
          have em : mask (D :: (F.hd ++ os ρ1)) (upd H4 D (.lst (us ++ [y]))) = mask (D :: (F.hd ++ os ρ1)) H4 := by
            funext a
            by_cases ha : a ∈ D :: (F.hd ++ os ρ1)
            · rw [mask_in ha, mask_in ha]
            · rw [mask_out ha, mask_out ha, upd_ne fun z => ha (by rw [z]; exact List.mem_cons_self)]
          rw [em]
          refine c2.app (.cons (Rp.up (mask_sub fun a ma => List.mem_append_left _ ma) _ _ r5) .nil)
  · have e : i = ds.length := by omega
    subst e
    rw [List.take_length] at rD
    refine .inl ⟨jo.stop _ H sG rfl, q D H s1 (.lst ((mask_out nD).trans eD) (RpAll.up (mask_sub fun a ma => List.mem_cons_of_mem _ ma) _ _ rD))⟩
/-- what a comprehension asks: the items, and how each goes -/
@[reducible] def LcK (X : Cx) (scope : Scope) (tg elt : Expr) (ifs : List Expr) (vs : List Nat) (Φ : PyData → List Sl → Prop) (ds : List PyData) (ρ1 : List Sl) : Prop :=
  ∃ g : PyData → Option PyData, ds.length ≤ 1000000 ∧ (∀ d ∈ ds, LcB X scope (hideAt vs 0 ρ1) tg elt ifs vs d (g d)) ∧ Φ (.list (ds.filterMap g)) ρ1
theorem ee_lc {iter elt : Expr} {ifs : List Expr} {scope : Scope} (own : List (Str × Nat)) (ck : CK X) (ok : BlkOk X.N X.env.scope scope own) (h : II X ρ tg iter fun ds ρ1 => LcK X scope tg elt ifs (own.map (·.2)) Φ ds ρ1)
    (hs : ∀ x, foldedSetIterable iter X.env x = pure x := by intro _; rfl) : EE X ρ (.ListComp elt [⟨tg, iter, ifs, 0⟩] scope pos) Φ := fun F σ H Q S k => by
  obtain ⟨wi, hi, hr⟩ := h
  refine ofPE (pe_lc (g := lcG X scope tg) (tt := lcT X scope ifs) (te := lcE X scope elt) ck.calm ck.nd hi ok (fun s H C cl fp => ⟨fun pins s' σ H' v u Q I r h => pgW.run pins s' σ H' v u Q I r (h s H C cl fp)⟩)
    (fun s H C cl fp => ⟨fun pins s' σ H' Q I h => ptsW.run pins s' σ H' Q I (h s H C cl fp)⟩) (fun s H C cl fp => ⟨fun pins s' σ H' Q I h => peW.run pins s' σ H' Q I (h s H C cl fp)⟩) hs) ?_
  refine hr F σ H _ S fun J H1 ds ρ1 ⟨g, hz, hb, q⟩ S1 g1 jo => ?_
  exact lc_run S1 jo g hz hb fun D H' s1 r => k _ H' _ ρ1 q (S1.ext s1) (g1.trans (S1.gext s1)) r
/-- y = [..] -/
theorem ss_setLc {iter elt : Expr} {ifs : List Expr} {scope : Scope} {y : Str} {py spos : Pos} (j : Nat) (own : List (Str × Nat)) (ck : CK X) (ok : BlkOk X.N X.env.scope scope own) (h : II X ρ tg iter fun ds ρ1 => LcK X scope tg elt ifs (own.map (·.2)) (fun d ρ2 => D.nx (ρ2.set j (.dat d))) ds ρ1)
    (hsw : swapsWith (.ListComp elt [⟨tg, iter, ifs, 0⟩] scope pos) (some (.Name y py)) spos.line X.env = pure true) (hy : X.N[j]? = some y := by rfl) (hyl : X.env.scope.names.lookup y = some .local := by rfl)
    (hs : ∀ x, foldedSetIterable iter X.env x = pure x := by intro _; rfl) : SS X ρ (.Assign [.Name y py] (.ListComp elt [⟨tg, iter, ifs, 0⟩] scope pos) spos) D := fun F σ H E S k => by
  obtain ⟨wi, hi, hr⟩ := h
  refine ofPS (ps_setLc (g := lcG X scope tg) (tt := lcT X scope ifs) (te := lcE X scope elt) ck.calm ck.nd hy hyl hsw hi ok (fun s H C cl fp => ⟨fun pins s' σ H' v u Q I r h => pgW.run pins s' σ H' v u Q I r (h s H C cl fp)⟩)
    (fun s H C cl fp => ⟨fun pins s' σ H' Q I h => ptsW.run pins s' σ H' Q I (h s H C cl fp)⟩) (fun s H C cl fp => ⟨fun pins s' σ H' Q I h => peW.run pins s' σ H' Q I (h s H C cl fp)⟩) hs) ?_
  refine hr F σ H _ S fun J H1 ds ρ1 ⟨g, hz, hb, q⟩ S1 g1 jo => ?_
  refine lc_run (Q := fun x H1 => gName j x σ H1 E.nx) S1 jo g hz hb fun D H' s1 r => ?_
  have S2 := S1.ext s1
  exact k.nx _ _ _ q (S2.set j rfl ⟨_, rfl, r⟩) ((g1.trans (S1.gext s1)).trans (S2.gset j rfl))
/-- .. without tests: each item by f -/
theorem lcK_map {elt : Expr} {scope : Scope} {vs : List Nat} {ds : List PyData} {ρ1 : List Sl} (f : PyData → PyData) (hz : ds.length ≤ 1000000) (js : List Nat) (hjs : ∀ j ∈ js, j ∈ vs)
    (hb : ∀ d ∈ ds, ∀ (s : Shared) (H : Hp) (C : Addr) (cl : List (Str × Addr)) (fp : List Addr), GG (X.blk s H scope (compEnvC scope cl C X.env) fp) (hideAt vs 0 ρ1) tg d js fun ρ2 =>
      ∀ (s : Shared) (H : Hp) (C : Addr) (cl : List (Str × Addr)) (fp : List Addr), EE (X.blk s H scope (compEnvC scope cl C X.env) fp) ρ2 elt fun y _ => f d = y) (q : Φ (.list (ds.map f)) ρ1) : LcK X scope tg elt [] vs Φ ds ρ1 :=
  ⟨fun d => some (f d), hz, fun d hd => ⟨js, hjs, fun s H C cl fp F σ H' v Q S r k => hb d hd s H C cl fp F σ H' v Q S r fun σ' ρ' h => k σ' ρ' fun s H C cl fp => by
    unfold TTs
    exact iteT fun s H C cl fp => (h s H C cl fp).mono fun y _ e => congrArg some e⟩, by rw [show (fun d => some (f d)) = some ∘ f from rfl, List.filterMap_eq_map]; exact q⟩

/-! ### statements -/
theorem bb_nil (q : D.nx ρ) : BB X ρ [] D := fun F σ H E S k => ofPSs pss_nil (k.nx σ H ρ q S (Same.refl _))
theorem bb_cons {st : Stmt} {r : List Stmt} (h : SS X ρ st { D with nx := fun ρ1 => BB X ρ1 r D }) : BB X ρ (st :: r) D := fun F σ H E S k =>
  ofPSs (pss_cons psW pssW) (h F σ H _ S ⟨fun σ' H' ρ' q S' g => q F σ' H' E S' (k.to g), k.rt, k.bk, k.ct⟩)
theorem bb_one {st : Stmt} (h : SS X ρ st D) : BB X ρ [st] D := fun F σ H E S k => ofPSs (pss_one psW) (h F σ H E S k)
/-- an own list becomes a datum -/
theorem bb_freeze (i : Nat) {l : Addr} {ds : List PyData} {r : List Stmt} (hs : ρ[i]? = some (.own l ds)) (h : BB X (ρ.set i (.dat (.list ds))) r D) : BB X ρ r D := fun F σ H E S k => h F σ H E (S.freeze hs) (k.to (S.gset i rfl))
theorem ss_freeze (i : Nat) {l : Addr} {ds : List PyData} {r : Stmt} (hs : ρ[i]? = some (.own l ds)) (h : SS X (ρ.set i (.dat (.list ds))) r D) : SS X ρ r D := fun F σ H E S k => h F σ H E (S.freeze hs) (k.to (S.gset i rfl))
theorem ss_set (j : Nat) {x : Str} {px : Pos} (ck : CK X) (h : EE X ρ e fun d ρ1 => D.nx (ρ1.set j (.dat d))) (hi : X.N[j]? = some x := by rfl) (hx : Loc X.env.scope x := by first | exact Or.inl rfl | exact Or.inr rfl)
    (hs : swapsWith e (some (.Name x px)) pos.line X.env = pure false := by rfl) (hf : X.fn x = true ∨ X.env.scope.names.lookup x = some .local := by first | exact .inl rfl | exact .inr rfl) : SS X ρ (.Assign [.Name x px] e pos) D := fun F σ H E S k =>
  ofPS (ps_set ck.nd hi hx peW hs hf) (h F σ H _ S fun v H' d ρ' q S' g r => k.nx _ _ _ q (S'.set j rfl ⟨v, rfl, r⟩) (g.trans (S'.gset j rfl)))
/-- x = [..], a list of one's own -/
theorem ss_setL (j : Nat) {x : Str} {px p2 : Pos} {es : List Expr} (ck : CK X) (h : EA X ρ es fun ds ρ1 => ds.length ≤ 1000000 ∧ ∀ l, D.nx (ρ1.set j (.own l ds))) (hi : X.N[j]? = some x := by rfl) (hx : Loc X.env.scope x := by first | exact Or.inl rfl | exact Or.inr rfl)
    (hs : swapsWith (.List es p2) (some (.Name x px)) pos.line X.env = pure false := by rfl) (hf : X.fn x = true ∨ X.env.scope.names.lookup x = some .local := by first | exact .inl rfl | exact .inr rfl) : SS X ρ (.Assign [.Name x px] (.List es p2) pos) D := fun F σ H E S k =>
  ofPS (ps_set ck.nd hi hx (pe_lst paW) hs hf) (h F σ H _ S fun vs H' ds ρ' ⟨hl, q⟩ S' g r => ⟨big_le (by rw [r.length]; exact hl), fun p hp => by
    have s2 := same_new (o := .lst vs) hp
    refine k.nx _ _ _ (q p) (S'.new j hp s2 rfl (by rw [upd_same]; exact fun z => nomatch z) ⟨rfl, vs, upd_same, RpAll.up ?_ _ _ r⟩) (g.trans (S'.gnew j hp s2 rfl))
    exact mask_mono (fun b m hb => (List.mem_cons.mp m).elim (fun z => absurd (z ▸ hp) hb) id) fun b o _ q => s2 b o q⟩)
/-- a, b, .. = e, e a tuple -/
theorem ss_asg {tg : Expr} {js : List Nat} (h : EE X ρ e fun d ρ1 => GG X ρ1 tg d js D.nx) (hs : swapsWithSole [tg] e pos.line X.env = pure false := by rfl) (hw : swappedStores [tg] e X.env = pure none := by rfl)
    (h1 : (assignEach [tg] X.env).map (·.2) = [assign tg X.env] := by rfl) : SS X ρ (.Assign [tg] e pos) D := fun F σ H E S k =>
  ofPS (ps_asg peW pgW hs hw h1) (h F σ H _ S fun v H' d ρ' q S' g r => q F σ H' v _ S' r fun σ' ρ2 q2 S2 g2 _ => k.nx _ _ _ q2 S2 (g.trans g2))
theorem ss_par {i j : Nat} {x y : Str} {px py pt : Pos} {kt k2 pt2} (ck : CK X) (h : EA X ρ [a, b] fun ds ρ1 => ∃ d1 d2, ds = [d1, d2] ∧ D.nx ((ρ1.set i (.dat d1)).set j (.dat d2))) (hij : i ≠ j := by decide)
    (hi : X.N[i]? = some x := by rfl) (hj : X.N[j]? = some y := by rfl) (hx : X.env.scope.names.lookup x = some .local := by rfl) (hy : X.env.scope.names.lookup y = some .local := by rfl)
    (hw : swappedStores [.Tuple [.Name x px, .Name y py] kt pt] (.Tuple [a, b] k2 pt2) X.env = pure (some [x, y]) := by rfl)
    (hs : swapsWithSole [.Tuple [.Name x px, .Name y py] kt pt] (.Tuple [a, b] k2 pt2) pos.line X.env = pure false := by rfl) : SS X ρ (.Assign [.Tuple [.Name x px, .Name y py] kt pt] (.Tuple [a, b] k2 pt2) pos) D := fun F σ H E S k =>
  ofPS (ps_par ck.calm ck.nd hi hj hij hx hy paW hw hs) (h F σ H _ S fun vs H' ds ρ' ⟨d1, d2, ed, q⟩ S' g r => by
    subst ed
    match r with
    | .cons r1 (.cons r2 .nil) =>
      have S2 := S'.set i (s := .dat d1) rfl ⟨_, rfl, r1⟩
      have g2 := S'.gset (s := .dat d1) i rfl
      have S3 := S2.set j (s := .dat d2) rfl ⟨_, rfl, Rp.up g2 _ _ r2⟩
      exact ⟨_, _, rfl, k.nx _ _ _ q S3 ((g.trans g2).trans (S2.gset j rfl))⟩)
theorem ss_par3 {i j l : Nat} {x y z : Str} {px py pz pt : Pos} {kt k2 pt2} (ck : CK X) (h : EA X ρ [a, b, c] fun ds ρ1 => ∃ d1 d2 d3, ds = [d1, d2, d3] ∧ D.nx (((ρ1.set i (.dat d1)).set j (.dat d2)).set l (.dat d3))) (hij : i ≠ j := by decide) (hil : i ≠ l := by decide) (hjl : j ≠ l := by decide)
    (hi : X.N[i]? = some x := by rfl) (hj : X.N[j]? = some y := by rfl) (hl : X.N[l]? = some z := by rfl) (hx : X.env.scope.names.lookup x = some .local := by rfl) (hy : X.env.scope.names.lookup y = some .local := by rfl) (hz : X.env.scope.names.lookup z = some .local := by rfl)
    (hw : swappedStores [.Tuple [.Name x px, .Name y py, .Name z pz] kt pt] (.Tuple [a, b, c] k2 pt2) X.env = pure (some [x, y, z]) := by rfl)
    (hs : swapsWithSole [.Tuple [.Name x px, .Name y py, .Name z pz] kt pt] (.Tuple [a, b, c] k2 pt2) pos.line X.env = pure false := by rfl) : SS X ρ (.Assign [.Tuple [.Name x px, .Name y py, .Name z pz] kt pt] (.Tuple [a, b, c] k2 pt2) pos) D := fun F σ H E S k =>
  ofPS (ps_par3 ck.calm ck.nd hi hj hl hij hil hjl hx hy hz paW hw hs) (h F σ H _ S fun vs H' ds ρ' ⟨d1, d2, d3, ed, q⟩ S' g r => by
    subst ed
    match r with
    | .cons r1 (.cons r2 (.cons r3 .nil)) =>
      have S2 := S'.set i (s := .dat d1) rfl ⟨_, rfl, r1⟩
      have g2 := S'.gset (s := .dat d1) i rfl
      have S3 := S2.set j (s := .dat d2) rfl ⟨_, rfl, Rp.up g2 _ _ r2⟩
      have g3 := S2.gset (s := .dat d2) j rfl
      have S4 := S3.set l (s := .dat d3) rfl ⟨_, rfl, Rp.up (g2.trans g3) _ _ r3⟩
      exact ⟨_, _, _, rfl, k.nx _ _ _ q S4 (((g.trans g2).trans g3).trans (S3.gset l rfl))⟩)
theorem ss_ret (h : EE X ρ e D.rt) : SS X ρ (.Return (some e) pos) D := fun F σ H E S k => ofPS (ps_ret peW) (h F σ H _ S fun v H' d ρ' q S' g r => k.rt v σ H' d ρ' q S' g r)
theorem ss_if {t u : List Stmt} (h : ET X ρ c fun b ρ1 => if b = true then BB X ρ1 t D else BB X ρ1 u D) : SS X ρ (.If c t u pos) D := fun F σ H E S k =>
  ofPS (ps_if ptW pssW pssW) (h F σ H _ S fun b H' ρ' q S' g => by
    cases b with
    | true => rw [if_pos rfl] at q; exact iteT (q F σ H' E S' (k.to g))
    | false => rw [if_neg Bool.false_ne_true] at q; exact iteF (q F σ H' E S' (k.to g)))
theorem ss_expr (h : EE X ρ e fun _ ρ1 => D.nx ρ1) (hs : swapsWith e none pos.line X.env = pure false := by rfl) : SS X ρ (.Expr e pos) D := fun F σ H E S k =>
  ofPS (ps_expr peW hs) (h F σ H _ S fun v H' d ρ' q S' g r => k.nx _ _ _ q S' g)
/-- an own list grows -/
theorem ss_app (i : Nat) {x : Str} {px ap cp : Pos} {l : Addr} {ds : List PyData} (hs : ρ[i]? = some (.own l ds)) (h : EE X ρ e fun d ρ1 => ∃ ds', ρ1[i]? = some (.own l ds') ∧ ds'.length < 1000000 ∧ D.nx (ρ1.set i (.own l (ds' ++ [d])))) (hN : X.N[i]? = some x := by rfl)
    (hv : Vis X.env.scope x := by first | exact Or.inl rfl | exact Or.inr (Or.inl rfl) | exact Or.inr (Or.inr rfl)) (hd : (x == ("__debug__" : Str)) = false := by decide) (hcd : (x == ("__classdict__" : Str)) = false := by decide)
    (hw : swapsWith (.Call (.Attribute (.Name x px) "append" ap) [e] [] cp) none pos.line X.env = pure false := by rfl)
    (hfew : ((backTo cp (starEach [e] X.env)).all (fun x => !x.1) && (backToKw cp (keywordEach [] X.env)).all (fun x => x.1.isSome) && decide ([e].length + ([] : List Keyword).length + (if ([] : List Keyword).isEmpty then 0 else 1) < 30)) = true := by rfl)
    (hline : (ap.endLine == cp.line) = true := by rfl) (he : starEach [e] X.env = (false, eval e X.env) :: starEach [] X.env := by rfl) : SS X ρ (.Expr (.Call (.Attribute (.Name x px) "append" ap) [e] [] cp) pos) D := fun F σ H E S k => by
  obtain ⟨y, e1, e2, vs, e3, r3⟩ := S.sl.get hs
  subst e2
  refine ofPS (ps_expr (pe_bm PySem.F.plainAttrs_list PySem.F.slot_list_append PySem.F.type_list_append mt_append (pe_var hN hv hd hcd) (pa_cons peW pa_nil he) rfl hfew hline he rfl) hw) ⟨_, e1, .inl ⟨rfl, _, .of e3⟩, h F σ H _ S fun v H' d ρ' ⟨ds', es, hl, q⟩ S' g r => ?_⟩
  obtain ⟨y', e1', e2', us, e3', r3'⟩ := S'.sl.get es
  rw [e1] at e1'
  cases e1'
  refine ⟨l, us, v, rfl, rfl, e3', big_lt (by rw [r3'.length]; exact hl), ?_⟩
  have em : gh F (ρ'.set i (.own l (ds' ++ [d]))) (upd H' l (.lst (us ++ [v]))) = gh F ρ' H' := by
    have eo : os (ρ'.set i (.own l (ds' ++ [d]))) = os ρ' := os_set_same es rfl
    have mo : l ∈ os ρ' := os_at es (List.mem_singleton.mpr rfl)
    show mask (F.hd ++ os (ρ'.set i (.own l (ds' ++ [d])))) _ = _
    rw [eo]
    funext a
    by_cases ha : a ∈ F.hd ++ os ρ'
    · rw [mask_in ha]; exact (mask_in ha).symm
    · rw [mask_out ha, upd_ne fun z => ha (by rw [z]; exact List.mem_append_right _ mo)]; exact (mask_out ha).symm
  obtain ⟨S2, g2⟩ := S'.chg (s := .own l (ds' ++ [d])) (H2 := upd H' l (.lst (us ++ [v]))) es rfl rfl (fun a o ha e => by rw [upd_ne ha]; exact e) (by rw [upd_same]; exact fun z => nomatch z) fun x ⟨ex, us', e4, r4⟩ => by
    rw [e3'] at e4; cases e4
    refine ⟨ex, _, upd_same, ?_⟩
    rw [em]
    exact r4.app (.cons r .nil)
  exact k.nx _ _ _ q S2 (g.trans g2)
/-- an own list's item stored -/
theorem ss_ixset (i : Nat) {x : Str} {px sp : Pos} {l : Addr} (h : EE X ρ e fun d ρ1 => ∃ ds', ρ1[i]? = some (.own l ds') ∧ EE X ρ1 b fun db ρ2 => ∃ j n ds2, db = .int j ∧ ρ2[i]? = some (.own l ds2) ∧ ixN ds2.length j = some n ∧ D.nx (ρ2.set i (.own l (ds2.set n d)))) (hN : X.N[i]? = some x := by rfl)
    (hv : Vis X.env.scope x := by first | exact Or.inl rfl | exact Or.inr (Or.inl rfl) | exact Or.inr (Or.inr rfl)) (hd : (x == ("__debug__" : Str)) = false := by decide) (hcd : (x == ("__classdict__" : Str)) = false := by decide)
    (ha : ∀ v, assign (.Subscript (.Name x px) b sp) X.env v = (do
      let ov ← holding [v] (eval (.Name x px) X.env)
      let iv ← holding [v, ov] (eval b X.env)
      standAt sp
      holding [v, ov, iv] (setItem ov iv v)
      release [v, ov, iv] []) := by intro _; rfl)
    (hs : swapsWithSole [.Subscript (.Name x px) b sp] e pos.line X.env = pure false := by rfl) (hw : swappedStores [.Subscript (.Name x px) b sp] e X.env = pure none := by rfl)
    (h1 : (assignEach [.Subscript (.Name x px) b sp] X.env).map (·.2) = [assign (.Subscript (.Name x px) b sp) X.env] := by rfl) : SS X ρ (.Assign [.Subscript (.Name x px) b sp] e pos) D := fun F σ H E S k =>
  ofPS (ps_asg peW (pg_sub (pe_var hN hv hd hcd) peW set_list ha) hs hw h1) (h F σ H _ S fun v H1 d ρ1 ⟨ds', es, h1⟩ S1 g1 r1 => by
    obtain ⟨y, e1, e2, us, e3, r3⟩ := S1.sl.get es
    subst e2
    refine ⟨_, e1, h1 F σ H1 _ S1 fun u H2 db ρ2 ⟨j, n, ds2, ej, es2, hn, q⟩ S2 g2 r2 => ?_⟩
    subst ej
    cases r2
    obtain ⟨y', e1', e2', us, e3', r3'⟩ := S2.sl.get es2
    rw [e1] at e1'
    cases e1'
    cases e2'
    refine ⟨l, us, j, n, rfl, rfl, e3', by rw [r3'.length]; exact hn, ?_⟩
    have em : gh F (ρ2.set i (.own l (ds2.set n d))) (upd H2 l (.lst (us.set n v))) = gh F ρ2 H2 := by
      have eo : os (ρ2.set i (.own l (ds2.set n d))) = os ρ2 := os_set_same es2 rfl
      have mo : l ∈ os ρ2 := os_at es2 (List.mem_singleton.mpr rfl)
      show mask (F.hd ++ os (ρ2.set i (.own l (ds2.set n d)))) _ = _
      rw [eo]
      funext a
      by_cases ha : a ∈ F.hd ++ os ρ2
      · rw [mask_in ha]; exact (mask_in ha).symm
      · rw [mask_out ha, upd_ne fun z => ha (by rw [z]; exact List.mem_append_right _ mo)]; exact (mask_out ha).symm
    obtain ⟨S3, g3⟩ := S2.chg (s := .own l (ds2.set n d)) (H2 := upd H2 l (.lst (us.set n v))) es2 rfl rfl (fun a o ha e => by rw [upd_ne ha]; exact e) (by rw [upd_same]; exact fun z => nomatch z) fun x ⟨ex, us', e4, r4⟩ => by
      rw [e3'] at e4; cases e4
      refine ⟨ex, _, upd_same, ?_⟩
      rw [em]
      exact r4.st (Rp.up g2 _ _ r1)
    exact k.nx _ _ _ q S3 ((g1.trans g2).trans g3))

/-! ### loops -/
theorem ss_for {tg iter : Expr} {body : List Stmt} (ck : CK X) (h : II X ρ tg iter fun ds ρ1 => ∃ I : Nat → List Sl → Prop, I 0 ρ1 ∧
      (∀ (i : Nat) d ρ2, ds[i]? = some d → I i ρ2 → ∃ js, GG X ρ2 tg d js fun ρ3 => BB X ρ3 body { D with nx := I (i + 1), ct := I (i + 1), bk := D.nx }) ∧ ∀ ρ2, I ds.length ρ2 → D.nx ρ2)
    (hp : PassesOwn (model X.prog X.w) X.A X.env X.xe := by exact PassesOwn.never) (hs : ∀ x, foldedSetIterable iter X.env x = pure x := by intro _; rfl) : SS X ρ (.For tg iter body [] pos) D := fun F σ H E S k => by
  obtain ⟨wi, hi, hr⟩ := h
  refine ofPS (ps_for hp ck.calm hi pgW pssW hs) (hr F σ H _ S fun J H1 ds ρ1 ⟨I, h0, hst, hd⟩ S1 g1 jo => ?_)
  refine ⟨fun i m σ' H' => m = ds.length - i ∧ i ≤ ds.length ∧ ∃ ρ2, I i ρ2 ∧ Stt F H' σ' ρ2 ∧ Same (gh F ρ1 H1) (gh F ρ2 H'), ⟨ds.length, by omega, Nat.zero_le _, ρ1, h0, S1, Same.refl _⟩, ?_⟩
  rintro i m σ' H' ⟨rfl, hle, ρ2, hI, S2, g2⟩
  by_cases hlt : i < ds.length
  · have hdi : ds[i]? = some ds[i] := List.getElem?_eq_getElem hlt
    have sG : Same (gh F ρ1 H1) H' := g2.trans mask_le
    refine .inr ⟨jo.go i H' _ sG hdi, fun σ3 H3 => ∃ ρ3, I (i + 1) ρ3 ∧ Stt F H3 σ3 ρ3 ∧ Same (gh F ρ1 H1) (gh F ρ3 H3), fun σ3 H3 ⟨ρ3, a, b, c⟩ => ⟨ds.length - (i + 1), by omega, rfl, hlt, ρ3, a, b, c⟩, fun x H3 y => ?_⟩
    obtain ⟨sH, rx⟩ := jo.yld i H' _ x H3 sG hdi y
    obtain ⟨js, gg⟩ := hst i _ ρ2 hdi hI
    have S3 := S2.ext sH
    have rx' : Rp (gh F ρ2 H3) x ds[i] := rx _ S2.ad fun a ma => by
      cases q : gh F ρ1 H1 a with
      | none => rfl
      | some o =>
        have := g2 a o q
        rw [show gh F ρ2 H' a = none from mask_in ma] at this
        cases this
    have g3 := g2.trans (S2.gext sH)
    refine gg F σ' H3 x _ S3 rx' fun σ4 ρ4 hb S4 g4 _ => hb F σ4 H3 _ S4 ⟨fun σ5 H5 ρ5 q S5 g5 => ⟨ρ5, q, S5, (g3.trans g4).trans g5⟩, fun v σ5 H5 d ρ5 q S5 g5 r => k.rt v σ5 H5 d ρ5 q S5 (((g1.trans g3).trans g4).trans g5) r,
      fun σ5 H5 ρ5 q S5 g5 => k.nx σ5 H5 ρ5 q S5 (((g1.trans g3).trans g4).trans g5), fun σ5 H5 ρ5 q S5 g5 => ⟨ρ5, q, S5, (g3.trans g4).trans g5⟩⟩
  · have e : i = ds.length := by omega
    subst e
    exact .inl ⟨jo.stop _ H' (g2.trans mask_le) rfl, k.nx σ' H' ρ2 (hd ρ2 hI) S2 (g1.trans g2)⟩
theorem ss_while {body : List Stmt} (I : Nat → List Sl → Prop) (h0 : ∃ m, I m ρ) (hst : ∀ m ρ1, I m ρ1 → ET X ρ1 c fun t ρ2 => if t = true then BB X ρ2 body { D with nx := fun ρ3 => ∃ m', m' < m ∧ I m' ρ3, ct := fun ρ3 => ∃ m', m' < m ∧ I m' ρ3, bk := D.nx } else D.nx ρ2)
    (hp : PassesOwn (model X.prog X.w) X.A X.env X.xe := by exact PassesOwn.never) : SS X ρ (.While c body [] pos) D := fun F σ H E S k => by
  obtain ⟨m0, h0⟩ := h0
  refine ofPS (ps_while hp ptW pssW) ⟨fun m σ' H' => ∃ ρ1, I m ρ1 ∧ Stt F H' σ' ρ1 ∧ Same (gh F ρ H) (gh F ρ1 H'), ⟨m0, ρ, h0, S, Same.refl _⟩, ?_⟩
  rintro m σ' H' ⟨ρ1, hI, S1, g1⟩
  refine hst m ρ1 hI F σ' H' _ S1 fun t H2 ρ2 q S2 g2 => ?_
  cases t with
  | false =>
    rw [if_neg Bool.false_ne_true] at q
    exact iteF (k.nx σ' H2 ρ2 q S2 (g1.trans g2))
  | true =>
    rw [if_pos rfl] at q
    have g3 := g1.trans g2
    exact iteT ⟨fun σ3 H3 => ∃ m', m' < m ∧ ∃ ρ3, I m' ρ3 ∧ Stt F H3 σ3 ρ3 ∧ Same (gh F ρ H) (gh F ρ3 H3), fun σ3 H3 ⟨m', hm, ρ3, a⟩ => ⟨m', hm, ρ3, a⟩, q F σ' H2 _ S2 ⟨fun σ3 H3 ρ3 ⟨m', hm, hI'⟩ S3 g4 => ⟨m', hm, ρ3, hI', S3, g3.trans g4⟩,
      fun v σ3 H3 d ρ3 hq S3 g4 r => k.rt v σ3 H3 d ρ3 hq S3 (g3.trans g4) r, fun σ3 H3 ρ3 hq S3 g4 => k.nx σ3 H3 ρ3 hq S3 (g3.trans g4), fun σ3 H3 ρ3 ⟨m', hm, hI'⟩ S3 g4 => ⟨m', hm, ρ3, hI', S3, g3.trans g4⟩⟩⟩
end

/-! ### a def by its body -/
theorem slots_start {G H : Hp} : ∀ {ds : List PyData} {vs : List V} (n : Nat), RpAll G vs ds → SlotsOk G H (vs.map some ++ List.replicate n none) (ds.map Sl.dat ++ List.replicate n Sl.non)
  | [], _, n, h => by
    cases h
    show SlotsOk G H (List.replicate n none) (List.replicate n Sl.non)
    induction n with
    | zero => trivial
    | succ n ih => exact ⟨trivial, ih⟩
  | d :: ds, _, n, h => by
    cases h with
    | cons h1 h2 => exact ⟨⟨_, rfl, h1⟩, slots_start n h2⟩
theorem os_start : ∀ (ds : List PyData) (n : Nat), os (ds.map Sl.dat ++ List.replicate n Sl.non) = []
  | [], 0 => rfl
  | [], n + 1 => by
    show [] ++ os (List.map Sl.dat [] ++ List.replicate n Sl.non) = []
    rw [os_start [] n]
    rfl
  | d :: ds, n => by
    show [] ++ os (ds.map Sl.dat ++ List.replicate n Sl.non) = []
    rw [os_start ds n]
    rfl
section
variable {P : Program} {w : World} {K : PySem.W.Frag} {mg : Str → Option Value} {base : Heap}
theorem fn_D {x qual : Str} {st : Stmt} {f : Addr} {fd : FuncData} {N ps : List Str} {k : Nat} {S : DSpec} (F : Fun K x qual st f fd) (sc : FnScope N ps (defScope st)) (hbt : ∀ x ∈ bNames, mg x = none) (len : ∀ ds q, S ds q → ds.length = ps.length)
    (body : ∀ (cdv : Value) (A : Around) (outer : List Env) (s : Shared) (H : Hp) (E : XK) (ds : List PyData) (q : PyData → Prop), Room k (A.deeper (envOfC qual (defScope st) s.heap.objs.size f cdv)) → CK (cxOf CX0 P w K mg base N qual (defScope st) f cdv A outer s H E).nox → S ds q →
      BB (cxOf CX0 P w K mg base N qual (defScope st) f cdv A outer s H E).nox (ds.map Sl.dat ++ List.replicate (N.length - ds.length) Sl.non) (defBody st) { nx := fun _ => q .none, rt := fun d _ => q d }) :
    FnOk P w K mg base CX0 (k + 1) f fd ps (spD S) := by
  refine F.ok sc (fun vs H Q E h => ?_) (fun cdv A outer s H vs Q E hr h => ?_)
  · obtain ⟨hd, ds, q, _, r, hS, _⟩ := h
    rw [r.length, len ds q hS]
  · obtain ⟨hd, ds, q, hh, r, hS, kk⟩ := h
    refine ⟨_, pssW, ?_⟩
    have ck : CK (cxOf CX0 P w K mg base N qual (defScope st) f cdv A outer s H E).nox := ⟨rfl, sc.nd, by
      show (A.deeper (envOfC qual (defScope st) s.heap.objs.size f cdv)).units + 100 < cLine
      have := hr.un
      omega, hbt⟩
    have eo := os_start ds (N.length - ds.length)
    have St : Stt ⟨hd, [], H⟩ H (start N vs) (ds.map Sl.dat ++ List.replicate (N.length - ds.length) Sl.non) := by
      refine ⟨hh, fun a o _ e => e, fun a e => e, by rw [eo]; exact List.nodup_nil, (fun a m => by rw [eo] at m; cases m), (fun a m => by rw [eo] at m; cases m), ?_⟩
      have := slots_start (H := H) (N.length - ds.length) r
      show SlotsOk (mask (hd ++ os _) H) H _ _
      rw [eo, List.append_nil]
      unfold L2.start
      rw [r.length]
      exact this
    refine body cdv A outer s H E ds q hr ck hS ⟨hd, [], H⟩ _ H _ St ⟨fun σ' H' ρ' hq S' g => kk .none .non H' hq (fun a o e => S'.fr a o (fun z => nomatch z) e) .non, fun v σ' H' d ρ' hq S' g r => ?_, fun σ' H' ρ' hq _ _ => hq.elim, fun σ' H' ρ' hq _ _ => hq.elim⟩
    exact kk d v H' hq (fun a o e => S'.fr a o (fun z => nomatch z) e) (Rp.up (mask_sub fun a m => List.mem_append_left _ m) _ _ r)
theorem fn_B {x qual : Str} {st : Stmt} {f : Addr} {fd : FuncData} {N ps : List Str} {k : Nat} {S : SpecB} (F : Fun K x qual st f fd) (sc : FnScope N ps (defScope st)) (hbt : ∀ x ∈ bNames, mg x = none) (len : ∀ ds n q, S ds n q → ds.length + 1 = ps.length)
    (body : ∀ (cdv : Value) (A : Around) (outer : List Env) (s : Shared) (H : Hp) (E : XK) (b : Addr) (ds : List PyData) (n : Nat) (q : PyData → Nat → Prop), Room k (A.deeper (envOfC qual (defScope st) s.heap.objs.size f cdv)) → CK (cxOf CX0 P w K mg base N qual (defScope st) f cdv A outer s H E).nox → S ds n q →
      BB (cxOf CX0 P w K mg base N qual (defScope st) f cdv A outer s H E).nox (.bag b n :: (ds.map Sl.dat ++ List.replicate (N.length - (ds.length + 1)) Sl.non)) (defBody st) { nx := fun _ => False, rt := fun d ρ => ∃ n', ρ[0]? = some (.bag b n') ∧ q d n' }) :
    FnOk P w K mg base CX0 (k + 1) f fd ps (spB S) := by
  refine F.ok sc (fun vs H Q E h => ?_) (fun cdv A outer s H vs Q E hr h => ?_)
  · obtain ⟨hd, b, us, ds, n, q, rfl, _, _, _, r, hS, _⟩ := h
    rw [List.length_cons, r.length, len ds n q hS]
  · obtain ⟨hd, b, us, ds, n, q, rfl, hb, hh, bo, r, hS, kk⟩ := h
    refine ⟨_, pssW, ?_⟩
    have ck : CK (cxOf CX0 P w K mg base N qual (defScope st) f cdv A outer s H E).nox := ⟨rfl, sc.nd, by
      show (A.deeper (envOfC qual (defScope st) s.heap.objs.size f cdv)).units + 100 < cLine
      have := hr.un
      omega, hbt⟩
    have eo : os (.bag b n :: (ds.map Sl.dat ++ List.replicate (N.length - (ds.length + 1)) Sl.non)) = [b] := by
      show [b] ++ os (ds.map Sl.dat ++ List.replicate (N.length - (ds.length + 1)) Sl.non) = [b]
      rw [os_start]
      rfl
    have hbn : H b ≠ none := by
      obtain ⟨z, w', t, e, _⟩ := bo
      rw [e]; exact fun z => nomatch z
    have St : Stt ⟨hd, [b], H⟩ H (start N (.ref b :: us)) (.bag b n :: (ds.map Sl.dat ++ List.replicate (N.length - (ds.length + 1)) Sl.non)) := by
      refine ⟨hh, fun a o _ e => e, fun a e => e, by rw [eo]; simp, (fun a m => by rw [eo] at m; exact .inl m), (fun a m => by rw [eo] at m; rw [List.mem_singleton.mp m]; exact hb), ?_⟩
      have := slots_start (G := mask (b :: hd) H) (H := H) (N.length - (ds.length + 1)) r
      show SlotsOk (mask (hd ++ os _) H) H _ _
      rw [eo]
      unfold L2.start
      rw [List.length_cons, r.length]
      refine ⟨⟨rfl, bo⟩, this.up (mask_sub fun a m => ?_) fun a _ o e => e⟩
      rcases List.mem_append.mp m with m | m
      · exact List.mem_cons_of_mem _ m
      · rw [List.mem_singleton.mp m]; exact List.mem_cons_self
    refine body cdv A outer s H E b ds n q hr ck hS ⟨hd, [b], H⟩ _ H _ St ⟨fun σ' H' ρ' hq _ _ => hq.elim, fun v σ' H' d ρ' ⟨n', e0, hq⟩ S' g r => ?_, fun σ' H' ρ' hq _ _ => hq.elim, fun σ' H' ρ' hq _ _ => hq.elim⟩
    obtain ⟨y, _, _, bo'⟩ := S'.sl.get e0
    refine kk d n' v H' hq (fun a o ha e => S'.fr a o (fun z => ha (List.mem_singleton.mp z)) e) bo' (Rp.up (mask_sub fun a m => ?_) _ _ r)
    rcases List.mem_cons.mp m with z | z
    · rw [z]; exact List.mem_append_right _ (os_at e0 (List.mem_singleton.mpr rfl))
    · exact List.mem_append_left _ z
end
end DL

namespace DL
open PySem PySem.Spec PyProof.Rows L2
section
variable {X : Cx} {ρ : List Sl} {e a b c : Expr} {pos : Pos} {Φ : PyData → List Sl → Prop} {Ψ : Bool → List Sl → Prop} {D : DE}
/-! ### what leaves the slots as they are, by its value -/
theorem ee_M {d : PyData} (h : EE X ρ e fun d' ρ1 => d' = d ∧ ρ1 = ρ) (q : Φ d ρ) : EE X ρ e Φ := h.mono fun d' ρ' ⟨e1, e2⟩ => by rw [e1, e2]; exact q
theorem et_M {t : Bool} (h : ET X ρ e fun c ρ1 => c = t ∧ ρ1 = ρ) (q : Ψ t ρ) : ET X ρ e Ψ := h.mono fun d' ρ' ⟨e1, e2⟩ => by rw [e1, e2]; exact q
theorem ew_andM {r : List Expr} {s t : Bool} (h : ET X ρ a fun c ρ1 => c = s ∧ ρ1 = ρ) (h2 : s = true → EW X ρ (.BoolOp .And (b :: r) pos) fun c ρ1 => c = t ∧ ρ1 = ρ) : EW X ρ (.BoolOp .And (a :: b :: r) pos) fun c ρ1 => c = (s && t) ∧ ρ1 = ρ := by
  refine ew_and (et_M h ?_)
  cases s with
  | true => exact iteT (h2 rfl)
  | false => exact iteF ⟨rfl, rfl⟩
theorem ew_orM {r : List Expr} {s t : Bool} (h : ET X ρ a fun c ρ1 => c = s ∧ ρ1 = ρ) (h2 : s = false → EW X ρ (.BoolOp .Or (b :: r) pos) fun c ρ1 => c = t ∧ ρ1 = ρ) : EW X ρ (.BoolOp .Or (a :: b :: r) pos) fun c ρ1 => c = (s || t) ∧ ρ1 = ρ := by
  refine ew_or (et_M h ?_)
  cases s with
  | true => exact iteT ⟨rfl, rfl⟩
  | false => exact iteF (h2 rfl)
theorem ee_andM {r : List Expr} {s t : Bool} (h : EE X ρ a fun d ρ1 => d = .bool s ∧ ρ1 = ρ) (h2 : s = true → EE X ρ (.BoolOp .And (b :: r) pos) fun d ρ1 => d = .bool t ∧ ρ1 = ρ) : EE X ρ (.BoolOp .And (a :: b :: r) pos) fun d ρ1 => d = .bool (s && t) ∧ ρ1 = ρ := by
  refine ee_and (ee_M h ⟨s, rfl, ?_⟩)
  cases s with
  | true => exact iteT (h2 rfl)
  | false => exact iteF ⟨rfl, rfl⟩
theorem ee_orM {r : List Expr} {s t : Bool} (h : EE X ρ a fun d ρ1 => d = .bool s ∧ ρ1 = ρ) (h2 : s = false → EE X ρ (.BoolOp .Or (b :: r) pos) fun d ρ1 => d = .bool t ∧ ρ1 = ρ) : EE X ρ (.BoolOp .Or (a :: b :: r) pos) fun d ρ1 => d = .bool (s || t) ∧ ρ1 = ρ := by
  refine ee_or (ee_M h ⟨s, rfl, ?_⟩)
  cases s with
  | true => exact iteT ⟨rfl, rfl⟩
  | false => exact iteF (h2 rfl)
theorem ee_ifM {t : Bool} {da db : PyData} (h : ET X ρ c fun c ρ1 => c = t ∧ ρ1 = ρ) (h1 : t = true → EE X ρ a fun d ρ1 => d = da ∧ ρ1 = ρ) (h2 : t = false → EE X ρ b fun d ρ1 => d = db ∧ ρ1 = ρ) : EE X ρ (.IfExp c a b pos) fun d ρ1 => d = (if t = true then da else db) ∧ ρ1 = ρ := by
  refine ee_if (et_M h ?_)
  cases t with
  | true => exact iteT ((h1 rfl).mono fun d ρ' ⟨e, f⟩ => ⟨e.trans (if_pos rfl).symm, f⟩)
  | false => exact iteF ((h2 rfl).mono fun d ρ' ⟨e, f⟩ => ⟨e.trans (if_neg Bool.false_ne_true).symm, f⟩)
theorem ifT {c : Bool} {A B : Prop} (hc : c = true) (h : A) : if c = true then A else B := by rw [if_pos hc]; exact h
theorem ifF {c : Bool} {A B : Prop} (hc : c = false) (h : B) : if c = true then A else B := by rw [hc, if_neg Bool.false_ne_true]; exact h
theorem fin {α : Type} {q : α → Prop} {d d' : α} (h : q d) (e : d' = d) : q d' := by rw [e]; exact h
/-! ### isinstance -/
def isI : PyData → Bool
  | .int _ => true
  | .bool _ => true
  | _ => false
def isB : PyData → Bool
  | .bool _ => true
  | _ => false
def isT : PyData → Bool
  | .tuple _ => true
  | _ => false
def isL : PyData → Bool
  | .list _ => true
  | _ => false
def isS : PyData → Bool
  | .str _ => true
  | _ => false
theorem kit_int (d : PyData) : kitB (tyD d) "int" = some (isI d) := by cases d <;> (simp only [tyD, isI]; decide +kernel)
theorem kit_bool (d : PyData) : kitB (tyD d) "bool" = some (isB d) := by cases d <;> (simp only [tyD, isB]; decide +kernel)
theorem kit_tup (d : PyData) : kitB (tyD d) "tuple" = some (isT d) := by cases d <;> (simp only [tyD, isT]; decide +kernel)
theorem kit_list (d : PyData) : kitB (tyD d) "list" = some (isL d) := by cases d <;> (simp only [tyD, isL]; decide +kernel)
theorem kit_str (d : PyData) : kitB (tyD d) "str" = some (isS d) := by cases d <;> (simp only [tyD, isS]; decide +kernel)
theorem isT_iff {d : PyData} (h : isT d = true) : ∃ ds, d = .tuple ds := by cases d <;> first | exact ⟨_, rfl⟩ | cases h
section
variable {p p2 : Pos} (ck : CK X)
include ck
theorem ee_isInt (h : EE X ρ e fun d ρ1 => Φ (.bool (isI d)) ρ1) (hg : Gl X "isinstance" := by rfl) (hgx : Gl X "int" := by rfl) (he : starEach [e, .Name "int" p2] X.env = (false, eval e X.env) :: starEach [.Name "int" p2] X.env := by rfl) : EE X ρ (.Call (.Name "isinstance" p) [e, .Name "int" p2] [] pos) Φ :=
  ee_isi ck (ck.bt _ (by simp [bNames])) (by decide +kernel) (h.mono fun d _ q => ⟨_, kit_int d, q⟩) hg hgx (by decide) (by decide) he rfl
theorem ee_isBool (h : EE X ρ e fun d ρ1 => Φ (.bool (isB d)) ρ1) (hg : Gl X "isinstance" := by rfl) (hgx : Gl X "bool" := by rfl) (he : starEach [e, .Name "bool" p2] X.env = (false, eval e X.env) :: starEach [.Name "bool" p2] X.env := by rfl) : EE X ρ (.Call (.Name "isinstance" p) [e, .Name "bool" p2] [] pos) Φ :=
  ee_isi ck (ck.bt _ (by simp [bNames])) (by decide +kernel) (h.mono fun d _ q => ⟨_, kit_bool d, q⟩) hg hgx (by decide) (by decide) he rfl
theorem ee_isTup (h : EE X ρ e fun d ρ1 => Φ (.bool (isT d)) ρ1) (hg : Gl X "isinstance" := by rfl) (hgx : Gl X "tuple" := by rfl) (he : starEach [e, .Name "tuple" p2] X.env = (false, eval e X.env) :: starEach [.Name "tuple" p2] X.env := by rfl) : EE X ρ (.Call (.Name "isinstance" p) [e, .Name "tuple" p2] [] pos) Φ :=
  ee_isi ck (ck.bt _ (by simp [bNames])) (by decide +kernel) (h.mono fun d _ q => ⟨_, kit_tup d, q⟩) hg hgx (by decide) (by decide) he rfl
theorem ee_isList (h : EE X ρ e fun d ρ1 => Φ (.bool (isL d)) ρ1) (hg : Gl X "isinstance" := by rfl) (hgx : Gl X "list" := by rfl) (he : starEach [e, .Name "list" p2] X.env = (false, eval e X.env) :: starEach [.Name "list" p2] X.env := by rfl) : EE X ρ (.Call (.Name "isinstance" p) [e, .Name "list" p2] [] pos) Φ :=
  ee_isi ck (ck.bt _ (by simp [bNames])) (by decide +kernel) (h.mono fun d _ q => ⟨_, kit_list d, q⟩) hg hgx (by decide) (by decide) he rfl
theorem ee_isStr (h : EE X ρ e fun d ρ1 => Φ (.bool (isS d)) ρ1) (hg : Gl X "isinstance" := by rfl) (hgx : Gl X "str" := by rfl) (he : starEach [e, .Name "str" p2] X.env = (false, eval e X.env) :: starEach [.Name "str" p2] X.env := by rfl) : EE X ρ (.Call (.Name "isinstance" p) [e, .Name "str" p2] [] pos) Φ :=
  ee_isi ck (ck.bt _ (by simp [bNames])) (by decide +kernel) (h.mono fun d _ q => ⟨_, kit_str d, q⟩) hg hgx (by decide) (by decide) he rfl
end
end
end DL

namespace DL
open PySem PySem.Spec PyProof.Rows L2
/-! ### enumerate of a tuple -/
def IteT (K : PySem.W.Frag) (a : Addr) : It where
  go := fun i H => ∃ (xs : List V) (x : V), SqT K H a xs ∧ xs[i]? = some x
  yld := fun i H v H' => ∃ T x, v = .ref T ∧ H T = none ∧ H' = upd H T (.tup [.int (i : Nat), x]) ∧ ∀ xs, SqT K H a xs → xs[i]? = some x
  stop := fun i H => ∃ xs : List V, SqT K H a xs ∧ xs.length = i
theorem enumT_new {v : Value} {o : Obj} {Hs : Heap → Prop} (B : Begins v o Hs) : Meets (Builtin.«enumerate.__new__» ⟨[.type "enumerate", v], []⟩) (fun _ R s => Hs s.heap ∧
    R (.ok (.ret (.ref (s.heap.push o).objs.size))) { s with heap := (s.heap.push o).push { cls := .type "enumerate", data := .fields #[.none, .bool false, .ref s.heap.objs.size, rawInt 0, .none, .none] } }) :=
  .of_wp fun prog w A R s h => by
    obtain ⟨hp, g, d, tk, os⟩ := s
    obtain ⟨h1, h⟩ := h
    have hsub := sub_enumerate
    have q1 : ∀ {A' : Around} {E : Value → Shared → Prop} {Q : Value → Shared → Prop}, Q (.ref hp.objs.size) ⟨hp.push o, g, d, tk, os⟩ → wpAny (model prog w) A' (pyIter v) Q E ⟨hp, g, d, tk, os⟩ := fun q => B.iter prog w _ _ ⟨hp, g, d, tk, os⟩ _ h1 q
    wp_walk using q1
    refine wpAny_stack_any fun st => wpAny_pure ?_
    split
    · rename_i c _ _ _ _ _
      cases (c == Value.type "enumerate") <;> (wp_walk using q1; exact ⟨_, rfl, h⟩)
    · wp_walk using q1
      exact ⟨_, rfl, h⟩
theorem call_enumT {prog : Program} {w : World} {A : Around} {E : Value → Shared → Prop} {s : Shared} {v : Value} {o : Obj} {Hs : Heap → Prop} {Q : Value → Shared → Prop} (B : Begins v o Hs) (h1 : Hs s.heap)
    (h : ∀ h', IsEnum h' (s.heap.objs.size + 1) s.heap.objs.size 0 .none → h'.get? s.heap.objs.size = some o → (∀ b o, s.heap.get? b = some o → h'.get? b = some o) → Q (.ref (s.heap.objs.size + 1)) { s with heap := h' }) :
    wpAny (model prog w) A (call (.type "enumerate") [v]) Q E s := by
  refine callType_new F.called_enumerate (by decide) (F.typeCall_enumerate_1 _) (F.newCall_enumerate_1 _) (fun obj => F.args_object_init_2 obj _) F.entry_enumerate_new (enumT_new B) ⟨h1, ?_⟩
  have hz : (s.heap.push o).objs.size = s.heap.objs.size + 1 := Heap.size_push ..
  show _ ∧ _
  rw [hz]
  have he : IsEnum ((s.heap.push o).push { cls := .type "enumerate", data := .fields #[.none, .bool false, .ref s.heap.objs.size, rawInt 0, .none, .none] }) (s.heap.objs.size + 1) s.heap.objs.size 0 .none := by
    have q := Heap.get?_push_size (s.heap.push o) (o := { cls := .type "enumerate", data := .fields #[.none, .bool false, .ref s.heap.objs.size, rawInt 0, .none, .none] }) rfl
    rw [hz] at q
    exact q
  exact ⟨⟨_, he, rfl⟩, h _ he (Heap.get?_push_of_some _ (Heap.get?_push_size _ B.free)) fun b o x => Heap.get?_push_of_some _ (Heap.get?_push_of_some _ x)⟩
theorem turn_enumT {P : Program} {w : World} {K : PySem.W.Frag} {elts : List Expr} {kk : Nat} {tpos : Pos} (a e it : Addr) :
    Turn P w K (.Tuple elts kk tpos) (IteT K a) [e, it] e (fun i h => (∃ old, IsEnum h e it ((i : Nat) : Int) old) ∧ h.IsTupleIter it a i ∧ e ≠ it) where
  mem := List.mem_cons_self
  obj := fun i h st b hb => by
    obtain ⟨⟨old, he⟩, ⟨o, ho, hc, hd⟩, _⟩ := st
    rcases List.mem_cons.mp hb with z | z
    · rw [z]; exact ⟨_, he, fun v q => nomatch q⟩
    · rw [List.mem_singleton.mp z]; exact ⟨o, ho, fun v q => by rw [hd] at q; cases q⟩
  keep := fun i h h' st k => by
    obtain ⟨⟨old, he⟩, hi, hne⟩ := st
    exact ⟨⟨old, k e List.mem_cons_self _ he⟩, hi.at fun o q => k it (List.mem_cons_of_mem _ List.mem_cons_self) o q, hne⟩
  item := by
    intro X hP hw hK hc i pins s σ H E I hf st hg
    subst hP hw hK
    obtain ⟨⟨old, he⟩, hit, hne⟩ := st
    obtain ⟨xs, x, hq, hx⟩ := hg
    obtain ⟨its, rv, p, hz⟩ := I.tuple hq
    obtain ⟨u, hu, ru⟩ := rv.get hx
    have hT : s.heap.IsTuple a its.toArray := p
    obtain ⟨oa, hoa, hca, na, hda⟩ := id hT
    obtain ⟨oi, hoi, hci, hdi⟩ := id hit
    have nai : a ≠ it := fun z => by
      rw [z, hoi] at hoa
      cases hoa
      rw [hdi] at hda
      cases hda
    have nae : a ≠ e := fun z => by
      rw [z] at hoa
      have he' := he
      unfold IsEnum at he'
      rw [hoa] at he'
      cases he'
      cases hda
    have hel : e < s.heap.objs.size := Heap.lt_size he
    have hil : it < s.heap.objs.size := Heap.lt_size hoi
    have hh : X.A.in1.handled = none := I.ok.hd hc
    refine wpAny_pyNext_enum_itemD (Draws.tuple hh it a nai its.toArray) he ⟨hit, hT⟩ (by rw [List.size_toArray]; exact (List.getElem?_eq_some_iff.mp hu).1) hne (fun m => by
      rcases List.mem_cons.mp m with z | z
      · exact hne z
      · exact nae (List.mem_singleton.mp z).symm) fun y h' tk hy ho st' hT2 hsz hk => ?_
    have ey : y = u := by
      have hy' : its.toArray[i]? = some y := hy
      rw [List.getElem?_toArray, hu] at hy'
      exact (Option.some.inj hy').symm
    subst ey
    refine ⟨_, rfl, wpAny_letOwnedTupleGo_enum (s := { s with heap := h', toks := tk + 1 }) ho fun h'' he' sb => ?_⟩
    have hT3 : h''.get? s.heap.objs.size = some { cls := .type "tuple", data := .seq #[.int i tk, y] } := (sb.2 _ (Nat.ne_of_gt hel)).trans hT2
    have new : ObjOk X.prog X.w (upd H s.heap.objs.size (.tup [.int (i : Nat), x])) h'' s.heap.objs.size (.tup [.int (i : Nat), x]) :=
      ⟨by show 2 ≤ sizeLine; decide, [.int i tk, y], .cons ⟨_, rfl⟩ (.cons ru .nil), ⟨_, hT3, rfl, _, rfl⟩⟩
    have I1 : Inv X pins σ (upd H s.heap.objs.size (.tup [.int (i : Nat), x])) { s with heap := h'', toks := tk + 1 } :=
      I.turnedNew (ch := [e, it]) (fun b ob hb q => (sb.2 b (fun z => hb (by simp [z]))).trans (hk b ob (fun z => hb (by simp [z])) (fun z => hb (by simp [z])) q)) hf (Nat.le_refl _) new
    refine ⟨.ref s.heap.objs.size, _, I1, rfl, ⟨_, x, rfl, I.hok.fresh (Nat.le_refl _), rfl, fun ys hy => by rw [I.tuple_inj hy hq]; exact hx⟩, ⟨⟨y, ?_⟩, st'.1.at fun o q => (sb.2 it (Ne.symm hne)).trans q, hne⟩, fun b hb => ?_⟩
    · have e1 : ((i + 1 : Nat) : Int) = (i : Int) + 1 := by omega
      rw [e1]; exact he'
    · have hb' : b < s.heap.objs.size := by
        rcases List.mem_cons.mp hb with z | z
        · rw [z]; exact hel
        · rw [List.mem_singleton.mp z]; exact hil
      rw [upd_ne (Nat.ne_of_lt hb')]
      exact (hf b hb).1
  done := by
    intro X hP hw hK hc i pins s σ H E I hf st hg
    subst hP hw hK
    obtain ⟨⟨old, he⟩, hit, hne⟩ := st
    obtain ⟨xs, hq, hx⟩ := hg
    obtain ⟨its, rv, p, hz⟩ := I.tuple hq
    obtain ⟨f0, f1, f2, f3, f4, f5⟩ := hf it (by simp)
    have hl := rv.length
    have hT : s.heap.IsTuple a its.toArray := p
    have hh : X.A.in1.handled = none := I.ok.hd hc
    obtain ⟨oa, hoa, hca, na, hda⟩ := id hT
    obtain ⟨oi, hoi, hci, hdi⟩ := id hit
    have nai : a ≠ it := fun z => by
      rw [z, hoi] at hoa
      cases hoa
      rw [hdi] at hda
      cases hda
    have hi : its.toArray.size = i := by rw [List.size_toArray]; omega
    refine wpAny_pyNext_enum_endD (Draws.tuple hh it a nai its.toArray) he ⟨by rw [hi]; exact hit, hT⟩ fun h' eb => ⟨rfl, I.turned (t' := s.toks) (fun b o hb q => eb b o hb q) f0 f1 f3 f4 f5⟩
  self := fun A i s Q E st h => by
    obtain ⟨⟨_, he⟩, _⟩ := st
    exact wpAny_pyIter_enum he h
def iEnumT (K : PySem.W.Frag) (ta : TA) : TI := fun σ H R => ta σ H fun vs H1 => ∃ a xs, vs = [.ref a] ∧ SqT K H1 a xs ∧ R (IteT K a) H1
theorem pi_enumT {X : Cx} {e : Expr} {ta : TA} {p pos tpos : Pos} {elts : List Expr} {kk : Nat} (hg : Gl X "enumerate") (hm : X.mg "enumerate" = none) (ha : PA X [e] ta) (hs : starEach [e] X.env = [(false, eval e X.env)]) :
    PI X (.Tuple elts kk tpos) (.Call (.Name "enumerate" p) [e] [] pos) (iEnumT X.K ta) := by
  refine ⟨fun pins s σ H R I h => ?_⟩
  refine Call_ (ld_blt I hg hm boot_enumerate (PyProof.Rows.callWith_type1 (thn (ha.run pos pins s σ H _ I h) fun us s1 ⟨vs, H1, I1, r1, q1⟩ => ?_) hs rfl))
  obtain ⟨a, xs, ex, hq, q⟩ := q1
  subst ex
  cases r1 with
  | cons r rr =>
    cases rr
    cases r
    obtain ⟨its, rv, p', hz⟩ := I1.tuple hq
    have hT : s1.heap.IsTuple a its.toArray := p'
    refine call_enumT (begins_tuple a its.toArray) hT fun h' he hit hk => wpAny_pyIter_enum he ?_
    have I2 : Inv X pins σ H1 { s1 with heap := h' } := I1.kept (t' := s1.toks) hk
    refine ⟨s1.heap.objs.size + 1, [s1.heap.objs.size + 1, s1.heap.objs.size], _, _, H1, rfl, I2, turn_enumT a (s1.heap.objs.size + 1) s1.heap.objs.size, ⟨⟨.none, he⟩, ⟨_, hit, rfl, rfl⟩, Nat.succ_ne_self _⟩, fun b hb => ?_, q⟩
    have hle : s1.heap.objs.size ≤ b := by
      rcases List.mem_cons.mp hb with z | z
      · rw [z]; exact Nat.le_add_right _ _
      · rw [List.mem_singleton.mp z]; exact Nat.le_refl _
    exact I1.fpOk hle (I1.hok.fresh hle)
theorem jok_enumT {K : PySem.W.Frag} {G : Hp} {l : Addr} {vs : List V} {ds : List PyData} (e1 : G l = some (.tup vs)) (r1 : RpAll G vs ds) : JOk (IteT K l) G (enumD ds) where
  go := fun i H d s hd => by
    obtain ⟨x, h1, _⟩ := enumD_get hd
    obtain ⟨v, hv, _⟩ := r1.get h1
    exact ⟨vs, v, .of (s _ _ e1), hv⟩
  yld := fun i H d x H' s hd y => by
    obtain ⟨p, h1, ed⟩ := enumD_get hd
    obtain ⟨v, hv, rv⟩ := r1.get h1
    obtain ⟨T, x1, ex, hT, eH, f1⟩ := y
    have q1 := f1 vs (.of (s _ _ e1))
    rw [hv] at q1; cases q1
    subst ex eH ed
    exact rp_pair s hT (.int _) rv
  stop := fun i H s hi => ⟨vs, .of (s _ _ e1), by rw [enumD_len] at hi; rw [r1.length]; exact hi⟩
section
variable {X : Cx} {ρ : List Sl} {a : Expr} {pos : Pos} {Θ : List PyData → List Sl → Prop} {Φ : PyData → List Sl → Prop}
theorem ii_enumT {p tpos : Pos} {elts : List Expr} {kk : Nat} (ck : CK X) (h : EA X ρ [a] fun ds ρ1 => ∃ xs, ds = [.tuple xs] ∧ Θ (enumD xs) ρ1) (hg : Gl X "enumerate" := by rfl)
    (hs : starEach [a] X.env = [(false, eval a X.env)] := by rfl) : II X ρ (.Tuple elts kk tpos) (.Call (.Name "enumerate" p) [a] [] pos) Θ :=
  ⟨_, pi_enumT hg (ck.bt _ (by simp [bNames])) paW hs, fun F σ H R S k => h F σ H _ S fun vs H' ds ρ' ⟨xs, ed, q⟩ S' g r => by
    subst ed
    match r with
    | .cons (.tup e1 r1) .nil => exact ⟨_, _, rfl, .of (mask_le _ _ e1), k _ H' _ ρ' q S' g (jok_enumT e1 r1)⟩⟩
/-- a field of a finished object -/
theorem ee_fld (i : Nat) {x f : Str} {px : Pos} {C : Addr} {fs : List (Str × PyData)} {d : PyData} (hs : ρ[i]? = some (.obj C fs)) (cl : Cls X.K C) (na : NoAttr X.K C f) (hf : fs.lookup f = some d) (q : Φ d ρ) (hN : X.N[i]? = some x := by rfl)
    (hv : Vis X.env.scope x := by first | exact Or.inl rfl | exact Or.inr (Or.inl rfl) | exact Or.inr (Or.inr rfl)) (hb : attributeBase (.Name x px) f X.env (eval (.Name x px) X.env) = eval (.Name x px) X.env := by rfl)
    (hd : (x == ("__debug__" : Str)) = false := by decide) (hcd : (x == ("__classdict__" : Str)) = false := by decide) : EE X ρ (.Attribute (.Name x px) f pos) Φ := fun F σ H Q S k => by
  obtain ⟨y, e1, a, e2, dx, vs, e3, fo⟩ := S.sl.get hs
  subst e2
  obtain ⟨v, hl, rv⟩ := fo.get hf
  exact ofPE (pe_fld (pe_var hN hv hd hcd) hb) ⟨_, e1, a, C, dx, vs, v, rfl, mask_le _ _ e3, cl, na, hl, k v H d ρ q S (Same.refl _) rv⟩
end
end DL

namespace DL
open PySem PySem.Spec PyProof.Rows L2
/-! ### list(zip(xs, ys)) of two lists -/
structure ZG (xs ys : Array Value) (lo : Addr) (h : Heap) (as : List Addr) : Prop where
  rise : as.Pairwise (· < ·)
  above : ∀ a ∈ as, lo < a
  pairs : ∀ (j : Nat) (a : Addr), as[j]? = some a → ∃ x y, xs[j]? = some x ∧ ys[j]? = some y ∧ IsPair h a x y
theorem ZG.there {xs ys : Array Value} {lo : Addr} {h : Heap} {as : List Addr} (g : ZG xs ys lo h as) {a : Addr} (ha : a ∈ as) : a < h.objs.size := by
  obtain ⟨j, hj⟩ := List.mem_iff_getElem?.mp ha
  obtain ⟨_, _, _, _, e⟩ := g.pairs j a hj
  exact Heap.lt_size e
/-- the zip after i turns, the tuples that it gave out still held -/
structure ZL (h : Heap) (z TI TO i1 i2 l1 l2 S : Addr) (xs ys : Array Value) (i : Nat) : Prop where
  zip : (i = 0 ∧ IsZip h z TI TO .none ∧ ∃ x y, IsPair h TO x y) ∨ ∃ (T : Addr) (f : Bool) (oT : Obj), IsZipHeld h z TI TO T f ∧ h.get? T = some oT ∧ S < T
  ti : IsPair h TI (.ref i1) (.ref i2)
  h1 : h.IsListIter i1 l1 i
  h2 : h.IsListIter i2 l2 i
  m1 : h.IsList l1 xs
  m2 : h.IsList l2 ys
section
variable {prog : Program} {w : World} {A : Around} {s : Shared} {z TI TO i1 i2 l1 l2 S : Addr} {xs ys : Array Value}
theorem ZL.at {h h' : Heap} {i : Nat} (Z : ZL h z TI TO i1 i2 l1 l2 S xs ys i) (hb : z < S ∧ TI < S ∧ TO < S ∧ i1 < S ∧ i2 < S ∧ l1 < S ∧ l2 < S) (k : ∀ b o, b ≠ S → h.get? b = some o → h'.get? b = some o) : ZL h' z TI TO i1 i2 l1 l2 S xs ys i where
  zip := Z.zip.elim (fun ⟨e, a, x, y, b⟩ => .inl ⟨e, k _ _ (Nat.ne_of_lt hb.1) a, x, y, k _ _ (Nat.ne_of_lt hb.2.2.1) b⟩) fun ⟨T, f, oT, a, b, c⟩ => .inr ⟨T, f, oT, k _ _ (Nat.ne_of_lt hb.1) a, k _ _ (Nat.ne_of_gt c) b, c⟩
  ti := k _ _ (Nat.ne_of_lt hb.2.1) Z.ti
  h1 := Z.h1.at fun o e => k _ _ (Nat.ne_of_lt hb.2.2.2.1) e
  h2 := Z.h2.at fun o e => k _ _ (Nat.ne_of_lt hb.2.2.2.2.1) e
  m1 := Z.m1.at fun o e => k _ _ (Nat.ne_of_lt hb.2.2.2.2.2.1) e
  m2 := Z.m2.at fun o e => k _ _ (Nat.ne_of_lt hb.2.2.2.2.2.2) e
/-- one turn: the pair stands at a new place -/
theorem zl_item {E : Value → Shared → Prop} {i : Nat} {Q : Option Value → Shared → Prop} (D : ZipApart z TI TO i1 i2 l1 l2) (hb : z < S ∧ TI < S ∧ TO < S ∧ i1 < S ∧ i2 < S ∧ l1 < S ∧ l2 < S) (hS : S < s.heap.objs.size) (Z : ZL s.heap z TI TO i1 i2 l1 l2 S xs ys i) (hx : i < xs.size) (hy : i < ys.size)
    (hQ : ∀ h', ZL h' z TI TO i1 i2 l1 l2 S xs ys (i + 1) → (∃ x y, xs[i]? = some x ∧ ys[i]? = some y ∧ IsPair h' s.heap.objs.size x y) → h'.objs.size = s.heap.objs.size + 1 →
      (∀ c o, c ≠ z → c ≠ TO → c ≠ i1 → c ≠ i2 → s.heap.get? c = some o → h'.get? c = some o) → Q (some (.ref s.heap.objs.size)) { s with heap := h' }) : wpAny (model prog w) A (pyNext (.ref z)) Q E s := by
  have ex : xs[i]? = some xs[i] := Array.getElem?_eq_getElem hx
  have ey : ys[i]? = some ys[i] := Array.getElem?_eq_getElem hy
  rcases Z.zip with ⟨_, a, x0, y0, b⟩ | ⟨T, f, oT, a, b, c⟩
  · refine wpAny_pyNext_zip_item D a Z.ti b Z.h1 Z.h2 Z.m1 Z.m2 ex ey fun h' a1 a2 a3 a4 a5 a6 a7 => hQ h' ?_ ⟨_, _, ex, ey, a5⟩ a6 a7
    exact ⟨.inr ⟨s.heap.objs.size, false, _, a1, a5, hS⟩, a7 _ _ D.TIz D.TITO D.TIi1 D.TIi2 Z.ti, a3, a4, Z.m1.at fun o e => a7 _ _ D.l1z D.l1TO D.l1i1 D.l1i2 e, Z.m2.at fun o e => a7 _ _ D.l2z D.l2TO D.l2i1 D.l2i2 e⟩
  · refine wpAny_pyNext_zip_item_held D a b Z.ti Z.h1 Z.h2 Z.m1 Z.m2 ex ey fun h' a1 a3 a4 a5 a6 a7 => hQ h' ?_ ⟨_, _, ex, ey, a5⟩ a6 fun c o c1 _ c3 c4 e => a7 c o c1 c3 c4 e
    exact ⟨.inr ⟨T, true, oT, a1, a7 _ _ (Nat.ne_of_gt (Nat.lt_trans hb.1 c)) (Nat.ne_of_gt (Nat.lt_trans hb.2.2.2.1 c)) (Nat.ne_of_gt (Nat.lt_trans hb.2.2.2.2.1 c)) b, c⟩, a7 _ _ D.TIz D.TIi1 D.TIi2 Z.ti, a3, a4,
      Z.m1.at fun o e => a7 _ _ D.l1z D.l1i1 D.l1i2 e, Z.m2.at fun o e => a7 _ _ D.l2z D.l2i1 D.l2i2 e⟩
theorem zl_done {E : Value → Shared → Prop} {i : Nat} {Q : Option Value → Shared → Prop} (hh : A.handled = none) (D : ZipApart z TI TO i1 i2 l1 l2) (Z : ZL s.heap z TI TO i1 i2 l1 l2 S xs ys i) (hend : xs[i]? = none ∨ ys[i]? = none)
    (hQ : ∀ h', (∀ c o, c ≠ z → c ≠ TO → c ≠ i1 → c ≠ i2 → s.heap.get? c = some o → h'.get? c = some o) → Q none { s with heap := h' }) : wpAny (model prog w) A (pyNext (.ref z)) Q E s := by
  rcases Z.zip with ⟨_, a, x0, y0, b⟩ | ⟨T, f, oT, a, b, c⟩
  · exact wpAny_pyNext_zip_end hh D a Z.ti b Z.h1 Z.h2 Z.m1 Z.m2 hend hQ
  · exact wpAny_pyNext_zip_end_held hh D a b Z.ti Z.h1 Z.h2 Z.m1 Z.m2 hend fun h' k => hQ h' fun c o c1 _ c3 c4 e => k c o c1 c3 c4 e
variable {R : Result → Shared → Prop}
theorem zl_loop (hh : A.handled = none) (D : ZipApart z TI TO i1 i2 l1 l2) (hb : z < S ∧ TI < S ∧ TO < S ∧ i1 < S ∧ i2 < S ∧ l1 < S ∧ l2 < S) (hn : min xs.size ys.size ≤ sizeLine) (res : Value) {h₁ : Heap}
    (hR : ∀ h' tk acc c as, (∀ b o, b ≠ S → b ≠ z → b ≠ TO → b ≠ i1 → b ≠ i2 → h₁.get? b = some o → h'.get? b = some o) → h'.get? S = some { cls := .type "list", dict := none, data := .seq acc c, slots := #[] } → as.length = min xs.size ys.size → ZG xs ys S h' as →
      acc.toList = as.map Value.ref → R (.ok (.ret res)) { s with heap := h', toks := tk }) :
    ∀ (k i : Nat) (h : Heap) (tk c : Nat) (acc : Array Value) (as : List Addr), min xs.size ys.size - i = k → i ≤ min xs.size ys.size → ZL h z TI TO i1 i2 l1 l2 S xs ys i → (∀ b o, b ≠ S → b ≠ z → b ≠ TO → b ≠ i1 → b ≠ i2 → h₁.get? b = some o → h.get? b = some o) →
      h.get? S = some { cls := .type "list", dict := none, data := .seq acc c, slots := #[] } → acc.toList = as.map Value.ref → as.length = i → ZG xs ys S h as →
      codeAny (model prog w) A (.builtin "list.extend.loop" ⟨[.ref S, .ref z, res], []⟩) R { s with heap := h, toks := tk } := by
  have nz : S ≠ z := Nat.ne_of_gt hb.1
  have nTO : S ≠ TO := Nat.ne_of_gt hb.2.2.1
  have n1 : S ≠ i1 := Nat.ne_of_gt hb.2.2.2.1
  have n2 : S ≠ i2 := Nat.ne_of_gt hb.2.2.2.2.1
  have big : ∀ {b : Addr}, S < b → b ≠ S ∧ b ≠ z ∧ b ≠ TO ∧ b ≠ i1 ∧ b ≠ i2 := fun {b} h => ⟨Nat.ne_of_gt h, Nat.ne_of_gt (Nat.lt_trans hb.1 h), Nat.ne_of_gt (Nat.lt_trans hb.2.2.1 h), Nat.ne_of_gt (Nat.lt_trans hb.2.2.2.1 h), Nat.ne_of_gt (Nat.lt_trans hb.2.2.2.2.1 h)⟩
  intro k
  induction k with
  | zero =>
    intro i h tk c acc as hk hi Z hkeep hS hacc hal hG
    refine codeAny_builtin PySem.F.entry_extend_loop ?_
    (rw [Around.under_plainId PySem.F.plain_extend_loop _]; show wpAny _ A.in1 (pyNext (.ref z) >>= _) _ _ _)
    refine wpAny_bind (zl_done (s := { s with heap := h, toks := tk }) (A := A.in1) hh D Z ?_ fun h' he => ?_)
    · by_cases hx : xs.size ≤ ys.size
      · exact .inl (Array.getElem?_eq_none (by omega))
      · exact .inr (Array.getElem?_eq_none (by omega))
    refine wpAny_pure (hR h' tk acc c as (fun b o h1 h2 h3 h4 h5 e => he b o h2 h3 h4 h5 (hkeep b o h1 h2 h3 h4 h5 e)) (he S _ nz nTO n1 n2 hS) (by omega) ⟨hG.rise, hG.above, fun j a hj => ?_⟩ hacc)
    obtain ⟨x, y, e1, e2, e3⟩ := hG.pairs j a hj
    obtain ⟨_, q1, q2, q3, q4⟩ := big (hG.above a (List.mem_of_getElem? hj))
    exact ⟨x, y, e1, e2, he a _ q1 q2 q3 q4 e3⟩
  | succ k ih =>
    intro i h tk c acc as hk hi Z hkeep hS hacc hal hG
    have hsz : acc.size = i := by rw [← Array.length_toList, hacc, List.length_map, hal]
    have hSl : S < h.objs.size := Heap.lt_size hS
    refine codeAny_builtin PySem.F.entry_extend_loop ?_
    (rw [Around.under_plainId PySem.F.plain_extend_loop _]; show wpAny _ A.in1 (pyNext (.ref z) >>= _) _ _ _)
    refine wpAny_bind (zl_item (s := { s with heap := h, toks := tk }) D hb hSl Z (by omega) (by omega) fun h' Z' ⟨x, y, ex, ey, hp⟩ hz hkp => ?_)
    dsimp only at hp hz hkp ⊢
    have hS' := hkp S _ nz nTO n1 n2 hS
    have up : ∀ b o, b ≠ S → h'.get? b = some o → (h'.update S (Obj.mapSeq (·.push (Value.ref h.objs.size)))).get? b = some o := fun b o hb e => (Heap.get?_update_other _ _ (Ne.symm hb)).trans e
    show wpAny _ A.in1 (updateSeq S (·.push (Value.ref h.objs.size)) >>= _) _ _ _
    refine wpAny_bind (wpAny_updateSeq hS' rfl (wpAny_pure ⟨plainId_quiet PySem.F.plain_extend_loop _, ih (i + 1) _ tk _ (acc.push (Value.ref h.objs.size)) (as ++ [h.objs.size]) (by omega) (by omega) (Z'.at hb up)
      (fun b o h1 h2 h3 h4 h5 e => up b o h1 (hkp b o h2 h3 h4 h5 (hkeep b o h1 h2 h3 h4 h5 e))) (Heap.get?_update_self _ hS' rfl) (by rw [Array.toList_push, hacc, List.map_append]; rfl) (by rw [List.length_append, hal]; rfl) ⟨?_, ?_, ?_⟩⟩) (by rw [hsz]; omega) (by show (acc.push (Value.ref h.objs.size)).size ≤ sizeLine + 1; rw [Array.size_push, hsz]; omega))
    · refine List.pairwise_append.mpr ⟨hG.rise, List.pairwise_singleton _ _, fun a ha b hb => by rw [List.mem_singleton.mp hb]; exact hG.there ha⟩
    · intro a ha
      rcases List.mem_append.mp ha with ha | ha
      · exact hG.above a ha
      · rw [List.mem_singleton.mp ha]; exact hSl
    · intro j b hj
      rcases Nat.lt_trichotomy j as.length with h1 | h1 | h1
      · rw [List.getElem?_append_left h1] at hj
        obtain ⟨x', y', f1, f2, f3⟩ := hG.pairs j b hj
        obtain ⟨q0, q1, q2, q3, q4⟩ := big (hG.above b (List.mem_of_getElem? hj))
        exact ⟨x', y', f1, f2, up b _ q0 (hkp b _ q1 q2 q3 q4 f3)⟩
      · subst h1
        have hb' : h.objs.size = b := by simpa using hj
        subst hb'
        exact ⟨x, y, by rw [hal]; exact ex, by rw [hal]; exact ey, up _ _ (Nat.ne_of_gt hSl) hp⟩
      · rw [List.getElem?_eq_none (by rw [List.length_append, List.length_singleton]; omega)] at hj
        cases hj
theorem zip_no_len : typeLookup (.type "zip") "__len__" = pure none := am_miss_of_fast (by decide +kernel)
theorem zip_no_hint : typeLookup (.type "zip") "__length_hint__" = pure none := am_miss_of_fast (by decide +kernel)
theorem zl_hint {E : Value → Shared → Prop} {Q : Bool → Shared → Prop} (hT : s.TypeIs (.ref z) "zip") (h : Q true s) : wpAny (model prog w) A (Builtin.List.listLengthHint (.ref z)) Q E s := by
  unfold Builtin.List.listLengthHint
  refine wpAny_bind (wpAny_specialOf hT zip_no_len ?_)
  refine wpAny_ite_split (fun hab => absurd hab (by decide)) (fun _ => ?_)
  refine wpAny_ite_split (fun hab => absurd hab (by decide)) (fun _ => ?_)
  refine wpAny_bind (wpAny_specialOf hT zip_no_hint ?_)
  exact wpAny_pure h
theorem zl_extend {xs ys : Array Value} (hh : A.handled = none) (D : ZipApart z TI TO i1 i2 l1 l2) (hb : z < S ∧ TI < S ∧ TO < S ∧ i1 < S ∧ i2 < S ∧ l1 < S ∧ l2 < S) (Z : ZL s.heap z TI TO i1 i2 l1 l2 S xs ys 0) (res : Value) (c₀ : Nat) (hS : s.heap.get? S = some { cls := .type "list", data := .seq #[] c₀ })
    (hz : IsZip s.heap z TI TO .none) (hn : min xs.size ys.size ≤ sizeLine)
    (hR : ∀ h' tk acc c as, (∀ b o, b ≠ S → b ≠ z → b ≠ TO → b ≠ i1 → b ≠ i2 → s.heap.get? b = some o → h'.get? b = some o) → h'.get? S = some { cls := .type "list", dict := none, data := .seq acc c, slots := #[] } → as.length = min xs.size ys.size → ZG xs ys S h' as →
      acc.toList = as.map Value.ref → R (.ok (.ret res)) { s with heap := h', toks := tk }) :
    wpAny (model prog w) A.in1 (Builtin.List.listExtendWith (.ref S) (.ref z) res)
      (fun g s' => match g with | .done f => R (.ok f) s' | .again c' => c'.quiet = true ∧ codeAny (model prog w) A c' R s') (fun e s' => R (.error e) s') s := by
  have hT : s.TypeIs (.ref z) "zip" := ⟨_, hz, rfl⟩
  unfold Builtin.List.listExtendWith
  refine wpAny_bind (wpAny_typeOf (T := "zip") hT ?_)
  have h1 : Builtin.List.listSameRef (.ref S) (.ref z) = false := by simp [Builtin.List.listSameRef, Nat.ne_of_gt hb.1]
  have h2 : (Value.type "zip" == Value.type "list") = false := by decide
  have h3 : (Value.type "zip" == Value.type "tuple") = false := by decide
  simp only [h1, h2, h3, Bool.or_false, Bool.false_eq_true, if_false]
  refine wpAny_bind (wpAny_pyIter_zip hz ?_)
  refine wpAny_bind (wpAny_holding (zl_hint hT ?_))
  refine wpAny_ite_split (fun _ => ?_) (fun hf => absurd rfl hf)
  refine wpAny_bind (wpAny_rule ?_)
  refine wpAny_bind ?_
  show wpAny _ _ (updateSeq S (·.push .none) >>= fun _ => updateSeq S (·.pop)) _ _ _
  refine wpAny_bind (wpAny_updateSeq hS rfl ?_)
  have hS₂ := Heap.get?_update_self (Obj.mapSeq (·.push Value.none)) hS rfl
  refine wpAny_updateSeq (hz := by seq_fits) hS₂ rfl ?_
  have hS₃ := Heap.get?_update_self (Obj.mapSeq (·.pop)) hS₂ rfl
  have oth : ∀ b o, b ≠ S → s.heap.get? b = some o → ((s.heap.update S (Obj.mapSeq (·.push Value.none))).update S (Obj.mapSeq (·.pop))).get? b = some o := fun b o hb e => (Heap.get?_update_other _ _ (Ne.symm hb)).trans ((Heap.get?_update_other _ _ (Ne.symm hb)).trans e)
  refine wpAny_pure ⟨plainId_quiet PySem.F.plain_extend_loop _, ?_⟩
  exact zl_loop (h₁ := s.heap) hh D hb hn res hR _ 0 _ s.toks _ #[] [] rfl (Nat.zero_le _) (Z.at hb oth) (fun b o h1 _ _ _ _ e => oth b o h1 e) hS₃ rfl rfl ⟨List.Pairwise.nil, (fun _ ha => nomatch ha), (fun j a hj => by simp at hj)⟩
theorem zl_call {E : Value → Shared → Prop} {xs ys : Array Value} {Q : Value → Shared → Prop} (hh : A.handled = none) (D : ZipApart z TI TO i1 i2 l1 l2) (hb : z < s.heap.objs.size ∧ TI < s.heap.objs.size ∧ TO < s.heap.objs.size ∧ i1 < s.heap.objs.size ∧ i2 < s.heap.objs.size ∧ l1 < s.heap.objs.size ∧ l2 < s.heap.objs.size)
    (Z : ZL s.heap z TI TO i1 i2 l1 l2 s.heap.objs.size xs ys 0) (hz : IsZip s.heap z TI TO .none) (hn : min xs.size ys.size ≤ sizeLine)
    (hQ : ∀ h' tk acc c as, (∀ b o, b ≠ z → b ≠ TO → b ≠ i1 → b ≠ i2 → s.heap.get? b = some o → h'.get? b = some o) → h'.get? s.heap.objs.size = some { cls := .type "list", dict := none, data := .seq acc c, slots := #[] } → as.length = min xs.size ys.size →
      ZG xs ys s.heap.objs.size h' as → acc.toList = as.map Value.ref → Q (.ref s.heap.objs.size) { s with heap := h', toks := tk }) : wpAny (model prog w) A (call (.type "list") [.ref z]) Q E s := by
  refine callType_codes (Q₁ := fun obj s₁ => obj = .ref s.heap.objs.size ∧ s₁ = { s with heap := s.heap.push { cls := .type "list", data := .seq #[] } }) PySem.F.called_list (PySem.F.typeCall_list_1 _) PySem.F.entry_list_init (PySem.code_list_new _ ⟨rfl, rfl⟩) fun obj s₁ h₁ => ?_
  obtain ⟨rfl, rfl⟩ := h₁
  have hS : (s.heap.push { cls := .type "list", data := .seq #[] }).get? s.heap.objs.size = some { cls := .type "list", data := .seq #[] } := Heap.get?_push_size _ rfl
  have up : ∀ b o, s.heap.get? b = some o → (s.heap.push { cls := .type "list", data := .seq #[] }).get? b = some o := fun b o e => Heap.get?_push_of_some _ e
  refine ⟨⟨_, hS, rfl⟩, PySem.F.args_list_init_2 _ _, ?_⟩
  show wpAny _ A.in1.in1 (do let old ← Builtin.List.listItems (.ref s.heap.objs.size); Builtin.List.listUpdate (.ref s.heap.objs.size) (fun _ => #[]); letGo old.toList.reverse; Builtin.List.listExtendWith (.ref s.heap.objs.size) (.ref z) .none) _ _ _
  refine wpAny_bind ?_
  unfold Builtin.List.listItems
  refine wpAny_bind (wpAny_seqItems hS rfl (wpAny_pure ?_))
  show wpAny _ _ (updateSeq s.heap.objs.size (fun _ => #[]) >>= fun _ => letGo (#[] : Array Value).toList.reverse >>= fun _ => Builtin.List.listExtendWith (.ref s.heap.objs.size) (.ref z) .none) _ _ _
  refine wpAny_bind (wpAny_updateSeq hS rfl ?_)
  have hS₂ := Heap.get?_update_self (Obj.mapSeq (fun _ => (#[] : Array Value))) hS rfl
  have oth : ∀ b o, b ≠ s.heap.objs.size → (s.heap.push { cls := .type "list", data := .seq #[] }).get? b = some o → ((s.heap.push { cls := .type "list", data := .seq #[] }).update s.heap.objs.size (Obj.mapSeq (fun _ => (#[] : Array Value)))).get? b = some o :=
    fun b o hb e => (Heap.get?_update_other _ _ (Ne.symm hb)).trans e
  refine wpAny_bind (wpAny_letGo ?_)
  have k2 : ∀ b o, b ≠ s.heap.objs.size → s.heap.get? b = some o → ((s.heap.push { cls := .type "list", data := .seq #[] }).update s.heap.objs.size (Obj.mapSeq (fun _ => (#[] : Array Value)))).get? b = some o := fun b o hb e => oth b o hb (up b o e)
  refine zl_extend (A := A.in1) hh D hb (Z.at hb k2) .none _ hS₂ (k2 _ _ (Nat.ne_of_lt hb.1) hz) hn fun h' tk acc c as hk hS' hl hG hacc => ⟨rfl, hQ h' tk acc c as (fun b o h1 h2 h3 h4 e => hk b o (Nat.ne_of_lt (Heap.lt_size e)) h1 h2 h3 h4 (k2 b o (Nat.ne_of_lt (Heap.lt_size e)) e)) hS' hl hG hacc⟩
end
end DL

namespace DL
open PySem PySem.Spec PyProof.Rows L2
/-! ### list(zip(a, b)) over data -/
def putZ : Hp → List Addr → List (V × V) → Hp
  | H, a :: as, p :: ps => putZ (upd H a (.tup [p.1, p.2])) as ps
  | H, _, _ => H
theorem vals_refs' : ∀ as : List Addr, Vals (as.map V.ref) (as.map Value.ref)
  | [] => .nil
  | _ :: as => .cons rfl (vals_refs' as)
theorem putZ_out {b : Addr} : ∀ (as : List Addr) (ps : List (V × V)) (H : Hp), b ∉ as → putZ H as ps b = H b
  | [], _, _, _ => rfl
  | _ :: _, [], _, _ => rfl
  | a :: as, p :: ps, H, h => by
    unfold putZ
    rw [putZ_out as ps _ (fun z => h (.tail _ z)), upd_ne (fun z => h (by rw [z]; exact .head _))]
theorem putZ_in : ∀ (as : List Addr) (ps : List (V × V)) (H : Hp), as.length = ps.length → as.Nodup → ∀ (j : Nat) (a : Addr), as[j]? = some a → ∃ p, ps[j]? = some p ∧ putZ H as ps a = some (.tup [p.1, p.2])
  | [], _, _, _, _, j, a, e => by simp at e
  | _ :: _, [], _, h, _, _, _, _ => nomatch h
  | a :: as, p :: ps, H, h, hn, 0, b, e => by
    have hn' := List.nodup_cons.mp hn
    rw [List.getElem?_cons_zero] at e; cases e
    refine ⟨p, rfl, ?_⟩
    unfold putZ
    rw [putZ_out as ps _ hn'.1, upd_same]
  | a :: as, p :: ps, H, h, hn, j + 1, b, e => by
    have hn' := List.nodup_cons.mp hn
    rw [List.getElem?_cons_succ] at e
    obtain ⟨q, e1, e2⟩ := putZ_in as ps (upd H a (.tup [p.1, p.2])) (Nat.succ.inj h) hn'.2 j b e
    exact ⟨q, by rw [List.getElem?_cons_succ]; exact e1, e2⟩
section
variable {X : Cx} {e e2 : Expr} {ta : TA} {p p2 pos cpos : Pos}
theorem zip_laid {pins : List (Addr × Obj)} {σ : L2.St} {H : Hp} {s : Shared} {h' : Heap} {tk : Nat} {xs ys : List V} {us ws : List Value} {acc : Array Value} {c : Nat} {S : Addr} {as : List Addr} (I : Inv X pins σ H s) (rx : Vals xs us) (ry : Vals ys ws) (hlen : xs.length ≤ sizeLine)
    (hS0 : s.heap.objs.size ≤ S) (hk : ∀ b o, s.heap.get? b = some o → h'.get? b = some o) (hS : h'.get? S = some { cls := .type "list", dict := none, data := .seq acc c, slots := #[] }) (hl : as.length = min us.toArray.size ws.toArray.size) (hG : ZG us.toArray ws.toArray S h' as) (hacc : acc.toList = as.map Value.ref) :
    ∃ H' : Hp, Same H H' ∧ H S = none ∧ (∀ t ∈ as, H t = none) ∧ S ∉ as ∧ H' S = some (.lst (as.map V.ref)) ∧ (∀ (j : Nat) (t : Addr), as[j]? = some t → ∃ q, (xs.zip ys)[j]? = some q ∧ H' t = some (.tup [q.1, q.2])) ∧ as.length = (xs.zip ys).length ∧ Inv X pins σ H' { s with heap := h', toks := tk } := by
  have lx := rx.length
  have ly := ry.length
  have lz : as.length = (xs.zip ys).length := by rw [hl, List.length_zip, List.size_toArray, List.size_toArray, lx, ly]
  have hSn : S ∉ as := fun z => Nat.lt_irrefl _ (hG.above _ z)
  have nd : as.Nodup := List.Pairwise.imp (fun {a b} (h : a < b) => Nat.ne_of_lt h) hG.rise
  have new : ∀ t ∈ as, H t = none := fun t ht => I.hok.fresh (Nat.le_trans hS0 (Nat.le_of_lt (hG.above t ht)))
  have newS : H S = none := I.hok.fresh hS0
  have atP := putZ_in as (xs.zip ys) (upd H S (.lst (as.map V.ref))) lz nd
  have off : ∀ b, b ∉ as → b ≠ S → putZ (upd H S (.lst (as.map V.ref))) as (xs.zip ys) b = H b := fun b h1 h2 => (putZ_out as _ _ h1).trans (upd_ne h2)
  have low : ∀ b o, s.heap.get? b = some o → b ∉ as ∧ b ≠ S := fun b o e => ⟨fun z => absurd (Heap.lt_size e) (Nat.not_lt.mpr (Nat.le_trans hS0 (Nat.le_of_lt (hG.above b z)))), Nat.ne_of_lt (Nat.lt_of_lt_of_le (Heap.lt_size e) hS0)⟩
  have kp : Same H (putZ (upd H S (.lst (as.map V.ref))) as (xs.zip ys)) := fun b u e =>
    (off b (fun z => by rw [new b z] at e; cases e) (fun z => by rw [z, newS] at e; cases e)).trans e
  have eS : putZ (upd H S (.lst (as.map V.ref))) as (xs.zip ys) S = some (.lst (as.map V.ref)) := (putZ_out as _ _ hSn).trans upd_same
  refine ⟨putZ (upd H S (.lst (as.map V.ref))) as (xs.zip ys), kp, newS, new, hSn, eS, atP, lz, ?_⟩
  refine I.call' (ch := []) rfl ⟨fun b o q _ _ _ => hk b o q, fun b o q _ _ _ => ⟨o.slots, hk b o q⟩, fun b o q n _ => ?_, fun b o q _ => ⟨o, hk b o q⟩, fun b xs q => kp b _ q, fun b o u q => kp b _ q, fun b ps q => ⟨#[], by rw [kp b _ q]; simp⟩⟩ (fun b u q => ?_) I.bare fun b z => by simp at z
  · obtain ⟨z1, z2⟩ := low b o q
    rw [off b z1 z2]
    exact n
  · by_cases hb : b ∈ as
    · obtain ⟨j, hj⟩ := List.mem_iff_getElem?.mp hb
      obtain ⟨pq, e2, e3⟩ := atP j b hj
      rw [e3] at q
      cases q
      obtain ⟨x, y, f1, f2, f3⟩ := hG.pairs j b hj
      obtain ⟨g1, g2⟩ := List.getElem?_zip_eq_some.mp e2
      obtain ⟨u1, m1, r1⟩ := rx.get g1
      obtain ⟨u2, m2, r2⟩ := ry.get g2
      rw [List.getElem?_toArray] at f1 f2
      rw [m1] at f1; cases f1
      rw [m2] at f2; cases f2
      exact ⟨by show 2 ≤ sizeLine; decide, [x, y], .cons r1 (.cons r2 .nil), ⟨_, f3, rfl, _, rfl⟩⟩
    · by_cases hb2 : b = S
      · rw [hb2] at q ⊢
        rw [eS] at q
        cases q
        refine ⟨by rw [List.length_map, lz, List.length_zip]; omega, acc.toList, c, by rw [hacc]; exact vals_refs' as, ?_⟩
        rw [Array.toArray_toList]
        exact hS
      · rw [off b hb hb2] at q
        exact (I.hok b u q).stay (fun d v _ y => hk d v y) (fun d y => kp d _ y) fun d xs y => kp d _ y
def tListZip (K : PySem.W.Frag) (ta : TA) : TE := fun σ H Q => ta σ H fun vs H1 => ∃ a b xs ys, vs = [.ref a, .ref b] ∧ SqL K H1 a xs ∧ SqL K H1 b ys ∧
  ∀ (H' : Hp) (p : Addr) (ts : List Addr), Same H1 H' → H1 p = none → (∀ t ∈ ts, H1 t = none) → p ∉ ts → H' p = some (.lst (ts.map V.ref)) → (∀ (j : Nat) (t : Addr), ts[j]? = some t → ∃ q, (xs.zip ys)[j]? = some q ∧ H' t = some (.tup [q.1, q.2])) → ts.length = (xs.zip ys).length → Q (.ref p) H'
theorem pe_listZip (hc : X.calm = true) (ha : PA X [e, e2] ta) (hg : Gl X "list") (hm : X.mg "list" = none) (hgz : Gl X "zip") (hmz : X.mg "zip" = none)
    (hs : starEach [e, e2] X.env = (false, eval e X.env) :: starEach [e2] X.env := by rfl) (hpl : (backTo cpos (starEach [e2] X.env)).any (·.1) = false := by rfl)
    (na : starEach [.Call (.Name "zip" p2) [e, e2] [] cpos] X.env = (false, eval (.Call (.Name "zip" p2) [e, e2] [] cpos) X.env) :: starEach [] X.env := by rfl) :
    PE X (.Call (.Name "list" p) [.Call (.Name "zip" p2) [e, e2] [] cpos] [] pos) (tListZip X.K ta) := by
  refine ⟨fun pins s σ H Q I h => ?_⟩
  refine Call_ (ld_blt I hg hm boot_list (PyProof.Rows.callWith_type1 (args_cons (Call_ (ld_blt I hgz hmz PyProof.Rows.boot_zip (PyProof.Rows.callWith_type1 (thn (ha.run cpos pins s σ H _ I h) fun us s1 ⟨vs, H1, I1, r1, q1⟩ => ?_) hs hpl))) na) na))
  obtain ⟨a, b, xs, ys, ex, hqx, hqy, q⟩ := q1
  subst ex
  cases r1 with
  | cons r rr =>
    cases rr with
    | cons r' rr =>
      cases rr
      cases r
      cases r'
      obtain ⟨its, rv, p1, z1⟩ := I1.list hqx
      obtain ⟨its2, rv2, p2, z2⟩ := I1.list hqy
      refine call_zip_2 p1.isList p2.isList fun h' hz hTI hTO h1 h2 hsz hk => args_nil ?_
      have I2 : Inv X pins σ H1 { s1 with heap := h' } := I1.kept (t' := s1.toks) hk
      have lb : s1.heap.objs.size + 4 < h'.objs.size ∧ s1.heap.objs.size + 2 < h'.objs.size ∧ s1.heap.objs.size + 3 < h'.objs.size ∧ s1.heap.objs.size < h'.objs.size ∧ s1.heap.objs.size + 1 < h'.objs.size ∧ a < h'.objs.size ∧ b < h'.objs.size := by
        have q1 := p1.lt
        have q2 := p2.lt
        rw [hsz]
        exact ⟨by omega, by omega, by omega, by omega, by omega, Nat.lt_of_lt_of_le q1 (Nat.le_add_right _ _), Nat.lt_of_lt_of_le q2 (Nat.le_add_right _ _)⟩
      refine zl_call (s := { s1 with heap := h' }) (I1.ok.hd hc) (PySem.W.ktu_apart s1.heap.objs.size a b p1.lt p2.lt) lb ⟨.inl ⟨rfl, hz, _, _, hTO⟩, hTI, h1, h2, p1.isList.at fun o e => hk _ _ e, p2.isList.at fun o e => hk _ _ e⟩ hz (by
        have e1 := rv.length
        have e2 : its.toArray.size = its.length := List.size_toArray
        have e3 := z1
        exact Nat.le_trans (Nat.min_le_left _ _) (by rw [e2, ← e1]; exact e3)) fun h2' tk acc c as hk2 hS hl hG hacc => ?_
      have ap := PySem.W.ktu_apart s1.heap.objs.size a b p1.lt p2.lt
      obtain ⟨H', k1, k2, k3, k4, k5, k6, k7, J⟩ := zip_laid (tk := tk) (h' := h2') (S := h'.objs.size) I1 rv rv2 z1 (by omega) (fun b o e => hk2 b o (Nat.ne_of_lt (Nat.lt_of_lt_of_le (Heap.lt_size e) (Nat.le_add_right _ _))) (Nat.ne_of_lt (Nat.lt_of_lt_of_le (Heap.lt_size e) (Nat.le_add_right _ _))) (Nat.ne_of_lt (Heap.lt_size e)) (Nat.ne_of_lt (Nat.lt_of_lt_of_le (Heap.lt_size e) (Nat.le_add_right _ _))) (hk b o e)) hS hl hG hacc
      exact ⟨.ref _, H', J, rfl, q H' _ as k1 k2 k3 k4 k5 k6 k7⟩
variable {ρ : List Sl} {Φ : PyData → List Sl → Prop}
theorem rp_zip {G : Hp} : ∀ {ts : List Addr} {vs us : List V} {ds es : List PyData}, RpAll G vs ds → RpAll G us es → (∀ (j : Nat) (t : Addr), ts[j]? = some t → ∃ q, (vs.zip us)[j]? = some q ∧ G t = some (.tup [q.1, q.2])) → ts.length = (vs.zip us).length → RpAll G (ts.map V.ref) (zipD ds es)
  | [], [], _, [], _, .nil, _, _, _ => .nil
  | _ :: _, [], _, [], _, .nil, _, _, h => nomatch h
  | [], _ :: _, [], _ :: _, [], .cons _ _, .nil, _, _ => .nil
  | _ :: _, _ :: _, [], _ :: _, [], .cons _ _, .nil, _, h => nomatch h
  | [], _ :: _, _ :: _, _ :: _, _ :: _, .cons _ _, .cons _ _, _, h => nomatch h
  | t :: ts, v :: vs, u :: us, d :: ds, e :: es, .cons r1 r2, .cons r3 r4, hp, h => by
    obtain ⟨q, e1, e2⟩ := hp 0 t rfl
    rw [List.zip_cons_cons, List.getElem?_cons_zero] at e1
    cases e1
    exact .cons (.tup e2 (.cons r1 (.cons r3 .nil))) (rp_zip r2 r4 (fun j t' ht => by
      obtain ⟨q, e1, e2⟩ := hp (j + 1) t' ht
      exact ⟨q, by rw [List.zip_cons_cons, List.getElem?_cons_succ] at e1; exact e1, e2⟩) (by simpa using h))
theorem ee_listZip (ck : CK X) (h : EA X ρ [e, e2] fun ds ρ1 => ∃ xs ys, ds = [.list xs, .list ys] ∧ Φ (.list (zipD xs ys)) ρ1) (hg : Gl X "list" := by rfl) (hgz : Gl X "zip" := by rfl)
    (hs : starEach [e, e2] X.env = (false, eval e X.env) :: starEach [e2] X.env := by rfl) (hpl : (backTo cpos (starEach [e2] X.env)).any (·.1) = false := by rfl)
    (na : starEach [.Call (.Name "zip" p2) [e, e2] [] cpos] X.env = (false, eval (.Call (.Name "zip" p2) [e, e2] [] cpos) X.env) :: starEach [] X.env := by rfl) :
    EE X ρ (.Call (.Name "list" p) [.Call (.Name "zip" p2) [e, e2] [] cpos] [] pos) Φ := fun F σ H Q S k =>
  ofPE (pe_listZip ck.calm paW hg (ck.bt _ (by simp [bNames])) hgz (ck.bt _ (by simp [bNames])) hs hpl na) (h F σ H _ S fun vs H1 ds ρ1 ⟨xs, ys, ed, q⟩ S1 g r => by
    subst ed
    match r with
    | .cons (.lst e1 r1) (.cons (.lst e2 r2) .nil) =>
      refine ⟨_, _, _, _, rfl, .of (mask_le _ _ e1), .of (mask_le _ _ e2), fun H' p ts s hp hts hpn hpl hpr hlen => ?_⟩
      have S2 := S1.ext s
      have g2 : Same (gh F ρ1 H1) (gh F ρ1 H') := mask_same s
      have out : ∀ b, H1 b = none → gh F ρ1 H' b = H' b := fun b hb => mask_out fun m => S1.ad b m hb
      refine k _ H' _ ρ1 q S2 (g.trans g2) (.lst ((out p hp).trans hpl) (rp_zip (RpAll.up g2 _ _ r1) (RpAll.up g2 _ _ r2) (fun j t ht => ?_) hlen))
      obtain ⟨q, e1, e2⟩ := hpr j t ht
      exact ⟨q, e1, (out t (hts t (List.mem_of_getElem? ht))).trans e2⟩)
end
end DL

namespace DL
open PySem PySem.Spec PyProof.Rows L2
section
variable {X : Cx} {ρ : List Sl} {e a b c : Expr} {pos : Pos} {Φ : PyData → List Sl → Prop} {Θ : List PyData → List Sl → Prop}
theorem ii_zip2T {p tpos : Pos} {elts : List Expr} {kk : Nat} (ck : CK X) (h : EA X ρ [a, b] fun ds ρ1 => ∃ xs ys, ds = [.tuple xs, .tuple ys] ∧ Θ (zipD xs ys) ρ1) (hg : Gl X "zip" := by rfl)
    (hs : starEach [a, b] X.env = (false, eval a X.env) :: starEach [b] X.env := by rfl) (hpl : (backTo pos (starEach [b] X.env)).any (·.1) = false := by rfl) : II X ρ (.Tuple elts kk tpos) (.Call (.Name "zip" p) [a, b] [] pos) Θ :=
  ii_zip ck (fun F σ H Q S k => h F σ H Q S fun vs H' ds ρ' ⟨xs, ys, e, q⟩ => k vs H' ds ρ' (by subst e; exact q)) hg hs hpl
theorem ii_zip2L {p tpos : Pos} {elts : List Expr} {kk : Nat} (ck : CK X) (h : EA X ρ [a, b] fun ds ρ1 => ∃ xs ys, ds = [.list xs, .list ys] ∧ Θ (zipD xs ys) ρ1) (hg : Gl X "zip" := by rfl)
    (hs : starEach [a, b] X.env = (false, eval a X.env) :: starEach [b] X.env := by rfl) (hpl : (backTo pos (starEach [b] X.env)).any (·.1) = false := by rfl) : II X ρ (.Tuple elts kk tpos) (.Call (.Name "zip" p) [a, b] [] pos) Θ :=
  ii_zip ck (fun F σ H Q S k => h F σ H Q S fun vs H' ds ρ' ⟨xs, ys, e, q⟩ => k vs H' ds ρ' (by subst e; exact q)) hg hs hpl
end
end DL

namespace DL
open PySem PySem.Spec PyProof.Rows L2
/-! ### an object under way -/
section
variable {F : Fm} {H H2 : Hp} {σ : L2.St} {ρ : List Sl} {i : Nat} {s t : Sl}
theorem SlotsOk.chgS {G G2 H H2 : Hp} (gg : Same G G2) (kp : ∀ a o, a ∉ t.ad → H a = some o → H2 a = some o) (hx : ∀ x, SlotOk G H x t → SlotOk G2 H2 x s) :
    ∀ {σ : L2.St} {ρ : List Sl} {i : Nat}, SlotsOk G H σ ρ → (os ρ).Nodup → ρ[i]? = some t → SlotsOk G2 H2 σ (ρ.set i s)
  | [], [], _, _, _, e => by simp at e
  | [], _ :: _, _, h, _, _ => h.elim
  | _ :: _, [], _, h, _, _ => h.elim
  | x :: xs, u :: r, 0, h, nd, e => by
    rw [List.getElem?_cons_zero] at e; cases e
    obtain ⟨_, _, h3⟩ := List.nodup_append.mp nd
    exact ⟨hx x h.1, h.2.up gg fun b m o q => kp b o (fun z => h3 b z b m rfl) q⟩
  | x :: xs, u :: r, i + 1, h, nd, e => by
    rw [List.getElem?_cons_succ] at e
    obtain ⟨_, h2, h3⟩ := List.nodup_append.mp nd
    exact ⟨h.1.up gg fun b m o q => kp b o (fun z => h3 b m b (os_at e z) rfl) q, SlotsOk.chgS gg kp hx h.2 h2 e⟩
theorem os_sw : ∀ {ρ : List Sl} {i : Nat} {s t : Sl} {H : Hp}, (∀ a ∈ os ρ, H a ≠ none) → (os ρ).Nodup → ρ[i]? = some t → s.ad.Nodup → (∀ a ∈ s.ad, a ∈ t.ad ∨ H a = none) → (os (ρ.set i s)).Nodup
  | [], _, _, _, _, _, _, e, _, _ => by simp at e
  | u :: r, 0, s, t, H, lv, nd, e, ns, sub => by
    rw [List.getElem?_cons_zero] at e; cases e
    obtain ⟨_, h2, h3⟩ := List.nodup_append.mp nd
    refine List.nodup_append.mpr ⟨ns, h2, fun a ma b mb z => ?_⟩
    rcases sub a ma with y | y
    · exact h3 a y b mb z
    · exact lv b (List.mem_append_right _ mb) (z ▸ y)
  | u :: r, i + 1, s, t, H, lv, nd, e, ns, sub => by
    rw [List.getElem?_cons_succ] at e
    obtain ⟨h1, h2, h3⟩ := List.nodup_append.mp nd
    refine List.nodup_append.mpr ⟨h1, os_sw (fun a m => lv a (List.mem_append_right _ m)) h2 e ns sub, fun a ma b mb z => ?_⟩
    rcases os_set_sub mb with y | y
    · rcases sub b y with w | w
      · exact h3 a ma b (os_at e w) z
      · exact lv a (List.mem_append_left _ ma) (z ▸ w)
    · exact h3 a ma b y z
theorem os_nd : ∀ {ρ : List Sl} {i : Nat} {t : Sl}, (os ρ).Nodup → ρ[i]? = some t → t.ad.Nodup
  | [], _, _, _, e => by simp at e
  | u :: r, 0, t, h, e => by
    rw [List.getElem?_cons_zero] at e; cases e
    exact (List.nodup_append.mp h).1
  | u :: r, i + 1, t, h, e => by
    rw [List.getElem?_cons_succ] at e
    exact os_nd (List.nodup_append.mp h).2.1 e
theorem Stt.chgS (S : Stt F H σ ρ) (e : ρ[i]? = some t) (kp : ∀ a o, a ∉ t.ad → H a = some o → H2 a = some o) (lv : ∀ a ∈ t.ad, H2 a ≠ none) (ns : s.ad.Nodup) (sub : ∀ a ∈ s.ad, a ∈ t.ad ∨ H a = none)
    (hx : Same (gh F ρ H) (gh F (ρ.set i s) H2) → ∀ x, SlotOk (gh F ρ H) H x t → SlotOk (gh F (ρ.set i s) H2) H2 x s) : Stt F H2 σ (ρ.set i s) ∧ Same (gh F ρ H) (gh F (ρ.set i s) H2) := by
  have tin : ∀ a ∈ t.ad, a ∈ os ρ := fun a m => os_at e m
  have sin : ∀ a ∈ os (ρ.set i s), a ∈ os ρ ∨ H a = none := fun a m => (os_set_sub m).elim (fun y => (sub a y).imp (tin a) id) .inl
  have ge : Same (gh F ρ H) (gh F (ρ.set i s) H2) := by
    refine mask_mono (fun a m hn => ?_) fun a o na ea => kp a o (fun z => na (List.mem_append_right _ (tin a z))) ea
    rcases List.mem_append.mp m with m | m
    · exact List.mem_append_left _ m
    · exact (sin a m).elim (List.mem_append_right _) fun z => absurd z hn
  have up : ∀ a, H a ≠ none → H2 a ≠ none := fun a ha => by
    by_cases z : a ∈ t.ad
    · exact lv a z
    · cases q : H a with
      | none => exact absurd q ha
      | some o => rw [kp a o z q]; exact fun z => nomatch z
  refine ⟨⟨fun a m => up a (S.hd a m), fun a o na ea => ?_, fun a ha => up a (S.dm a ha), os_sw S.sl.ad S.nd e ns sub, fun a m => ?_, fun a m z => ?_, S.sl.chgS ge kp (hx ge) S.nd e⟩, ge⟩
  · refine kp a o (fun z => ?_) (S.fr a o na ea)
    rcases S.nw a (tin a z) with y | y
    · exact na y
    · rw [y] at ea; cases ea
  · rcases sin a m with y | y
    · exact S.nw a y
    · cases q : F.H0 a with
      | none => exact .inr rfl
      | some o => exact absurd y (S.dm a (by rw [q]; exact fun z => nomatch z))
  · rcases sin a m with y | y
    · exact S.ap a y z
    · exact S.hd a z y
end
/-! fields -/
def setFd (f : Str) (d : Fd) : List (Str × Fd) → List (Str × Fd)
  | [] => [(f, d)]
  | (g, x) :: r => if g = f then (g, d) :: r else (g, x) :: setFd f d r
theorem FdOk.len {G H : Hp} : ∀ {vs : List (Str × V)} {fs : List (Str × Fd)}, FdOk G H vs fs → vs.length = fs.length
  | [], [], _ => rfl
  | v :: vs, (n, .dat d) :: ds, h => congrArg Nat.succ (FdOk.len h.2)
  | v :: vs, (n, .own a xs) :: ds, h => congrArg Nat.succ (FdOk.len h.2)
  | [], _ :: _, h => h.elim
  | _ :: _, [], h => h.elim
theorem FdOk.dat {G H : Hp} : ∀ {vs : List (Str × V)} {fs : List (Str × Fd)} {n : Str} {d : PyData}, FdOk G H vs fs → fs.lookup n = some (.dat d) → ∃ v, vs.lookup n = some v ∧ Rp G v d
  | [], [], _, _, _, e => by simp at e
  | (m, v) :: vs, (m', .dat d') :: ds, n, d, h, e => by
    have e1 : m = m' := h.1.1
    subst e1
    rw [List.lookup_cons] at e ⊢
    cases q : n == m with
    | true => rw [q] at e; cases e; exact ⟨v, rfl, h.1.2⟩
    | false => rw [q] at e; exact FdOk.dat h.2 e
  | (m, v) :: vs, (m', .own a xs) :: ds, n, d, h, e => by
    have e1 : m = m' := h.1.1
    subst e1
    rw [List.lookup_cons] at e ⊢
    cases q : n == m with
    | true => rw [q] at e; cases e
    | false => rw [q] at e; exact FdOk.dat h.2 e
  | [], _ :: _, _, _, h, _ => h.elim
  | _ :: _, [], _, _, h, _ => h.elim
theorem FdOk.own {G H : Hp} : ∀ {vs : List (Str × V)} {fs : List (Str × Fd)} {n : Str} {a : Addr} {xs : List PyData}, FdOk G H vs fs → fs.lookup n = some (.own a xs) → vs.lookup n = some (.ref a) ∧ (∃ us, H a = some (.lst us) ∧ RpAll G us xs) ∧ a ∈ fdA fs
  | [], [], _, _, _, _, e => by simp at e
  | (m, v) :: vs, (m', .dat d') :: ds, n, a, xs, h, e => by
    have e1 : m = m' := h.1.1
    subst e1
    rw [List.lookup_cons] at e ⊢
    cases q : n == m with
    | true => rw [q] at e; cases e
    | false => rw [q] at e; obtain ⟨q1, q2, q3⟩ := FdOk.own h.2 e; exact ⟨q1, q2, q3⟩
  | (m, v) :: vs, (m', .own b ys) :: ds, n, a, xs, h, e => by
    have e1 : m = m' := h.1.1
    subst e1
    rw [List.lookup_cons] at e ⊢
    cases q : n == m with
    | true => rw [q] at e; cases e; exact ⟨congrArg some h.1.2.1, h.1.2.2, .head _⟩
    | false => rw [q] at e; obtain ⟨q1, q2, q3⟩ := FdOk.own h.2 e; exact ⟨q1, q2, .tail _ q3⟩
  | [], _ :: _, _, _, _, h, _ => h.elim
  | _ :: _, [], _, _, _, h, _ => h.elim
theorem FdOk.no {G H : Hp} : ∀ {vs : List (Str × V)} {fs : List (Str × Fd)} {n : Str}, FdOk G H vs fs → fs.lookup n = none → vs.lookup n = none
  | [], [], _, _, _ => rfl
  | (m, v) :: vs, (m', .dat d') :: ds, n, h, e => by
    have e1 : m = m' := h.1.1
    subst e1
    rw [List.lookup_cons] at e ⊢
    cases q : n == m with
    | true => rw [q] at e; cases e
    | false => rw [q] at e; exact FdOk.no h.2 e
  | (m, v) :: vs, (m', .own b ys) :: ds, n, h, e => by
    have e1 : m = m' := h.1.1
    subst e1
    rw [List.lookup_cons] at e ⊢
    cases q : n == m with
    | true => rw [q] at e; cases e
    | false => rw [q] at e; exact FdOk.no h.2 e
  | [], _ :: _, _, h, _ => h.elim
  | _ :: _, [], _, h, _ => h.elim
/-- a field is put: data, or a list of one's own -/
def FvOk (G H : Hp) (v : V) : Fd → Prop
  | .dat d => Rp G v d
  | .own a xs => v = .ref a ∧ ∃ us, H a = some (.lst us) ∧ RpAll G us xs
theorem FdOk.put {G H : Hp} {f : Str} {v : V} {d : Fd} (q : FvOk G H v d) : ∀ {vs : List (Str × V)} {fs : List (Str × Fd)}, FdOk G H vs fs → FdOk G H (putF f v vs) (setFd f d fs)
  | [], [], _ => by
    cases d with
    | dat d => exact ⟨⟨rfl, q⟩, trivial⟩
    | own a xs => exact ⟨⟨rfl, q⟩, trivial⟩
  | (m, w) :: vs, (n, .dat e) :: ds, h => by
    have e1 : m = n := h.1.1
    subst e1
    unfold putF setFd
    by_cases z : m = f
    · rw [if_pos z, if_pos z]
      cases d with
      | dat d => exact ⟨⟨rfl, q⟩, h.2⟩
      | own a xs => exact ⟨⟨rfl, q⟩, h.2⟩
    · rw [if_neg z, if_neg z]
      exact ⟨h.1, FdOk.put q h.2⟩
  | (m, w) :: vs, (n, .own b ys) :: ds, h => by
    have e1 : m = n := h.1.1
    subst e1
    unfold putF setFd
    by_cases z : m = f
    · rw [if_pos z, if_pos z]
      cases d with
      | dat d => exact ⟨⟨rfl, q⟩, h.2⟩
      | own a xs => exact ⟨⟨rfl, q⟩, h.2⟩
    · rw [if_neg z, if_neg z]
      exact ⟨h.1, FdOk.put q h.2⟩
  | [], _ :: _, h => h.elim
  | _ :: _, [], h => h.elim
/-- one's own lists, one of them written -/
theorem FdOk.wr {G H H2 : Hp} {f : Str} {a : Addr} {xs ys : List PyData} {us : List V} (e2 : H2 a = some (.lst us)) (r2 : RpAll G us ys) (kp : ∀ b o, b ≠ a → H b = some o → H2 b = some o) : ∀ {vs : List (Str × V)} {fs : List (Str × Fd)}, FdOk G H vs fs → (fdA fs).Nodup → fs.lookup f = some (.own a xs) → FdOk G H2 vs (setFd f (.own a ys) fs)
  | [], [], _, _, e => by simp at e
  | (m, w) :: vs, (n, .dat e) :: ds, h, nd, el => by
    have e1 : m = n := h.1.1
    subst e1
    rw [List.lookup_cons] at el
    unfold setFd
    by_cases z : m = f
    · subst z
      rw [beq_self_eq_true] at el; cases el
    · rw [show (f == m) = false from beq_eq_false_iff_ne.mpr (Ne.symm z)] at el
      rw [if_neg z]
      exact ⟨h.1, FdOk.wr e2 r2 kp h.2 nd el⟩
  | (m, w) :: vs, (n, .own b zs) :: ds, h, nd, el => by
    have e1 : m = n := h.1.1
    subst e1
    have nd' := List.nodup_cons.mp nd
    rw [List.lookup_cons] at el
    unfold setFd
    by_cases z : m = f
    · subst z
      rw [beq_self_eq_true] at el; cases el
      rw [if_pos rfl]
      exact ⟨⟨rfl, h.1.2.1, us, e2, r2⟩, h.2.up (Same.refl _) fun c mc o q => kp c o (fun y => nd'.1 (y ▸ mc)) q⟩
    · rw [show (f == m) = false from beq_eq_false_iff_ne.mpr (Ne.symm z)] at el
      rw [if_neg z]
      have nb : b ≠ a := fun y => nd'.1 (y ▸ (FdOk.own h.2 el).2.2)
      obtain ⟨h1, h2, us', h3, h4⟩ := h.1
      exact ⟨⟨h1, h2, us', kp b _ nb h3, h4⟩, FdOk.wr e2 r2 kp h.2 nd'.2 el⟩
  | [], _ :: _, h, _, _ => h.elim
  | _ :: _, [], h, _, _ => h.elim
theorem fdA_own {f : Str} {a : Addr} {xs ys : List PyData} : ∀ {fs : List (Str × Fd)}, fs.lookup f = some (.own a xs) → fdA (setFd f (.own a ys) fs) = fdA fs
  | [], e => by simp at e
  | (n, .dat e) :: ds, el => by
    rw [List.lookup_cons] at el
    unfold setFd
    by_cases z : n = f
    · subst z
      rw [beq_self_eq_true] at el; cases el
    · rw [show (f == n) = false from beq_eq_false_iff_ne.mpr (Ne.symm z)] at el
      rw [if_neg z]
      exact fdA_own el
  | (n, .own b zs) :: ds, el => by
    rw [List.lookup_cons] at el
    unfold setFd
    by_cases z : n = f
    · subst z
      rw [beq_self_eq_true] at el; cases el
      rw [if_pos rfl]
      rfl
    · rw [show (f == n) = false from beq_eq_false_iff_ne.mpr (Ne.symm z)] at el
      rw [if_neg z]
      exact congrArg (List.cons b) (fdA_own el)
theorem fdA_dat {f : Str} {d : PyData} : ∀ {fs : List (Str × Fd)}, (∀ a ∈ fdA (setFd f (.dat d) fs), a ∈ fdA fs) ∧ ((fdA fs).Nodup → (fdA (setFd f (.dat d) fs)).Nodup)
  | [] => ⟨(fun _ m => nomatch m), fun _ => List.nodup_nil⟩
  | (n, .dat e) :: ds => by
    unfold setFd
    by_cases z : n = f
    · rw [if_pos z]; exact ⟨fun a m => m, fun h => h⟩
    · rw [if_neg z]; exact fdA_dat
  | (n, .own b zs) :: ds => by
    unfold setFd
    by_cases z : n = f
    · rw [if_pos z]; exact ⟨fun a m => .tail _ m, fun h => (List.nodup_cons.mp h).2⟩
    · rw [if_neg z]
      obtain ⟨i1, i2⟩ := fdA_dat (f := f) (d := d) (fs := ds)
      exact ⟨fun a m => (List.mem_cons.mp m).elim (fun y => y ▸ .head _) fun y => .tail _ (i1 a y), fun h => List.nodup_cons.mpr ⟨fun y => (List.nodup_cons.mp h).1 (i1 _ y), i2 (List.nodup_cons.mp h).2⟩⟩
theorem fdA_new {f : Str} {a : Addr} {ys : List PyData} : ∀ {fs : List (Str × Fd)}, (∀ b ∈ fdA (setFd f (.own a ys) fs), b = a ∨ b ∈ fdA fs) ∧ ((fdA fs).Nodup → a ∉ fdA fs → (fdA (setFd f (.own a ys) fs)).Nodup)
  | [] => ⟨fun b m => .inl (List.mem_singleton.mp m), fun _ _ => by simp [setFd, fdA]⟩
  | (n, .dat e) :: ds => by
    unfold setFd
    by_cases z : n = f
    · rw [if_pos z]; exact ⟨fun b m => List.mem_cons.mp m, fun h k => List.nodup_cons.mpr ⟨k, h⟩⟩
    · rw [if_neg z]; exact fdA_new
  | (n, .own b zs) :: ds => by
    unfold setFd
    by_cases z : n = f
    · rw [if_pos z]; exact ⟨fun c m => (List.mem_cons.mp m).imp id fun y => .tail _ y, fun h k => List.nodup_cons.mpr ⟨fun y => k (.tail _ y), (List.nodup_cons.mp h).2⟩⟩
    · rw [if_neg z]
      obtain ⟨i1, i2⟩ := fdA_new (f := f) (a := a) (ys := ys) (fs := ds)
      exact ⟨fun c m => (List.mem_cons.mp m).elim (fun y => .inr (y ▸ .head _)) fun y => (i1 c y).imp id fun w => .tail _ w,
        fun h k => List.nodup_cons.mpr ⟨fun y => (i1 b y).elim (fun w => k (w ▸ .head _)) (List.nodup_cons.mp h).1, i2 (List.nodup_cons.mp h).2 fun y => k (.tail _ y)⟩⟩
/-- what of the text its class must have -/
structure CB (K : PySem.W.Frag) (C : Addr) (ns : List Str) : Prop where
  cls : Cls K C
  na : ∀ f ∈ ns, NoAttr K C f
section
variable {X : Cx} {o : Expr} {ta : TE} {f : Str} {pos : Pos}
theorem pg_fld (ha : PE X o ta) : PG X (.Attribute o f pos) (fun v σ H Q => ta σ H fun x H1 => ∃ a C dx fs, x = .ref a ∧ H1 a = some (.ins C dx fs) ∧ Cls X.K C ∧ NoAttr X.K C f ∧ fs.length < 1000 ∧ Q σ (upd H1 a (.ins C dx (putF f v fs)))) := by
  refine ⟨fun pins s σ H v u Q I r h => ?_⟩
  refine PySem.W.kas_attr (thn (ha.run pins s σ H _ I h) fun ov s2 ⟨x, H2, I2, rx, a, C, dx, fs, ex, ea, c, n, l, q2⟩ => ?_)
  subst ex
  obtain rfl : ov = Value.ref a := rx
  exact setattr_ok I2 ea c n l r fun s3 I3 => ⟨σ, _, I3, q2⟩
end
section
variable {X : Cx} {ρ : List Sl} {e b : Expr} {pos : Pos} {Φ : PyData → List Sl → Prop} {D : DE} {x f : Str} {px ap sp : Pos} {p C : Addr} {fs : List (Str × Fd)}
/-- self.f, a datum -/
theorem ee_oF (i : Nat) {d : PyData} (hs : ρ[i]? = some (.bo p C fs)) (cl : Cls X.K C) (na : NoAttr X.K C f) (hf : fs.lookup f = some (.dat d)) (q : Φ d ρ) (hN : X.N[i]? = some x := by rfl)
    (hv : Vis X.env.scope x := by first | exact Or.inl rfl | exact Or.inr (Or.inl rfl) | exact Or.inr (Or.inr rfl)) (hb : attributeBase (.Name x px) f X.env (eval (.Name x px) X.env) = eval (.Name x px) X.env := by rfl)
    (hd : (x == ("__debug__" : Str)) = false := by decide) (hcd : (x == ("__classdict__" : Str)) = false := by decide) : EE X ρ (.Attribute (.Name x px) f pos) Φ := fun F σ H Q S k => by
  obtain ⟨y, e1, e2, dx, vs, e3, fo⟩ := S.sl.get hs
  subst e2
  obtain ⟨v, hl, rv⟩ := fo.dat hf
  exact ofPE (pe_fld (pe_var hN hv hd hcd) hb) ⟨_, e1, p, C, dx, vs, v, rfl, e3, cl, na, hl, k v H d ρ q S (Same.refl _) rv⟩
/-- self.f[b], f a list of its own -/
theorem ee_oIx (i : Nat) {a : Addr} {ds : List PyData} (hs : ρ[i]? = some (.bo p C fs)) (cl : Cls X.K C) (na : NoAttr X.K C f) (hf : fs.lookup f = some (.own a ds))
    (h : EE X ρ b fun db ρ2 => ∃ j d fs2 ds2, db = .int j ∧ ρ2[i]? = some (.bo p C fs2) ∧ fs2.lookup f = some (.own a ds2) ∧ atI ds2 j = some d ∧ Φ d ρ2) (hN : X.N[i]? = some x := by rfl)
    (hv : Vis X.env.scope x := by first | exact Or.inl rfl | exact Or.inr (Or.inl rfl) | exact Or.inr (Or.inr rfl)) (hb : attributeBase (.Name x px) f X.env (eval (.Name x px) X.env) = eval (.Name x px) X.env := by rfl)
    (hp : PlainIx b := by exact fun _ _ => rfl) (hd : (x == ("__debug__" : Str)) = false := by decide) (hcd : (x == ("__classdict__" : Str)) = false := by decide) : EE X ρ (.Subscript (.Attribute (.Name x px) f ap) b pos) Φ := fun F σ H Q S k => by
  obtain ⟨y, e1, e2, dx, vs, e3, fo⟩ := S.sl.get hs
  subst e2
  obtain ⟨hl, _, _⟩ := fo.own hf
  refine ofPE (pe_ix ix_list (pe_fld (pe_var hN hv hd hcd) hb) peW hp) ⟨_, e1, p, C, dx, vs, _, rfl, e3, cl, na, hl, h F σ H _ S fun v H2 db ρ2 ⟨j, d, fs2, ds2, ej, es, hf2, ea, q⟩ S2 g r2 => ?_⟩
  subst ej
  cases r2
  obtain ⟨y', e1', e2', dx', vs', e3', fo'⟩ := S2.sl.get es
  obtain ⟨_, ⟨us, e4, r4⟩, _⟩ := fo'.own hf2
  obtain ⟨v, ev, rv⟩ := r4.at ea
  exact ⟨_, _, _, v, rfl, rfl, .of e4, ev, k v H2 d ρ2 q S2 g rv⟩
/-- self.f[b] = e -/
theorem ss_oIx (i : Nat) {a : Addr} {p C : Addr} (cl : Cls X.K C) (na : NoAttr X.K C f) (h : EE X ρ e fun d ρ1 => ∃ fs ds, ρ1[i]? = some (.bo p C fs) ∧ fs.lookup f = some (.own a ds) ∧ EE X ρ1 b fun db ρ2 => ∃ j n fs2 ds2, db = .int j ∧ ρ2[i]? = some (.bo p C fs2) ∧ fs2.lookup f = some (.own a ds2) ∧ ixN ds2.length j = some n ∧ D.nx (ρ2.set i (.bo p C (setFd f (.own a (ds2.set n d)) fs2))))
    (hN : X.N[i]? = some x := by rfl) (hv : Vis X.env.scope x := by first | exact Or.inl rfl | exact Or.inr (Or.inl rfl) | exact Or.inr (Or.inr rfl)) (hb : attributeBase (.Name x px) f X.env (eval (.Name x px) X.env) = eval (.Name x px) X.env := by rfl)
    (hd : (x == ("__debug__" : Str)) = false := by decide) (hcd : (x == ("__classdict__" : Str)) = false := by decide)
    (ha : ∀ v, assign (.Subscript (.Attribute (.Name x px) f ap) b sp) X.env v = (do
      let ov ← holding [v] (eval (.Attribute (.Name x px) f ap) X.env)
      let iv ← holding [v, ov] (eval b X.env)
      standAt sp
      holding [v, ov, iv] (setItem ov iv v)
      release [v, ov, iv] []) := by intro _; rfl)
    (hs : swapsWithSole [.Subscript (.Attribute (.Name x px) f ap) b sp] e pos.line X.env = pure false := by rfl) (hw : swappedStores [.Subscript (.Attribute (.Name x px) f ap) b sp] e X.env = pure none := by rfl)
    (h1 : (assignEach [.Subscript (.Attribute (.Name x px) f ap) b sp] X.env).map (·.2) = [assign (.Subscript (.Attribute (.Name x px) f ap) b sp) X.env] := by rfl) : SS X ρ (.Assign [.Subscript (.Attribute (.Name x px) f ap) b sp] e pos) D := fun F σ H E S k =>
  ofPS (ps_asg peW (pg_sub (pe_fld (pe_var hN hv hd hcd) hb) peW set_list ha) hs hw h1) (h F σ H _ S fun v H1 d ρ1 ⟨fs, ds, es, hf, h1⟩ S1 g1 r1 => by
    obtain ⟨y, e1, e2, dx, vs, e3, fo⟩ := S1.sl.get es
    subst e2
    obtain ⟨hl, _, _⟩ := fo.own hf
    refine ⟨_, e1, p, C, dx, vs, _, rfl, e3, cl, na, hl, h1 F σ H1 _ S1 fun u H2 db ρ2 ⟨j, n, fs2, ds2, ej, es2, hf2, hn, q⟩ S2 g2 r2 => ?_⟩
    subst ej
    cases r2
    obtain ⟨y', e1', e2', dx', vs', e3', fo'⟩ := S2.sl.get es2
    obtain ⟨_, ⟨us, e4, r4⟩, ma⟩ := fo'.own hf2
    refine ⟨a, us, j, n, rfl, rfl, e4, by rw [r4.length]; exact hn, ?_⟩
    have nd : (p :: fdA fs2).Nodup := os_nd S2.nd es2
    have nd' := List.nodup_cons.mp nd
    have npa : p ≠ a := fun z => nd'.1 (z ▸ ma)
    have ead : (Sl.bo p C (setFd f (.own a (ds2.set n d)) fs2)).ad = p :: fdA fs2 := congrArg (List.cons p) (fdA_own hf2)
    obtain ⟨S3, g3⟩ := S2.chgS (s := .bo p C (setFd f (.own a (ds2.set n d)) fs2)) (H2 := upd H2 a (.lst (us.set n v))) es2 (fun b o nb eb => by rw [upd_ne fun z => nb (by rw [z]; exact .tail _ ma)]; exact eb)
      (fun b mb => by
        by_cases z : b = a
        · rw [z, upd_same]; exact fun z => nomatch z
        · rw [upd_ne z]; exact S2.sl.ad b (os_at es2 mb)) (by rw [ead]; exact nd) (fun b mb => .inl (by rw [ead] at mb; exact mb))
      fun ge x' ⟨ex, dx2, vs2, e5, fo5⟩ => ⟨ex, dx2, vs2, by rw [upd_ne npa]; exact e5, FdOk.wr upd_same ((RpAll.up ge _ _ r4).st (Rp.up (g2.trans ge) _ _ r1)) (fun b o nb eb => by rw [upd_ne nb]; exact eb) (fo5.up ge fun _ _ _ e => e) nd'.2 hf2⟩
    exact k.nx _ _ _ q S3 ((g1.trans g2).trans g3))
/-- self.f = e, a datum -/
theorem ss_oF (i : Nat) {p C : Addr} (cl : Cls X.K C) (na : NoAttr X.K C f) (h : EE X ρ e fun d ρ1 => ∃ fs, ρ1[i]? = some (.bo p C fs) ∧ fs.length < 1000 ∧ D.nx (ρ1.set i (.bo p C (setFd f (.dat d) fs))))
    (hN : X.N[i]? = some x := by rfl) (hv : Vis X.env.scope x := by first | exact Or.inl rfl | exact Or.inr (Or.inl rfl) | exact Or.inr (Or.inr rfl)) (hd : (x == ("__debug__" : Str)) = false := by decide) (hcd : (x == ("__classdict__" : Str)) = false := by decide)
    (hs : swapsWith e (some (.Attribute (.Name x px) f ap)) pos.line X.env = pure false := by rfl) : SS X ρ (.Assign [.Attribute (.Name x px) f ap] e pos) D := fun F σ H E S k =>
  ofPS (ps_fld (pe_var hN hv hd hcd) peW hs) (h F σ H _ S fun v H1 d ρ1 ⟨fs, es, hl, q⟩ S1 g1 r1 => by
    obtain ⟨y, e1, e2, dx, vs, e3, fo⟩ := S1.sl.get es
    subst e2
    refine ⟨_, e1, p, C, dx, vs, rfl, e3, cl, na, by rw [fo.len]; exact hl, ?_⟩
    have nd := os_nd S1.nd es
    have nd' := List.nodup_cons.mp nd
    obtain ⟨S3, g3⟩ := S1.chgS (s := .bo p C (setFd f (.dat d) fs)) (H2 := upd H1 p (.ins C dx (putF f v vs))) es (fun b o nb eb => by rw [upd_ne fun z => nb (by rw [z]; exact .head _)]; exact eb)
      (fun b mb => by
        by_cases z : b = p
        · rw [z, upd_same]; exact fun z => nomatch z
        · rw [upd_ne z]; exact S1.sl.ad b (os_at es mb)) (List.nodup_cons.mpr ⟨fun z => nd'.1 (fdA_dat.1 _ z), fdA_dat.2 nd'.2⟩) (fun b mb => .inl ((List.mem_cons.mp mb).elim (fun z => z ▸ .head _) fun z => .tail _ (fdA_dat.1 _ z)))
      fun ge x' ⟨ex, dx2, vs2, e5, fo5⟩ => by
        rw [e3] at e5; cases e5
        exact ⟨ex, dx, _, upd_same, FdOk.put (d := .dat d) (Rp.up ge _ _ r1) (fo5.up ge fun b mb o eb => by rw [upd_ne fun z => nd'.1 (by rw [← z]; exact mb)]; exact eb)⟩
    exact k.nx _ _ _ q S3 (g1.trans g3))
end
end DL

namespace DL
open PySem PySem.Spec PyProof.Rows L2
theorem os_set_sub2 : ∀ {ρ : List Sl} {i : Nat} {s t : Sl} {a : Addr}, (os ρ).Nodup → ρ[i]? = some t → a ∈ os (ρ.set i s) → a ∈ s.ad ∨ (a ∈ os ρ ∧ a ∉ t.ad)
  | [], _, _, _, _, _, e, _ => by simp at e
  | u :: r, 0, s, t, a, nd, e, m => by
    rw [List.getElem?_cons_zero] at e; cases e
    obtain ⟨_, _, h3⟩ := List.nodup_append.mp nd
    exact (List.mem_append.mp m).elim .inl fun z => .inr ⟨List.mem_append_right _ z, fun y => h3 a y a z rfl⟩
  | u :: r, i + 1, s, t, a, nd, e, m => by
    rw [List.getElem?_cons_succ] at e
    obtain ⟨_, h2, h3⟩ := List.nodup_append.mp nd
    rcases List.mem_append.mp m with z | z
    · exact .inr ⟨List.mem_append_left _ z, fun y => h3 a z a (os_at e y) rfl⟩
    · exact (os_set_sub2 h2 e z).imp id fun ⟨y, w⟩ => ⟨List.mem_append_right _ y, w⟩
section
variable {F : Fm} {H : Hp} {σ : L2.St} {ρ : List Sl} {i : Nat} {p C dx : Addr} {fs : List (Str × Fd)} {vs : List (Str × V)} {f : Str}
theorem Stt.putD {v : V} {d : PyData} (S : Stt F H σ ρ) (es : ρ[i]? = some (.bo p C fs)) (e3 : H p = some (.ins C dx vs)) (r : Rp (gh F ρ H) v d) :
    Stt F (upd H p (.ins C dx (putF f v vs))) σ (ρ.set i (.bo p C (setFd f (.dat d) fs))) ∧ Same (gh F ρ H) (gh F (ρ.set i (.bo p C (setFd f (.dat d) fs))) (upd H p (.ins C dx (putF f v vs)))) := by
  have nd' := List.nodup_cons.mp (os_nd S.nd es)
  refine S.chgS (s := .bo p C (setFd f (.dat d) fs)) es (fun b o nb eb => by rw [upd_ne fun z => nb (by rw [z]; exact .head _)]; exact eb)
    (fun b mb => by
      by_cases z : b = p
      · rw [z, upd_same]; exact fun z => nomatch z
      · rw [upd_ne z]; exact S.sl.ad b (os_at es mb)) (List.nodup_cons.mpr ⟨fun z => nd'.1 (fdA_dat.1 _ z), fdA_dat.2 nd'.2⟩) (fun b mb => .inl ((List.mem_cons.mp mb).elim (fun z => z ▸ .head _) fun z => .tail _ (fdA_dat.1 _ z)))
    fun ge x' ⟨ex, dx2, vs2, e5, fo5⟩ => by
      rw [e3] at e5; cases e5
      exact ⟨ex, dx, _, upd_same, FdOk.put (d := .dat d) (Rp.up ge _ _ r) (fo5.up ge fun b mb o eb => by rw [upd_ne fun z => nd'.1 (by rw [← z]; exact mb)]; exact eb)⟩
/-- a new list of its own is put -/
theorem Stt.putO {q : Addr} {us : List V} {ds : List PyData} (S : Stt F H σ ρ) (es : ρ[i]? = some (.bo p C fs)) (e3 : H p = some (.ins C dx vs)) (hq : H q = none) (r : RpAll (gh F ρ H) us ds) :
    Stt F (upd (upd H q (.lst us)) p (.ins C dx (putF f (.ref q) vs))) σ (ρ.set i (.bo p C (setFd f (.own q ds) fs))) ∧ Same (gh F ρ H) (gh F (ρ.set i (.bo p C (setFd f (.own q ds) fs))) (upd (upd H q (.lst us)) p (.ins C dx (putF f (.ref q) vs)))) := by
  have nd' := List.nodup_cons.mp (os_nd S.nd es)
  have npq : p ≠ q := fun z => by rw [z, hq] at e3; cases e3
  have nq : ∀ b ∈ p :: fdA fs, b ≠ q := fun b mb z => S.sl.ad b (os_at es mb) (z ▸ hq)
  refine S.chgS (s := .bo p C (setFd f (.own q ds) fs)) es (fun b o nb eb => by rw [upd_ne fun z => nb (by rw [z]; exact .head _), upd_ne (ne_of_none eb hq)]; exact eb)
    (fun b mb => by
      by_cases z : b = p
      · rw [z, upd_same]; exact fun z => nomatch z
      · rw [upd_ne z, upd_ne (nq b mb)]; exact S.sl.ad b (os_at es mb))
    (List.nodup_cons.mpr ⟨fun z => (fdA_new.1 _ z).elim npq nd'.1, fdA_new.2 nd'.2 fun z => nq q (.tail _ z) rfl⟩)
    (fun b mb => (List.mem_cons.mp mb).elim (fun z => .inl (z ▸ .head _)) fun z => (fdA_new.1 _ z).elim (fun y => .inr (y ▸ hq)) fun y => .inl (.tail _ y))
    fun ge x' ⟨ex, dx2, vs2, e5, fo5⟩ => by
      rw [e3] at e5; cases e5
      exact ⟨ex, dx, _, upd_same, FdOk.put (d := .own q ds) ⟨rfl, us, by rw [upd_ne (Ne.symm npq), upd_same], RpAll.up ge _ _ r⟩ (fo5.up ge fun b mb o eb => by rw [upd_ne fun z => nd'.1 (by rw [← z]; exact mb), upd_ne (nq b (.tail _ mb))]; exact eb)⟩
end
abbrev SpecM := List (Str × Fd) → List PyData → (PyData → List (Str × Fd) → Prop) → Prop
def spM (C : Addr) (S : SpecM) : Sp := fun vs H Q _ => ∃ (hd : List Addr) (p dx : Addr) (us : List V) (fs : List (Str × Fd)) (fv : List (Str × V)) (ds : List PyData) (k : PyData → List (Str × Fd) → Prop), vs = .ref p :: us ∧ (∀ a ∈ p :: fdA fs, a ∉ hd) ∧ (p :: fdA fs).Nodup ∧ (∀ a ∈ hd, H a ≠ none) ∧
  H p = some (.ins C dx fv) ∧ FdOk (mask (hd ++ p :: fdA fs) H) H fv fs ∧ RpAll (mask (hd ++ p :: fdA fs) H) us ds ∧ S fs ds k ∧
  ∀ d fs' v H', k d fs' → (∀ a o, a ∉ p :: fdA fs → H a = some o → H' a = some o) → (∀ a, H a ≠ none → H' a ≠ none) → (p :: fdA fs').Nodup → (∀ a ∈ p :: fdA fs', a ∈ p :: fdA fs ∨ H a = none) →
    (∃ dx fv, H' p = some (.ins C dx fv) ∧ FdOk (mask (hd ++ p :: fdA fs') H') H' fv fs') → Rp (mask (hd ++ p :: fdA fs') H') v d → Q v H'
def CalM (X : Cx) (C : Addr) (m : Str) (ps : List Str) (sp : Sp) : Prop := ∃ (k : Nat) (f : Addr) (fd : FuncData), Room k X.A ∧ FnOk X.prog X.w X.K X.mg X.base CX0 k f fd ps sp ∧ Meth X.K C m f ∧ Binds X.K fd ps []
def spF (C : Addr) (S : List (Str × PyData) → (PyData → Prop) → Prop) : Sp := fun vs H Q _ => ∃ (hd : List Addr) (a : Addr) (fs : List (Str × PyData)) (k : PyData → Prop), vs = [.ref a] ∧ (∀ a ∈ hd, H a ≠ none) ∧ ObjAt (mask hd H) a C fs ∧ S fs k ∧ ∀ d v H', k d → Same H H' → Rp (mask hd H') v d → Q v H'
def frz : List (Str × Fd) → List (Str × PyData)
  | [] => []
  | (n, .dat d) :: r => (n, d) :: frz r
  | (n, .own _ ds) :: r => (n, .list ds) :: frz r
theorem FdOk.frz {G G' H : Hp} (g : Same G G') : ∀ {vs : List (Str × V)} {fs : List (Str × Fd)}, FdOk G H vs fs → (∀ a ∈ fdA fs, ∀ o, H a = some o → G' a = some o) → FsOk G' vs (frz fs)
  | [], [], _, _ => trivial
  | v :: vs, (n, .dat d) :: ds, h, k => ⟨⟨h.1.1, Rp.up g _ _ h.1.2⟩, FdOk.frz g h.2 k⟩
  | v :: vs, (n, .own a xs) :: ds, h, k => ⟨⟨h.1.1, by
    obtain ⟨_, e, us, e2, r⟩ := h.1
    rw [e]
    exact .lst (k a (.head _) _ e2) (RpAll.up g _ _ r)⟩, FdOk.frz g h.2 fun b m => k b (.tail _ m)⟩
  | [], _ :: _, h, _ => h.elim
  | _ :: _, [], h, _ => h.elim
/-- an expression that gives a finished object -/
def EN (X : Cx) (ρ : List Sl) (e : Expr) (C : Addr) (Ψ : List (Str × PyData) → List Sl → Prop) : Prop :=
  ∀ (F : Fm) (σ : L2.St) (H : Hp) (Q : VK), Stt F H σ ρ → (∀ a H' fs ρ', Ψ fs ρ' → Stt F H' σ ρ' → Same (gh F ρ H) (gh F ρ' H') → ObjAt (gh F ρ' H') a C fs → Q (.ref a) H') → tW X e σ H Q
section
variable {X : Cx} {ρ : List Sl} {e b c : Expr} {pos : Pos} {Φ : PyData → List Sl → Prop} {D : DE} {x f g m : Str} {px ap ap2 bp lp tp sp cp p2 : Pos} {p C : Addr} {fs : List (Str × Fd)} {ps : List Str} {Ψ : List (Str × PyData) → List Sl → Prop}
/-- self.f = [c] * e -/
theorem ss_oRep (i : Nat) {p C : Addr} (cl : Cls X.K C) (na : NoAttr X.K C f) (h : EE X ρ c fun dc ρ0 => EE X ρ0 e fun d ρ1 => ∃ n fs, d = .int n ∧ (n ≤ 1000000 ∧ -1000000 ≤ n) ∧ ρ1[i]? = some (.bo p C fs) ∧ fs.length < 1000 ∧ ∀ a, D.nx (ρ1.set i (.bo p C (setFd f (.own a (List.replicate n.toNat dc)) fs))))
    (hN : X.N[i]? = some x := by rfl) (hv : Vis X.env.scope x := by first | exact Or.inl rfl | exact Or.inr (Or.inl rfl) | exact Or.inr (Or.inr rfl)) (hd : (x == ("__debug__" : Str)) = false := by decide) (hcd : (x == ("__classdict__" : Str)) = false := by decide)
    (he : starEach [c] X.env = (false, eval c X.env) :: starEach [] X.env := by rfl)
    (hs : swapsWith (.BinOp (.List [c] lp) .Mult e bp) (some (.Attribute (.Name x px) f ap)) pos.line X.env = pure false := by rfl) : SS X ρ (.Assign [.Attribute (.Name x px) f ap] (.BinOp (.List [c] lp) .Mult e bp) pos) D := fun F σ H E S k =>
  ofPS (ps_fld (pe_var hN hv hd hcd) (pe_op op_rep (pe_lst (pa_cons peW pa_nil he)) peW) hs) (h F σ H _ S fun v H1 dc ρ0 h1 S1 g1 r1 => ⟨by show 1 ≤ sizeLine; decide, fun l hl => by
    have s2 := same_new (o := .lst [v]) hl
    have S2 := S1.ext s2
    refine h1 F σ _ _ S2 fun u H3 d ρ1 ⟨n, fs, ed, hn, es, hlen, q⟩ S3 g3 r3 => ?_
    subst ed
    cases r3
    have el : gh F ρ0 (upd H1 l (.lst [v])) l = some (.lst [v]) := (mask_out fun m => S1.ad l m hl).trans upd_same
    have el3 : H3 l = some (.lst [v]) := mask_le _ _ (g3 _ _ el)
    have rv := Rp.up ((S1.gext s2).trans g3) _ _ r1
    refine ⟨l, n, [v], rfl, rfl, el3, by omega, by omega, ?_, fun q' hq => ?_⟩
    · have : [v].length * n.toNat ≤ 1000000 := by rw [List.length_singleton, Nat.one_mul]; omega
      exact big_le this
    · obtain ⟨y, e1, e2, dx, vs, e3, fo⟩ := S3.sl.get es
      subst e2
      have npq : p ≠ q' := fun z => by rw [z, hq] at e3; cases e3
      refine ⟨_, e1, p, C, dx, vs, rfl, by rw [upd_ne npq]; exact e3, cl, na, by rw [fo.len]; exact hlen, ?_⟩
      have er : (List.replicate n.toNat [v]).flatten = List.replicate n.toNat v := List.flatten_replicate_singleton
      rw [er]
      obtain ⟨S4, g4⟩ := S3.putO (f := f) es e3 hq (RpAll.rep rv n.toNat)
      exact k.nx _ _ _ (q q') S4 (((g1.trans (S1.gext s2)).trans g3).trans g4)⟩)
/-- self.f, self.g = e -/
theorem ss_oF2 (i : Nat) {kk : Nat} {p C : Addr} (ck : CK X) (cl : Cls X.K C) (na : NoAttr X.K C f) (na2 : NoAttr X.K C g) (h : EE X ρ e fun d ρ1 => ∃ d1 d2 fs, d = .tuple [d1, d2] ∧ ρ1[i]? = some (.bo p C fs) ∧ fs.length < 900 ∧ D.nx ((ρ1.set i (.bo p C (setFd f (.dat d1) fs))).set i (.bo p C (setFd g (.dat d2) (setFd f (.dat d1) fs)))))
    (hN : X.N[i]? = some x := by rfl) (hv : Vis X.env.scope x := by first | exact Or.inl rfl | exact Or.inr (Or.inl rfl) | exact Or.inr (Or.inr rfl)) (hd : (x == ("__debug__" : Str)) = false := by decide) (hcd : (x == ("__classdict__" : Str)) = false := by decide)
    (hn : (assignEach [.Attribute (.Name x px) f ap, .Attribute (.Name x p2) g ap2] X.env).length = 2 := by rfl) (hst : (assignEach [.Attribute (.Name x px) f ap, .Attribute (.Name x p2) g ap2] X.env).findIdx? (·.1) = none := by rfl)
    (ha1 : (assignEach [.Attribute (.Name x px) f ap, .Attribute (.Name x p2) g ap2] X.env).map (·.2) = assign (.Attribute (.Name x px) f ap) X.env :: (assignEach [.Attribute (.Name x p2) g ap2] X.env).map (·.2) := by rfl)
    (ha2 : (assignEach [.Attribute (.Name x p2) g ap2] X.env).map (·.2) = assign (.Attribute (.Name x p2) g ap2) X.env :: (assignEach [] X.env).map (·.2) := by rfl)
    (hs : swapsWithSole [.Tuple [.Attribute (.Name x px) f ap, .Attribute (.Name x p2) g ap2] kk tp] e pos.line X.env = pure false := by rfl) (hw : swappedStores [.Tuple [.Attribute (.Name x px) f ap, .Attribute (.Name x p2) g ap2] kk tp] e X.env = pure none := by rfl)
    (h1 : (assignEach [.Tuple [.Attribute (.Name x px) f ap, .Attribute (.Name x p2) g ap2] kk tp] X.env).map (·.2) = [assign (.Tuple [.Attribute (.Name x px) f ap, .Attribute (.Name x p2) g ap2] kk tp) X.env] := by rfl) :
    SS X ρ (.Assign [.Tuple [.Attribute (.Name x px) f ap, .Attribute (.Name x p2) g ap2] kk tp] e pos) D := fun F σ H E S k =>
  ofPS (ps_asg peW (pg_tup ck.calm (pgs_cons (pg_fld (pe_var hN hv hd hcd)) (pgs_cons (pg_fld (pe_var hN hv hd hcd)) pgs_nil ha2) ha1) hn hst) hs hw h1) (h F σ H _ S fun v H1 d ρ1 ⟨d1, d2, fs, ed, es, hl, q⟩ S1 g1 r1 => by
    subst ed
    cases r1 with
    | tup et ra =>
    rename_i xs
    match xs, et, ra with
    | [v1, _], et, .cons r1 (.cons r2 .nil) =>
      obtain ⟨y, e1, e2, dx, vs, e3, fo⟩ := S1.sl.get es
      subst e2
      obtain ⟨S2, g2⟩ := S1.putD (f := f) es e3 r1
      have es2 : (ρ1.set i (Sl.bo p C (setFd f (.dat d1) fs)))[i]? = some (.bo p C (setFd f (.dat d1) fs)) := by
        rw [List.getElem?_set_self (by have := (List.getElem?_eq_some_iff.mp es).1; exact this)]
      obtain ⟨y', e1', e2', dx', vs', e3', fo'⟩ := S2.sl.get es2
      rw [upd_same] at e3'; cases e3'
      obtain ⟨S3, g3⟩ := S2.putD (f := g) es2 upd_same (Rp.up g2 _ _ r2)
      have lp : (putF f v1 vs).length < 1000 := by have := length_putF f v1 vs; have := fo.len; omega
      exact ⟨_, _, rfl, .of (mask_le _ _ et), rfl, _, _, rfl, ⟨_, e1, p, C, dx, vs, rfl, e3, cl, na, by rw [fo.len]; omega, _, _, rfl, ⟨_, e1, p, C, dx, _, rfl, upd_same, cl, na2, lp, rfl, k.nx _ _ _ q S3 ((g1.trans g2).trans g3)⟩⟩⟩)
/-- self.m(e, ..) -/
theorem ee_meth (i : Nat) {S : SpecM} {es : List Expr} {pl : Sem Bool} (cl : Cls X.K C) (cm : CalM X C m ps (spM C S)) (hs : ρ[i]? = some (.bo p C fs)) (nm : fs.lookup m = none) (h : EA X ρ (e :: es) fun ds ρ1 => ∃ fs1, ρ1[i]? = some (.bo p C fs1) ∧ S fs1 ds fun d fs2 => Φ d (ρ1.set i (.bo p C fs2)))
    (hN : X.N[i]? = some x := by rfl) (hv : Vis X.env.scope x := by first | exact Or.inl rfl | exact Or.inr (Or.inl rfl) | exact Or.inr (Or.inr rfl)) (hd : (x == ("__debug__" : Str)) = false := by decide) (hcd : (x == ("__classdict__" : Str)) = false := by decide)
    (hst : starEach (e :: es) X.env = (false, eval e X.env) :: starEach es X.env := by rfl) (hpl : (backTo pos (starEach es X.env)).any (·.1) = false := by rfl)
    (ht : eval (.Call (.Attribute (.Name x px) m ap) (e :: es) [] pos) X.env = (do
      let ov ← eval (.Name x px) X.env
      standAt ap.atName
      let (f, first) ← holding [ov] (getMethod ov m pl)
      callWith pos f first (backTo pos (starEach (e :: es) X.env)) (backToKw pos (keywordEach [] X.env))) := by rfl) : EE X ρ (.Call (.Attribute (.Name x px) m ap) (e :: es) [] pos) Φ := fun F σ H Q St k => by
  obtain ⟨j, f, fd, hr, G, me, bd⟩ := cm
  obtain ⟨y, e1, e2, dx, fv, e3, fo⟩ := St.sl.get hs
  subst e2
  refine ofPE (pe_meth (pe_var hN hv hd hcd) cl me G hr bd .nil pass0 paW hst hpl ht) ⟨_, e1, p, dx, fv, rfl, e3, fo.no nm, h F σ H _ St fun vs H' ds ρ' ⟨fs1, es, q⟩ St' g' r => ?_⟩
  rw [List.append_nil]
  obtain ⟨y', e1', e2', dx', fv', e3', fo'⟩ := St'.sl.get es
  have nd := os_nd St'.nd es
  have mo : ∀ a ∈ p :: fdA fs1, a ∈ os ρ' := fun a ma => os_at es ma
  have cov : ∀ a ∈ F.hd ++ os ρ', a ∈ (F.hd ++ os ρ').filter (fun a => decide (a ∉ p :: fdA fs1)) ++ p :: fdA fs1 := fun a ma => by
    by_cases z : a ∈ p :: fdA fs1
    · exact List.mem_append_right _ z
    · exact List.mem_append_left _ (List.mem_filter.mpr ⟨ma, decide_eq_true z⟩)
  have cov2 : ∀ a ∈ (F.hd ++ os ρ').filter (fun a => decide (a ∉ p :: fdA fs1)) ++ p :: fdA fs1, a ∈ F.hd ++ os ρ' := fun a ma =>
    (List.mem_append.mp ma).elim (fun z => (List.mem_filter.mp z).1) fun z => List.mem_append_right _ (mo a z)
  refine ⟨(F.hd ++ os ρ').filter fun a => decide (a ∉ p :: fdA fs1), p, dx', vs, fs1, fv', ds, _, rfl, fun a ma hf => of_decide_eq_true (List.mem_filter.mp hf).2 ma, nd, fun a ma => St'.ad a (List.mem_filter.mp ma).1, e3', fo'.up (mask_sub cov2) fun _ _ _ e => e, RpAll.up (mask_sub cov2) _ _ r, q, fun d fs2 v H2 hk kp lv nd2 sub ⟨dx2, fv2, e4, fo4⟩ r2 => ?_⟩
  have cov3 : ∀ a ∈ F.hd ++ os (ρ'.set i (.bo p C fs2)), a ∈ (F.hd ++ os ρ').filter (fun a => decide (a ∉ p :: fdA fs1)) ++ p :: fdA fs2 := fun a ma => by
    rcases List.mem_append.mp ma with z | z
    · refine List.mem_append_left _ (List.mem_filter.mpr ⟨List.mem_append_left _ z, decide_eq_true fun y => St'.ap a (mo a y) z⟩)
    · rcases os_set_sub2 St'.nd es z with y | ⟨y, w⟩
      · exact List.mem_append_right _ y
      · exact List.mem_append_left _ (List.mem_filter.mpr ⟨List.mem_append_right _ y, decide_eq_true w⟩)
  obtain ⟨S2, ge⟩ := St'.chgS (s := .bo p C fs2) es kp (fun a ma => lv a (St'.sl.ad a (mo a ma))) nd2 sub fun _ x' ⟨ex, _⟩ => ⟨ex, dx2, fv2, e4, fo4.up (mask_sub cov3) fun _ _ _ e => e⟩
  exact k v H2 d _ hk S2 (g'.trans ge) (Rp.up (mask_sub cov3) _ _ r2)
/-! finished objects -/
theorem en_var (i : Nat) {fs : List (Str × PyData)} (hs : ρ[i]? = some (.obj C fs)) (q : Ψ fs ρ) (hN : X.N[i]? = some x := by rfl) (hv : Vis X.env.scope x := by first | exact Or.inl rfl | exact Or.inr (Or.inl rfl) | exact Or.inr (Or.inr rfl))
    (hd : (x == ("__debug__" : Str)) = false := by decide) (hcd : (x == ("__classdict__" : Str)) = false := by decide) : EN X ρ (.Name x px) C Ψ := fun F σ H Q S k => by
  obtain ⟨y, e1, a, e2, fo⟩ := S.sl.get hs
  subst e2
  exact ofPE (pe_var hN hv hd hcd) ⟨_, e1, k a H fs ρ q S (Same.refl _) fo⟩
/-- C(e, ..): made, its __init__ run -/
def CalK (X : Cx) (x : Str) (C : Addr) (ps : List Str) (sp : Sp) : Prop := ∃ (k : Nat) (f : Addr) (fd : FuncData), Room (k + 1) X.A ∧ Mk X.K C f ∧ FnOk X.prog X.w X.K X.mg X.base CX0 k f fd ps sp ∧ X.mg x = some (.ref C) ∧ Binds X.K fd ps []
theorem en_make {S : SpecM} {es : List Expr} (cm : CalK X x C ps (spM C S)) (h : EA X ρ (e :: es) fun ds ρ1 => S [] ds fun d fs => d = .none ∧ Ψ (frz fs) ρ1) (hg : Gl X x := by rfl)
    (hdb : (x == ("__debug__" : Str)) = false := by decide) (he : starEach (e :: es) X.env = (false, eval e X.env) :: starEach es X.env := by rfl) (hpl : (backTo pos (starEach es X.env)).any (·.1) = false := by rfl) : EN X ρ (.Call (.Name x px) (e :: es) [] pos) C Ψ := fun F σ H Q St k => by
  obtain ⟨j, f, fd, hr, M, G, hm, bd⟩ := cm
  refine ofPE (pe_make M G hr hg hm bd .nil pass0 paW hdb he hpl) (h F σ H _ St fun vs H' ds ρ' q St' g' r => fun p dx hp hdx hne => ?_)
  rw [List.append_nil]
  have s1 : Same H' (upd (upd H' dx (.own p)) p (.ins C dx [])) := (same_new hdx).trans (same_new (by rw [upd_ne (Ne.symm hne)]; exact hp))
  have S1 := St'.ext s1
  have np : p ∉ F.hd ++ os ρ' := fun m => St'.ad p m hp
  refine ⟨F.hd ++ os ρ', p, dx, vs, [], [], ds, _, rfl, (fun a ma => by rw [List.mem_singleton.mp ma]; exact np), by simp [fdA], S1.ad, upd_same, trivial, RpAll.up ?_ _ _ r, q, fun d fs2 v H2 ⟨ed, hk⟩ kp lv nd2 sub ⟨dx2, fv2, e4, fo4⟩ r2 => ?_⟩
  · exact mask_mono (fun a ma ha => (List.mem_append.mp ma).elim id fun z => absurd hp (by rw [← List.mem_singleton.mp z]; exact ha)) fun a o _ e => s1 a o e
  · subst ed
    cases r2
    refine ⟨rfl, ?_⟩
    have s3 : Same H' H2 := fun a o e => kp a o (fun z => by rw [List.mem_singleton.mp z, hp] at e; cases e) (s1 a o e)
    have S3 := St'.ext s3
    refine k p H2 _ ρ' hk S3 (g'.trans (St'.gext s3)) ⟨dx2, fv2, (mask_out np).trans e4, fo4.frz (mask_sub fun a ma => List.mem_append_left _ ma) fun a ma o e => (mask_out fun z => ?_).trans e⟩
    rcases sub a (.tail _ ma) with y | y
    · rw [List.mem_singleton.mp y] at z; exact np z
    · exact S1.ad a z y
theorem ss_setO (j : Nat) (ck : CK X) (h : EN X ρ e C fun fs ρ1 => D.nx (ρ1.set j (.obj C fs))) (hi : X.N[j]? = some x := by rfl) (hx : Loc X.env.scope x := by first | exact Or.inl rfl | exact Or.inr rfl)
    (hs : swapsWith e (some (.Name x px)) pos.line X.env = pure false := by rfl) (hf : X.fn x = true ∨ X.env.scope.names.lookup x = some .local := by first | exact .inl rfl | exact .inr rfl) : SS X ρ (.Assign [.Name x px] e pos) D := fun F σ H E S k =>
  ofPS (ps_set ck.nd hi hx peW hs hf) (h F σ H _ S fun a H' fs ρ' q S' g o => k.nx _ _ _ q (S'.set j rfl ⟨a, rfl, o⟩) (g.trans (S'.gset j rfl)))
theorem ee_meth0 {S : List (Str × PyData) → (PyData → Prop) → Prop} {pl : Sem Bool} (cl : Cls X.K C) (cm : CalM X C m ps (spF C S)) (h : EN X ρ e C fun fs ρ1 => fs.lookup m = none ∧ S fs fun d => Φ d ρ1)
    (ht : eval (.Call (.Attribute e m ap) [] [] pos) X.env = (do
      let ov ← eval e X.env
      standAt ap.atName
      let (f, first) ← holding [ov] (getMethod ov m pl)
      callWith pos f first (backTo pos (starEach [] X.env)) (backToKw pos (keywordEach [] X.env))) := by rfl) : EE X ρ (.Call (.Attribute e m ap) [] [] pos) Φ := fun F σ H Q St k => by
  obtain ⟨j, f, fd, hr, G, me, bd⟩ := cm
  refine ofPE (pe_meth0 peW cl me G hr bd .nil pass0 ht) (h F σ H _ St fun a H' fs ρ' ⟨nm, q⟩ St' g' o => ?_)
  obtain ⟨dx, fv, e3, fo⟩ := id o
  have no : ∀ {vs : List (Str × V)} {fs : List (Str × PyData)}, FsOk (gh F ρ' H') vs fs → fs.lookup m = none → vs.lookup m = none := by
    intro vs
    induction vs with
    | nil => intro fs _ _; rfl
    | cons v vs ih =>
      intro fs h e
      cases fs with
      | nil => exact h.elim
      | cons d ds =>
        obtain ⟨n, v⟩ := v
        obtain ⟨n', d⟩ := d
        have e1 : n = n' := h.1.1
        subst e1
        rw [List.lookup_cons] at e ⊢
        cases q : m == n with
        | true => rw [q] at e; cases e
        | false => rw [q] at e; exact ih h.2 e
  exact ⟨a, dx, fv, rfl, mask_le _ _ e3, no fo nm, F.hd ++ os ρ', a, fs, _, rfl, St'.ad, o, q, fun d v H2 hk s2 r2 => k v H2 d ρ' hk (St'.ext s2) (g'.trans (St'.gext s2)) r2⟩
end
section
variable {P : Program} {w : World} {K : PySem.W.Frag} {mg : Str → Option Value} {base : Heap}
theorem fn_M {x qual : Str} {st : Stmt} {f C : Addr} {fd : FuncData} {N ps : List Str} {k : Nat} {S : SpecM} (F : Fun K x qual st f fd) (sc : FnScope N ps (defScope st)) (hbt : ∀ x ∈ bNames, mg x = none) (len : ∀ fs ds q, S fs ds q → ds.length + 1 = ps.length)
    (body : ∀ (cdv : Value) (A : Around) (outer : List Env) (s : Shared) (H : Hp) (E : XK) (p : Addr) (fs : List (Str × Fd)) (ds : List PyData) (q : PyData → List (Str × Fd) → Prop), Room k (A.deeper (envOfC qual (defScope st) s.heap.objs.size f cdv)) → CK (cxOf CX0 P w K mg base N qual (defScope st) f cdv A outer s H E).nox → S fs ds q →
      BB (cxOf CX0 P w K mg base N qual (defScope st) f cdv A outer s H E).nox (.bo p C fs :: (ds.map Sl.dat ++ List.replicate (N.length - (ds.length + 1)) Sl.non)) (defBody st) { nx := fun ρ => ∃ fs', ρ[0]? = some (.bo p C fs') ∧ q .none fs', rt := fun d ρ => ∃ fs', ρ[0]? = some (.bo p C fs') ∧ q d fs' }) :
    FnOk P w K mg base CX0 (k + 1) f fd ps (spM C S) := by
  refine F.ok sc (fun vs H Q E h => ?_) (fun cdv A outer s H vs Q E hr h => ?_)
  · obtain ⟨hd, p, dx, us, fs, fv, ds, q, rfl, _, _, _, _, _, r, hS, _⟩ := h
    rw [List.length_cons, r.length, len fs ds q hS]
  · obtain ⟨hd, p, dx, us, fs, fv, ds, q, rfl, hap, hnd, hh, hp, ho, r, hS, kk⟩ := h
    refine ⟨_, pssW, ?_⟩
    have ck : CK (cxOf CX0 P w K mg base N qual (defScope st) f cdv A outer s H E).nox := ⟨rfl, sc.nd, by
      show (A.deeper (envOfC qual (defScope st) s.heap.objs.size f cdv)).units + 100 < cLine
      have := hr.un
      omega, hbt⟩
    have eo : os (.bo p C fs :: (ds.map Sl.dat ++ List.replicate (N.length - (ds.length + 1)) Sl.non)) = p :: fdA fs := by
      show (p :: fdA fs) ++ os (ds.map Sl.dat ++ List.replicate (N.length - (ds.length + 1)) Sl.non) = _
      rw [os_start, List.append_nil]
    have St : Stt ⟨hd, p :: fdA fs, H⟩ H (start N (.ref p :: us)) (.bo p C fs :: (ds.map Sl.dat ++ List.replicate (N.length - (ds.length + 1)) Sl.non)) := by
      refine ⟨hh, fun a o _ e => e, fun a e => e, by rw [eo]; exact hnd, (fun a m => by rw [eo] at m; exact .inl m), (fun a m => by rw [eo] at m; exact hap a m), ?_⟩
      have := slots_start (G := mask (hd ++ p :: fdA fs) H) (H := H) (N.length - (ds.length + 1)) r
      show SlotsOk (mask (hd ++ os _) H) H _ _
      rw [eo]
      unfold L2.start
      rw [List.length_cons, r.length]
      exact ⟨⟨rfl, dx, fv, hp, ho⟩, this⟩
    have last : ∀ (σ' : L2.St) (H' : Hp) (d : PyData) (v : V) (ρ' : List Sl) (fs' : List (Str × Fd)), ρ'[0]? = some (.bo p C fs') → q d fs' → Stt ⟨hd, p :: fdA fs, H⟩ H' σ' ρ' → Rp (gh ⟨hd, p :: fdA fs, H⟩ ρ' H') v d → Q v H' := fun σ' H' d v ρ' fs' e0 hq S' r' => by
      obtain ⟨y, _, _, dx', fv', e3', fo'⟩ := S'.sl.get e0
      have mo : ∀ a ∈ p :: fdA fs', a ∈ os ρ' := fun a ma => os_at e0 ma
      have sub : Same (gh ⟨hd, p :: fdA fs, H⟩ ρ' H') (mask (hd ++ p :: fdA fs') H') := mask_sub fun a ma => (List.mem_append.mp ma).elim (fun z => List.mem_append_left _ z) fun z => List.mem_append_right _ (mo a z)
      exact kk d fs' v H' hq (fun a o na e => S'.fr a o na e) S'.dm (os_nd S'.nd e0) (fun a ma => S'.nw a (mo a ma)) ⟨dx', fv', e3', fo'.up sub fun _ _ _ e => e⟩ (Rp.up sub _ _ r')
    exact body cdv A outer s H E p fs ds q hr ck hS ⟨hd, p :: fdA fs, H⟩ _ H _ St ⟨fun σ' H' ρ' ⟨fs', e0, hq⟩ S' g => last σ' H' .none .non ρ' fs' e0 hq S' .non, fun v σ' H' d ρ' ⟨fs', e0, hq⟩ S' g r => last σ' H' d v ρ' fs' e0 hq S' r, fun σ' H' ρ' hq _ _ => hq.elim, fun σ' H' ρ' hq _ _ => hq.elim⟩
theorem fn_F {x qual : Str} {st : Stmt} {f C : Addr} {fd : FuncData} {N ps : List Str} {k : Nat} {S : List (Str × PyData) → (PyData → Prop) → Prop} (F : Fun K x qual st f fd) (sc : FnScope N ps (defScope st)) (hbt : ∀ x ∈ bNames, mg x = none) (len : ps.length = 1)
    (body : ∀ (cdv : Value) (A : Around) (outer : List Env) (s : Shared) (H : Hp) (E : XK) (fs : List (Str × PyData)) (q : PyData → Prop), Room k (A.deeper (envOfC qual (defScope st) s.heap.objs.size f cdv)) → CK (cxOf CX0 P w K mg base N qual (defScope st) f cdv A outer s H E).nox → S fs q →
      BB (cxOf CX0 P w K mg base N qual (defScope st) f cdv A outer s H E).nox (.obj C fs :: List.replicate (N.length - 1) Sl.non) (defBody st) { nx := fun _ => q .none, rt := fun d _ => q d }) :
    FnOk P w K mg base CX0 (k + 1) f fd ps (spF C S) := by
  refine F.ok sc (fun vs H Q E h => ?_) (fun cdv A outer s H vs Q E hr h => ?_)
  · obtain ⟨hd, a, fs, q, rfl, _⟩ := h
    rw [len]; rfl
  · obtain ⟨hd, a, fs, q, rfl, hh, ho, hS, kk⟩ := h
    refine ⟨_, pssW, ?_⟩
    have ck : CK (cxOf CX0 P w K mg base N qual (defScope st) f cdv A outer s H E).nox := ⟨rfl, sc.nd, by
      show (A.deeper (envOfC qual (defScope st) s.heap.objs.size f cdv)).units + 100 < cLine
      have := hr.un
      omega, hbt⟩
    have eo : os (.obj C fs :: List.replicate (N.length - 1) Sl.non) = [] := by
      show [] ++ os (List.replicate (N.length - 1) Sl.non) = []
      exact os_start [] _
    have St : Stt ⟨hd, [], H⟩ H (start N [.ref a]) (.obj C fs :: List.replicate (N.length - 1) Sl.non) := by
      refine ⟨hh, fun a o _ e => e, fun a e => e, by rw [eo]; exact List.nodup_nil, (fun a m => by rw [eo] at m; cases m), (fun a m => by rw [eo] at m; cases m), ?_⟩
      have := slots_start (G := mask hd H) (H := H) (N.length - 1) .nil
      show SlotsOk (mask (hd ++ os _) H) H _ _
      rw [eo, List.append_nil]
      exact ⟨⟨a, rfl, ho⟩, this⟩
    refine body cdv A outer s H E fs q hr ck hS ⟨hd, [], H⟩ _ H _ St ⟨fun σ' H' ρ' hq S' g => kk .none .non H' hq (fun a o e => S'.fr a o (fun z => nomatch z) e) .non, fun v σ' H' d ρ' hq S' g r => ?_, fun σ' H' ρ' hq _ _ => hq.elim, fun σ' H' ρ' hq _ _ => hq.elim⟩
    exact kk d v H' hq (fun a o e => S'.fr a o (fun z => nomatch z) e) (Rp.up (mask_sub fun a m => List.mem_append_left _ m) _ _ r)
end
end DL

namespace DL
open PySem PySem.Spec PyProof.Rows L2
/-! ### range downwards; two copies of an object's lists -/
def rngN (hi : Int) (n : Nat) : List PyData := (List.range n).map fun (i : Nat) => PyData.int (hi + (i : Int) * (-1))
theorem rngN_len (hi : Int) (n : Nat) : (rngN hi n).length = n := by unfold rngN; rw [List.length_map, List.length_range]
theorem rngN_get {hi : Int} {n i : Nat} {d : PyData} (h : (rngN hi n)[i]? = some d) : i < n ∧ d = .int (hi + (i : Int) * (-1)) := by
  unfold rngN at h
  rw [List.getElem?_map] at h
  by_cases hh : i < n
  · rw [List.getElem?_range hh] at h
    exact ⟨hh, (Option.some.inj h).symm⟩
  · rw [List.getElem?_eq_none (by rw [List.length_range]; omega)] at h
    cases h
theorem jok_rngN {G : Hp} (hi : Int) (n : Nat) : JOk (Itc hi (-1) n) G (rngN hi n) where
  go := fun i H d s hd => (rngN_get hd).1
  yld := fun i H d x H' s hd ⟨e1, e2⟩ => by
    subst e1 e2
    rw [(rngN_get hd).2]
    exact ⟨Same.refl _, fun l _ _ => .int _⟩
  stop := fun i H s hh => by rw [rngN_len] at hh; exact Nat.le_of_eq hh
section
variable {X : Cx} {ρ : List Sl} {tg a b c : Expr} {pos : Pos} {Θ : List PyData → List Sl → Prop} {D : DE}
theorem ii_rangeN {p : Pos} (ck : CK X) (h : EA X ρ [a, b, c] fun ds ρ1 => ∃ m n : Int, ds = [.int m, .int n, .int (-1)] ∧ (-1000000000 ≤ m ∧ m ≤ 1000000000 ∧ -1000000000 ≤ n ∧ n ≤ 1000000000) ∧ Θ (rngN m (m - n).toNat) ρ1) (hg : Gl X "range" := by rfl)
    (hs : starEach [a, b, c] X.env = (false, eval a X.env) :: starEach [b, c] X.env := by rfl) (hpl : (backTo pos (starEach [b, c] X.env)).any (·.1) = false := by rfl) : II X ρ tg (.Call (.Name "range" p) [a, b, c] [] pos) Θ :=
  ⟨_, pi_range3 hg (ck.bt _ (by simp [bNames])) paW hs hpl, fun F σ H R S k => h F σ H _ S fun vs H' ds ρ' ⟨m, n, ed, hn, q⟩ S' g r => by
    subst ed
    match r with
    | .cons (.int _) (.cons (.int _) (.cons (.int _) .nil)) => exact ⟨m, n, -1, (m - n).toNat, rfl, .neg (by omega) (by omega) (by omega) (by omega), k _ H' _ ρ' q S' g (jok_rngN m (m - n).toNat)⟩⟩
/-- a, b = list(o.f), list(o.g) -/
theorem ss_parLL (i j1 j2 : Nat) {x y1 y2 f g : Str} {C : Addr} {fs : List (Str × PyData)} {xs ys : List PyData} {p1 p2 q1 q2 a1 a2 c1 c2 py1 py2 pt : Pos} {kt k2 pt2} (ck : CK X) (hs : ρ[i]? = some (.obj C fs)) (cl : Cls X.K C) (na1 : NoAttr X.K C f) (na2 : NoAttr X.K C g)
    (hf : fs.lookup f = some (.list xs)) (hg : fs.lookup g = some (.list ys)) (q : ∀ l m, D.nx ((ρ.set j1 (.own l xs)).set j2 (.own m ys))) (hN : X.N[i]? = some x := by rfl)
    (hv : Vis X.env.scope x := by first | exact Or.inl rfl | exact Or.inr (Or.inl rfl) | exact Or.inr (Or.inr rfl)) (hb1 : attributeBase (.Name x p1) f X.env (eval (.Name x p1) X.env) = eval (.Name x p1) X.env := by rfl) (hb2 : attributeBase (.Name x p2) g X.env (eval (.Name x p2) X.env) = eval (.Name x p2) X.env := by rfl)
    (hd : (x == ("__debug__" : Str)) = false := by decide) (hcd : (x == ("__classdict__" : Str)) = false := by decide) (hgl : Gl X "list" := by rfl) (hij : j1 ≠ j2 := by decide)
    (hi : X.N[j1]? = some y1 := by rfl) (hj : X.N[j2]? = some y2 := by rfl) (hx : X.env.scope.names.lookup y1 = some .local := by rfl) (hy : X.env.scope.names.lookup y2 = some .local := by rfl)
    (s1 : starEach [.Attribute (.Name x p1) f a1] X.env = (false, eval (.Attribute (.Name x p1) f a1) X.env) :: starEach [] X.env := by rfl) (s2 : starEach [.Attribute (.Name x p2) g a2] X.env = (false, eval (.Attribute (.Name x p2) g a2) X.env) :: starEach [] X.env := by rfl)
    (s3 : starEach [.Call (.Name "list" q1) [.Attribute (.Name x p1) f a1] [] c1, .Call (.Name "list" q2) [.Attribute (.Name x p2) g a2] [] c2] X.env = (false, eval (.Call (.Name "list" q1) [.Attribute (.Name x p1) f a1] [] c1) X.env) :: starEach [.Call (.Name "list" q2) [.Attribute (.Name x p2) g a2] [] c2] X.env := by rfl)
    (s4 : starEach [.Call (.Name "list" q2) [.Attribute (.Name x p2) g a2] [] c2] X.env = (false, eval (.Call (.Name "list" q2) [.Attribute (.Name x p2) g a2] [] c2) X.env) :: starEach [] X.env := by rfl)
    (hw : swappedStores [.Tuple [.Name y1 py1, .Name y2 py2] kt pt] (.Tuple [.Call (.Name "list" q1) [.Attribute (.Name x p1) f a1] [] c1, .Call (.Name "list" q2) [.Attribute (.Name x p2) g a2] [] c2] k2 pt2) X.env = pure (some [y1, y2]) := by rfl)
    (hsw : swapsWithSole [.Tuple [.Name y1 py1, .Name y2 py2] kt pt] (.Tuple [.Call (.Name "list" q1) [.Attribute (.Name x p1) f a1] [] c1, .Call (.Name "list" q2) [.Attribute (.Name x p2) g a2] [] c2] k2 pt2) pos.line X.env = pure false := by rfl) :
    SS X ρ (.Assign [.Tuple [.Name y1 py1, .Name y2 py2] kt pt] (.Tuple [.Call (.Name "list" q1) [.Attribute (.Name x p1) f a1] [] c1, .Call (.Name "list" q2) [.Attribute (.Name x p2) g a2] [] c2] k2 pt2) pos) D := fun F σ H E S k => by
  obtain ⟨z, e1, a, e2, dx, vs, e3, fo⟩ := S.sl.get hs
  subst e2
  obtain ⟨v1, hl1, r1⟩ := fo.get hf
  obtain ⟨v2, hl2, r2⟩ := fo.get hg
  cases r1 with
  | lst ea ra =>
  rename_i la us1
  cases r2 with
  | lst eb rb =>
  rename_i lb us2
  have bl : X.mg "list" = none := ck.bt _ (by simp [bNames])
  refine ofPS (ps_par ck.calm ck.nd hi hj hij hx hy (pa_cons (pe_callTy call_list_of hgl bl (by decide +kernel) (pa_cons (pe_fld (pe_var hN hv hd hcd) hb1) pa_nil s1) (by decide) (by decide) s1 rfl) (pa_cons (pe_callTy call_list_of hgl bl (by decide +kernel) (pa_cons (pe_fld (pe_var hN hv hd hcd) hb2) pa_nil s2) (by decide) (by decide) s2 rfl) pa_nil s4) s3) hw hsw) ?_
  have e3' := mask_le _ _ e3
  refine ⟨_, e1, a, C, dx, vs, _, rfl, e3', cl, na1, hl1, la, us1, rfl, .inl (.of (mask_le _ _ ea)), fun l hl => ?_⟩
  have t1 := same_new (o := .lst us1) hl
  refine ⟨_, e1, a, C, dx, vs, _, rfl, t1 _ _ e3', cl, na2, hl2, lb, us2, rfl, .inl (.of (t1 _ _ (mask_le _ _ eb))), fun m hm => ?_⟩
  have t2 := same_new (o := .lst us2) hm
  have hlm : l ≠ m := fun z => by rw [← z, upd_same] at hm; cases hm
  have gl : ∀ b o, gh F ρ H b = some o → b ≠ l := fun b o q z => by rw [z] at q; have := mask_le _ _ q; rw [hl] at this; cases this
  have S1 := S.new (s := .own l xs) (v := .ref l) j1 hl t1 rfl (by rw [upd_same]; exact fun z => nomatch z) ⟨rfl, us1, upd_same, RpAll.up (mask_mono (fun b mb hb => (List.mem_cons.mp mb).elim (fun z => absurd (z ▸ hl) hb) id) fun b o _ q => t1 b o q) _ _ ra⟩
  have G1 := S.gnew (s := .own l xs) j1 hl t1 rfl
  have S2 := S1.new (s := .own m ys) (v := .ref m) j2 hm t2 rfl (by rw [upd_same]; exact fun z => nomatch z) ⟨rfl, us2, upd_same, RpAll.up (G1.trans (mask_mono (fun b mb hb => (List.mem_cons.mp mb).elim (fun z => absurd (z ▸ hm) hb) id) fun b o _ q => t2 b o q)) _ _ rb⟩
  exact ⟨_, _, rfl, k.nx _ _ _ (q l m) S2 (G1.trans (S1.gnew j2 hm t2 rfl))⟩
end
end DL

namespace DL
open PySem PySem.Spec PyProof.Rows L2
/-! ### dicts of ints -/
theorem valV_kvI (k : Int) : ∀ kvs : List (Int × Int), valV (kvI kvs) (Sum.inl k) = (kvs.lookup k).map V.int
  | [] => rfl
  | (a, b) :: r => by
    rw [List.lookup_cons]
    show valV ((Sum.inl a, V.int b) :: kvI r) (Sum.inl k) = _
    by_cases h : k = a
    · rw [valV_pos (by rw [h]), h, beq_self_eq_true]; rfl
    · rw [valV_neg (fun z => h (Sum.inl.inj z).symm), valV_kvI k r, beq_eq_false_iff_ne.mpr h]
theorem kvI_len (kvs : List (Int × Int)) : (kvI kvs).length = kvs.length := List.length_map _
theorem putK_kvI {kvs : List (Int × Int)} {k v : Int} (h : kvs.lookup k = none) : putK (kvI kvs) (Sum.inl k) (.int v) = kvI (kvs ++ [(k, v)]) := by
  rw [putK_new _ (by rw [valV_kvI, h]; rfl)]
  unfold kvI
  rw [List.map_append]
  rfl
section
variable {prog : Program} {w : World} {A : Around} {E : Value → Shared → Prop} {s : Shared} {v d : Addr} {Q : Value → Shared → Prop}
theorem sumv_raw {κ : Type} [DecidableEq κ] {knd : KeyKind prog w κ} {kvs : List (κ × Value)} {ep : Nat} (hh : A.handled = none) (hv : s.heap.get? v = some { cls := .type "dict_values", data := .fields #[.ref d] }) (hat : s.heap.DictAt knd d kvs ep) (val : Nat → Int)
    (hval : ∀ (i : Nat) (u : Value), (∃ k, kvs[i]? = some (k, u)) → ∃ t : Tok, u = Value.int (val i) t) (h : ∀ (h' : Heap) (tk : Nat) (t' : Tok), (∀ b o, s.heap.get? b = some o → h'.get? b = some o) → Q (.int (preSum val kvs.length) t') { s with heap := h', toks := tk }) :
    wpAny (model prog w) A (call (.builtin "sum") [.ref v]) Q E s := by
  have K := PySem.W.kdl_values (prog := prog) (w := w) (r := v) (d := d) (knd := knd) (kvs := kvs) (ep := ep)
  have hok : (s.heap.get? v = some { cls := .type "dict_values", data := .fields #[.ref d] } ∧ s.heap.DictAt knd d kvs ep) := ⟨hv, hat⟩
  refine call_sum_walkAnyS ?_
  obtain ⟨oI, St, hit, W, st⟩ := K.iter A.in1 s hh ⟨⟨_, hv, rfl, rfl⟩, hat⟩
  refine hit _ _ ⟨s.heap.objs.size, _, _, _, kvs.length, _, _, val, rfl, W.toS, st, fun b hb => ?_, hval, fun s' t' hm => ?_⟩
  · show b < (s.heap.push oI).objs.size
    rw [size_push']
    rcases List.mem_cons.mp hb with e | hb
    · rw [e]; exact Nat.lt_succ_self _
    · rw [List.mem_singleton.mp hb]; exact Nat.lt_succ_of_lt hat.lt_size
  · have hk : ∀ b o, s.heap.get? b = some o → s'.heap.get? b = some o := fun b o e => hm.heap b o (fun hI => absurd (Heap.lt_size e) (by rw [List.mem_singleton.mp hI]; exact Nat.lt_irrefl _)) (Heap.get?_push_of_some _ e)
    rw [Moved.eq_with hm]
    exact h s'.heap s'.toks t' hk
end
theorem preSum_getD (f : Nat → Int) : ∀ (ns : List Int), (∀ i, f i = ns.getD i 0) → ∀ n, n ≤ ns.length → preSum f n = (ns.take n).sum
  | _, _, 0, _ => rfl
  | ns, hf, n + 1, hn => by
    show preSum f n + f n = _
    rw [preSum_getD f ns hf n (Nat.le_of_succ_le hn), hf n, List.take_succ, List.getElem?_eq_getElem hn, List.sum_append, List.getD_eq_getElem?_getD, List.getElem?_eq_getElem hn]
    simp
section
variable {X : Cx} {ρ : List Sl} {e b c : Expr} {pos px py ap cp mp qp : Pos} {Φ : PyData → List Sl → Prop} {Ψ : Bool → List Sl → Prop} {D : DE} {x y : Str} {kvs : List (Int × Int)}
/-- sum(o.values()), a dict of ints -/
def tSumV (td : TE) : TE := fun σ H Q => td σ H fun x H1 => ∃ a kvs, x = V.ref a ∧ H1 a = some (.dK (kvI kvs)) ∧ Q (.int (kvs.map (·.2)).sum) H1
theorem pe_sumV {o : Expr} {td : TE} (hc : X.calm = true) (hg : Gl X "sum") (hm : X.mg "sum" = none) (hd : PE X o td) (hbase : attributeBase o "values" X.env (eval o X.env) = eval o X.env := by rfl) (hline : (ap.endLine == mp.line) = true := by rfl)
    (hse : starEach [Expr.Call (.Attribute o "values" ap) [] [] mp] X.env = [(false, eval (Expr.Call (.Attribute o "values" ap) [] [] mp) X.env)] := by rfl) :
    PE X (.Call (.Name "sum" px) [.Call (.Attribute o "values" ap) [] [] mp] [] pos) (tSumV td) := by
  refine ⟨fun pins s σ H Q I h => wpAny_Call_Name_kw (ld_blt I hg hm (u := .builtin "sum") (by first | rfl | decide +kernel) ?_ (by first | decide +kernel | decide) (by first | decide +kernel | decide))⟩
  rw [hse]
  refine PySem.callWith_builtin1 (wpAny_Call_method0_late hbase hline (thn (hd.run pins s σ H _ I h) fun u s1 ⟨x, H1, I1, r1, a, kvs, ex, ha, q⟩ => ?_))
  subst ex
  obtain rfl : u = Value.ref a := r1
  obtain ⟨_, hsys, vs, rel, dof⟩ := dk_of I1.hok ha
  obtain ⟨ep, dat⟩ := dof.dictAt
  obtain ⟨ob, es, ho, ex, hdat, hko, hpr, hnd⟩ := id dat
  refine ⟨"dict", "dict.values", F.plainAttrs_dict, F.slot_dict_values, F.type_dict_values, ⟨ob, ho, ex.1⟩, fun b e => (by cases e; exact ⟨ob, ho, ex.2.1⟩), Calls.callWith_builtin rfl (PySem.evalArgs_none ?_)⟩
  refine call_meetsIn F.slot_dict_values ⟨ob, ho, ex.1⟩ F.entry_dict_values (F.args_dict_values_1 _) (meets_dict_values (mixKind X.prog X.w) a hsys) ⟨⟨vs, dof⟩, ?_⟩
  have hlv : vs.length = kvs.length := (KV.length rel).symm.trans (kvI_len kvs)
  refine sumv_raw (s := { s1 with heap := s1.heap.push { cls := .type "dict_values", data := .fields #[.ref a] } }) (knd := mixKind X.prog X.w) (kvs := vs) (ep := ep) (d := a) (A := X.A) (I1.ok.hd hc) (Heap.get?_push_size _ rfl) (dat.keep fun b u e => Heap.get?_push_of_some _ e) (fun i => (kvs.map (·.2)).getD i 0) (fun i u ⟨k, hk⟩ => ?_) fun h' tk t' hk => ?_
  · obtain ⟨x, h1, h2⟩ := KV.at' rel hk
    have h3 : (kvs.map fun p => ((Sum.inl p.1 : Key), V.int p.2))[i]? = some (k, x) := h1
    rw [List.getElem?_map] at h3
    cases q : kvs[i]? with
    | none => rw [q] at h3; cases h3
    | some p =>
      rw [q] at h3
      cases h3
      obtain ⟨t, e3⟩ := h2
      refine ⟨t, ?_⟩
      rw [e3, List.getD_eq_getElem?_getD, List.getElem?_map, q] <;> rfl
  · have hk2 : ∀ b u, s1.heap.get? b = some u → h'.get? b = some u := fun b u e => hk b u (Heap.get?_push_of_some _ e)
    refine ⟨.int _, H1, I1.kept (t' := tk) hk2, ⟨t', rfl⟩, ?_⟩
    rw [preSum_getD _ (kvs.map (·.2)) (fun i => rfl) vs.length (by rw [List.length_map, hlv]; exact Nat.le_refl _), hlv, ← List.length_map (f := (·.2)), List.take_length]
    exact q
theorem ee_sumV (i : Nat) (ck : CK X) (hs : ρ[i]? = some (.fI kvs)) (q : Φ (.int (kvs.map (·.2)).sum) ρ) (hN : X.N[i]? = some x := by rfl) (hv : Vis X.env.scope x := by first | exact Or.inl rfl | exact Or.inr (Or.inl rfl) | exact Or.inr (Or.inr rfl))
    (hd : (x == ("__debug__" : Str)) = false := by decide) (hcd : (x == ("__classdict__" : Str)) = false := by decide) (hg : Gl X "sum" := by rfl) (hbase : attributeBase (.Name x py) "values" X.env (eval (.Name x py) X.env) = eval (.Name x py) X.env := by rfl) (hline : (ap.endLine == mp.line) = true := by rfl)
    (hse : starEach [Expr.Call (.Attribute (.Name x py) "values" ap) [] [] mp] X.env = [(false, eval (Expr.Call (.Attribute (.Name x py) "values" ap) [] [] mp) X.env)] := by rfl) :
    EE X ρ (.Call (.Name "sum" px) [.Call (.Attribute (.Name x py) "values" ap) [] [] mp] [] pos) Φ := fun F σ H Q S k => by
  obtain ⟨z, e1, a, e2, e3⟩ := S.sl.get hs
  subst e2
  exact ofPE (pe_sumV ck.calm hg (ck.bt _ (by simp [bNames])) (pe_var hN hv hd hcd) hbase hline hse) ⟨_, e1, a, kvs, rfl, mask_le _ _ e3, k _ H _ ρ q S (Same.refl _) (.int _)⟩
/-- table[e] -/
theorem ee_dgetF (i : Nat) (ck : CK X) (hs : ρ[i]? = some (.fI kvs)) (h : EE X ρ e fun d ρ1 => ∃ n v, d = .int n ∧ kvs.lookup n = some v ∧ Φ (.int v) ρ1) (hN : X.N[i]? = some x := by rfl) (hv : Vis X.env.scope x := by first | exact Or.inl rfl | exact Or.inr (Or.inl rfl) | exact Or.inr (Or.inr rfl))
    (hp : NoSl e := by exact fun _ _ => rfl) (hd : (x == ("__debug__" : Str)) = false := by decide) (hcd : (x == ("__classdict__" : Str)) = false := by decide) : EE X ρ (.Subscript (.Name x px) e pos) Φ := fun F σ H Q S k => by
  obtain ⟨z, e1, a, e2, e3⟩ := S.sl.get hs
  subst e2
  refine ofPE (pe_dget (by have := ck.hu; omega) (pe_var hN hv hd hcd) peW hp) ⟨_, e1, h F σ H _ S fun u H2 d ρ1 ⟨n, v, ed, hl, q⟩ S2 g r => ?_⟩
  subst ed
  cases r
  have e4 : H2 a = some (.dK (kvI kvs)) := mask_le _ _ (g _ _ e3)
  exact ⟨a, .int v, rfl, by have := DGet.k (k := Sum.inl n) e4; rw [valV_kvI, hl] at this; exact this, k _ H2 _ ρ1 q S2 g (.int v)⟩
/-- e in table -/
theorem et_dinF (i : Nat) (ck : CK X) (h : EE X ρ e fun d ρ1 => ∃ n kvs, d = .int n ∧ ρ1[i]? = some (.fI kvs) ∧ Ψ (kvs.lookup n).isSome ρ1) (hN : X.N[i]? = some x := by rfl) (hv : Vis X.env.scope x := by first | exact Or.inl rfl | exact Or.inr (Or.inl rfl) | exact Or.inr (Or.inr rfl))
    (hd : (x == ("__debug__" : Str)) = false := by decide) (hcd : (x == ("__classdict__" : Str)) = false := by decide) (hb : behindInMarks .In (.Name x px) = false := by first | exact nobehind _ (by decide) (by decide) | rfl) : ET X ρ (.Compare e [.In] [.Name x px] pos) Ψ := fun F σ H Q S k =>
  ofPT (pt_cmp (pc_din (by have := ck.hu; omega) peW (pe_var hN hv hd hcd)) hb) (h F σ H _ S fun u H2 d ρ1 ⟨n, kvs, ed, hs, q⟩ S2 g r => by
    subst ed
    cases r
    obtain ⟨z, e1, a, e2, e3⟩ := S2.sl.get hs
    subst e2
    have e4 : H2 a = some (.dK (kvI kvs)) := mask_le _ _ e3
    refine ⟨_, e1, a, _, rfl, DGet.k (k := Sum.inl n) e4, _, rfl, ?_⟩
    rw [valV_kvI, Option.isSome_map]
    exact k _ H2 ρ1 q S2 g)
/-- x = {} -/
theorem ss_setDE (j : Nat) (ck : CK X) (q : ∀ a, D.nx (ρ.set j (.dI a []))) (hi : X.N[j]? = some x := by rfl) (hx : Loc X.env.scope x := by first | exact Or.inl rfl | exact Or.inr rfl)
    (hs : swapsWith (.Dict [] [] py) (some (.Name x px)) pos.line X.env = pure false := by rfl) (hf : X.fn x = true ∨ X.env.scope.names.lookup x = some .local := by first | exact .inl rfl | exact .inr rfl) : SS X ρ (.Assign [.Name x px] (.Dict [] [] py) pos) D := fun F σ H E S k =>
  ofPS (ps_set ck.nd hi hx pe_dnewK hs hf) fun p hp => by
    have s2 := same_new (o := .dK []) hp
    exact k.nx _ _ _ (q p) (S.new j hp s2 rfl (by rw [upd_same]; exact fun z => nomatch z) ⟨rfl, upd_same⟩) (S.gnew j hp s2 rfl)
/-- x = {m: n} -/
theorem ss_setD1 (j : Nat) {m n : Int} {j1 j2} {p1 p2 : Pos} (ck : CK X) (q : D.nx (ρ.set j (.fI [(m, n)]))) (hi : X.N[j]? = some x := by rfl) (hx : Loc X.env.scope x := by first | exact Or.inl rfl | exact Or.inr rfl)
    (hs : swapsWith (.Dict [some (.Constant (.int m) j1 p1)] [.Constant (.int n) j2 p2] py) (some (.Name x px)) pos.line X.env = pure false := by rfl) (hf : X.fn x = true ∨ X.env.scope.names.lookup x = some .local := by first | exact .inl rfl | exact .inr rfl) :
    SS X ρ (.Assign [.Name x px] (.Dict [some (.Constant (.int m) j1 p1)] [.Constant (.int n) j2 p2] py) pos) D := fun F σ H E S k =>
  ofPS (ps_set ck.nd hi hx (pe_disp (pps_cons pe_int pe_int pps_nil) rfl rfl (by simp) (by show 1 ≤ 15; decide)) hs hf) fun p hp => ⟨upd_same, [(Sum.inl m, .int n)], rfl, (by show 1 ≤ 15; decide), by
    have e1 : upd (upd H p (.dK [])) p (.dK (mergeK [] [(Sum.inl m, V.int n)])) = upd H p (.dK (kvI [(m, n)])) := by
      funext b
      by_cases z : b = p
      · rw [z, upd_same, upd_same]; rfl
      · rw [upd_ne z, upd_ne z, upd_ne z]
    rw [e1]
    have s2 := same_new (o := .dK (kvI [(m, n)])) hp
    have S2 := S.ext s2
    exact k.nx _ _ _ q (S2.set j (s := .fI [(m, n)]) rfl ⟨p, rfl, (mask_out fun z => S.ad p z hp).trans upd_same⟩) ((S.gext s2).trans (S2.gset j rfl))⟩
/-- later[b] = e, a new key -/
theorem ss_dput (i : Nat) {a : Addr} (ck : CK X) (h : EE X ρ e fun d ρ1 => ∃ v kvs, d = .int v ∧ ρ1[i]? = some (.dI a kvs) ∧ EE X ρ1 b fun db ρ2 => ∃ n kvs2, db = .int n ∧ ρ2[i]? = some (.dI a kvs2) ∧ kvs2.lookup n = none ∧ kvs2.length < 1000000 ∧ D.nx (ρ2.set i (.dI a (kvs2 ++ [(n, v)]))))
    (hN : X.N[i]? = some x := by rfl) (hv : Vis X.env.scope x := by first | exact Or.inl rfl | exact Or.inr (Or.inl rfl) | exact Or.inr (Or.inr rfl)) (hd : (x == ("__debug__" : Str)) = false := by decide) (hcd : (x == ("__classdict__" : Str)) = false := by decide)
    (hs : swapsWith e (some (.Subscript (.Name x px) b ap)) pos.line X.env = pure false := by rfl) : SS X ρ (.Assign [.Subscript (.Name x px) b ap] e pos) D := fun F σ H E S k =>
  ofPS (ps_dput (by have := ck.hu; omega) (pe_var hN hv hd hcd) peW peW hs) (h F σ H _ S fun u H1 d ρ1 ⟨v, kvs, ed, es, h1⟩ S1 g1 r1 => by
    subst ed
    cases r1
    obtain ⟨z, e1, e2, e3⟩ := S1.sl.get es
    subst e2
    refine ⟨_, e1, h1 F σ H1 _ S1 fun u H2 db ρ2 ⟨n, kvs2, ed, es2, hl, hz, q⟩ S2 g2 r2 => ?_⟩
    subst ed
    cases r2
    obtain ⟨z', e1', e2', e3'⟩ := S2.sl.get es2
    refine ⟨a, _, rfl, DPut.k (k := Sum.inl n) (v := .int v) e3' (big_lt (by rw [kvI_len]; exact hz)), ?_⟩
    rw [putK_kvI hl]
    obtain ⟨S3, g3⟩ := S2.chg (s := .dI a (kvs2 ++ [(n, v)])) (H2 := upd H2 a (.dK (kvI (kvs2 ++ [(n, v)])))) es2 rfl rfl (fun b o hb e => by rw [upd_ne hb]; exact e) (by rw [upd_same]; exact fun z => nomatch z) fun x' ⟨ex, _⟩ => ⟨ex, upd_same⟩
    exact k.nx _ _ _ q S3 ((g1.trans g2).trans g3))
/-- x = y, y a dict of one's own: both frozen -/
theorem ss_moveD (i j : Nat) {a : Addr} (ck : CK X) (hs : ρ[j]? = some (.dI a kvs)) (q : D.nx ((ρ.set j (.fI kvs)).set i (.fI kvs))) (hi : X.N[i]? = some x := by rfl) (hx : Loc X.env.scope x := by first | exact Or.inl rfl | exact Or.inr rfl)
    (hN : X.N[j]? = some y := by rfl) (hv : Vis X.env.scope y := by first | exact Or.inl rfl | exact Or.inr (Or.inl rfl) | exact Or.inr (Or.inr rfl)) (hd : (y == ("__debug__" : Str)) = false := by decide) (hcd : (y == ("__classdict__" : Str)) = false := by decide)
    (hsw : swapsWith (.Name y py) (some (.Name x px)) pos.line X.env = pure false := by rfl) (hf : X.fn x = true ∨ X.env.scope.names.lookup x = some .local := by first | exact .inl rfl | exact .inr rfl) : SS X ρ (.Assign [.Name x px] (.Name y py) pos) D := fun F σ H E S k => by
  obtain ⟨z, e1, e2, e3⟩ := S.sl.get hs
  subst e2
  have gm : gh F (ρ.set j (.fI kvs)) H a = some (.dK (kvI kvs)) := by
    refine (mask_out fun m => ?_).trans e3
    rcases List.mem_append.mp m with m | m
    · exact S.ap a (os_at hs (List.mem_singleton.mpr rfl)) m
    · exact os_gone S.nd hs (List.mem_singleton.mpr rfl) rfl m
  have S1 := S.wk (s := .fI kvs) j rfl fun x' hx' => by
    rw [e1] at hx'; cases hx'
    exact ⟨a, rfl, gm⟩
  have g1 := S.gset (s := .fI kvs) (H := H) j (ρ := ρ) rfl
  exact ofPS (ps_set ck.nd hi hx (pe_var hN hv hd hcd) hsw hf) ⟨_, e1, k.nx _ _ _ q (S1.set i (s := .fI kvs) rfl ⟨a, rfl, gm⟩) (g1.trans (S1.gset i rfl))⟩
end
end DL

namespace DL
open PySem PySem.Spec PyProof.Rows L2
/-! ### data that may be compared -/
structure Shp (n : Nat) (d : PyData) : Prop where
  lay : d.canLay0 = true
  dp : d.depth ≤ n
theorem shp_all {n : Nat} : ∀ {ds : List PyData}, (∀ d ∈ ds, Shp n d) → PyData.canLayAll0 ds = true ∧ PyData.depthAll ds ≤ n
  | [], _ => ⟨rfl, by simp [PyData.depthAll]⟩
  | d :: ds, h => by
    obtain ⟨h1, h2⟩ := shp_all fun e he => h e (.tail _ he)
    have h3 := h d (.head _)
    have h4 := h3.lay
    have h5 := h3.dp
    refine ⟨by simp [PyData.canLayAll0, h1, h4], ?_⟩
    simp only [PyData.depthAll]
    omega
theorem shp_int {n : Nat} (i : Int) : Shp n (.int i) := ⟨rfl, by simp [PyData.depth]⟩
theorem shp_bool {n : Nat} (i : Bool) : Shp n (.bool i) := ⟨rfl, by simp [PyData.depth]⟩
theorem shp_none {n : Nat} : Shp n .none := ⟨rfl, by simp [PyData.depth]⟩
theorem shp_list {n : Nat} {ds : List PyData} (h : ∀ d ∈ ds, Shp n d) : Shp (n + 1) (.list ds) := ⟨by
  obtain ⟨h1, _⟩ := shp_all h
  simpa [PyData.canLay0] using h1, by
  obtain ⟨_, h2⟩ := shp_all h
  simp only [PyData.depth]; omega⟩
theorem shp_tup {n : Nat} {ds : List PyData} (h : ∀ d ∈ ds, Shp n d) : Shp (n + 1) (.tuple ds) := ⟨by
  obtain ⟨h1, _⟩ := shp_all h
  simpa [PyData.canLay0] using h1, by
  obtain ⟨_, h2⟩ := shp_all h
  simp only [PyData.depth]; omega⟩
theorem Shp.ok {n : Nat} {d : PyData} (h : Shp n d) (hn : n ≤ 64 := by decide) : SeqAt.shaped d = true := by
  unfold SeqAt.shaped
  rw [h.lay, decide_eq_true (Nat.le_trans h.dp hn)]
  rfl
theorem Shp.refl {n : Nat} {d : PyData} (h : Shp n d) : PyData.eqv d d = true := PySem.SeqAt.eqv_refl d h.lay
theorem shp_ints (l : List Int) : Shp 1 (.list (l.map PyData.int)) := shp_list fun d hd => by
  obtain ⟨i, _, rfl⟩ := List.mem_map.mp hd
  exact shp_int i
theorem shp_tints (l : List Int) : Shp 1 (.tuple (l.map PyData.int)) := shp_tup fun d hd => by
  obtain ⟨i, _, rfl⟩ := List.mem_map.mp hd
  exact shp_int i
theorem shp_pair (a b : Int) : Shp 1 (.tuple [.int a, .int b]) := shp_tints [a, b]
theorem shp_pairs (l : List (Int × Int)) : Shp 2 (.list (l.map fun p => .tuple [.int p.1, .int p.2])) := shp_list fun d hd => by
  obtain ⟨i, _, rfl⟩ := List.mem_map.mp hd
  exact shp_pair _ _
theorem shp_tpairs (l : List (Int × Int)) : Shp 2 (.tuple (l.map fun p => .tuple [.int p.1, .int p.2])) := shp_tup fun d hd => by
  obtain ⟨i, _, rfl⟩ := List.mem_map.mp hd
  exact shp_pair _ _
/-- == of the same -/
theorem eqK_self {n : Nat} {d e : PyData} {k : Bool → Prop} (h : Shp n d) (hn : n ≤ 64) (e1 : d = e) (q : k true) : eqK d e k := by
  subst e1
  cases d with
  | int i => show k (decide (i = i)); rw [decide_eq_true rfl]; exact q
  | bool i => show k (decide (i = i)); rw [decide_eq_true rfl]; exact q
  | none => exact ⟨⟨h.ok hn, h.ok hn⟩, by rw [h.refl]; exact q⟩
  | str i => exact ⟨⟨h.ok hn, h.ok hn⟩, by rw [h.refl]; exact q⟩
  | list i => exact ⟨⟨h.ok hn, h.ok hn⟩, by rw [h.refl]; exact q⟩
  | tuple i => exact ⟨⟨h.ok hn, h.ok hn⟩, by rw [h.refl]; exact q⟩
  | dict i => exact ⟨⟨h.ok hn, h.ok hn⟩, by rw [h.refl]; exact q⟩
end DL

namespace DL
open PySem PySem.Spec PyProof.Rows L2
/-! ### bags: opened, made, gone over -/
def bagN : Nat := 2 ^ 59
section
variable {X : Cx} {ρ : List Sl} {sts : List Stmt} {b : Addr} {n : Nat} {q : PyData → Nat → Prop}
theorem slots_swap {G H : Hp} {s t : Sl} : ∀ {σ : L2.St} {ρ : List Sl} {i : Nat}, SlotsOk G H σ ρ → ρ[i]? = some t → (∀ x, SlotOk G H x t → SlotOk G H x s) → SlotsOk G H σ (ρ.set i s)
  | [], [], _, _, e, _ => by simp at e
  | [], _ :: _, _, h, _, _ => h.elim
  | _ :: _, [], _, h, _, _ => h.elim
  | x :: xs, u :: r, 0, h, e, k => by
    rw [List.getElem?_cons_zero] at e; cases e
    exact ⟨k x h.1, h.2⟩
  | x :: xs, u :: r, i + 1, h, e, k => by
    rw [List.getElem?_cons_succ] at e
    exact ⟨h.1, slots_swap h.2 e k⟩
theorem Stt.swap {F : Fm} {H : Hp} {σ : L2.St} {i : Nat} {s t : Sl} (S : Stt F H σ ρ) (e : ρ[i]? = some t) (ha : s.ad = t.ad) (k : ∀ G x, SlotOk G H x t → SlotOk G H x s) : Stt F H σ (ρ.set i s) ∧ gh F (ρ.set i s) H = gh F ρ H := by
  have eo : os (ρ.set i s) = os ρ := os_set_same e ha
  refine ⟨⟨S.hd, S.fr, S.dm, by rw [eo]; exact S.nd, fun a m => S.nw a (by rw [← eo]; exact m), fun a m => S.ap a (by rw [← eo]; exact m), ?_⟩, by unfold gh; rw [eo]⟩
  rw [show gh F (ρ.set i s) H = gh F ρ H by unfold gh; rw [eo]]
  exact slots_swap S.sl e (k _)
structure BagV (z w t : Int) (n : Nat) : Prop where
  w0 : 0 ≤ w
  w1 : w < bagP
  t0 : 0 ≤ t
  t1 : t + (n : Int) ≤ 2 ^ 60
/-- a def's body, its bag open -/
theorem bb_open (h : ∀ z w t : Int, BagV z w t n → BB X (.own b [.int z, .int w, .int t] :: ρ) sts { nx := fun _ => False, rt := fun d ρ' => ∃ z w t n', ρ'[0]? = some (.own b [.int z, .int w, .int t]) ∧ BagV z w t n' ∧ q d n' }) :
    BB X (.bag b n :: ρ) sts { nx := fun _ => False, rt := fun d ρ' => ∃ n', ρ'[0]? = some (.bag b n') ∧ q d n' } := fun F σ H E S k => by
  obtain ⟨x, e0, ex, z, w, t, e, h1, h2, h3, h4⟩ := S.sl.get (i := 0) rfl
  obtain ⟨S1, g1⟩ := S.swap (i := 0) (s := .own b [.int z, .int w, .int t]) rfl rfl fun G x ⟨ex, z', w', t', e', _⟩ => by
    rw [e] at e'; cases e'
    exact ⟨ex, _, e, .cons (.int _) (.cons (.int _) (.cons (.int _) .nil))⟩
  refine h z w t ⟨h1, h2, h3, h4⟩ F σ H E S1 ⟨fun _ _ _ z => z.elim, fun v σ' H' d ρ' ⟨z, w, t, n', es, ⟨a1, a2, a3, a4⟩, hq⟩ S' g r => ?_, fun _ _ _ z => z.elim, fun _ _ _ z => z.elim⟩
  obtain ⟨S2, g2⟩ := S'.swap (i := 0) (s := .bag b n') es rfl fun G x ⟨ex, us, e', r'⟩ => ⟨ex, z, w, t, by
    match us, r' with
    | [_, _, _], .cons (.int _) (.cons (.int _) (.cons (.int _) .nil)) => exact e', a1, a2, a3, a4⟩
  refine k.rt v σ' H' d _ ⟨n', by rw [List.getElem?_set_self (List.getElem?_eq_some_iff.mp es).1], hq⟩ S2 ?_ (by rw [g2]; exact r)
  rw [g2]
  exact (show Same (gh F (.bag b n :: ρ) H) (gh F ρ' H') from g)
end
/-! _law_well: a new bag -/
def spW : Sp := fun vs H Q _ => ∃ c t : Int, vs = [.int c, .int t] ∧ (0 ≤ t ∧ t ≤ 2 ^ 59) ∧ ∀ p H', Same H H' → H p = none → BagOk H' p bagN → Q (.ref p) H'
/-- _law_bags: a list of new bags -/
def spBags (K : PySem.W.Frag) : Sp := fun vs H Q _ => ∃ (a : Addr) (ns : List Int) (m : Int), vs = [.ref a, .int m] ∧ SqL K H a (ns.map V.int) ∧ ns.length ≤ 63 ∧ (0 ≤ m ∧ m ≤ 60) ∧
  ∀ (D : Addr) (bs : List Addr) (H' : Hp), Same H H' → H' D = some (.lst (bs.map V.ref)) → bs.Nodup → D ∉ bs → (∀ b ∈ bs, BagOk H' b bagN) → Q (.ref D) H'
theorem non_slots {G H : Hp} : ∀ (σ : L2.St), SlotsOk G H σ (List.replicate σ.length Sl.non)
  | [] => trivial
  | _ :: r => ⟨trivial, non_slots r⟩
theorem os_non : ∀ n, os (List.replicate n Sl.non) = [] := fun n => os_start [] n
theorem os_bag (j : Nat) (b : Addr) (k : Nat) : ∀ (n : Nat), j < n → os ((List.replicate n Sl.non).set j (.bag b k)) = [b] := by
  induction j with
  | zero =>
    intro n h
    cases n with
    | zero => exact absurd h (Nat.lt_irrefl 0)
    | succ n =>
      show [b] ++ os (List.replicate n Sl.non) = [b]
      rw [os_non]; rfl
  | succ j ih =>
    intro n h
    cases n with
    | zero => exact absurd h (Nat.not_lt_zero _)
    | succ n =>
      show [] ++ os ((List.replicate n Sl.non).set j (.bag b k)) = [b]
      rw [ih n (Nat.lt_of_succ_lt_succ h)]; rfl
section
variable {X : Cx} {sts rest : List Stmt}
/-- a block from nothing -/
theorem bb_raw {σ : L2.St} {H : Hp} {Q : VK} (h : BB X (List.replicate σ.length Sl.non) rest { nx := fun _ => False, rt := fun d _ => d = .bool true }) (q : ∀ H', Q (.bl true) H') (E : Ends) (he : E.rt = Q) : tB X rest E σ H := by
  refine h ⟨[], [], H⟩ σ H E ⟨(fun _ m => nomatch m), fun a o _ e => e, fun a e => e, by rw [os_non]; exact List.nodup_nil, (fun a m => by rw [os_non] at m; cases m), (fun a m => by rw [os_non] at m; cases m), non_slots σ⟩ ⟨fun _ _ _ z => z.elim, fun v σ' H' d ρ' hd S' g r => ?_, fun _ _ _ z => z.elim, fun _ _ _ z => z.elim⟩
  subst hd
  cases r
  rw [he]
  exact q H'
/-- one turn of the law's loop: the bag alone is known -/
theorem bag_turn {σ : L2.St} {H : Hp} {j : Nat} {b : Addr} (hj : j < σ.length) (bo : BagOk H b bagN) (h : BB X ((List.replicate σ.length Sl.non).set j (.bag b bagN)) sts { nx := fun ρ => ρ.length = σ.length, rt := fun _ _ => False }) {E : Ends}
    (k : ∀ σ' H', σ'.length = σ.length → (∀ a o, a ≠ b → H a = some o → H' a = some o) → E.nx σ' H') : tB X sts E (σ.set j (some (.ref b))) H := by
  have eo := os_bag j b bagN σ.length hj
  refine h ⟨[], [b], H⟩ _ H E ⟨(fun _ m => nomatch m), fun a o _ e => e, fun a e => e, by rw [eo]; simp, (fun a m => by rw [eo] at m; exact .inl m), (fun a m z => nomatch z), (non_slots σ).set j (s := .bag b bagN) ⟨rfl, bo⟩⟩ ⟨fun σ' H' ρ' hl S' g => k σ' H' (S'.len.trans hl) fun a o ha e => S'.fr a o (fun z => ha (List.mem_singleton.mp z)) e, fun _ _ _ _ _ z => z.elim, fun _ _ _ z => z.elim, fun _ _ _ z => z.elim⟩
/-- for bag in _law_bags(script, m): the turns, then the rest -/
theorem law_loop {σ : L2.St} {H : Hp} {i j : Nat} {x y f : Str} {px py pf p1 cp pos : Pos} {m : Int} {jc : Nat} {a : Addr} {ns : List Int} {ps : List Str} {E : Ends} (ck : CK X) (cl : Cal X f ps (spBags X.K)) (hn : ns.length ≤ 63) (hm : 0 ≤ m ∧ m ≤ 60) (hσ : σ[i]? = some (some (.ref a))) (hS : SqL X.K H a (ns.map V.int)) (hj : j < σ.length)
    (body : ∀ b, BB X ((List.replicate σ.length Sl.non).set j (.bag b bagN)) sts { nx := fun ρ => ρ.length = σ.length, rt := fun _ _ => False })
    (hrest : BB X (List.replicate σ.length Sl.non) rest { nx := fun _ => False, rt := fun d _ => d = .bool true }) (q : ∀ H', E.rt (.bl true) H') (hN : X.N[i]? = some y := by rfl) (hx : X.N[j]? = some x := by rfl)
    (hv : Vis X.env.scope y := by first | exact Or.inl rfl | exact Or.inr (Or.inl rfl) | exact Or.inr (Or.inr rfl)) (hd : (y == ("__debug__" : Str)) = false := by decide) (hcd : (y == ("__classdict__" : Str)) = false := by decide) (hl : Loc X.env.scope x := by first | exact Or.inl rfl | exact Or.inr rfl)
    (hg : Gl X f := by rfl) (hdb : (f == ("__debug__" : Str)) = false := by decide) (s1 : starEach [.Name y py, .Constant (.int m) jc p1] X.env = (false, eval (.Name y py) X.env) :: starEach [.Constant (.int m) jc p1] X.env := by rfl) (s2 : starEach [.Constant (.int m) jc p1] X.env = (false, eval (.Constant (.int m) jc p1) X.env) :: starEach [] X.env := by rfl)
    (hpl : (backTo cp (starEach [.Constant (.int m) jc p1] X.env)).any (·.1) = false := by rfl) (hp : PassesOwn (model X.prog X.w) X.A X.env X.xe := by exact PassesOwn.never) (hf : X.fn x = true ∨ X.env.scope.names.lookup x = some .local := by first | exact .inl rfl | exact .inr rfl)
    (hs : ∀ v, foldedSetIterable (.Call (.Name f pf) [.Name y py, .Constant (.int m) jc p1] [] cp) X.env v = pure v := by intro _; rfl) :
    tB X (.For (.Name x px) (.Call (.Name f pf) [.Name y py, .Constant (.int m) jc p1] [] cp) sts [] pos :: rest) E σ H := by
  obtain ⟨k, hr, fa, fd, G, hmg, kp, bd⟩ := cl
  refine ofPSs (pss_cons (ps_for hp ck.calm (pi_list (pe_call G hr hg hmg kp bd .nil pass0 (pa_cons (pe_var hN hv hd hcd) (pa_cons pe_int pa_nil s2) s1) hdb s1 hpl)) (pg_name ck.nd hx hl hf) pssW hs) pssW) ?_
  refine ⟨_, hσ, a, ns, m, rfl, hS, hn, hm, fun D bs H' sH eD nd nD hb => ⟨D, rfl, ⟨_, .of eD⟩, ?_⟩⟩
  refine for_list (K := X.K) (a := D) (xs := bs.map V.ref) (fun i σ' H2 => σ'.length = σ.length ∧ H2 D = some (.lst (bs.map V.ref)) ∧ ∀ (l : Nat) (b : Addr), i ≤ l → bs[l]? = some b → BagOk H2 b bagN) ⟨rfl, eD, fun l b _ e => hb b (List.mem_of_getElem? e)⟩ (fun i σ' H2 _ h => .of h.2.1) ?_ ?_
  · rintro i v σ' H2 hi ⟨l, e2, hb2⟩
    rw [List.getElem?_map] at hi
    cases q0 : bs[i]? with
    | none => rw [q0] at hi; cases hi
    | some b =>
    rw [q0] at hi
    cases hi
    refine bag_turn (by rw [l]; exact hj) (hb2 i b (Nat.le_refl _) q0) (by rw [l]; exact body b) fun σ3 H3 l3 fr => ⟨l3.trans l, fr D _ (fun z => nD (z ▸ List.mem_of_getElem? q0)) e2, fun l' b' hl' e' => ?_⟩
    obtain ⟨z, w, t, e, r⟩ := hb2 l' b' (Nat.le_of_succ_le hl') e'
    refine ⟨z, w, t, fr b' _ (fun z => ?_) e, r⟩
    obtain ⟨g1, g2⟩ := List.getElem?_eq_some_iff.mp q0
    obtain ⟨g3, g4⟩ := List.getElem?_eq_some_iff.mp e'
    have := (List.nodup_iff_pairwise_ne.mp nd)
    have h4 := List.pairwise_iff_getElem.mp this i l' g1 g3 hl'
    rw [g2, g4] at h4
    exact h4 z.symm
  · rintro σ' H2 ⟨l, _, _⟩
    exact bb_raw (Q := E.rt) (by rw [l]; exact hrest) q _ rfl
end
end DL

namespace DL
open PySem PySem.Spec PyProof.Rows L2
/-! ### a comprehension that draws from a bag -/
theorem os_set_nil : ∀ {ρ : List Sl} {i : Nat} {s : Sl}, os ρ = [] → i < ρ.length → os (ρ.set i s) = s.ad
  | [], _, _, _, h => absurd h (Nat.not_lt_zero _)
  | t :: r, 0, s, e, _ => by
    have e2 : t.ad ++ os r = [] := e
    show s.ad ++ os r = s.ad
    rw [(List.append_eq_nil_iff.mp e2).2, List.append_nil]
  | t :: r, i + 1, s, e, h => by
    have e2 : t.ad ++ os r = [] := e
    show t.ad ++ os (r.set i s) = s.ad
    rw [(List.append_eq_nil_iff.mp e2).1, os_set_nil (List.append_eq_nil_iff.mp e2).2 (Nat.lt_of_succ_lt_succ h)]; rfl
theorem hide_len (vs : List Nat) : ∀ (i : Nat) (ρ : List Sl), (hideAt vs i ρ).length = ρ.length
  | _, [] => rfl
  | i, s :: r => congrArg Nat.succ (hide_len vs (i + 1) r)
section
variable {X : Cx} {ρ : List Sl} {pos : Pos} {Φ : PyData → List Sl → Prop} {tg : Expr}
def LcD (X : Cx) (scope : Scope) (ρ0 : List Sl) (tg elt : Expr) (vs : List Nat) (d : PyData) (Ξ : PyData → List Sl → Prop) : Prop :=
  ∃ js : List Nat, (∀ j ∈ js, j ∈ vs) ∧ ∀ (s : Shared) (H : Hp) (C : Addr) (cl : List (Str × Addr)) (fp : List Addr), GG (X.blk s H scope (compEnvC scope cl C X.env) fp) ρ0 tg d js fun ρ2 =>
    ∀ (s : Shared) (H : Hp) (C : Addr) (cl : List (Str × Addr)) (fp : List Addr), EE (X.blk s H scope (compEnvC scope cl C X.env) fp) ρ2 elt Ξ
@[reducible] def LcKB (X : Cx) (scope : Scope) (tg elt : Expr) (vs : List Nat) (i : Nat) (g : Addr) (Φ : PyData → List Sl → Prop) (ds : List PyData) (ρ1 : List Sl) : Prop :=
  ∃ n0, ρ1[i]? = some (.bag g n0) ∧ i ∉ vs ∧ ds.length ≤ 1000000 ∧ ∃ I : Nat → List PyData → Nat → Prop, I 0 [] n0 ∧
    (∀ k d acc n, ds[k]? = some d → acc.length = k → I k acc n → LcD X scope ((hideAt vs 0 ρ1).set i (.bag g n)) tg elt vs d fun y ρ3 => ∃ n', ρ3[i]? = some (.bag g n') ∧ I (k + 1) (acc ++ [y]) n') ∧
    ∀ acc n, acc.length = ds.length → I ds.length acc n → Φ (.list acc) (ρ1.set i (.bag g n))
theorem ee_lcB {iter elt : Expr} {scope : Scope} (i : Nat) {g : Addr} (own : List (Str × Nat)) (ck : CK X) (ok : BlkOk X.N X.env.scope scope own) (h : II X ρ tg iter fun ds ρ1 => LcKB X scope tg elt (own.map (·.2)) i g Φ ds ρ1)
    (hs : ∀ x, foldedSetIterable iter X.env x = pure x := by intro _; rfl) : EE X ρ (.ListComp elt [⟨tg, iter, [], 0⟩] scope pos) Φ := fun F σ H Q S k => by
  obtain ⟨wi, hi, hr⟩ := h
  refine ofPE (pe_lc (g := lcG X scope tg) (tt := tYes) (te := lcE X scope elt) ck.calm ck.nd hi ok (fun s H C cl fp => ⟨fun pins s' σ H' v u Q I r h => pgW.run pins s' σ H' v u Q I r (h s H C cl fp)⟩)
    (fun s H C cl fp => pts_nil) (fun s H C cl fp => ⟨fun pins s' σ H' Q I h => peW.run pins s' σ H' Q I (h s H C cl fp)⟩) hs) ?_
  refine hr F σ H _ S fun J H1 ds ρ1 ⟨n0, hb0, hiv, hz, Iv, iv0, hst, hen⟩ S1 g1 jo => ?_
  generalize own.map (·.2) = vs at *
  intro D hD
  have sD := same_new (o := .lst []) hD
  have nD : D ∉ F.hd ++ os ρ1 := fun m => S1.ad D m hD
  have mo : g ∈ os ρ1 := os_at hb0 (List.mem_singleton.mpr rfl)
  have Dg : D ≠ g := fun z => nD (z ▸ List.mem_append_right _ mo)
  have ghd : g ∉ F.hd := S1.ap g mo
  obtain ⟨x0, ex0, ex1, bo0⟩ := S1.sl.get hb0
  subst ex1
  have li : i < ρ1.length := (List.getElem?_eq_some_iff.mp hb0).1
  refine ⟨fun k m H => m = ds.length - k ∧ k ≤ ds.length ∧ (∀ a o, a ≠ g → H1 a = some o → H a = some o) ∧ ∃ us acc n, H D = some (.lst us) ∧ BagOk H g n ∧ Iv k acc n ∧ acc.length = k ∧ RpAll (mask (D :: (F.hd ++ os ρ1)) H) us acc, ⟨ds.length, by omega, Nat.zero_le _, fun a o _ e => sD a o e, [], [], n0, upd_same, by
    obtain ⟨z, w, t, e, r⟩ := bo0
    exact ⟨z, w, t, sD _ _ e, r⟩, iv0, rfl, .nil⟩, ?_⟩
  rintro k' m H ⟨rfl, hk, s1, us, acc, n, eD, bo, hI, la, rD⟩
  have sG : Same (gh F ρ1 H1) H := fun a o e => by
    obtain ⟨na, ea⟩ := mask_some e
    exact s1 a o (fun z => na (z ▸ List.mem_append_right _ mo)) ea
  by_cases hlt : k' < ds.length
  · have hd : ds[k']? = some ds[k'] := List.getElem?_eq_getElem hlt
    refine .inr ⟨jo.go k' H _ sG hd, fun H' => (∀ a o, a ≠ g → H1 a = some o → H' a = some o) ∧ ∃ us acc n, H' D = some (.lst us) ∧ BagOk H' g n ∧ Iv (k' + 1) acc n ∧ acc.length = k' + 1 ∧ RpAll (mask (D :: (F.hd ++ os ρ1)) H') us acc, fun H' ⟨a, b⟩ => ⟨ds.length - (k' + 1), by omega, rfl, hlt, a, b⟩, fun x H' y s Hb C cl fp => ?_⟩
    obtain ⟨sH, rx⟩ := jo.yld k' H _ x H' sG hd y
    obtain ⟨js, hjs, hb1⟩ := hst k' _ acc n hd la hI
    have up1 : ∀ a, H1 a ≠ none → H a ≠ none := fun a ha => by
      by_cases z : a = g
      · obtain ⟨z1, w1, t1, e1, _⟩ := bo
        rw [z, e1]; exact fun z => nomatch z
      · cases q0 : H1 a with
        | none => exact absurd q0 ha
        | some o => rw [s1 a o z q0]; exact fun z => nomatch z
    have up : ∀ a ∈ D :: (F.hd ++ os ρ1), H a ≠ none := fun a ma => by
      rcases List.mem_cons.mp ma with z | z
      · rw [z, eD]; exact fun z => nomatch z
      · exact up1 a (S1.ad a z)
    have up' : ∀ a ∈ D :: (F.hd ++ os ρ1), H' a ≠ none := fun a ma => by
      cases q0 : H a with
      | none => exact absurd q0 (up a ma)
      | some o => rw [sH a o q0]; exact fun z => nomatch z
    have bo' : BagOk H' g n := by
      obtain ⟨z1, w1, t1, e1, r⟩ := bo
      exact ⟨z1, w1, t1, sH _ _ e1, r⟩
    have eo : os ((hideAt vs 0 ρ1).set i (.bag g n)) = [g] := os_set_nil (os_hide vs 0 ρ1) (by rw [hide_len]; exact li)
    -- the hidden ones, without the bag
    let hd' := (D :: (F.hd ++ os ρ1)).filter fun a => decide (a ≠ g)
    have hd'g : g ∉ hd' := fun m => of_decide_eq_true (List.mem_filter.mp m).2 rfl
    have cov : ∀ {ρ' : List Sl} {n'' : Nat}, ρ'[i]? = some (.bag g n'') → ∀ a, a ∈ D :: (F.hd ++ os ρ1) → a ∈ hd' ++ os ρ' := fun {ρ' n''} e a ma => by
      by_cases z : a = g
      · rw [z]; exact List.mem_append_right _ (os_at e (List.mem_singleton.mpr rfl))
      · exact List.mem_append_left _ (List.mem_filter.mpr ⟨ma, decide_eq_true z⟩)
    have em : ∀ H5 : Hp, gh ⟨hd', [g], H'⟩ ((hideAt vs 0 ρ1).set i (.bag g n)) H5 = mask (D :: (F.hd ++ os ρ1)) H5 := fun H5 => by
      funext a
      show mask (hd' ++ os _) H5 a = _
      rw [eo]
      by_cases ha : a ∈ D :: (F.hd ++ os ρ1)
      · rw [mask_in ha]
        refine mask_in ?_
        by_cases z : a = g
        · rw [z]; exact List.mem_append_right _ (List.mem_singleton.mpr rfl)
        · exact List.mem_append_left _ (List.mem_filter.mpr ⟨ha, decide_eq_true z⟩)
      · rw [mask_out ha]
        refine mask_out fun m => ha ?_
        rcases List.mem_append.mp m with z | z
        · exact (List.mem_filter.mp z).1
        · rw [List.mem_singleton.mp z]; exact List.mem_cons_of_mem _ (List.mem_append_right _ mo)
    have mk : Same (gh F ρ1 H1) (mask (D :: (F.hd ++ os ρ1)) H') := fun a o e => by
      obtain ⟨na, ea⟩ := mask_some e
      have : a ∉ D :: (F.hd ++ os ρ1) := fun m => by
        rcases List.mem_cons.mp m with z | z
        · rw [z, hD] at ea; cases ea
        · exact na z
      rw [mask_out this]
      exact sH a o (sG a o e)
    have S2 : Stt ⟨hd', [g], H'⟩ H' (wipe σ vs) ((hideAt vs 0 ρ1).set i (.bag g n)) := by
      refine ⟨fun a ma => up' a (List.mem_filter.mp ma).1, fun a o _ e => e, fun a e => e, by rw [eo]; simp, (fun a ma => by rw [eo] at ma; exact .inl ma), (fun a ma => by rw [eo] at ma; rw [List.mem_singleton.mp ma]; exact hd'g), ?_⟩
      have h1 : SlotsOk (gh ⟨hd', [g], H'⟩ ((hideAt vs 0 ρ1).set i (.bag g n)) H') H' (wipe σ vs) (hideAt vs 0 ρ1) := by
        refine slots_hide (G := gh F ρ1 H1) (H := H1) ?_ 0 S1.sl (wipe_length σ vs) fun j hj => wipe_out (by simpa using hj)
        rw [em]; exact mk
      have h2 := h1.set i (x := some (.ref g)) (s := .bag g n) ⟨rfl, bo'⟩
      have ew : (wipe σ vs)[i]? = some (some (V.ref g)) := (wipe_out hiv).trans ex0
      have ew2 : (wipe σ vs).set i (some (V.ref g)) = wipe σ vs := by
        apply List.ext_getElem?
        intro j
        rw [List.getElem?_set]
        by_cases z : i = j
        · subst z
          rw [if_pos rfl, if_pos (List.getElem?_eq_some_iff.mp ew).1, ew]
        · rw [if_neg z]
      rw [ew2] at h2
      exact h2
    have rx' : Rp (gh ⟨hd', [g], H'⟩ ((hideAt vs 0 ρ1).set i (.bag g n)) H') x ds[k'] := by
      rw [em]
      refine rx _ up fun a ma => ?_
      rcases List.mem_cons.mp ma with z | z
      · rw [z]; exact (mask_out nD).trans hD
      · exact mask_in z
    refine hb1 s Hb C cl fp _ (wipe σ vs) H' x _ S2 rx' fun σ2 ρ2 h2 S3 g3 e3 => ⟨?_, ?_⟩
    · rw [wipe_same e3.1 fun j hj => e3.2 j fun m => hj (hjs j m)]
      exact wipe_same (wipe_length σ vs) fun j hj => wipe_out hj
    · unfold tYes
      dsimp only
      rw [if_pos rfl]
      refine fun s Hb C cl fp => h2 s Hb C cl fp _ σ2 H' _ S3 fun y H4 d ρ4 ⟨n', hb4, hI4⟩ S5 g5 r5 => ?_
      have fr : ∀ a o, a ≠ g → H' a = some o → H4 a = some o := fun a o ha e => S5.fr a o (fun z => ha (List.mem_singleton.mp z)) e
      obtain ⟨_, _, _, bo4⟩ := S5.sl.get hb4
      have eD4 : H4 D = some (.lst us) := fr _ _ Dg (sH _ _ eD)
      have c2 : RpAll (mask (D :: (F.hd ++ os ρ1)) H4) us acc := RpAll.up (fun a o e => by
        obtain ⟨na, ea⟩ := mask_some e
        rw [mask_out na]
        exact fr a o (fun z => na (by rw [z]; exact List.mem_cons_of_mem _ (List.mem_append_right _ mo))) (sH a o ea)) _ _ rD
      have em2 : mask (D :: (F.hd ++ os ρ1)) (upd H4 D (.lst (us ++ [y]))) = mask (D :: (F.hd ++ os ρ1)) H4 := by
        funext a
        by_cases ha : a ∈ D :: (F.hd ++ os ρ1)
        · rw [mask_in ha, mask_in ha]
        · rw [mask_out ha, mask_out ha, upd_ne fun z => ha (by rw [z]; exact List.mem_cons_self)]
      refine ⟨us, eD4, big_lt (by rw [c2.length]; omega), fun a o ha ea => ?_, us ++ [y], acc ++ [d], n', upd_same, ?_, hI4, by rw [List.length_append, la]; rfl, ?_⟩
      · rw [upd_ne (ne_of_none ea hD)]
        exact fr a o ha (sH a o (s1 a o ha ea))
      · obtain ⟨z1, w1, t1, e1, r⟩ := bo4
        exact ⟨z1, w1, t1, by rw [upd_ne fun z => Dg z.symm]; exact e1, r⟩
      · rw [em2]
        exact c2.app (.cons (Rp.up (mask_sub (cov hb4)) _ _ r5) .nil)
  · have e : k' = ds.length := by omega
    subst e
    refine .inl ⟨jo.stop _ H sG rfl, ?_⟩
    have hg2 : H g ≠ none := by
      obtain ⟨z2, w2, t2, eo, hw⟩ := id bo
      rw [eo]
      exact fun z => nomatch z
    have eo2 : os (ρ1.set i (.bag g n)) = os ρ1 := os_set_same hb0 rfl
    obtain ⟨S2, ge⟩ := S1.chg (s := .bag g n) (H2 := H) hb0 rfl rfl s1 hg2 fun x ⟨ex, _⟩ => ⟨ex, bo⟩
    refine k _ H _ _ (hen acc n la hI) S2 (g1.trans ge) (.lst ?_ (RpAll.up (mask_sub fun a ma => ?_) _ _ rD))
    · rw [show gh F (ρ1.set i (.bag g n)) H = mask (F.hd ++ os ρ1) H by unfold gh; rw [eo2]]
      exact (mask_out nD).trans eD
    · rw [eo2] at ma
      exact List.mem_cons_of_mem _ ma
end
end DL

namespace DL
open PySem PySem.Spec PyProof.Rows L2
/-! ### isinstance(x, (bool, list, tuple)); equality of data -/
def isBLT (d : PyData) : Bool := isB d || (isL d || isT d)
theorem kit_blt (K : PySem.W.Frag) (d : PyData) : PySem.W.kitAny K (.type (tyD d)) [.type "bool", .type "list", .type "tuple"] = some (isBLT d) := by
  refine kitAny_cons (kit_ty (kit_bool d)) (fun h1 => ?_) (fun h1 => by unfold isBLT; rw [h1]; rfl)
  refine kitAny_cons (kit_ty (kit_list d)) (fun h2 => ?_) (fun h2 => by unfold isBLT; rw [h2, h1]; rfl)
  refine kitAny_cons (kit_ty (kit_tup d)) (fun h3 => ?_) (fun h3 => by unfold isBLT; rw [h3, h2, h1]; rfl)
  unfold isBLT; rw [h3, h2, h1]; exact kitAny_nil
section
variable {X : Cx} {ρ : List Sl} {e : Expr} {pos : Pos} {Φ : PyData → List Sl → Prop}
theorem ee_isBLT {p p1 p2 p3 pt : Pos} {kt} (ck : CK X) (h : EE X ρ e fun d ρ1 => Φ (.bool (isBLT d)) ρ1) (hg : Gl X "isinstance" := by rfl) (g1 : Gl X "bool" := by rfl) (g2 : Gl X "list" := by rfl) (g3 : Gl X "tuple" := by rfl)
    (he : starEach [e, .Tuple [.Name "bool" p1, .Name "list" p2, .Name "tuple" p3] kt pt] X.env = (false, eval e X.env) :: starEach [.Tuple [.Name "bool" p1, .Name "list" p2, .Name "tuple" p3] kt pt] X.env := by rfl) : EE X ρ (.Call (.Name "isinstance" p) [e, .Tuple [.Name "bool" p1, .Name "list" p2, .Name "tuple" p3] kt pt] [] pos) Φ := fun F σ H Q S k =>
  ofPE (pe_callB call_isiT hg (ck.bt _ (by simp [bNames])) (by decide +kernel) (pa_cons peW (pa_cons (pe_tup (pa_cons (pe_bltn (v := .ty "bool") g1 (ck.bt _ (by simp [bNames])) (by decide +kernel) rfl) (pa_cons (pe_bltn (v := .ty "list") g2 (ck.bt _ (by simp [bNames])) (by decide +kernel) rfl) (pa_cons (pe_bltn (v := .ty "tuple") g3 (ck.bt _ (by simp [bNames])) (by decide +kernel) rfl) pa_nil)))) pa_nil) he) (by decide) (by decide) he rfl)
    (h F σ H _ S fun v H' d ρ' q S' g r => ⟨big_le (by decide), fun tp hp => ⟨v, tp, _, _, _, _, rfl, upd_same, .cons (.ty _) (.cons (.ty _) (.cons (.ty _) .nil)), (Rp.up (mask_le.trans (same_new hp)) _ _ r).ty, kit_blt _ d, k _ _ _ ρ' q (S'.ext (same_new hp)) (g.trans (S'.gext (same_new hp))) (.bl _)⟩⟩)
end
/-- equal data, as a test -/
noncomputable def dEq (a b : PyData) : Bool := @decide (a = b) (Classical.propDecidable _)
theorem dEq_t {a b : PyData} (h : a = b) : dEq a b = true := by unfold dEq; exact @decide_eq_true _ (_) h
theorem dEq_f {a b : PyData} (h : a ≠ b) : dEq a b = false := by unfold dEq; exact @decide_eq_false _ (_) h
theorem dEq_of {a b : PyData} {r : Bool} (h : r = true ↔ a = b) : r = dEq a b := by
  cases r with
  | true => exact (dEq_t (h.mp rfl)).symm
  | false => exact (dEq_f fun e => nomatch h.mpr e).symm
theorem dEq_iff {a b : PyData} : dEq a b = true ↔ a = b := by unfold dEq; exact @decide_eq_true_iff _ (_)
/-- data of whole numbers, yes and no, none; lists, tuples of such, n deep -/
def Nst : Nat → PyData → Prop
  | _, .int _ => True
  | _, .bool _ => True
  | _, .none => True
  | n + 1, .list xs => xs.length ≤ 1000000 ∧ ∀ x ∈ xs, Nst n x
  | n + 1, .tuple xs => xs.length ≤ 1000000 ∧ ∀ x ∈ xs, Nst n x
  | _, _ => False
end DL

namespace DL
open PySem PySem.Spec PyProof.Rows L2 HT
/-! ### t[::-1], t a tuple -/
section
variable {prog : Program} {w : World} {A : Around} {E : Value → Shared → Prop} {s : Shared}
theorem back_places (n : Nat) : Builtin.Slice.slicePlaces ((n : Int) - 1) (-1) (-1) = n := by
  unfold Builtin.Slice.slicePlaces
  rw [if_neg (by decide)]
  by_cases h : (n : Int) - 1 > -1
  · rw [if_pos h, show (-(-1) : Int) = 1 by decide, Int.ediv_one]; omega
  · rw [if_neg h]; omega
theorem back_slice {sl : Addr} {vs : Value} {n : Nat} {Q : Int × Int × Nat → Shared → Prop} (sh : s.heap.IsSliceOf sl .none .none vs) (sp : IsPart vs (some (-1))) (q : Q ((n : Int) - 1, -1, n) s) :
    wpAny (model prog w) A (Builtin.Slice.sliceApplied (.ref sl) (pure (n : Int))) Q E s := by
  obtain ⟨ob, a1, a2, a3⟩ := sh
  unfold Builtin.Slice.sliceApplied Builtin.Slice.sliceFields
  refine wpAny_bind (wpAny_bind (wpAny_field a1 a3 (x := Value.none) rfl (wpAny_bind (wpAny_field a1 a3 (x := Value.none) rfl (wpAny_bind (wpAny_field a1 a3 (x := vs) rfl (wpAny_pure ?_)))))))
  refine wpAny_bind (slicePart_ sp ?_)
  show wpAny _ _ (if ((-1 : Int) == 0) = true then _ else _) _ _ s
  rw [if_neg (show ¬ ((-1 : Int) == 0) = true by decide)]
  refine wpAny_bind (slicePart_none (wpAny_bind (slicePart_none (wpAny_bind (wpAny_pure ?_)))))
  show wpAny _ _ (pure ((n : Int) - 1, (-1 : Int), Builtin.Slice.slicePlaces ((n : Int) - 1) (-1) (-1))) _ _ s
  rw [back_places]
  exact wpAny_pure q
theorem fm_congr {α β : Type} {f g : α → Option β} : ∀ l : List α, (∀ x ∈ l, f x = g x) → l.filterMap f = l.filterMap g
  | [], _ => rfl
  | x :: r, h => by
    rw [List.filterMap_cons, List.filterMap_cons, h x (.head _), fm_congr r fun y hy => h y (.tail _ hy)]
theorem back_pick (xs : Array Value) : ((List.range xs.size).filterMap fun (m : Nat) => xs[(((xs.size : Int) - 1) + (m : Int) * (-1)).toNat]?).toArray = xs.toList.reverse.toArray := by
  have e1 : ((List.range xs.size).filterMap fun (m : Nat) => xs[(((xs.size : Int) - 1) + (m : Int) * (-1)).toNat]?) = ((List.range xs.size).map fun k => xs.size - 1 - k).filterMap (xs[·]?) := by
    rw [List.filterMap_map]
    refine fm_congr _ fun m hm => ?_
    have hm := List.mem_range.mp hm
    show _ = xs[xs.size - 1 - m]?
    rw [show (((xs.size : Int) - 1) + (m : Int) * (-1)).toNat = xs.size - 1 - m by omega]
  rw [e1, PySem.W.krv_range, List.filterMap_reverse, PySem.W.krv_all]
theorem back_item {t sl : Addr} {xs : Array Value} {vs : Value} {Q : Value → Shared → Prop} (tp : IsTup s.heap t xs) (sh : s.heap.IsSliceOf sl .none .none vs) (sp : IsPart vs (some (-1)))
    (q : Q (.ref s.heap.objs.size) { s with heap := s.heap.push { cls := .type "tuple", data := .seq xs.toList.reverse.toArray } }) (zx : xs.size ≤ sizeLine) : wpAny (model prog w) A (getItem (.ref t) (.ref sl)) Q E s := by
  have fit : sizeOk (.seq xs.toList.reverse.toArray) := by
    show xs.toList.reverse.toArray.size ≤ sizeLine
    rw [List.size_toArray, List.length_reverse, Array.length_toList]
    exact zx
  obtain ⟨ob, a1, a2, a3⟩ := id sh
  have st : s.TypeIs (.ref sl) "slice" := ⟨ob, a1, a2⟩
  unfold getItem
  try with_reducible refine wpAny_holding ?_
  try refine wpAny_bind (wpAny_pure ?_)
  refine wpAny_bind (wpAny_sequenceKey tp.typeIs (by decide) ?_)
  refine wpAny_bind (wpAny_callSpecial?_slot (name := Str.ofString "__getitem__") tp.typeIs PyProof.Rows.slot_tuple_getitem (wpAny_call_entry PyProof.Rows.slot_tuple_getitem tp.typeIs entry_tuple_getitem ?_ (args_tuple_getitem _ _)))
  show wpAny _ _ (Builtin.Tuple.tupleItemsOf (.ref t) >>= _) _ _ s
  refine wpAny_bind (tupleItemsOf_ tp (wpAny_bind (wpAny_typeOf st ?_)))
  rw [if_pos (show (_ : Bool) = true by decide)]
  refine wpAny_bind (back_slice sh sp ?_)
  show wpAny _ _ (if ((((xs.size : Nat) : Int) - 1) == 0 && (-1 : Int) == 1 && xs.size == xs.size) = true then _ else _) _ _ s
  rw [if_neg (by rw [show ((-1 : Int) == 1) = false by decide, Bool.and_false, Bool.false_and]; exact Bool.false_ne_true), back_pick]
  first
    | exact wpAny_bind (m := Builtin.Tuple.tupleExact _) (wpAny_newObj_type (wpAny_pure ⟨_, rfl, wpAny_pure q⟩) fit)
    | exact wpAny_bind (m := Builtin.Tuple.tupleExact _) (wpAny_newObj_type (wpAny_bind (wpAny_pure (wpAny_pure ⟨_, rfl, wpAny_pure q⟩))) fit)
    | exact wpAny_bind (wpAny_bind (m := Builtin.Tuple.tupleExact _) (wpAny_newObj_type (wpAny_pure (wpAny_pure ⟨_, rfl, wpAny_pure q⟩)) fit))
    | exact wpAny_bind (wpAny_bind (m := Builtin.Tuple.tupleExact _) (wpAny_newObj_type (wpAny_pure ⟨_, rfl, wpAny_pure q⟩) fit))
end
section
variable {X : Cx}
def tBackT (K : PySem.W.Frag) (te : TE) : TE := fun σ H Q => te σ H fun x H1 => ∃ a xs, x = .ref a ∧ SqT K H1 a xs ∧ ∀ p, H1 p = none → Q (.ref p) (upd H1 p (.tup xs.reverse))
theorem pe_backT {e : Expr} {te : TE} {k : Nat} {p1 p2 p3 pos : Pos} (pe : PE X e te) : PE X (.Subscript e (.Slice none none (some (.UnaryOp .USub (.Constant (.int 1) k p1) p2)) p3) pos) (tBackT X.K te) := ⟨fun pins s σ H Q I0 h => by
  refine Subscript_ (thn (pe.run pins s σ H _ I0 h) fun v s1 ⟨x, H1, J1, r1, a, xs, ex, sq, q⟩ => ?_)
  subst ex
  cases r1
  have part : PO X (some (.UnaryOp .USub (.Constant (.int 1) k p1) p2)) (tPart (tUn (rU fun i => .int (-i)) (tC (.int 1)))) := po_some (pe_un un_neg pe_int)
  refine wpAny_Slice (thn (po_none.run pins s1 σ H1 (fun o G => o = none ∧ G = H1) J1 ⟨rfl, rfl⟩) fun b1 s2 ⟨o1, G1, J2, c1, d1, f1⟩ => ?_)
  subst d1 f1
  refine thn (po_none.run pins s2 σ _ (fun o G => o = none ∧ G = G1) J2 ⟨rfl, rfl⟩) fun b2 s3 ⟨o2, G2, J3, c2, d2, f2⟩ => ?_
  subst d2 f2
  refine thn (part.run pins s3 σ _ (fun o G => o = some (-1) ∧ G = G2) J3 ⟨1, rfl, -1, rfl, rfl, rfl⟩) fun b3 s4 ⟨o3, G3, J4, c3, d3, f3⟩ => ?_
  subst d3 f3
  cases c1
  cases c2
  have J5 : Inv X pins σ G3 { s4 with heap := s4.heap.push { cls := .type "slice", data := .fields #[.none, .none, b3] } } := J4.kept (t' := s4.toks) fun b ob z => Heap.get?_push_of_some _ z
  obtain ⟨its, r, tp, zx⟩ := J5.tuple sq
  have ln := r.length
  show wpAny (model X.prog X.w) X.A (subscriptTail e (.Slice none none (some (.UnaryOp .USub (.Constant (.int 1) k p1) p2)) p3) (.ref a) (.ref s4.heap.objs.size)) (EP X pins σ Q) X.xe { s4 with heap := s4.heap.push { cls := .type "slice", data := .fields #[.none, .none, b3] } }
  refine tail_any (ops := [.ref a, .ref s4.heap.objs.size]) tp.typeIs (PyProof.Rows.slot_tuple_getitem.lookup) ?_ (by with_unfolding_all rfl)
  refine back_item tp (Heap.IsSliceOf.new _ .none .none b3) c3 ?_ (by rw [List.size_toArray]; omega)
  refine ⟨.ref _, _, J5.laid (t' := s4.toks) (o := .tup xs.reverse) (fun b ob z => Heap.get?_push_of_some _ z) (Nat.le_refl _) ?_, rfl, q _ (J5.hok.fresh (Nat.le_refl _))⟩
  exact ⟨by rw [List.length_reverse]; exact zx, _, r.reverse, IsTup.new _ _⟩⟩
variable {ρ : List Sl} {e : Expr} {pos : Pos} {Φ : PyData → List Sl → Prop}
theorem ee_back {k : Nat} {p1 p2 p3 : Pos} (h : EE X ρ e fun d ρ1 => ∃ xs, d = .tuple xs ∧ Φ (.tuple xs.reverse) ρ1) : EE X ρ (.Subscript e (.Slice none none (some (.UnaryOp .USub (.Constant (.int 1) k p1) p2)) p3) pos) Φ := fun F σ H Q S k =>
  ofPE (pe_backT peW) (h F σ H _ S fun v H' d ρ' ⟨xs, ed, q⟩ S' g r => by
    subst ed
    cases r with
    | tup e1 r1 => exact ⟨_, _, rfl, .of (mask_le _ _ e1), fun p hp => (k.to g).new S' hp q fun e => .tup e (RpAll.up (mask_same (same_new hp)) _ _ r1).rv⟩)
end
end DL

namespace DL
open PySem PySem.Spec PyProof.Rows L2
/-! ### objects that are known whole -/
def kn (a : Addr) (o : Obj) : HO := .frz o (.ext fun h => h.get? a = some o)
theorem kn_ok {P : Program} {w : World} {H : Hp} {h : Heap} {a : Addr} {o : Obj} (e : h.get? a = some o) : ObjOk P w H h a (kn a o) := ⟨e, e, ⟨o, e⟩, fun h1 h2 p st => st o p⟩
theorem kn_get {P : Program} {w : World} {H : Hp} {h : Heap} {a : Addr} {o : Obj} (x : ObjOk P w H h a (kn a o)) : h.get? a = some o := x.1
abbrev lamO (q : Str) (params : Arguments) (body : Expr) (scope : Scope) (cl : List (Str × Addr)) (pm : Value) (c' : Addr) (ctv : Value) : Obj := PySem.W.kla_obj "<lambda>" q params body scope cl pm c' ctv
/-- a lambda is made by a def whose table is tracked: its code object is new, or one that the table tells -/
theorem mk_lam {X : Cx} {pins : List (Addr × Obj)} {σ : L2.St} {H : Hp} {s : Shared} {c T : Addr} {q : Str} {params : Arguments} {body : Expr} {scope : Scope} {pos : Pos} {E : Value → Shared → Prop} {Q : Value → Shared → Prop} {ps : Array Value}
    (I : Inv X pins σ H s) (B : LamX.TabB X.base X.mg c T) (hcode : X.env.code = .ref c) (eq : X.env.qual ++ "<lambda>" = q) (hT : H T = some (.tbl ps)) (tr : TriplesOk ps.toList)
    (kn0 : ∀ (p : Pos) (cv : Value), codeAmong p ps.toList = some cv → ∃ c, cv = .ref c ∧ H c = some (LamX.CodeO c q))
    (hdef : defaultsOf params X.env = ([], [])) (hfree : ∀ y ∈ scope.names, y.2 = .free → ∃ c, X.env.cells.lookup y.1 = some c)
    (k : ∀ (f c' : Addr) (pm ctv : Value) (ps' : Array Value) (H1 : Hp) (s' : Shared), Inv X pins σ H1 s' → H f = none → (∀ b o, b ≠ T → H b = some o → H1 b = some o) → H1 T = some (.tbl ps') → TriplesOk ps'.toList →
      (∀ (p : Pos) (cv : Value), codeAmong p ps'.toList = some cv → codeAmong p ps.toList = some cv ∨ cv = .ref c') → (H c' = none ∨ ∃ p : Pos, codeAmong p ps.toList = some (.ref c')) → H1 c' = some (LamX.CodeO c' q) →
      H1 f = some (kn f (lamO q params body scope (cloFrom X.env.cells scope.names []) pm c' ctv)) → Q (.ref f) s') :
    wpAny (model X.prog X.w) X.A (eval (.Lambda params body scope pos) X.env) Q E s := by
  subst eq
  refine PySem.W.kla_eval hdef ?_
  have bT : s.heap.BuiltinsAt X.mg T := B.bm.keeps I.bk
  have gT : s.heap.get? T = some { cls := .none, data := .fields ps } := I.hok T _ hT
  have szT := Heap.lt_size gT
  cases hc : codeAmong pos ps.toList with
  | none =>
    refine PySem.W.kla_makeFunction (mg := X.mg) (c := c) (P := T) (ps := ps) (closure_ok hfree) I.ok.glob (I.mod.glob.keeps I.bk) hcode (B.code.keeps I.bk) gT tr hc B.gP bT fun c' ctv h' tk hx hge hlt hrec htb => ?_
    obtain ⟨c2, oc, vs, t, e2, hoc, hd, hv⟩ := hrec
    cases e2
    have sz : s.heap.objs.size ≤ h'.objs.size := Nat.le_trans hge (Nat.le_of_lt hlt)
    have fC : H c' = none := I.hok.fresh hge
    have fF : H h'.objs.size = none := I.hok.fresh sz
    have I1 := LamX.inv_table (q := X.env.qual ++ "<lambda>") (t' := tk) (more := #[rawInt pos.line, rawInt pos.col, .ref c']) (h' := h') I hT hx htb hge ⟨oc, vs, t, hoc, hd, hv⟩
    have n1 : h'.objs.size ≠ c' := Nat.ne_of_gt hlt
    have n2 : h'.objs.size ≠ T := Nat.ne_of_gt (Nat.lt_of_lt_of_le szT sz)
    have nTc : T ≠ c' := ne_of_none hT fC
    have I2 := I1.laid (t' := tk) (a := h'.objs.size) (o := kn h'.objs.size (lamO (X.env.qual ++ "<lambda>") params body scope (cloFrom X.env.cells scope.names []) ((X.mg "__name__").getD .none) c' ctv))
      (h' := h'.push (lamO (X.env.qual ++ "<lambda>") params body scope (cloFrom X.env.cells scope.names []) ((X.mg "__name__").getD .none) c' ctv)) (fun b o e => Heap.get?_push_of_some _ e) (Nat.le_refl _) (kn_ok (Heap.get?_push_size _ rfl))
    have eL : (ps ++ #[rawInt pos.line, rawInt pos.col, .ref c']).toList = ps.toList ++ [rawInt pos.line, rawInt pos.col, .ref c'] := by simp
    refine k h'.objs.size c' _ ctv (ps ++ #[rawInt pos.line, rawInt pos.col, .ref c']) _ _ I2 fF (fun b o nb e => ?_) ?_ ?_ (fun p cv hcv => ?_) (.inl fC) ?_ upd_same
    · rw [upd_ne (ne_of_none e fF), upd_ne (ne_of_none e fC), upd_ne nb]
      exact e
    · rw [upd_ne (Ne.symm n2), upd_ne nTc, upd_same]
    · rw [eL]
      exact PySem.TriplesOk_snoc _ _ _ _ tr
    · rw [eL] at hcv
      exact LamX.among_app _ tr hcv
    · rw [upd_ne (Ne.symm n1), upd_same]
  | some cv =>
    obtain ⟨c', e, hco⟩ := kn0 pos cv hc
    subst e
    refine PySem.W.kla_makeFunctionHit (mg := X.mg) (c := c) (P := T) (ps := ps) (closure_ok hfree) I.ok.glob (I.mod.glob.keeps I.bk) hcode (B.code.keeps I.bk) gT tr hc bT fun ctv h' tk hx hsz => ?_
    have fF : H h'.objs.size = none := I.hok.fresh hsz
    have I2 := I.laid (t' := tk) (a := h'.objs.size) (o := kn h'.objs.size (lamO (X.env.qual ++ "<lambda>") params body scope (cloFrom X.env.cells scope.names []) ((X.mg "__name__").getD .none) c' ctv))
      (h' := h'.push (lamO (X.env.qual ++ "<lambda>") params body scope (cloFrom X.env.cells scope.names []) ((X.mg "__name__").getD .none) c' ctv)) (fun b o e => Heap.get?_push_of_some _ (hx b o e)) hsz (kn_ok (Heap.get?_push_size _ rfl))
    refine k h'.objs.size c' _ ctv ps _ _ I2 fF (fun b o _ e => ?_) ?_ tr (fun p cv hcv => .inl hcv) (.inr ⟨pos, hc⟩) ?_ upd_same
    · rw [upd_ne (ne_of_none e fF)]
      exact e
    · rw [upd_ne (ne_of_none hT fF)]
      exact hT
    · rw [upd_ne (ne_of_none hco fF)]
      exact hco
end DL

namespace DL
open PySem PySem.Spec PyProof.Rows L2
/-! ### a lambda without parameters over cells that stay -/
mutual
theorem Rp.over {H H' : Hp} (h1 : ∀ a xs, H a = some (.lst xs) → H' a = some (.lst xs)) (h2 : ∀ a xs, H a = some (.tup xs) → H' a = some (.tup xs)) : ∀ (d : PyData) (v : V), Rp H v d → Rp H' v d
  | .none, _, h => by cases h; exact .non
  | .bool b, _, h => by cases h; exact .bl b
  | .int i, _, h => by cases h; exact .int i
  | .str x, _, h => by cases h; exact .str x
  | .list ds, _, h => by
    cases h with
    | lst q a => exact .lst (h1 _ _ q) (RpAll.over h1 h2 ds _ a)
  | .tuple ds, _, h => by
    cases h with
    | tup q a => exact .tup (h2 _ _ q) (RpAll.over h1 h2 ds _ a)
  | .dict _, _, h => by cases h
theorem RpAll.over {H H' : Hp} (h1 : ∀ a xs, H a = some (.lst xs) → H' a = some (.lst xs)) (h2 : ∀ a xs, H a = some (.tup xs) → H' a = some (.tup xs)) : ∀ (ds : List PyData) (vs : List V), RpAll H vs ds → RpAll H' vs ds
  | [], _, h => by cases h; exact .nil
  | d :: ds, _, h => by
    cases h with
    | cons p q => exact .cons (Rp.over h1 h2 d _ p) (RpAll.over h1 h2 ds _ q)
end
/-- a cell that is known: it holds the datum d -/
def CellV (G : Hp) (c : Addr) (d : PyData) : Prop := ∃ (oc : Obj) (u : Value) (v : V), G c = some (kn c oc) ∧ oc.data = .cell (some u) ∧ RelV v u ∧ Rp G v d
def CellsV (G : Hp) : List (Str × Addr) → List PyData → Prop
  | [], [] => True
  | p :: cl, d :: ds => CellV G p.2 d ∧ CellsV G cl ds
  | _, _ => False
theorem CellV.up {G G' : Hp} (s : Same G G') {c : Addr} {d : PyData} (h : CellV G c d) : CellV G' c d := by
  obtain ⟨oc, u, v, a, b, r, p⟩ := h
  exact ⟨oc, u, v, s _ _ a, b, r, Rp.up s _ _ p⟩
theorem CellsV.up {G G' : Hp} (s : Same G G') : ∀ {cl : List (Str × Addr)} {ds : List PyData}, CellsV G cl ds → CellsV G' cl ds
  | [], [], _ => trivial
  | _ :: _, _ :: _, h => ⟨h.1.up s, CellsV.up s h.2⟩
  | [], _ :: _, h => h.elim
  | _ :: _, [], h => h.elim
theorem CellsV.vals {G : Hp} : ∀ {cl : List (Str × Addr)} {ds : List PyData}, CellsV G cl ds → ∃ vs : List V, RpAll G vs ds ∧ ∀ (i : Nat) (y : Str) (c : Addr) (v : V), cl[i]? = some (y, c) → vs[i]? = some v → ∃ oc u, G c = some (kn c oc) ∧ oc.data = .cell (some u) ∧ RelV v u
  | [], [], _ => ⟨[], .nil, fun i y c v e _ => by simp at e⟩
  | p :: cl, d :: ds, h => by
    obtain ⟨oc, u, v, a, b, r, q⟩ := h.1
    obtain ⟨vs, R, k⟩ := CellsV.vals h.2
    refine ⟨v :: vs, .cons q R, fun i y c w e1 e2 => ?_⟩
    cases i with
    | zero =>
      rw [List.getElem?_cons_zero] at e1 e2
      cases e1
      cases e2
      exact ⟨oc, u, a, b, r⟩
    | succ i =>
      rw [List.getElem?_cons_succ] at e1 e2
      exact k i y c w e1 e2
  | [], _ :: _, h => h.elim
  | _ :: _, [], h => h.elim
theorem CellsV.at {G : Hp} : ∀ {cl : List (Str × Addr)} {ds : List PyData}, CellsV G cl ds → ∀ p ∈ cl, ∃ oc u, G p.2 = some (kn p.2 oc) ∧ oc.data = .cell (some u)
  | [], _, _, p, m => nomatch m
  | p :: cl, d :: ds, h, q, m => by
    rcases List.mem_cons.mp m with z | z
    · obtain ⟨oc, u, v, a, b, r, _⟩ := h.1
      rw [z]
      exact ⟨oc, u, a, b⟩
    · exact CellsV.at h.2 q z
  | _ :: _, [], h, _, _ => h.elim
theorem CellsV.len {G : Hp} : ∀ {cl : List (Str × Addr)} {ds : List PyData}, CellsV G cl ds → cl.length = ds.length
  | [], [], _ => rfl
  | _ :: _, _ :: _, h => by rw [List.length_cons, List.length_cons, CellsV.len h.2]
  | [], _ :: _, h => h.elim
  | _ :: _, [], h => h.elim
theorem lookup_at : ∀ {cl : List (Str × Addr)} {i : Nat} {y : Str} {c : Addr}, (cl.map (·.1)).Nodup → cl[i]? = some (y, c) → cl.lookup y = some c
  | [], _, _, _, _, e => by simp at e
  | p :: cl, 0, y, c, _, e => by
    rw [List.getElem?_cons_zero] at e
    cases e
    rw [List.lookup_cons, beq_self_eq_true]
  | p :: cl, i + 1, y, c, nd, e => by
    rw [List.getElem?_cons_succ] at e
    obtain ⟨n1, n2⟩ := List.nodup_cons.mp nd
    have hne : (y == p.1) = false := beq_eq_false_iff_ne.mpr fun z => n1 (List.mem_map.mpr ⟨(y, c), List.mem_of_getElem? e, z⟩)
    rw [List.lookup_cons, hne]
    exact lookup_at n2 e
theorem snd_inj : ∀ {cl : List (Str × Addr)} {x y : Str} {c : Addr}, (cl.map (·.2)).Nodup → (x, c) ∈ cl → (y, c) ∈ cl → x = y
  | [], _, _, _, _, m, _ => nomatch m
  | p :: cl, x, y, c, nd, m1, m2 => by
    obtain ⟨n1, n2⟩ := List.nodup_cons.mp nd
    rcases List.mem_cons.mp m1 with z1 | z1
    · rcases List.mem_cons.mp m2 with z2 | z2
      · exact (Prod.mk.inj (z1.trans z2.symm)).1
      · exact absurd (List.mem_map.mpr ⟨(y, c), z2, by rw [← z1]⟩) n1
    · rcases List.mem_cons.mp m2 with z2 | z2
      · exact absurd (List.mem_map.mpr ⟨(x, c), z1, by rw [← z2]⟩) n1
      · exact snd_inj n2 z1 z2
/-- what is fixed of a lambda: no name of its own, its free names are ns -/
structure LamT (q : Str) (params : Arguments) (body : Expr) (scope : Scope) (ns : List Str) : Prop where
  kind : scope.kind = .function
  co : scope.isCoroutine = false
  gen : scope.isGenerator = false
  own : ∀ y ∈ scope.names, y.2 ≠ .local ∧ y.2 ≠ .cell
  free : ∀ y ∈ scope.names, y.2 = .free → y.1 ∈ ns
  nd : ns.Nodup
  bind : ∀ (cl : List (Str × Addr)) (pm cv ctv : Value), bindArgs (PySem.W.kla_fn "<lambda>" q params body scope cl pm cv ctv) ⟨[], []⟩ = pure []
abbrev lamE (q : Str) (scope : Scope) (cl : List (Str × Addr)) (L f c' : Addr) : Env := PySem.W.envX q scope L f (.ref c') cl
def lamX (P : Program) (w : World) (K : PySem.W.Frag) (mg : Str → Option Value) (base : Heap) (ns : List Str) (q : Str) (scope : Scope) (cl : List (Str × Addr)) (f c' : Addr) (A : Around) (outer : List Env) (s : Shared) (H : Hp) (E : XK) : Cx where
  prog := P
  w := w
  K := K
  mg := mg
  base := base
  A := A.deeper (lamE q scope cl s.heap.objs.size f c')
  N := ns
  s_0 := s
  H_0 := H
  env := lamE q scope cl s.heap.objs.size f c'
  outer := outer
  stack := lamE q scope cl s.heap.objs.size f c' :: outer
  ex := []
  fn := fun _ => false
  calm := true
  pn := []
  xe := fun e s' => wpAny (model P w) (A.deeper (lamE q scope cl s.heap.objs.size f c')) (leaving (lamE q scope cl s.heap.objs.size f c') e) (fun _ s'' => L2N.CX P w outer H s E e s'') (fun e' s'' => L2N.CX P w outer H s E e' s'') s'
/-- called while its free names hold ds, the lambda lets out an exception of the class C -/
def LamOk (P : Program) (w : World) (K : PySem.W.Frag) (mg : Str → Option Value) (base : Heap) (k : Nat) (q : Str) (params : Arguments) (body : Expr) (scope : Scope) (ns : List Str) (ds : List PyData) (C : Addr) : Prop :=
  LamT q params body scope ns ∧ ∀ (A : Around) (outer : List Env) (s : Shared) (H : Hp) (E : XK) (cl : List (Str × Addr)) (f c' : Addr), cl.map (·.1) = ns → Room k (A.deeper (lamE q scope cl s.heap.objs.size f c')) →
    ∀ (F : Fm) (σ : L2.St) (H1 : Hp) (Q : VK), F.po = [] → F.H0 = H1 → Stt F H1 σ (ds.map Sl.dat) → (∀ H', Same H1 H' → E (.ref C) none H') → tW (lamX P w K mg base ns q scope cl f c' A outer s H E) body σ H1 Q
/-- a door: a lambda over known cells, that lets out C -/
def DoorV (P : Program) (w : World) (K : PySem.W.Frag) (mg : Str → Option Value) (base : Heap) (k : Nat) (C : Addr) (G : Hp) (v : V) : Prop :=
  ∃ (f c' : Addr) (q : Str) (params : Arguments) (body : Expr) (scope : Scope) (cl : List (Str × Addr)) (pm ctv : Value) (ds : List PyData), v = .ref f ∧ G f = some (kn f (lamO q params body scope cl pm c' ctv)) ∧ G c' = some (LamX.CodeO c' q) ∧
    (cl.map (·.2)).Nodup ∧ CellsV G cl ds ∧ LamOk P w K mg base k q params body scope (cl.map (·.1)) ds C
theorem DoorV.up {P : Program} {w : World} {K : PySem.W.Frag} {mg : Str → Option Value} {base : Heap} {k : Nat} {C : Addr} {G G' : Hp} {v : V} (s : Same G G') (h : DoorV P w K mg base k C G v) : DoorV P w K mg base k C G' v := by
  obtain ⟨f, c', q, params, body, scope, cl, pm, ctv, ds, a, b, c, d, e, g⟩ := h
  exact ⟨f, c', q, params, body, scope, cl, pm, ctv, ds, a, s _ _ b, s _ _ c, d, e.up s, g⟩
theorem mask_none {l : List Addr} {H : Hp} {a : Addr} (h : H a = none) : mask l H a = none := by
  by_cases m : a ∈ l
  · exact mask_in m
  · exact (mask_out m).trans h
/-- cs as H has them, all else as H' -/
def back (cs : List Addr) (H H' : Hp) : Hp := fun b => if b ∈ cs then H b else H' b
theorem back_in {cs : List Addr} {H H' : Hp} {b : Addr} (h : b ∈ cs) : back cs H H' b = H b := by unfold back; rw [if_pos h]
theorem back_out {cs : List Addr} {H H' : Hp} {b : Addr} (h : b ∉ cs) : back cs H H' b = H' b := by unfold back; rw [if_neg h]
section
variable {P : Program} {w : World} {H H' : Hp} {h B : Heap} {cs : List Addr}
/-- the known things may be tracked no longer -/
theorem hok_less (x : HOk P w H h) (kc : ∀ c ∈ cs, ∃ o, H c = some (kn c o)) : HOk P w (mask cs H) h := fun a o e => by
  obtain ⟨h1, h2⟩ := mask_some e
  refine (x a o h2).stay (fun _ _ _ q => q) (fun b q => ?_) fun b xs q => ?_
  · refine (mask_out fun m => ?_).trans q
    obtain ⟨o', e'⟩ := kc b m
    rw [q] at e'
    cases e'
  · refine (mask_out fun m => ?_).trans q
    obtain ⟨o', e'⟩ := kc b m
    rw [q] at e'
    cases e'
/-- .. and be tracked again -/
theorem hok_back (x : HOk P w H' B) (no : ∀ c ∈ cs, H' c = none) (kc : ∀ c ∈ cs, ∃ o, H c = some (kn c o) ∧ B.get? c = some o) : HOk P w (back cs H H') B := fun a u e => by
  by_cases ha : a ∈ cs
  · rw [back_in ha] at e
    obtain ⟨o, e1, e2⟩ := kc a ha
    rw [e1] at e
    cases e
    exact kn_ok e2
  · rw [back_out ha] at e
    refine (x a u e).stay (fun _ _ _ q => q) (fun b q => ?_) fun b xs q => ?_
    · exact (back_out fun m => by rw [no b m] at q; cases q).trans q
    · exact (back_out fun m => by rw [no b m] at q; cases q).trans q
end
/-- an exception that left a call with fewer things tracked -/
theorem cx_back {P : Program} {w : World} {outer : List Env} {H : Hp} {s : Shared} {E : XK} {cs : List Addr} {e : Value} {s' : Shared} (hok : HOk P w H s.heap) (kc : ∀ c ∈ cs, ∃ o, H c = some (kn c o)) (nf : ∀ c ∈ cs, c ∉ frs outer)
    (x : L2N.CX P w outer (mask cs H) s (fun cls d H' => E cls d (back cs H H')) e s') : L2N.CX P w outer H s E e s' := by
  obtain ⟨a, B, H', cls, d, rfl, fl, ok, ub, na, os, ag, hE⟩ := x
  have get : ∀ c ∈ cs, ∃ o, H c = some (kn c o) ∧ s.heap.get? c = some o ∧ B.get? c = some o := fun c hc => by
    obtain ⟨o, e⟩ := kc c hc
    have g := kn_get (hok c _ e)
    exact ⟨o, e, g, ub.keep c o g (mask_in hc) (nf c hc)⟩
  have no : ∀ c ∈ cs, H' c = none := fun c hc => by
    obtain ⟨o, e, g, _⟩ := get c hc
    exact ub.free c o g (mask_in hc)
  have out : ∀ {b : Addr} {u : HO}, H b = some u → (∀ o, u ≠ kn b o) → b ∉ cs := fun {b u} e n m => by
    obtain ⟨o, e', _⟩ := get b m
    rw [e] at e'
    exact n o (Option.some.inj e')
  refine ⟨a, B, back cs H H', cls, d, rfl, fl, hok_back ok no (fun c hc => by
      obtain ⟨o, e, _, g⟩ := get c hc
      exact ⟨o, e, g⟩), ⟨fun b o g n hb => ub.keep b o g (mask_none n) hb, ub.slot, fun b o g n => ?_, ub.there, fun b xs q => ?_, fun b o xs q => ?_, fun b ps q => ?_⟩, ?_, os, ag, hE⟩
  · by_cases hb : b ∈ cs
    · rw [back_in hb]; exact n
    · rw [back_out hb]; exact ub.free b o g (mask_none n)
  · have hb := out q (fun o z => nomatch z)
    rw [back_out hb]
    exact ub.tups b xs ((mask_out hb).trans q)
  · by_cases hb : b ∈ cs
    · rw [back_in hb]; exact q
    · rw [back_out hb]
      exact ub.frzs b o xs ((mask_out hb).trans q)
  · have hb := out q (fun o z => nomatch z)
    rw [back_out hb]
    exact ub.tbls b ps ((mask_out hb).trans q)
  · have hb : a ∉ cs := fun m => by
      obtain ⟨o, _, _, g⟩ := get a m
      obtain ⟨_, n, _⟩ := fl
      rw [n] at g
      cases g
    rw [back_out hb]
    exact na
end DL

namespace DL
open PySem PySem.Spec PyProof.Rows L2
/-! ### a door is called -/
theorem start_dat {G H : Hp} {ds : List PyData} {vs : List V} (r : RpAll G vs ds) : SlotsOk G H (vs.map some) (ds.map Sl.dat) := by
  have := slots_start (H := H) 0 r
  rw [List.replicate_zero, List.replicate_zero, List.append_nil, List.append_nil] at this
  exact this
theorem os_dat (ds : List PyData) : os (ds.map Sl.dat) = [] := by
  have := os_start ds 0
  rw [List.replicate_zero, List.append_nil] at this
  exact this
theorem lam_start {P : Program} {w : World} {K : PySem.W.Frag} {mg : Str → Option Value} {base : Heap} {q : Str} {params : Arguments} {body : Expr} {scope : Scope} {cl : List (Str × Addr)} {f c' : Addr} {A : Around} {outer : List Env} {s : Shared} {H : Hp} {E : XK} {vs : List V} {h₁ : Heap} {tk : Nat}
    (L : LamT q params body scope (cl.map (·.1))) (nd : (cl.map (·.2)).Nodup) (hd : A.handled = none) (e0 : Env0 P w K mg base A outer s H) (kc : ∀ c ∈ cl.map (·.2), H c = none ∧ ∃ oc u, s.heap.get? c = some oc ∧ oc.data = .cell (some u))
    (hl : vs.length = cl.length) (hv : ∀ (i : Nat) (y : Str) (c : Addr) (v : V), cl[i]? = some (y, c) → vs[i]? = some v → ∃ oc u, s.heap.get? c = some oc ∧ oc.data = .cell (some u) ∧ RelV v u)
    (hns : h₁.Ns s.heap.objs.size fun y => ([] : List (Str × Value)).reverse.lookup y) (kp : ∀ b o, s.heap.get? b = some o → h₁.get? b = some o) :
    Inv (lamX P w K mg base (cl.map (·.1)) q scope cl f c' A outer s H E) [] (vs.map some) H { s with heap := h₁, toks := tk } := by
  have noA : ∀ b : Addr, b ∉ (lamX P w K mg base (cl.map (·.1)) q scope cl f c' A outer s H E).ex := fun b z => absurd (show b ∈ ([] : List Addr) from z) (by simp)
  have isC : ∀ {y : Str} {c : Addr}, cl.lookup y = some c → c ∈ cl.map (·.2) := fun {y c} e => List.mem_map.mpr ⟨(y, c), PySem.mem_of_lookup e, rfl⟩
  refine ⟨⟨e0.mod, L.kind, rfl, rfl, Nat.le_refl _, fun y z c e1 e2 => ?_, fun y hy => ?_, fun y c z _ => ?_, fun _ => hd, Around.frames_deeper e0.frames, .inr ⟨rfl, rfl⟩, fun b z => absurd z (noA b), e0.bs, e0.bsz, fun b _ _ => noA b,
      fun b z => absurd z (noA b), e0.funs, e0.frf⟩,
    rfl, e0.bare, Un.kept kp, ⟨_, hns, fun i y v e1 e2 e3 => ?_⟩, fun y c e => ?_, e0.hok.fresh (Nat.le_refl _), fun y c e => ?_, fun q hq => absurd (show q ∈ ([] : List (Addr × Obj)) ++ [] from hq) (by simp), e0.hok.kept kp, ?_⟩
  · exact snd_inj nd (PySem.mem_of_lookup (show cl.lookup y = some c from e1)) (PySem.mem_of_lookup (show cl.lookup z = some c from e2))
  · have hy : scope.names.lookup y = some .cell ∨ scope.names.lookup y = some .free := hy
    rcases hy with hy | hy
    · exact absurd rfl (L.own _ (PySem.mem_of_lookup hy)).2
    · obtain ⟨p, hp, e⟩ := List.mem_map.mp (L.free _ (PySem.mem_of_lookup hy) rfl)
      obtain ⟨i, hi⟩ := List.mem_iff_getElem?.mp hp
      exact ⟨p.2, lookup_at (i := i) L.nd (show cl[i]? = some (y, p.2) from by rw [hi]; exact congrArg some (Prod.ext e rfl))⟩
  · have z : false = true := z
    cases z
  · have e1 : (cl.map (·.1))[i]? = some y := e1
    rw [List.getElem?_map] at e1 e2
    cases ei : cl[i]? with
    | none => rw [ei] at e1; cases e1
    | some p =>
      rw [ei] at e1
      cases e1
      cases ev : vs[i]? with
      | none => rw [ev] at e2; cases e2
      | some v' =>
        rw [ev] at e2
        cases e2
        obtain ⟨oc, u, g1, g2, r⟩ := hv i p.1 p.2 v ei ev
        refine ⟨u, r, .inr ⟨?_, p.2, lookup_at (i := i) L.nd ei, oc, kp _ _ g1, g2⟩⟩
        have e3 : Vis scope p.1 := e3
        rcases e3 with k | k | k
        · exact absurd rfl (L.own _ (PySem.mem_of_lookup k)).1
        · exact absurd rfl (L.own _ (PySem.mem_of_lookup k)).2
        · exact .inr k
  · obtain ⟨_, oc, u, g1, g2⟩ := kc c (isC e)
    exact ⟨some u, oc, kp _ _ g1, g2⟩
  · exact (kc c (isC e)).1
  · show (vs.map some).length = (cl.map (·.1)).length
    rw [List.length_map, List.length_map, hl]
theorem run_door {P : Program} {w : World} {K : PySem.W.Frag} {mg : Str → Option Value} {base : Heap} {k : Nat} {C : Addr} {A : Around} {outer : List Env} {s : Shared} {H : Hp} {v : V} {Q : VK} {E : XK}
    (D : DoorV P w K mg base k C H v) (hr : Room (k + 1) A) (e0 : Env0 P w K mg base A outer s H) (wish : ∀ H', Same H H' → E (.ref C) none H') :
    ∃ f, v = .ref f ∧ codeAny (model P w) A (.call (.ref f) ⟨[], []⟩) (CR (L2N.CX P w) outer P w H s Q E) s := by
  obtain ⟨f, c', q, params, body, scope, cl, pm, ctv, ds, ev, hf, hc, nd, cells, L, act⟩ := D
  refine ⟨f, ev, ?_⟩
  have gf := kn_get (e0.hok f _ hf)
  obtain ⟨⟨oc, vs0, t, hoc, hdc, hvc⟩, _, _⟩ := e0.hok c' _ hc
  obtain ⟨csd, hcs⟩ : ∃ l, l = cl.map (·.2) := ⟨_, rfl⟩
  have isK : ∀ c ∈ csd, ∃ o, H c = some (kn c o) := fun c m => by
    rw [hcs] at m
    obtain ⟨p, hp, e⟩ := List.mem_map.mp m
    obtain ⟨o, _, e1, _⟩ := cells.at p hp
    rw [← e]
    exact ⟨o, e1⟩
  have nf : ∀ c ∈ csd, c ∉ frs outer := fun c m z => by
    obtain ⟨o, e⟩ := isK c m
    rw [e0.frf c z] at e
    cases e
  have lim : s.heap.NoLimit := e0.mod.nolimit.keeps fun b o e => (e0.bs b o e).1
  refine PySem.W.kla_callFunE hr.depth gf rfl L.co L.gen rfl ⟨c', oc, vs0, t, rfl, hoc, hdc, hvc⟩ ?_
  rw [L.bind]
  refine wpAny_pure (wpAny_newFunctionEnv (fun y hy => (L.own y hy).2) (fun y hy => absurd hy (by simp)) (fun h₁ hns hsb => ⟨lim.fresh _ hsb, ?_⟩) L.kind)
  show codeAny _ _ (.expr body (lamE q scope cl s.heap.objs.size f c')) _ _
  have kp : ∀ b o, s.heap.get? b = some o → h₁.get? b = some o := fun b o e => hsb.extBut b o (Nat.ne_of_lt (Heap.lt_size e)) (Heap.get?_push_of_some _ e)
  obtain ⟨us, R, at_⟩ := cells.vals
  have lsame : ∀ a xs, H a = some (.lst xs) → mask csd H a = some (.lst xs) := fun a xs e => (mask_out fun m => by
    obtain ⟨o, e'⟩ := isK a m
    rw [e] at e'
    cases e').trans e
  have tsame : ∀ a xs, H a = some (.tup xs) → mask csd H a = some (.tup xs) := fun a xs e => (mask_out fun m => by
    obtain ⟨o, e'⟩ := isK a m
    rw [e] at e'
    cases e').trans e
  have R2 : RpAll (mask csd H) us ds := RpAll.over lsame tsame ds us R
  have e1 : Env0 P w K mg base A outer s (mask csd H) := ⟨e0.frames, e0.mod, fun b o e => ⟨(e0.bs b o e).1, mask_none (e0.bs b o e).2⟩, e0.bsz, e0.funs, fun b m => mask_none (e0.frf b m), hok_less e0.hok isK, e0.bare⟩
  have J : Inv (lamX P w K mg base (cl.map (·.1)) q scope cl f c' A outer s (mask csd H) fun cls d H' => E cls d (back csd H H')) [] (us.map some) (mask csd H) { s with heap := h₁, toks := s.toks + ([] : List (Str × Value)).length } := by
    refine lam_start L nd hr.hd e1 (fun c m => ?_) (by rw [R.length, cells.len]) (fun i y c v a1 a2 => ?_) hns kp
    · refine ⟨mask_in (by rw [hcs]; exact m), ?_⟩
      obtain ⟨p, hp, e⟩ := List.mem_map.mp m
      obtain ⟨o, u, g1, g2⟩ := cells.at p hp
      rw [← e]
      exact ⟨o, u, kn_get (e0.hok _ _ g1), g2⟩
    · obtain ⟨oc, u, g1, g2, r⟩ := at_ i y c v a1 a2
      exact ⟨oc, u, kn_get (e0.hok _ _ g1), g2, r⟩
  have od := os_dat ds
  have S : Stt ⟨[], [], mask csd H⟩ (mask csd H) (us.map some) (ds.map Sl.dat) := by
    refine ⟨fun a m => (nomatch m), fun a o _ e => e, fun a e => e, by rw [od]; exact List.nodup_nil, (fun a m => by rw [od] at m; cases m), (fun a m => by rw [od] at m; cases m), ?_⟩
    refine start_dat ?_
    refine RpAll.up ?_ _ _ R2
    intro a o e
    refine (mask_out fun m => ?_).trans e
    rw [od] at m
    cases m
  have tw := act A outer s (mask csd H) (fun cls d H' => E cls d (back csd H H')) cl f c' rfl (hr.deeper _) ⟨[], [], mask csd H⟩ (us.map some) (mask csd H) (fun _ _ => False) rfl rfl S fun H' sm => by
    refine wish _ fun b o e => ?_
    by_cases hb : b ∈ csd
    · rw [back_in hb]; exact e
    · rw [back_out hb]
      exact sm b o ((mask_out hb).trans e)
  unfold tW at tw
  refine PySem.W.kla_codeExpr (wpAny_mono (tw [] _ J) (fun v s' hq => ?_) fun e s' hq => ?_)
  · obtain ⟨_, _, _, _, z⟩ := hq
    exact z.elim
  · have hq : wpAny (model P w) (A.deeper (lamE q scope cl s.heap.objs.size f c')) (leaving (lamE q scope cl s.heap.objs.size f c') e) (fun _ s'' => L2N.CX P w outer (mask csd H) s (fun cls d H' => E cls d (back csd H H')) e s'') (fun e' s'' => L2N.CX P w outer (mask csd H) s (fun cls d H' => E cls d (back csd H H')) e' s'') s' := hq
    exact wpAny_mono hq (fun _ s'' x => cx_back e0.hok isK nf x) fun e' s'' x => cx_back e0.hok isK nf x
/-- x() where the slot i holds a door -/
theorem pe_door {X : Cx} {k i : Nat} {x : Str} {W : WX} {p p2 : Pos} (tk : L2N.Takes X W) (hr : Room (k + 1) X.A) (hN : X.N[i]? = some x) (hv : Vis X.env.scope x) (hd : (x == ("__debug__" : Str)) = false := by decide) (hcd : (x == ("__classdict__" : Str)) = false := by decide) :
    PE X (.Call (.Name x p) [] [] p2) (fun σ H _ => ∃ (C : Addr) (v : V), σ[i]? = some (some v) ∧ DoorV X.prog X.w X.K X.mg X.base k C H v ∧ ∀ H', Same H H' → W (.ref C) none σ H') := by
  refine ⟨fun pins s σ H Q I h => ?_⟩
  obtain ⟨C, v, hs, D, wish⟩ := h
  refine wpAny_Call_Name_kw (thn ((pe_var (pos := p) (i := i) hN hv hd hcd).run pins s σ H (fun u H1 => u = v ∧ H1 = H) I ⟨v, hs, rfl, rfl⟩) fun u s1 ⟨v1, H1, I1, r1, q1⟩ => ?_)
  obtain ⟨e1, e2⟩ := q1
  subst e1
  rw [e2] at I1
  obtain ⟨f, ef, rc⟩ := run_door (Q := Q) (E := fun cls d H' => W cls d σ H') D hr I1.env0 wish
  subst ef
  obtain rfl : u = Value.ref f := r1
  have gf : ∃ q params body scope cl pm c' ctv, s1.heap.get? f = some (lamO q params body scope cl pm c' ctv) := by
    obtain ⟨f', c', q, params, body, scope, cl, pm, ctv, ds, ev, hf, _⟩ := D
    cases ev
    exact ⟨q, params, body, scope, cl, pm, c', ctv, kn_get (I1.hok f _ hf)⟩
  obtain ⟨q, params, body, scope, cl, pm, c', ctv, of1⟩ := gf
  refine PySem.W.callWith_F0 ⟨_, _, _, _, of1⟩ ?_
  refine wpAny_call (codeAny_mono rc fun r s' hq => ?_)
  cases r with
  | error e => exact tk e s' (L2N.XE.of_call I1 (fun _ _ _ z => z) hq)
  | ok fl =>
    cases fl with
    | ret u => exact I1.after hq
    | next => exact False.elim hq
    | brk => exact False.elim hq
    | cont => exact False.elim hq
end DL

namespace DL
open PySem PySem.Spec PyProof.Rows L2
/-! ### defs that let out an exception -/
abbrev SpecX := List PyData → Addr → Prop
def spX (S : SpecX) : Sp := fun vs H _ E => ∃ (hd : List Addr) (ds : List PyData) (C : Addr), (∀ a ∈ hd, H a ≠ none) ∧ RpAll (mask hd H) vs ds ∧ S ds C ∧ ∀ H', Same H H' → E (.ref C) none H'
def KnX (P : Program) (w : World) (K : PySem.W.Frag) (mg : Str → Option Value) (base : Heap) (k : Nat) (x : Str) (ps : List Str) (sp : Sp) : Prop :=
  ∃ (f : Addr) (fd : FuncData), FnOk P w K mg base (L2N.CX P w) k f fd ps sp ∧ mg x = some (.ref f) ∧ PySem.W.keepIn K (.ref f) = true ∧ Binds K fd ps []
theorem KnX.mono {P : Program} {w : World} {K : PySem.W.Frag} {mg : Str → Option Value} {base : Heap} {j k : Nat} {x : Str} {ps : List Str} {sp : Sp} (h : KnX P w K mg base j x ps sp) (hj : j ≤ k) : KnX P w K mg base k x ps sp := by
  obtain ⟨f, fd, a, b⟩ := h
  exact ⟨f, fd, a.mono hj, b⟩
def CalX (X : Cx) (x : Str) (ps : List Str) (sp : Sp) : Prop := ∃ k, Room k X.A ∧ KnX X.prog X.w X.K X.mg X.base k x ps sp
/-- the frame F, where an exception of the class C is taken at every heap to come -/
structure Rz (X : Cx) (F : Fm) (C : Addr) : Prop where
  po : F.po = []
  ex : ∃ W : WX, L2N.Takes X W ∧ ∀ σ H', Same F.H0 H' → W (.ref C) none σ H'
theorem Stt.grown {F : Fm} {H : Hp} {σ : L2.St} {ρ : List Sl} (S : Stt F H σ ρ) (e : F.po = []) : Same F.H0 H := fun a o q => S.fr a o (by rw [e]; exact fun z => nomatch z) q
def EF (X : Cx) (F : Fm) (ρ : List Sl) (e : Expr) : Prop := ∀ (σ : L2.St) (H : Hp) (Q : VK), Stt F H σ ρ → tW X e σ H Q
def SF (X : Cx) (F : Fm) (ρ : List Sl) (st : Stmt) : Prop := ∀ (σ : L2.St) (H : Hp) (D : Ends), Stt F H σ ρ → tS X st D σ H
def BF (X : Cx) (F : Fm) (ρ : List Sl) (sts : List Stmt) : Prop := ∀ (σ : L2.St) (H : Hp) (D : Ends), Stt F H σ ρ → tB X sts D σ H
section
variable {X : Cx} {F : Fm} {C : Addr} {ρ : List Sl} {e a b c : Expr} {es : List Expr} {pos : Pos} {st : Stmt} {sts t u : List Stmt}
theorem ef_call {x : Str} {ps : List Str} {S : SpecX} {p : Pos} (z : Rz X F C) (cl : CalX X x ps (spX S)) (h : EA X ρ (e :: es) fun ds _ => S ds C) (hg : Gl X x := by rfl)
    (hdb : (x == ("__debug__" : Str)) = false := by decide) (he : starEach (e :: es) X.env = (false, eval e X.env) :: starEach es X.env := by rfl) (hpl : (backTo pos (starEach es X.env)).any (·.1) = false := by rfl) : EF X F ρ (.Call (.Name x p) (e :: es) [] pos) := fun σ H Q St => by
  obtain ⟨j, hr, f, fd, G, hm, kp, bd⟩ := cl
  obtain ⟨po, W, tk, wish⟩ := z
  refine ofPE (pe_callSD G hr hg hm kp bd .nil (fun σ => L2N.passAt tk σ) paW hdb he hpl) (h F σ H _ St fun vs H' ds ρ' q St' g r => ?_)
  rw [List.append_nil]
  exact ⟨F.hd ++ os ρ', ds, C, St'.ad, r, q, fun H2 e2 => wish σ H2 fun a o q => e2 a o (St'.grown po a o q)⟩
theorem sf_expr (h : EF X F ρ e) (hs : swapsWith e none pos.line X.env = pure false := by rfl) : SF X F ρ (.Expr e pos) := fun σ H D S => ofPS (ps_expr peW hs) (h σ H _ S)
theorem sf_ret (h : EF X F ρ e) : SF X F ρ (.Return (some e) pos) := fun σ H D S => ofPS (ps_ret peW) (h σ H _ S)
theorem sf_raise {x m : Str} {j : Nat} {p p2 pc : Pos} (z : Rz X F C) (hc : X.calm = true) (q : PySem.W.excIn X.K C [.type "ValueError", .type "Exception", .type "BaseException", .type "object"] "ValueError.__new__" = true) (gC : X.mg x = some (.ref C)) (kC : PySem.W.keepIn X.K (.ref C) = true)
    (bC : PySem.W.subIn X.K (.ref C) (.type "BaseException") = some true) (tC : PySem.W.typeIn X.K (.ref C) = some (.type "type")) (hg : Gl X x := by rfl) (hdb : (x == ("__debug__" : Str)) = false := by decide) :
    SF X F ρ (.Raise (some (.Call (.Name x p) [.Constant (.str m) j p2] [] pc)) none pos) := fun σ H D S => by
  obtain ⟨po, W, tk, wish⟩ := z
  exact ofPS (L2N.ps_raise hc tk (L2N.pmk_own PySem.F.excBase_ValueError q gC kC (raises_own bC tC) hg hdb)) (wish σ H (S.grown po))
theorem sf_if (h : ET X ρ c fun b ρ1 => if b = true then BF X F ρ1 t else BF X F ρ1 u) : SF X F ρ (.If c t u pos) := fun σ H D S =>
  ofPS (ps_if ptW pssW pssW) (h F σ H _ S fun b H' ρ' q S' g => by
    cases b with
    | true => rw [if_pos rfl] at q; exact iteT (q σ H' D S')
    | false => rw [if_neg Bool.false_ne_true] at q; exact iteF (q σ H' D S'))
theorem bf_here (h : SF X F ρ st) : BF X F ρ (st :: sts) := fun σ H D S => ofPSs (pss_cons psW pssW) (h σ H _ S)
theorem bf_cons (h : SS X ρ st { nx := fun ρ1 => BF X F ρ1 sts, rt := fun _ _ => False }) : BF X F ρ (st :: sts) := fun σ H D S =>
  ofPSs (pss_cons psW pssW) (h F σ H _ S ⟨fun σ' H' ρ' q S' g => q σ' H' D S', fun v σ' H' d ρ' q _ _ _ => q.elim, fun σ' H' ρ' q _ _ => q.elim, fun σ' H' ρ' q _ _ => q.elim⟩)
end
section
variable {P : Program} {w : World} {K : PySem.W.Frag} {mg : Str → Option Value} {base : Heap}
theorem fn_X {x qual : Str} {st : Stmt} {f : Addr} {fd : FuncData} {N ps : List Str} {k : Nat} {S : SpecX} (F : Fun K x qual st f fd) (sc : FnScope N ps (defScope st)) (hbt : ∀ x ∈ bNames, mg x = none) (len : ∀ ds C, S ds C → ds.length = ps.length)
    (body : ∀ (cdv : Value) (A : Around) (outer : List Env) (s : Shared) (H : Hp) (E : XK) (ds : List PyData) (C : Addr) (Fr : Fm), Room k (A.deeper (envOfC qual (defScope st) s.heap.objs.size f cdv)) → CK (cxOf (L2N.CX P w) P w K mg base N qual (defScope st) f cdv A outer s H E) → S ds C →
      Rz (cxOf (L2N.CX P w) P w K mg base N qual (defScope st) f cdv A outer s H E) Fr C → BF (cxOf (L2N.CX P w) P w K mg base N qual (defScope st) f cdv A outer s H E) Fr (ds.map Sl.dat ++ List.replicate (N.length - ds.length) Sl.non) (defBody st)) :
    FnOk P w K mg base (L2N.CX P w) (k + 1) f fd ps (spX S) := by
  obtain ⟨_, _, _, _, _, _, cdv, _, _, e, lk, hcd⟩ := F.ex
  subst e
  refine fn_of lk hcd sc (fun vs H Q E h => ?_) fun A outer s H vs Q E hr h => ?_
  · obtain ⟨hd, ds, C, _, r, hS, _⟩ := h
    rw [r.length, len ds C hS]
  · obtain ⟨hd, ds, C, hh, r, hS, wish⟩ := h
    refine ⟨_, pssW, ?_⟩
    have ck : CK (cxOf (L2N.CX P w) P w K mg base N qual (defScope st) f cdv A outer s H E) := ⟨rfl, sc.nd, by
      show (A.deeper (envOfC qual (defScope st) s.heap.objs.size f cdv)).units + 100 < cLine
      have := hr.un
      omega, hbt⟩
    have eo := os_start ds (N.length - ds.length)
    have St : Stt ⟨hd, [], H⟩ H (start N vs) (ds.map Sl.dat ++ List.replicate (N.length - ds.length) Sl.non) := by
      refine ⟨hh, fun a o _ e => e, fun a e => e, by rw [eo]; exact List.nodup_nil, (fun a m => by rw [eo] at m; cases m), (fun a m => by rw [eo] at m; cases m), ?_⟩
      have h1 := slots_start (H := H) (N.length - ds.length) r
      show SlotsOk (mask (hd ++ os _) H) H _ _
      rw [eo, List.append_nil]
      unfold L2.start
      rw [r.length]
      exact h1
    exact body cdv A outer s H E ds C ⟨hd, [], H⟩ hr ck hS ⟨rfl, _, L2N.takes_of rfl rfl rfl rfl, fun _ H' sm => wish H' sm⟩ _ H _ St
end
theorem lamOk_of {P : Program} {w : World} {K : PySem.W.Frag} {mg : Str → Option Value} {base : Heap} {k : Nat} {q : Str} {params : Arguments} {body : Expr} {scope : Scope} {ns : List Str} {ds : List PyData} {C : Addr} (L : LamT q params body scope ns) (hbt : ∀ x ∈ bNames, mg x = none)
    (h : ∀ (A : Around) (outer : List Env) (s : Shared) (H : Hp) (E : XK) (cl : List (Str × Addr)) (f c' : Addr) (F : Fm), Room k (A.deeper (lamE q scope cl s.heap.objs.size f c')) → CK (lamX P w K mg base ns q scope cl f c' A outer s H E) → Rz (lamX P w K mg base ns q scope cl f c' A outer s H E) F C →
      EF (lamX P w K mg base ns q scope cl f c' A outer s H E) F (ds.map Sl.dat) body) : LamOk P w K mg base k q params body scope ns ds C := by
  refine ⟨L, fun A outer s H E cl f c' hcl hr F σ H1 Q po h0 S wish => ?_⟩
  have ck : CK (lamX P w K mg base ns q scope cl f c' A outer s H E) := ⟨rfl, L.nd, by
    show (A.deeper (lamE q scope cl s.heap.objs.size f c')).units + 100 < cLine
    have := hr.un
    omega, hbt⟩
  exact h A outer s H E cl f c' F hr ck ⟨po, _, L2N.takes_of rfl rfl rfl rfl, fun _ H' sm => wish H' (h0 ▸ sm)⟩ σ H1 Q S
end DL

namespace DL
open PySem PySem.Spec PyProof.Rows L2 HotX
/-! ### within an except suite: the ends of iterators, unpacking -/
section
variable {prog : Program} {w : World} {A : Around} {E : Value → Shared → Prop} {s : Shared}
/-- StopIteration, raised while x1 is handled -/
theorem stop_hot {α : Type} {h : Heap} {x1 : Addr} {Q : α → Shared → Prop} {g : Array GenState} {d : Drawn} {t : Tok} {os : OsState} (hot : HotAt A x1 h)
    (hE : ∀ (a : Addr) (h' : Heap), (∃ o, h'.get? a = some o ∧ o.cls = .type "StopIteration") → (∀ b o, h.get? b = some o → h'.get? b = some o) → E (.ref a) ⟨h', g, d, t, os⟩) :
    wpAny (model prog w) A (newExc (.type "StopIteration") []) (fun v s' => wpAny (model prog w) A (raiseNew v : Sem α) Q E s') E ⟨h, g, d, t, os⟩ := by
  obtain ⟨hh, o1, vs1, h1, d1, c1⟩ := hot
  simp only [newExc, newTuple]
  refine wpAny_bind (wpAny_newObj_type ?_ (by size_fits))
  refine wpAny_bind (m := firstArgMember _ _) (wpAny_of_eq (a := Value.none) (by first | rfl | (simp only [firstArgMember]; rfl)) ?_)
  refine wpAny_newObj_type ?_ (by size_fits)
  have k1 := Heap.get?_push_of_some { cls := .type "tuple", data := .seq ([] : List Value).toArray } h1
  refine raiseNew_hot ⟨hh, o1, vs1, Heap.get?_push_of_some _ k1, d1, c1⟩ (Nat.ne_of_lt (Heap.lt_size k1)) (Heap.get?_push_size _ rfl) rfl (by first | (simp; done) | (simp; omega)) ?_
  refine hE _ _ ⟨_, Heap.get?_update_self _ (Heap.get?_push_size _ rfl) rfl, rfl⟩ fun b o e => ?_
  have k2 := Heap.get?_push_of_some { cls := .type "tuple", data := .seq ([] : List Value).toArray } e
  rw [Heap.get?_update_other _ _ (Nat.ne_of_gt (Heap.lt_size k2))]
  exact Heap.get?_push_of_some _ k2
theorem hot_but {h h' : Heap} {x1 it : Addr} (hot : HotAt A x1 h) (e : Heap.ExtBut it h h') (ne : x1 ≠ it) : HotAt A x1 h' := by
  obtain ⟨hh, o1, vs1, h1, d1, c1⟩ := hot
  exact ⟨hh, o1, vs1, e _ _ ne h1, d1, c1⟩
theorem list_end_hot {it l x1 : Addr} {i : Nat} {items : Array Value} {Q : Option Value → Shared → Prop} (hot : HotAt A x1 s.heap) (ne : x1 ≠ it) (hit : s.heap.IsListIter it l i) (hl : s.heap.IsList l items) (hx : items[i]? = none)
    (hQ : ∀ h', Heap.ExtBut it s.heap h' → Q none { s with heap := h' }) : wpAny (model prog w) A (pyNext (.ref it)) Q E s := by
  obtain ⟨o, ho, hc, hd⟩ := id hit
  obtain ⟨ol, hol, _, nl, hdl⟩ := hl
  unfold pyNext
  refine wpAny_bind (wpAny_attempt (wpAny_callSpecial?_slot (name := Str.ofString "__next__") hit.typeIs slot_listiter_next (wpAny_call_entry slot_listiter_next hit.typeIs entry_listiter_next ?_ (args_listiter_next _))))
  show wpAny _ _ (field (.ref it) 0 >>= _) _ _ s
  refine wpAny_bind (wpAny_field ho hd (x := .ref l) rfl ?_)
  show wpAny _ _ (if (Value.ref l == Value.none) = true then _ else _) _ _ s
  rw [if_neg (show ¬ ((Value.ref l == Value.none) = true) from Bool.false_ne_true)]
  show wpAny _ _ (field (.ref it) 1 >>= _) _ _ s
  refine wpAny_bind (wpAny_field ho hd (x := .int i 0) rfl ?_)
  show wpAny _ _ (seqItems? (.ref l) >>= _) _ _ s
  refine wpAny_bind (wpAny_seqItems hol hdl ?_)
  simp only [Int.toNat_natCast, hx]
  have sb : Heap.ExtBut it s.heap (s.heap.update it (Obj.mapFields (·.setIfInBounds 0 Value.none))) := (Heap.SameBut.update ..).extBut
  refine wpAny_bind (wpAny_rule (wpAny_bind (wpAny_setField ho hd (by simp) ?_)))
  show wpAny _ _ (newExc (.type "StopIteration") [] >>= _) _ _ _
  refine wpAny_bind (stop_hot (A := A.in1) (hot_but (show HotAt A.in1 x1 s.heap from hot) sb ne) fun a h' ho' e => ?_)
  refine wpAny_bind (wpAny_isInstance (T := "StopIteration") (b := true) ho' isSubtype_stop ?_)
  exact wpAny_pure (hQ h' fun b o nb q => e b o (sb b o nb q))
theorem tup_end_hot {it t x1 : Addr} {i : Nat} {items : Array Value} {Q : Option Value → Shared → Prop} (hot : HotAt A x1 s.heap) (ne : x1 ≠ it) (hit : s.heap.IsTupleIter it t i) (ht : s.heap.IsTuple t items) (hx : items[i]? = none)
    (hQ : ∀ h', Heap.ExtBut it s.heap h' → Q none { s with heap := h' }) : wpAny (model prog w) A (pyNext (.ref it)) Q E s := by
  obtain ⟨o, ho, hc, hd⟩ := id hit
  obtain ⟨ot, hot2, _, nt, hdt⟩ := ht
  unfold pyNext
  refine wpAny_bind (wpAny_attempt (wpAny_callSpecial?_slot (name := Str.ofString "__next__") hit.typeIs F.slot_tuple_iterator_next (wpAny_call_entry F.slot_tuple_iterator_next hit.typeIs F.entry_tuple_iterator_next ?_ (F.args_tuple_iterator_next_1 _))))
  show wpAny _ _ (field (.ref it) 0 >>= _) _ _ s
  refine wpAny_bind (wpAny_field ho hd (x := .ref t) rfl ?_)
  show wpAny _ _ (if (Value.ref t == Value.none) = true then _ else _) _ _ s
  rw [if_neg (show ¬ ((Value.ref t == Value.none) = true) from Bool.false_ne_true)]
  show wpAny _ _ (field (.ref it) 1 >>= _) _ _ s
  refine wpAny_bind (wpAny_field ho hd (x := .int i 0) rfl ?_)
  show wpAny _ _ (seqItems? (.ref t) >>= _) _ _ s
  refine wpAny_bind (wpAny_seqItems hot2 hdt ?_)
  simp only [Int.toNat_natCast, hx]
  have sb : Heap.ExtBut it s.heap (s.heap.update it (Obj.mapFields (·.setIfInBounds 0 Value.none))) := (Heap.SameBut.update ..).extBut
  refine wpAny_bind (wpAny_rule (wpAny_bind (wpAny_setField ho hd (by simp) ?_)))
  show wpAny _ _ (newExc (.type "StopIteration") [] >>= _) _ _ _
  refine wpAny_bind (stop_hot (A := A.in1) (hot_but (show HotAt A.in1 x1 s.heap from hot) sb ne) fun a h' ho' e => ?_)
  refine wpAny_bind (wpAny_isInstance (T := "StopIteration") (b := true) ho' isSubtype_stop ?_)
  exact wpAny_pure (hQ h' fun b o nb q => e b o (sb b o nb q))
theorem unpack_hot {t x1 : Addr} {items : Array Value} {targets : List (Bool × (Value → Sem Unit))} {Q : Unit → Shared → Prop} (hot : HotAt A x1 s.heap) (ht : IsTup s.heap t items)
    (hn : targets.length = items.size) (hstar : targets.findIdx? (·.1) = none)
    (k : ∀ h', Heap.ExtBut s.heap.objs.size s.heap h' → wpAny (model prog w) A (assignInOrder (targets.map (·.2)) items.toList) Q E { s with heap := h' }) : wpAny (model prog w) A (unpack (.ref t) targets) Q E s := by
  unfold unpack
  rw [hn, hstar]
  refine wpAny_bind (wpAny_holding ?_)
  have lt : t ≠ s.heap.objs.size := by obtain ⟨o, ho, _⟩ := ht; exact Nat.ne_of_lt (Heap.lt_size ho)
  have lx : x1 ≠ s.heap.objs.size := by obtain ⟨_, o, _, ho, _⟩ := hot; exact Nat.ne_of_lt (Heap.lt_size ho)
  unfold unpackItems
  refine wpAny_bind ?_
  unfold notIterableAtAll
  refine wpAny_bind (wpAny_specialOf ht.typeIs slot_tuple_iter.lookup (wpAny_pure ?_))
  simp only [Bool.false_eq_true, if_false]
  refine wpAny_bind (wpAny_holding (iter_tuple ht ?_))
  have hot1 : HotAt A x1 (s.heap.push { cls := .type "tuple_iterator", data := .fields #[.ref t, rawInt 0] }) := hot_but (it := s.heap.objs.size) hot (fun b o _ e => Heap.get?_push_of_some _ e) lx
  refine wpAny_bind (wpAny_holding (draw_tuple lt items.size 0 _ _ ⟨_, Heap.get?_push_size _ rfl, rfl, rfl⟩ (ht.push _) (by omega) fun h₁ it1 sb1 => ?_))
  rw [show List.take items.size (List.drop 0 items.toList) = items.toList by rw [List.drop_zero]; exact List.take_of_length_le (by simp), if_neg (by simp)]
  have ht1 : IsTup h₁ t items := (ht.push _).extBut sb1.extBut lt
  refine wpAny_bind (wpAny_holding (tup_end_hot (hot_but hot1 sb1.extBut lx) lx it1 (show h₁.IsTuple t items from ht1) (by simp) fun h₂ e2 => ?_))
  simp only [Option.isSome_none, Bool.false_eq_true, if_false]
  exact wpAny_pure (k h₂ fun b o hb e => e2 b o hb (sb1.extBut b o hb (Heap.get?_push_of_some _ e)))
end
section
open L2H
/-- a, b = a tuple, within an except suite -/
theorem pg_tupH {X : Cx} {es : List Expr} {k : Nat} {t : TGs} {n : Nat} {pos : Pos} (hc : HotC X) (h : PGs X es t) (hn : (assignEach es X.env).length = n := by rfl) (hst : (assignEach es X.env).findIdx? (·.1) = none := by rfl) : PG X (.Tuple es k pos) (gTup X.K n t) := by
  refine ⟨fun pins s σ H v u Q I r hw => ?_⟩
  obtain ⟨a, xs, e1, hq, hl, hw⟩ := hw
  subst e1
  cases r
  obtain ⟨its, rv, ht, hz⟩ := I.tuple hq
  obtain ⟨x1, hot⟩ := hc.at I
  rw [PyProof.Rows.assign_Tuple]
  refine wpAny_bind (wpAny_standAt (unpack_hot hot ht (by simp [hn, ← hl, rv.length]) hst fun h' hx => ?_))
  have J : Inv X pins σ H { s with heap := h' } := I.kept (t' := s.toks) fun b o e => hx b o (Nat.ne_of_lt (Heap.lt_size e)) e
  exact h.run pins _ σ H xs _ Q J (by simpa using rv) hw
theorem hot_pin {X : Cx} {pins : List (Addr × Obj)} {σ : L2.St} {H : Hp} {s : Shared} {b : Addr} (hc : HotC X) (I : Inv X pins σ H s) (f : FpOk X pins H b) : ∃ x1, HotAt X.A x1 s.heap ∧ x1 ≠ b := by
  obtain ⟨p, ⟨hh, v1, e1, c1⟩, hp⟩ := hc
  exact ⟨p.1, ⟨hh, p.2, v1, (I.pin p (List.mem_append_left _ hp)).1, e1, c1⟩, f.2.2.2.2.2 p (List.mem_append_left _ hp)⟩
theorem turn_listH {P : Program} {w : World} {K : PySem.W.Frag} {tg : Expr} (a it : Addr) : TurnH P w K tg (Itl K a) [it] it (fun i h => h.IsListIter it a i) where
  mem := List.mem_singleton.mpr rfl
  obj := fun i h st b hb => by
    obtain rfl : b = it := List.mem_singleton.mp hb
    obtain ⟨o, e, c, d⟩ := st
    exact ⟨o, e, fun v z => by rw [d] at z; cases z⟩
  keep := fun i h h' st k => st.at fun o e => k it (List.mem_singleton.mpr rfl) o e
  item := by
    intro X hP hw hK hc i pins s σ H E I hf st hg
    subst hP hw hK
    obtain ⟨xs, x, hq, hx⟩ := hg
    obtain ⟨its, rv, p, hz⟩ := I.list hq
    obtain ⟨u, hu, ru⟩ := rv.get hx
    obtain ⟨f0, f1, f2, f3, f4, f5⟩ := hf it (List.mem_singleton.mpr rfl)
    refine wpAny_pyNext_list_item st p.isList (x := u) (by simpa using hu) fun h' st' sb => ?_
    have J : Inv X pins σ H { s with heap := h' } := I.turned (t' := s.toks) (fun b o hb e => (sb.2 b hb).trans e) f0 f1 f3 f4 f5
    obtain ⟨o, e, c, d⟩ := id st'
    exact ⟨u, rfl, go_of (s := { s with heap := h' }) e c d (by decide) ⟨x, H, J, ru, ⟨rfl, fun ys hy => by rw [I.list_inj hy hq]; exact hx⟩, st', fun b hb => (hf b hb).1⟩⟩
  done := by
    intro X hP hw hK hc i pins s σ H E I hf st hg
    subst hP hw hK
    obtain ⟨xs, hq, hx⟩ := hg
    obtain ⟨its, rv, p, hz⟩ := I.list hq
    have fo := hf it (List.mem_singleton.mpr rfl)
    obtain ⟨f0, f1, f2, f3, f4, f5⟩ := id fo
    have hl := rv.length
    obtain ⟨x1, hot, nx⟩ := hot_pin hc I fo
    exact list_end_hot hot nx st p.isList (by simp; omega) fun h' eb => ⟨rfl, I.turned (t' := s.toks) (fun b o hb e => eb b o hb e) f0 f1 f3 f4 f5⟩
  self := fun _ _ _ _ _ st h => wpAny_pyIter_listiter st h
theorem pi_listH {X : Cx} {tg l : Expr} {tl : TE} (hl : PE X l tl) : PIH X tg l (iList X.K tl) := by
  refine ⟨fun pins s σ H R I h => ?_⟩
  refine thn (hl.run pins s σ H _ I h) fun v s1 ⟨x, H1, J, r1, a, e, ⟨xs, hq⟩, q⟩ => ?_
  subst e
  cases r1
  obtain ⟨its, rv, p, hz⟩ := J.list hq
  refine wpAny_pyIter_list p.isList ⟨s1.heap.objs.size, [s1.heap.objs.size], _, _, H1, rfl, J.kept (t' := s1.toks) fun b o e => Heap.get?_push_of_some _ e, turn_listH a _, ⟨_, Heap.get?_push_size _ rfl, rfl, rfl⟩, fun b hb => ?_, q⟩
  obtain rfl : b = s1.heap.objs.size := List.mem_singleton.mp hb
  exact J.fpOk (Nat.le_refl _) (J.hok.fresh (Nat.le_refl _))
end
end DL

namespace DL
open PySem PySem.Spec PyProof.Rows L2 HotX L2H
/-! ### a list comprehension within an except suite -/
abbrev _root_.L2.Cx.blkH (X : Cx) (p : Addr × Obj) (s : Shared) (H : Hp) (scope : Scope) (cenv : Env) (fp : List Addr) : Cx := { X.blk s H scope cenv fp with pn := [p] }
theorem ok_pn {X : Cx} {pn : List (Addr × Obj)} (ok : X.Ok) : ({ X with pn := pn } : Cx).Ok :=
  ⟨ok.mod, ok.kind, ok.glob, ok.blt, ok.above, ok.inj, ok.has, ok.cab, ok.hd, ok.frames, ok.stk, ok.exf, ok.bs, ok.bsz, ok.noex, ok.exfs, ok.funs, ok.frf⟩
theorem lcH_core {X : Cx} {pins : List (Addr × Obj)} {s : Shared} {σ : L2.St} {H : Hp} {Q : VK} {elt tg iter : Expr} {ifs : List Expr} {scope : Scope} {own : List (Str × Nat)} {pos pos' : Pos} {wi : TI} {g : TG} {tt : TT} {te : TE} {use : Option (Value → Sem Unit)} {Qf : Value → Shared → Prop} {p : Addr × Obj}
    (hp1 : Hot1 X.A p) (hp : p ∈ X.pn) (hN : X.N.Nodup) (I : Inv X pins σ H s) (hi : PIH X tg iter wi) (ok : BlkOk X.N X.env.scope scope own)
    (hg : ∀ (s : Shared) (H : Hp) (C : Addr) (cl : List (Str × Addr)) (fp : List Addr), PG (X.blkH p s H scope (compEnvC scope cl C X.env) fp) tg g) (ht : ∀ (s : Shared) (H : Hp) (C : Addr) (cl : List (Str × Addr)) (fp : List Addr), PTs (X.blkH p s H scope (compEnvC scope cl C X.env) fp) ifs tt)
    (he : ∀ (s : Shared) (H : Hp) (C : Addr) (cl : List (Str × Addr)) (fp : List Addr), PE (X.blkH p s H scope (compEnvC scope cl C X.env) fp) elt te) (hs : ∀ x, foldedSetIterable iter X.env x = pure x)
    (h : tLc wi g tt te (own.map (·.2)) σ H Q)
    (hRR : ∀ D C s' m H', Inv X pins σ H' s' → Q (.ref D) H' → s'.heap.Ns C m → FpOk X pins H' C → compPost (model X.prog X.w) X.A X.xe use Qf (.ref D) C (.ok .next) s') :
    wpAny (model X.prog X.w) X.A (comprehension (.ListComp elt [⟨tg, iter, ifs, 0⟩] scope pos) scope X.env pos' (newList []) false (eval iter X.env) use) Qf X.xe s := by
  have hfree : ∀ y ∈ scope.names, y.2 = .free → ∃ c, X.env.cells.lookup y.1 = some c := fun y hy e => (ok.free y hy e).elim (fun k => I.ok.has _ (.inl k)) fun k => I.ok.has _ (.inr k)
  refine wpAny_comprehension_free (use := use) rfl hs (closure_ok hfree) ok.kind (fun y hy e => by rw [ok.uniq y hy, e]) (thn (hi.run pins s σ H _ I h) fun xv t1 hx => thn hx fun itv t2 h2 => ?_)
  obtain ⟨it, fp, tn, J, G2, e, J2, T, st2, f2, q⟩ := h2
  subst e
  refine wpAny_newObj_type (newEnv_comp ?_) (by show 0 ≤ sizeLine; decide)
  generalize hD : t2.heap.objs.size = D
  have hDn : G2 D = none := J2.hok.fresh (Nat.le_of_eq hD)
  obtain ⟨W, ⟨m0, w0⟩, turn⟩ := q D hDn
  generalize hs3 : ({ t2 with heap := t2.heap.push { cls := .type "list", data := .seq ([] : List Value).toArray } } : Shared) = t3
  have J3 : Inv X pins σ (upd G2 D (.lst [])) t3 := by
    rw [← hs3]
    refine J2.laid (t' := t2.toks) (fun b o e => Heap.get?_push_of_some _ e) (Nat.le_of_eq hD) ⟨Nat.zero_le _, [], 0, .nil, ?_⟩
    rw [← hD]
    exact Heap.get?_push_size _ rfl
  have h3 : t3.heap = t2.heap.push { cls := .type "list", data := .seq ([] : List Value).toArray } := by rw [← hs3]
  have sz : ∀ b ∈ fp, b < t2.heap.objs.size := fun b hb => let ⟨o, e, _⟩ := T.obj _ _ st2 b hb; Heap.lt_size e
  have f3 : ∀ b ∈ fp, FpOk X pins (upd G2 D (.lst [])) b ∧ b < t3.heap.objs.size := fun b hb => by
    have hlt := sz b hb
    refine ⟨⟨?_, (f2 b hb).2⟩, by rw [h3, Heap.size_push]; exact Nat.lt_succ_of_lt hlt⟩
    rw [upd_ne (by rw [← hD]; exact Nat.ne_of_lt hlt)]
    exact (f2 b hb).1
  have st3 : tn 0 t3.heap := T.keep _ _ _ st2 fun b _ o e => by rw [h3]; exact Heap.get?_push_of_some _ e
  have J4 := block_start J3 ok hN f3
  have pg := hg t3 (upd G2 D (.lst [])) t3.heap.objs.size (cellsFrom (t3.heap.objs.size + 1) scope.names (cloFrom X.env.cells scope.names [])) fp
  have pt := ht t3 (upd G2 D (.lst [])) t3.heap.objs.size (cellsFrom (t3.heap.objs.size + 1) scope.names (cloFrom X.env.cells scope.names [])) fp
  have pe := he t3 (upd G2 D (.lst [])) t3.heap.objs.size (cellsFrom (t3.heap.objs.size + 1) scope.names (cloFrom X.env.cells scope.names [])) fp
  show codeAny _ _ (.compStart (.ListComp elt [⟨tg, iter, ifs, 0⟩] scope pos) 0 (.ref it) (.ref D) (compEnvC scope (cellsFrom (t3.heap.objs.size + 1) scope.names (cloFrom X.env.cells scope.names [])) t3.heap.objs.size X.env)) (compPost (model X.prog X.w) X.A X.xe use Qf (.ref D) t3.heap.objs.size) { t3 with heap := pushCells (t3.heap.push { cls := .type "dict", data := .dict #[] }) scope.names }
  have nfp : ∀ b ∈ fp, (upd G2 D (.lst [])) b = none := fun b hb => (f3 b hb).1.1
  generalize hce : compEnvC scope (cellsFrom (t3.heap.objs.size + 1) scope.names (cloFrom X.env.cells scope.names [])) t3.heap.objs.size X.env = ce at J4 pg pt pe ⊢
  have cL : ce.locals = t3.heap.objs.size := by subst hce; rfl
  generalize hH3 : upd G2 D (.lst []) = G3 at J3 J4 pg pt pe w0 nfp f3
  generalize hs4 : ({ t3 with heap := pushCells (t3.heap.push { cls := .type "dict", data := .dict #[] }) scope.names } : Shared) = t4 at J4 ⊢
  have st4 : tn 0 t4.heap := T.keep _ _ _ st3 fun b _ o e => by rw [← hs4]; exact pushCells_keeps _ _ _ _ (Heap.get?_push_of_some _ e)
  -- the handled exception stands where it stood
  obtain ⟨pg1, pg2, pg3, pg4, pg5⟩ := J3.pin p (List.mem_append_left _ hp)
  have pfr : p.1 ∉ frs X.stack := fun z => (List.mem_cons.mp (J3.stkSub _ z)).elim pg3 pg4
  have pfp : p.1 ∉ fp := fun z => (f3 p.1 z).1.2.2.2.2.2 p (List.mem_append_left _ hp) rfl
  have lift : ∀ {σ' : L2.St} {H' : Hp} {s' : Shared}, Inv (X.blk t3 G3 scope ce fp) [] σ' H' s' → Inv (X.blkH p t3 G3 scope ce fp) [] σ' H' s' := fun {σ' H' s'} Z => by
    have k : s'.heap.get? p.1 = some p.2 := Z.base.keep p.1 p.2 pg1 pg2 pfr pfp
    have f : H' p.1 = none := Z.base.free p.1 p.2 pg1 pg2 pfp
    refine ⟨ok_pn Z.ok, Z.os, Z.bare, Z.base, Z.loc, Z.cell, Z.free, Z.freeC, fun q hq => ?_, Z.hok, Z.len⟩
    have hq : q ∈ [p] ++ [] := hq
    rw [List.append_nil] at hq
    obtain rfl := List.mem_singleton.mp hq
    refine ⟨k, f, fun z => ?_, pfr, pg5⟩
    have z : q.1 = ce.locals := z
    rw [cL] at z
    have lt := Heap.lt_size pg1
    rw [z] at lt
    exact Nat.lt_irrefl _ lt
  have hot : HotC (X.blkH p t3 G3 scope ce fp) := ⟨p, hp1, List.mem_singleton.mpr rfl⟩
  have stat : ∀ {σ' : L2.St} {H' : Hp} {s' : Shared}, Inv (X.blkH p t3 G3 scope ce fp) [] σ' H' s' → (∀ b ∈ fp, H' b = none) → ∀ b ∈ fp, FpOk (X.blkH p t3 G3 scope ce fp) [] H' b := fun {σ' H' s'} I' hn b hb =>
    ⟨hn b hb, (I'.ok.exf b hb).1, I'.ok.exfs b hb, .inl hb, fun x c e => (I'.ok.exf b hb).2 x c e, fun q hq => by
      have hq : q ∈ [p] ++ [] := hq
      rw [List.append_nil] at hq
      rw [List.mem_singleton.mp hq]
      exact fun z => pfp (z ▸ hb)⟩
  have loop : codeAny (model X.prog X.w) X.A (.compLoop (.ListComp elt [⟨tg, iter, ifs, 0⟩] scope pos) 0 (.ref it) (.ref D) ce) (compPost (model X.prog X.w) X.A X.xe use Qf (.ref D) t3.heap.objs.size) t4 := by
    refine compLoop_any (fun n s' => ∃ i H', Inv (X.blkH p t3 G3 scope ce fp) [] (wipe σ (own.map (·.2))) H' s' ∧ tn i s'.heap ∧ (∀ b ∈ fp, H' b = none) ∧ W i n H') ?_ m0 ⟨0, G3, lift J4, st4, nfp, w0⟩
    rintro n t5 ⟨i, G5, J5, st5, n5, w5⟩
    rcases turn i n G5 w5 with ⟨stop, qq⟩ | ⟨go, Nx, hNx, step⟩
    · have td := T.done (X.blkH p t3 G3 scope ce fp) rfl rfl rfl hot i [] t5 _ G5 (fun _ _ => False) J5 (stat J5 n5) st5 stop
      refine thnF td fun r t6 ⟨hr, J6⟩ => ?_
      subst hr
      have J7 : Inv X pins σ G5 t6 := J3.call' (ch := fp) J6.os J6.base J6.hok J6.bare fun b hb => ⟨(f3 b hb).1.2.2.2.1, (f3 b hb).1.2.1, (f3 b hb).1.2.2.2.2.1, (f3 b hb).1.2.2.2.2.2⟩
      have nC : G5 t3.heap.objs.size = none := by
        have z : G5 ce.locals = none := J6.free
        rw [cL] at z
        exact z
      obtain ⟨m, hn, _⟩ := J6.loc
      have hn : t6.heap.Ns ce.locals m := hn
      rw [cL] at hn
      exact hRR D t3.heap.objs.size t6 m G5 J7 qq hn (J3.fpOk (Nat.le_refl _) nC)
    · have ti := T.item (X.blkH p t3 G3 scope ce fp) rfl rfl rfl hot i [] t5 _ G5 (fun _ _ => False) J5 (stat J5 n5) st5 go
      refine thnF ti fun r t6 ⟨u, hr, h6⟩ => ?_
      subst hr
      refine thnF h6 fun _ t7 ⟨x, G7, J7, r7, y7, st7, n7⟩ => ?_
      have J7' := J7.pinned (stat J7 n7) (T.obj _ _ st7)
      refine thnF (pg.run _ t7 _ G7 x u _ J7' r7 (step x G7 y7)) fun _ t8 ⟨σ8, G8, J8, hw8, q8⟩ => ?_
      refine thnF (pt.run _ t8 σ8 G8 _ J8 q8) fun b t9 ⟨G9, J9, q9⟩ => ?_
      have fin : ∀ {s' : Shared} {H' : Hp}, Inv (X.blkH p t3 G3 scope ce fp) ([] ++ pinsAt fp t7.heap) σ8 H' s' → Nx H' → ∃ m, m < n ∧ ∃ i H', Inv (X.blkH p t3 G3 scope ce fp) [] (wipe σ (own.map (·.2))) H' s' ∧ tn i s'.heap ∧ (∀ b ∈ fp, H' b = none) ∧ W i m H' := fun {s' H'} I' nx => by
        obtain ⟨m', hm, w'⟩ := hNx H' nx
        have pin' : ∀ b ∈ fp, ∀ o, t7.heap.get? b = some o → s'.heap.get? b = some o ∧ H' b = none := fun b hb o e =>
          let z := I'.pin (b, o) (List.mem_append_right _ (List.mem_append_right _ (mem_pinsAt hb e)))
          ⟨z.1, z.2.1⟩
        have hl : (wipe σ (own.map (·.2))).length = σ8.length := by rw [← hw8, wipe_length]
        refine ⟨m', hm, i + 1, H', (I'.unpinned (pins := [])).weak hl (fun j v e => ?_), T.keep _ _ _ st7 fun b hb o e => (pin' b hb o e).1, fun b hb => ?_, w'⟩
        · rw [← hw8] at e
          exact (wipe_some e).1
        · obtain ⟨o, e, _⟩ := T.obj _ _ st7 b hb
          exact (pin' b hb o e).2
      cases b with
      | false =>
        simp only [Bool.false_eq_true, if_false] at q9 ⊢
        exact fin J9 q9
      | true =>
        simp only [if_true] at q9 ⊢
        refine thnF (pe.run _ t9 σ8 G9 _ J9 q9) fun z t10 ⟨yv, G10, J10, r10, acc, hD10, hz10, nx⟩ => ?_
        exact app_ok (X := X.blkH p t3 G3 scope ce fp) J10 hD10 hz10 r10 fun t11 J11 => fin J11 nx
  exact codeAny_compStart_list loop (T.self X.A 0 _ _ _ st4 loop)
theorem pe_lcH {X : Cx} {elt tg iter : Expr} {ifs : List Expr} {scope : Scope} {own : List (Str × Nat)} {pos : Pos} {wi : TI} {g : TG} {tt : TT} {te : TE} {p : Addr × Obj} (hp1 : Hot1 X.A p) (hp : p ∈ X.pn) (hN : X.N.Nodup) (hi : PIH X tg iter wi) (ok : BlkOk X.N X.env.scope scope own)
    (hg : ∀ (s : Shared) (H : Hp) (C : Addr) (cl : List (Str × Addr)) (fp : List Addr), PG (X.blkH p s H scope (compEnvC scope cl C X.env) fp) tg g) (ht : ∀ (s : Shared) (H : Hp) (C : Addr) (cl : List (Str × Addr)) (fp : List Addr), PTs (X.blkH p s H scope (compEnvC scope cl C X.env) fp) ifs tt)
    (he : ∀ (s : Shared) (H : Hp) (C : Addr) (cl : List (Str × Addr)) (fp : List Addr), PE (X.blkH p s H scope (compEnvC scope cl C X.env) fp) elt te) (hs : ∀ x, foldedSetIterable iter X.env x = pure x := by intro _; rfl) :
    PE X (.ListComp elt [⟨tg, iter, ifs, 0⟩] scope pos) (tLc wi g tt te (own.map (·.2))) := by
  refine ⟨fun pins s σ H Q I h => ?_⟩
  rw [eval_ListComp]
  refine lcH_core hp1 hp hN I hi ok hg ht he hs h fun D C s' m H' I' q hn f => ⟨m, hn, fun h'' sb => ?_⟩
  obtain ⟨f0, f1, f2, f3, f4, f5⟩ := f
  exact ⟨.ref D, H', I'.turned (t' := s'.toks) (fun b o hb e => (sb.2 b hb).trans e) f0 f1 f3 f4 f5, rfl, q⟩
end DL

namespace DL
open PySem PySem.Spec PyProof.Rows L2
/-! ### expressions whose values are known by what they are: lambdas, lists of them -/
def EV (X : Cx) (ρ : List Sl) (e : Expr) (Φ : Kw → List Sl → Prop) : Prop :=
  ∀ (F : Fm) (σ : L2.St) (H : Hp) (Q : VK), Stt F H σ ρ → (∀ v H' r ρ', Φ r ρ' → Stt F H' σ ρ' → Same (gh F ρ H) (gh F ρ' H') → r.R (gh F ρ' H') v → Q v H') → tW X e σ H Q
def KsOk (G : Hp) : List V → List Kw → Prop
  | [], [] => True
  | v :: vs, r :: rs => r.R G v ∧ KsOk G vs rs
  | _, _ => False
theorem KsOk.up {G G' : Hp} (s : Same G G') : ∀ {vs : List V} {rs : List Kw}, KsOk G vs rs → KsOk G' vs rs
  | [], [], _ => trivial
  | v :: vs, r :: rs, h => ⟨r.up _ _ _ s h.1, KsOk.up s h.2⟩
  | [], _ :: _, h => h.elim
  | _ :: _, [], h => h.elim
theorem KsOk.len {G : Hp} : ∀ {vs : List V} {rs : List Kw}, KsOk G vs rs → vs.length = rs.length
  | [], [], _ => rfl
  | v :: vs, r :: rs, h => by rw [List.length_cons, List.length_cons, KsOk.len h.2]
  | [], _ :: _, h => h.elim
  | _ :: _, [], h => h.elim
theorem KsOk.app {G : Hp} : ∀ {vs us : List V} {rs ts : List Kw}, KsOk G vs rs → KsOk G us ts → KsOk G (vs ++ us) (rs ++ ts)
  | [], _, [], _, _, g => g
  | v :: vs, _, r :: rs, _, h, g => ⟨h.1, KsOk.app h.2 g⟩
  | [], _, _ :: _, _, h, _ => h.elim
  | _ :: _, _, [], _, h, _ => h.elim
theorem KsOk.mem {G : Hp} : ∀ {vs : List V} {rs : List Kw}, KsOk G vs rs → ∀ v ∈ vs, ∃ r ∈ rs, r.R G v
  | [], _, _, v, m => nomatch m
  | u :: vs, r :: rs, h, v, m => by
    rcases List.mem_cons.mp m with e | m
    · rw [e]; exact ⟨r, .head _, h.1⟩
    · obtain ⟨r', m', q⟩ := KsOk.mem h.2 v m
      exact ⟨r', .tail _ m', q⟩
  | _ :: _, [], h, _, _ => h.elim
def kwList (rs : List Kw) : Kw := ⟨fun G v => ∃ a vs, v = .ref a ∧ G a = some (.lst vs) ∧ KsOk G vs rs, fun _ _ _ s ⟨a, vs, e, h, q⟩ => ⟨a, vs, e, s _ _ h, q.up s⟩⟩
def kwLam (q : Str) (params : Arguments) (body : Expr) (scope : Scope) (cl : List (Str × Addr)) : Kw :=
  ⟨fun G v => ∃ (f c' : Addr) (pm ctv : Value), v = .ref f ∧ G f = some (kn f (lamO q params body scope cl pm c' ctv)) ∧ G c' = some (LamX.CodeO c' q), fun _ _ _ s ⟨f, c', pm, ctv, e, h1, h2⟩ => ⟨f, c', pm, ctv, e, s _ _ h1, s _ _ h2⟩⟩
/-- the free names are cells of the maker -/
def freeIn (scope mk : Scope) : Bool := scope.names.all fun y => !decide (y.2 = .free) || decide (mk.names.lookup y.1 = some .cell)
theorem freeIn_cell {scope mk : Scope} (h : freeIn scope mk = true) : ∀ y ∈ scope.names, y.2 = .free → mk.names.lookup y.1 = some .cell := fun y hy e => by
  have z := List.all_eq_true.mp h y hy
  rw [decide_eq_true e, Bool.not_true, Bool.false_or] at z
  exact of_decide_eq_true z
def EVs (X : Cx) (ρ : List Sl) (es : List Expr) (Φ : List Kw → List Sl → Prop) : Prop :=
  ∀ (F : Fm) (σ : L2.St) (H : Hp) (Q : List V → Hp → Prop), Stt F H σ ρ → (∀ vs H' rs ρ', Φ rs ρ' → Stt F H' σ ρ' → Same (gh F ρ H) (gh F ρ' H') → KsOk (gh F ρ' H') vs rs → Q vs H') → tA X es σ H Q
theorem set_self {α : Type} : ∀ {l : List α} {i : Nat} {x : α}, l[i]? = some x → l.set i x = l
  | [], _, _, e => by simp at e
  | y :: l, 0, x, e => by rw [List.getElem?_cons_zero] at e; cases e; rfl
  | y :: l, i + 1, x, e => by rw [List.getElem?_cons_succ] at e; rw [List.set_cons_succ, set_self e]
section
variable {X : Cx} {ρ : List Sl} {e a b : Expr} {es : List Expr} {pos : Pos} {Φ : Kw → List Sl → Prop} {Ψ : List Kw → List Sl → Prop} {D : DE}
theorem ev_var (i : Nat) {x : Str} {r : Kw} (hs : ρ[i]? = some (.any r)) (q : Φ r ρ) (hN : X.N[i]? = some x := by rfl) (hv : Vis X.env.scope x := by first | exact Or.inl rfl | exact Or.inr (Or.inl rfl) | exact Or.inr (Or.inr rfl))
    (hd : (x == ("__debug__" : Str)) = false := by decide) (hcd : (x == ("__classdict__" : Str)) = false := by decide) : EV X ρ (.Name x pos) Φ := fun F σ H Q S k => by
  obtain ⟨y, e1, v, e2, h⟩ := S.sl.get hs
  subst e2
  exact ofPE (pe_var hN hv hd hcd) ⟨v, e1, k v H r ρ q S (Same.refl _) h⟩
theorem evs_nil (q : Ψ [] ρ) : EVs X ρ [] Ψ := fun F σ H Q S k => ofPA pa_nil (k [] H [] ρ q S (Same.refl _) trivial)
theorem evs_cons (h : EV X ρ e fun r ρ1 => EVs X ρ1 es fun rs ρ2 => Ψ (r :: rs) ρ2) (hs : starEach (e :: es) X.env = (false, eval e X.env) :: starEach es X.env := by rfl) : EVs X ρ (e :: es) Ψ := fun F σ H Q S k =>
  ofPA (pa_cons peW paW hs) (h F σ H _ S fun v H1 r ρ1 h1 S1 g1 r1 => h1 F σ H1 _ S1 fun vs H2 rs ρ2 h2 S2 g2 r2 => k (v :: vs) H2 (r :: rs) ρ2 h2 S2 (g1.trans g2) ⟨r.up _ _ _ g2 r1, r2⟩)
theorem ev_lst (h : EVs X ρ es fun rs ρ1 => rs.length ≤ 1000 ∧ Φ (kwList rs) ρ1) : EV X ρ (.List es pos) Φ := fun F σ H Q S k =>
  ofPE (pe_lst paW) (h F σ H _ S fun vs H1 rs ρ1 ⟨hl, h1⟩ S1 g1 r1 => ⟨big_le (by rw [r1.len]; omega), fun p hp => by
    have sm := same_new (o := .lst vs) hp
    exact k (.ref p) _ (kwList rs) ρ1 h1 (S1.ext sm) (g1.trans (S1.gext sm)) ⟨p, vs, rfl, (mask_out fun m => S1.ad p m hp).trans upd_same, r1.up (S1.gext sm)⟩⟩)
theorem ev_add (h : EV X ρ a fun ra ρ1 => EV X ρ1 b fun rb ρ2 => ∃ rs ts, ra = kwList rs ∧ rb = kwList ts ∧ rs.length + ts.length ≤ 1000 ∧ Φ (kwList (rs ++ ts)) ρ2) : EV X ρ (.BinOp a .Add b pos) Φ := fun F σ H Q S k =>
  ofPE (pe_op op_cat peW peW) (h F σ H _ S fun x H1 ra ρ1 h1 S1 g1 r1 => h1 F σ H1 _ S1 fun y H2 rb ρ2 ⟨rs, ts, e1, e2, hl, h2⟩ S2 g2 r2 => by
    subst e1
    subst e2
    obtain ⟨p1, vs, ex, m1, k1⟩ := (kwList rs).up _ _ _ g2 r1
    obtain ⟨p2, us, ey, m2, k2⟩ := r2
    subst ex
    subst ey
    refine ⟨p1, p2, vs, us, rfl, rfl, mask_le _ _ m1, mask_le _ _ m2, big_le (by rw [k1.len, k2.len]; omega), fun p hp => ?_⟩
    have sm := same_new (o := .lst (vs ++ us)) hp
    exact k (.ref p) _ (kwList (rs ++ ts)) ρ2 h2 (S2.ext sm) ((g1.trans g2).trans (S2.gext sm)) ⟨p, vs ++ us, rfl, (mask_out fun m => S2.ad p m hp).trans upd_same, (k1.app k2).up (S2.gext sm)⟩)
/-- a lambda, by a def whose table is in slot i -/
theorem ev_lam (i : Nat) {c T : Addr} {q : Str} {params : Arguments} {body : Expr} {scope : Scope} (hs : ρ[i]? = some (.tb T q)) (B : LamX.TabB X.base X.mg c T) (hc : X.env.code = .ref c) (eq : X.env.qual ++ "<lambda>" = q) (hq : Φ (kwLam q params body scope (cloFrom X.env.cells scope.names [])) ρ)
    (hdef : defaultsOf params X.env = ([], []) := by rfl) (hfr : freeIn scope X.env.scope = true := by rfl) : EV X ρ (.Lambda params body scope pos) Φ := fun F σ H Q S k => by
  unfold tW
  intro pins s I
  obtain ⟨y, e1, ps, hT, tr, look⟩ := S.sl.get hs
  refine mk_lam I B hc eq hT tr (fun p cv h => let ⟨c0, z1, z2⟩ := look p cv h; ⟨c0, z1, mask_le _ _ z2⟩) hdef (fun y hy e => I.ok.has _ (.inl (freeIn_cell hfr y hy e))) fun f c' pm ctv ps' H1 s' I1 hf keep hT1 tr1 look1 hc' hc1 hf1 => ?_
  have mo : T ∈ os ρ := os_at hs (List.mem_singleton.mpr rfl)
  have hid : ∀ b, H b = none → b ∉ F.hd ++ os ρ := fun b z m => S.ad b m z
  have g0 : Same (gh F ρ H) (gh F ρ H1) := fun b o z => by
    obtain ⟨z1, z2⟩ := mask_some z
    exact (mask_out z1).trans (keep b o (fun y => z1 (by rw [y]; exact List.mem_append_right _ mo)) z2)
  have e2 : ρ.set i (.tb T q) = ρ := set_self hs
  obtain ⟨S1, g1⟩ := S.chg (s := .tb T q) hs rfl rfl keep (by rw [hT1]; exact fun z => nomatch z) fun x _ => by
    rw [e2]
    refine ⟨ps', hT1, tr1, fun p cv hcv => ?_⟩
    rcases look1 p cv hcv with z | z
    · obtain ⟨c0, z1, z2⟩ := look p cv z
      exact ⟨c0, z1, g0 _ _ z2⟩
    · refine ⟨c', z, ?_⟩
      rcases hc' with n | ⟨p2, z2⟩
      · exact (mask_out (hid c' n)).trans hc1
      · obtain ⟨c0, z3, z4⟩ := look p2 _ z2
        cases z3
        exact g0 _ _ z4
  rw [e2] at S1
  refine ⟨.ref f, H1, I1, rfl, k (.ref f) H1 _ ρ hq S1 g0 ⟨f, c', pm, ctv, rfl, (mask_out (hid f hf)).trans hf1, ?_⟩⟩
  rcases hc' with n | ⟨p2, z2⟩
  · exact (mask_out (hid c' n)).trans hc1
  · obtain ⟨c0, z3, z4⟩ := look p2 _ z2
    cases z3
    exact g0 _ _ z4
theorem ss_setV (j : Nat) {x : Str} {px : Pos} (ck : CK X) (h : EV X ρ e fun r ρ1 => D.nx (ρ1.set j (.any r))) (hi : X.N[j]? = some x := by rfl) (hx : Loc X.env.scope x := by first | exact Or.inl rfl | exact Or.inr rfl) (hs : swapsWith e (some (.Name x px)) pos.line X.env = pure false := by rfl)
    (hf : X.fn x = true ∨ X.env.scope.names.lookup x = some .local := by first | exact .inl rfl | exact .inr rfl) : SS X ρ (.Assign [.Name x px] e pos) D := fun F σ H E S k =>
  ofPS (ps_set ck.nd hi hx peW hs hf) (h F σ H _ S fun v H' r ρ' q S' g r' => k.nx _ _ _ q (S'.set j rfl ⟨v, rfl, r'⟩) (g.trans (S'.gset j rfl)))
end
/-! ### a block with a wish for its very end -/
section
variable {X : Cx} {pins : List (Addr × Obj)} {σ : L2.St} {H : Hp} {s : Shared} {st : Stmt} {rest : List Stmt} {R : Flow → Shared → Prop}
theorem wp_cons (I : Inv X pins σ H s) {N : L2.St → Hp → Prop} (h : tS X st { nx := N, rt := fun _ _ => False } σ H) (k : ∀ s' σ' H', Inv X pins σ' H' s' → N σ' H' → wpAny (model X.prog X.w) X.A (execs rest X.env) R X.xe s') :
    wpAny (model X.prog X.w) X.A (execs (st :: rest) X.env) R X.xe s := by
  unfold tS at h
  refine wpAny_execs_cons (thn (h pins s I) fun f s1 q => ?_)
  cases f with
  | next =>
    obtain ⟨σ', H', I', q⟩ := q
    exact k s1 σ' H' I' q
  | ret v =>
    obtain ⟨_, _, _, _, _, z⟩ := q
    exact z.elim
  | brk =>
    obtain ⟨_, _, _, z⟩ := q
    exact z.elim
  | cont =>
    obtain ⟨_, _, _, z⟩ := q
    exact z.elim
theorem wp_ret {e : Expr} {pos : Pos} (I : Inv X pins σ H s) {Q : VK} (h : tW X e σ H Q) (k : ∀ s' v u H', Inv X pins σ H' s' → RelV v u → Q v H' → R (.ret u) s') : wpAny (model X.prog X.w) X.A (execs [.Return (some e) pos] X.env) R X.xe s := by
  unfold tW at h
  refine wpAny_execs_cons (wpAny_Return_some (thn (h pins s I) fun u s1 ⟨v, H1, I1, r1, q1⟩ => ?_))
  exact k s1 v u H1 I1 r1 q1
end
/-- behind a def's frame one thing more may be tracked: new since the call, known whole -/
theorem out_track {P : Program} {w : World} {fs : List Addr} {H H' : Hp} {h h' : Heap} {c : Addr} {o : Obj} (un : L2.Un fs [] H H' h h') (hok : HOk P w H' h') (new : h.objs.size ≤ c) (nc : H' c = none) (e : h'.get? c = some o) : L2.Un fs [] H (upd H' c (kn c o)) h h' ∧ HOk P w (upd H' c (kn c o)) h' := by
  have nl : ∀ b ob, h.get? b = some ob → b ≠ c := fun b ob q z => by
    rw [z] at q
    exact Nat.lt_irrefl _ (Nat.lt_of_lt_of_le (Heap.lt_size q) new)
  have ns : ∀ b u, H' b = some u → b ≠ c := fun b u q z => by rw [z, nc] at q; cases q
  refine ⟨⟨un.keep, un.slot, fun b ob q n hx => ?_, un.there, fun b xs q => ?_, fun b ob u q => ?_, fun b ps q => ?_⟩, fun b u q => ?_⟩
  · rw [upd_ne (nl b ob q)]; exact un.free b ob q n hx
  · have z := un.tups b xs q
    rw [upd_ne (ns b _ z)]; exact z
  · have z := un.frzs b ob u q
    rw [upd_ne (ns b _ z)]; exact z
  · obtain ⟨more, z⟩ := un.tbls b ps q
    exact ⟨more, by rw [upd_ne (ns b _ z)]; exact z⟩
  · by_cases hb : b = c
    · subst hb
      rw [upd_same] at q
      cases q
      exact kn_ok e
    · rw [upd_ne hb] at q
      refine (hok b u q).stay (fun _ _ _ z => z) (fun d z => ?_) fun d xs z => ?_
      · rw [upd_ne (ns d _ z)]; exact z
      · rw [upd_ne (ns d _ z)]; exact z
end DL

namespace DL
open PySem PySem.Spec PyProof.Rows L2
section
variable {P : Program} {w : World} {K : PySem.W.Frag} {mg : Str → Option Value} {base : Heap}
/-- a def's end, told of the state -/
def EndAt (outer : List Env) (P : Program) (w : World) (H : Hp) (s : Shared) (Q : VK) : Flow → Shared → Prop
  | .ret u, s' => CE outer P w H s Q u s'
  | .next, s' => CE outer P w H s Q .none s'
  | _, _ => False
/-- a def by its body, the end told of the state -/
theorem fn_raw {x qual : Str} {st : Stmt} {f : Addr} {fd : FuncData} {N ps : List Str} {k : Nat} {sp : Sp} (F : Fun K x qual st f fd) (S : FnScope N ps (defScope st)) (len : ∀ vs H Q E, sp vs H Q E → vs.length = ps.length)
    (body : ∀ (cdv : Value) (A : Around) (outer : List Env) (s : Shared) (H : Hp) (vs : List V) (Q : VK) (E : XK), fd.code = cdv → Room k (A.deeper (envOfC qual (defScope st) s.heap.objs.size f cdv)) → sp vs H Q E →
      ∀ s1 : Shared, Inv (cxOf CX0 P w K mg base N qual (defScope st) f cdv A outer s H E).nox [] (L2.start N vs) H s1 →
        wpAny (model P w) (A.deeper (envOfC qual (defScope st) s.heap.objs.size f cdv)) (execs (defBody st) (envOfC qual (defScope st) s.heap.objs.size f cdv)) (EndAt outer P w H s Q) (fun _ _ => False) s1) :
    FnOk P w K mg base CX0 (k + 1) f fd ps sp := by
  obtain ⟨_, _, _, _, _, _, cdv, _, _, e, lk, hcd⟩ := F.ex
  subst e
  refine ⟨len, fun A outer s H args us vs Q E hr e0 hb r hsp => ?_⟩
  have kx : K.In s.heap := e0.mod.kin.keeps fun b o z => (e0.bs b o z).1
  have nl : s.heap.NoLimit := e0.mod.nolimit.keeps fun b o z => (e0.bs b o z).1
  have hl := len _ _ _ _ hsp
  have kinds : ∀ y ∈ ps.zip us, (defScope st).names.lookup y.1 = some .local ∨ ((defScope st).names.lookup y.1 = some .cell ∧ ((cellsFrom (s.heap.objs.size + 1) (defScope st).names []).lookup y.1).isSome = true) := fun y hy =>
    (S.par y.1 (List.of_mem_zip (show (y.1, y.2) ∈ ps.zip us from hy)).1).elim .inl fun z => .inr ⟨z, PySem.W.cellsFrom_some _ _ _ (.inl z)⟩
  refine codeAny_call_function hr.depth (kx _ _ lk) rfl S.co S.gen rfl (PySem.W.codeRec_of kx hcd) (hb _ _ _ _ ?_)
  refine wpAny_newFunctionEnv_cells S.kind kinds fun env he s1 xx => ?_
  subst he
  refine ⟨nl.keeps xx.toInCall.keep, codeAny_func ?_⟩
  have J : Inv (cxOf CX0 P w K mg base N qual (defScope st) f cdv A outer s H E) [] (L2.start N vs) H s1 := inv_start S hr.hd e0 hl r xx
  refine wpAny_mono (body cdv A outer s H vs Q E rfl (hr.deeper _) hsp s1 (J.wish _)) (fun fl s' hs => ?_) fun e s' z => z.elim
  cases fl with
  | ret u => exact hs
  | next => exact hs
  | brk => exact hs.elim
  | cont => exact hs.elim
end
end DL

namespace DL
open PySem PySem.Spec PyProof.Rows L2
/-! ### a call during which some of one's own cells are known -/
def trk (cs : List Addr) (h : Heap) (H : Hp) : Hp := fun b => if b ∈ cs then (h.get? b).map (kn b) else H b
theorem trk_in {cs : List Addr} {h : Heap} {H : Hp} {b : Addr} {o : Obj} (m : b ∈ cs) (e : h.get? b = some o) : trk cs h H b = some (kn b o) := by unfold trk; rw [if_pos m, e]; rfl
theorem trk_out {cs : List Addr} {h : Heap} {H : Hp} {b : Addr} (m : b ∉ cs) : trk cs h H b = H b := by unfold trk; rw [if_neg m]
theorem run_cells {X : Cx} {k : Nat} {f : Addr} {fd : FuncData} {ps : List Str} {sp : Sp} {pins : List (Addr × Obj)} {σ : L2.St} {H : Hp} {s : Shared} {Q : VK} {us : List Value} {vs : List V} {cs : List Addr} (F : FnOk X.prog X.w X.K X.mg X.base CX0 k f fd ps sp) (hr : Room k X.A) (hb : Binds X.K fd ps [])
    (I : Inv X pins σ H s) (r : Vals vs us) (hcs : ∀ c ∈ cs, ∃ x, X.env.cells.lookup x = some c ∧ X.fn x = true) (h : sp vs (trk cs s.heap H) (fun v H' => Q v (mask cs H')) fun _ _ _ => False) :
    wpAny (model X.prog X.w) X.A (call (.ref f) us) (EP X pins σ Q) X.xe s := by
  have hl : us.length = ps.length := by rw [← r.length]; exact F.len _ _ _ _ h
  have bd := hb s us I.kIn (by rw [List.append_nil]; exact hl)
  rw [List.append_nil] at bd
  have free : ∀ c ∈ cs, H c = none := fun c m => let ⟨x, e, _⟩ := hcs c m; I.freeC x c e
  have there : ∀ c ∈ cs, ∃ o, s.heap.get? c = some o := fun c m => by
    obtain ⟨x, e, _⟩ := hcs c m
    obtain ⟨v, o, g, _⟩ := I.cell x c e
    exact ⟨o, g⟩
  have new : ∀ c ∈ cs, X.s_0.heap.objs.size ≤ c := fun c m => let ⟨x, e, fx⟩ := hcs c m; I.ok.cab x c fx e
  have nofr : ∀ c ∈ cs, c ∉ frs X.stack := fun c m z => by
    obtain ⟨x, e, _⟩ := hcs c m
    rcases List.mem_cons.mp (I.stkSub c z) with y | y
    · exact I.cne x c e y
    · obtain ⟨_, o, g, _⟩ := I.ok.funs.mem y
      exact Nat.lt_irrefl _ (Nat.lt_of_lt_of_le (Heap.lt_size g) (new c m))
  have ntr : ∀ b u, H b = some u → b ∉ cs := fun b u e m => by rw [free b m] at e; cases e
  have e0 := I.env0
  have ok2 : HOk X.prog X.w (trk cs s.heap H) s.heap := fun b u e => by
    by_cases m : b ∈ cs
    · obtain ⟨o, g⟩ := there b m
      rw [trk_in m g] at e
      cases e
      exact kn_ok g
    · rw [trk_out m] at e
      exact (I.hok b u e).stay (fun _ _ _ z => z) (fun d z => (trk_out (ntr d _ z)).trans z) fun d xs z => (trk_out (ntr d _ z)).trans z
  have e1 : Env0 X.prog X.w X.K X.mg X.base X.A X.stack s (trk cs s.heap H) := ⟨e0.frames, e0.mod, fun b o e => ⟨(e0.bs b o e).1, (trk_out fun m => Nat.lt_irrefl _ (Nat.lt_of_lt_of_le (Heap.lt_size e) (Nat.le_trans I.ok.bsz (new b m)))).trans (e0.bs b o e).2⟩, e0.bsz, e0.funs, fun b m => (trk_out fun z => nofr b z m).trans (e0.frf b m), ok2, e0.bare⟩
  refine wpAny_call (codeAny_mono (F.run X.A X.stack s (trk cs s.heap H) ⟨us, []⟩ us vs _ _ hr e1 bd r h) fun rr s' hq => ?_)
  cases rr with
  | error e => exact (show False from hq).elim
  | ok fl =>
    cases fl with
    | next => exact False.elim hq
    | brk => exact False.elim hq
    | cont => exact False.elim hq
    | ret u =>
      obtain ⟨v, H', os, bare, un, hok, rv, q⟩ := hq
      have known : ∀ c ∈ cs, ∃ o, s.heap.get? c = some o ∧ H' c = some (kn c o) ∧ s'.heap.get? c = some o := fun c m => by
        obtain ⟨o, g⟩ := there c m
        have z := un.frzs c o _ (trk_in m g)
        exact ⟨o, g, z, kn_get (hok c _ z)⟩
      refine I.after ⟨v, mask cs H', os, bare, ⟨fun b o g n nf nx => ?_, fun b o g n mf nx => ?_, fun b o g n nx => ?_, un.there, fun b xs e => ?_, fun b o u e => ?_, fun b ps e => ?_⟩, hok_less hok fun c m => ?_, rv, q⟩
      · by_cases m : b ∈ cs
        · obtain ⟨o2, g2, _, g3⟩ := known b m
          rw [g] at g2
          cases g2
          exact g3
        · exact un.keep b o g ((trk_out m).trans n) nf nx
      · exact un.slot b o g ((trk_out fun m => nofr b m mf).trans n) mf nx
      · by_cases m : b ∈ cs
        · exact mask_in m
        · exact mask_none (un.free b o g ((trk_out m).trans n) nx)
      · have m := ntr b _ e
        exact (mask_out m).trans (un.tups b xs ((trk_out m).trans e))
      · have m := ntr b _ e
        exact (mask_out m).trans (un.frzs b o u ((trk_out m).trans e))
      · have m := ntr b _ e
        obtain ⟨more, z⟩ := un.tbls b ps ((trk_out m).trans e)
        exact ⟨more, (mask_out m).trans z⟩
      · obtain ⟨o, _, z, _⟩ := known c m
        exact ⟨o, z⟩
/-- a name of one's own that lambdas have captured: its slot, its cell -/
structure Cap (X : Cx) (p : Str × Nat × Addr) : Prop where
  n : X.N[p.2.1]? = some p.1
  k : X.env.scope.names.lookup p.1 = some .cell
  c : X.env.cells.lookup p.1 = some p.2.2
  f : X.fn p.1 = true
theorem pe_callC {X : Cx} {k : Nat} {f : Addr} {fd : FuncData} {ps : List Str} {sp : Sp} {x : Str} {p pos : Pos} {e : Expr} {es : List Expr} {t : TA} {caps : List (Str × Nat × Addr)} (F : FnOk X.prog X.w X.K X.mg X.base CX0 k f fd ps sp) (hr : Room k X.A) (hg : Gl X x) (hm : X.mg x = some (.ref f)) (hk : PySem.W.keepIn X.K (.ref f) = true) (hb : Binds X.K fd ps [])
    (hcap : ∀ p ∈ caps, Cap X p) (ha : PA X (e :: es) t) (hdb : (x == ("__debug__" : Str)) = false := by decide) (he : starEach (e :: es) X.env = (false, eval e X.env) :: starEach es X.env := by rfl) (hpl : (backTo pos (starEach es X.env)).any (·.1) = false := by rfl) :
    PE X (.Call (.Name x p) (e :: es) [] pos) (fun σ H Q => (∀ p ∈ caps, ∃ v, σ[p.2.1]? = some (some v)) ∧ t σ H fun vs H1 => ∀ H2 : Hp, (∀ c ∈ caps.map (·.2.2), H1 c = none) → (∀ b, b ∉ caps.map (·.2.2) → H2 b = H1 b) →
      (∀ p ∈ caps, ∃ oc u v, σ[p.2.1]? = some (some v) ∧ H2 p.2.2 = some (kn p.2.2 oc) ∧ oc.data = .cell (some u) ∧ RelV v u) → sp vs H2 (fun v H' => Q v (mask (caps.map (·.2.2)) H')) fun _ _ _ => False) := by
  refine ⟨fun pins s σ H Q I ⟨hσ, h⟩ => ?_⟩
  refine wpAny_Call_Name_kw (ld_glob I hg hm ?_ hdb)
  refine PySem.W.callWith_K (h₀ := X.base) I.ok.mod.kin hk (thn (ha.run pos pins s σ H _ I h) fun us s1 ⟨vs, H1, I1, r, q⟩ => ⟨I1.kIn, ?_⟩) he hpl
  have own : ∀ c ∈ caps.map (·.2.2), ∃ x, X.env.cells.lookup x = some c ∧ X.fn x = true := fun c m => by
    obtain ⟨p, hp, e⟩ := List.mem_map.mp m
    rw [← e]
    exact ⟨p.1, (hcap p hp).c, (hcap p hp).f⟩
  refine run_cells (cs := caps.map (·.2.2)) F hr hb I1 r own (q _ (fun c m => let ⟨x, e, _⟩ := own c m; I1.freeC x c e) (fun b m => trk_out m) fun p hp => ?_)
  obtain ⟨v, hv⟩ := hσ p hp
  obtain ⟨m, _, look⟩ := I1.loc
  have cp := hcap p hp
  obtain ⟨u, ru, lk⟩ := look p.2.1 p.1 v cp.n hv (Or.inr (Or.inl cp.k))
  rcases lk with ⟨z, _⟩ | ⟨_, c2, z2, o, g, d⟩
  · have z : X.env.scope.names.lookup p.1 = some .local := z
    rw [cp.k] at z
    cases z
  · rw [cp.c] at z2
    cases z2
    exact ⟨o, u, v, hv, trk_in (List.mem_map.mpr ⟨p, hp, rfl⟩) g, d, ru⟩
end DL

namespace DL
open PySem PySem.Spec PyProof.Rows L2
/-! ### the law's loop, two tables of code objects at hand -/
theorem tb_nil {G H : Hp} {T : Addr} {q : Str} (h : H T = some (.tbl #[])) : TbAt G H T q := ⟨#[], h, True.intro, fun pos cv hc => by
  have z : codeAmong pos [] = some cv := hc
  simp [codeAmong] at z⟩
/-- what else is known of the tables' heap -/
theorem tb_mask {l : List Addr} {H : Hp} {T : Addr} {q : Str} (h : TbAt H H T q) (hl : ∀ a ∈ l, (∃ xs, H a = some (.lst xs)) ∨ ∃ ps, H a = some (.tbl ps)) : TbAt (mask l H) H T q := by
  obtain ⟨ps, h1, h2, h3⟩ := h
  refine ⟨ps, h1, h2, fun pos cv hc => ?_⟩
  obtain ⟨c, e1, e2⟩ := h3 pos cv hc
  refine ⟨c, e1, (mask_out fun m => ?_).trans e2⟩
  rcases hl c m with ⟨xs, z⟩ | ⟨ps, z⟩
  · rw [e2] at z
    have z := Option.some.inj z
    unfold LamX.CodeO at z
    cases z
  · rw [e2] at z
    have z := Option.some.inj z
    unfold LamX.CodeO at z
    cases z
/-- a slot that asks nothing of its name -/
theorem slots_put {G H : Hp} {s : Sl} : ∀ {σ : L2.St} {ρ : List Sl} (i : Nat), SlotsOk G H σ ρ → (∀ x, SlotOk G H x s) → SlotsOk G H σ (ρ.set i s)
  | [], [], _, _, _ => trivial
  | y :: xs, t :: ss, 0, h, q => ⟨q y, h.2⟩
  | y :: xs, t :: ss, i + 1, h, q => ⟨h.1, slots_put i h.2 q⟩
  | [], _ :: _, _, h, _ => h.elim
  | _ :: _, [], _, h, _ => h.elim
section
variable {X : Cx} {sts rest : List Stmt}
abbrev rhoT (n j t1 t2 : Nat) (b T1 T2 : Addr) (q1 q2 : Str) : List Sl := (((List.replicate n Sl.non).set j (.bag b bagN)).set t1 (.tb T1 q1)).set t2 (.tb T2 q2)
theorem turnT {σ : L2.St} {H : Hp} {j t1 t2 : Nat} {b T1 T2 : Addr} {q1 q2 : Str} (hj : j < σ.length) (h12 : T1 ≠ T2) (bo : BagOk H b bagN) (k1 : TbAt H H T1 q1) (k2 : TbAt H H T2 q2) (hjt : t1 ≠ j ∧ t2 ≠ j)
    (h : BB X (rhoT σ.length j t1 t2 b T1 T2 q1 q2) sts { nx := fun ρ => ρ.length = σ.length ∧ ρ[t1]? = some (.tb T1 q1) ∧ ρ[t2]? = some (.tb T2 q2), rt := fun _ _ => False }) {E : Ends}
    (k : ∀ σ' H', σ'.length = σ.length → (∀ a o, a ≠ b → a ≠ T1 → a ≠ T2 → H a = some o → H' a = some o) → TbAt H' H' T1 q1 → TbAt H' H' T2 q2 → E.nx σ' H') : tB X sts E (σ.set j (some (.ref b))) H := by
  have eb : ∃ xs, H b = some (.lst xs) := let ⟨z, w, t, e, _⟩ := bo; ⟨_, e⟩
  have e1 : ∃ ps, H T1 = some (.tbl ps) := let ⟨ps, e, _⟩ := k1; ⟨ps, e⟩
  have e2 : ∃ ps, H T2 = some (.tbl ps) := let ⟨ps, e, _⟩ := k2; ⟨ps, e⟩
  have n1 : T1 ≠ b := fun z => by
    obtain ⟨xs, e⟩ := eb
    obtain ⟨ps, e'⟩ := e1
    rw [z, e] at e'
    cases e'
  have n2 : T2 ≠ b := fun z => by
    obtain ⟨xs, e⟩ := eb
    obtain ⟨ps, e'⟩ := e2
    rw [z, e] at e'
    cases e'
  have m0 : ∀ a, a ∈ os ((List.replicate σ.length Sl.non).set j (.bag b bagN)) → a = b := fun a m => by
    rw [os_bag j b bagN σ.length hj] at m
    exact List.mem_singleton.mp m
  have m1 : ∀ a, a ∈ os (((List.replicate σ.length Sl.non).set j (.bag b bagN)).set t1 (.tb T1 q1)) → a = T1 ∨ a = b := fun a m => (os_set_sub m).elim (fun z => .inl (List.mem_singleton.mp z)) fun z => .inr (m0 a z)
  have m2 : ∀ a, a ∈ os (rhoT σ.length j t1 t2 b T1 T2 q1 q2) → a = T2 ∨ a = T1 ∨ a = b := fun a m => (os_set_sub m).elim (fun z => .inl (List.mem_singleton.mp z)) fun z => .inr (m1 a z)
  have nd0 : (os ((List.replicate σ.length Sl.non).set j (.bag b bagN))).Nodup := by rw [os_bag j b bagN σ.length hj]; simp
  have nd1 : (os (((List.replicate σ.length Sl.non).set j (.bag b bagN)).set t1 (.tb T1 q1))).Nodup := os_set_nodup nd0 (by show [T1].Nodup; simp) fun a m z => by
    rw [List.mem_singleton.mp (show a ∈ [T1] from m)] at z
    exact n1 (m0 _ z)
  have nd2 : (os (rhoT σ.length j t1 t2 b T1 T2 q1 q2)).Nodup := os_set_nodup nd1 (by show [T2].Nodup; simp) fun a m z => by
    rw [List.mem_singleton.mp (show a ∈ [T2] from m)] at z
    exact (m1 _ z).elim (fun y => h12 y.symm) n2
  have hid : ∀ a ∈ [] ++ os (rhoT σ.length j t1 t2 b T1 T2 q1 q2), (∃ xs, H a = some (.lst xs)) ∨ ∃ ps, H a = some (.tbl ps) := fun a m => by
    rcases m2 a m with z | z | z
    · rw [z]; exact .inr e2
    · rw [z]; exact .inr e1
    · rw [z]; exact .inl eb
  refine h ⟨[], [b, T1, T2], H⟩ _ H E ⟨(fun _ m => nomatch m), fun a o _ e => e, fun a e => e, nd2, (fun a m => .inl ?_), (fun a m z => nomatch z), ?_⟩ ⟨fun σ' H' ρ' ⟨hl, t1', t2'⟩ S' g => k σ' H' (S'.len.trans hl) (fun a o hb h1 h2 e => S'.fr a o (fun z => ?_) e) ?_ ?_, fun _ _ _ _ _ z => z.elim, fun _ _ _ z => z.elim, fun _ _ _ z => z.elim⟩
  · rcases m2 a m with z | z | z
    · rw [z]; exact .tail _ (.tail _ (.head _))
    · rw [z]; exact .tail _ (.head _)
    · rw [z]; exact .head _
  · have s0 := (non_slots (G := gh ⟨[], [b, T1, T2], H⟩ (rhoT σ.length j t1 t2 b T1 T2 q1 q2) H) (H := H) σ).set j (x := some (.ref b)) (s := .bag b bagN) ⟨rfl, bo⟩
    have s1 := slots_put (s := .tb T1 q1) t1 s0 fun x => tb_mask k1 hid
    exact slots_put (s := .tb T2 q2) t2 s1 fun x => tb_mask k2 hid
  · rcases List.mem_cons.mp z with y | y
    · exact hb y
    · rcases List.mem_cons.mp y with y | y
      · exact h1 y
      · exact h2 (List.mem_singleton.mp y)
  · obtain ⟨x, _, z⟩ := S'.sl.get t1'
    exact SlotOk.up (s := .tb T1 q1) (x := x) z mask_le fun _ _ _ e => e
  · obtain ⟨x, _, z⟩ := S'.sl.get t2'
    exact SlotOk.up (s := .tb T2 q2) (x := x) z mask_le fun _ _ _ e => e
theorem law_loopT {σ : L2.St} {H : Hp} {i j t1 t2 : Nat} {T1 T2 : Addr} {q1 q2 : Str} {x y f : Str} {px py pf p1 cp pos : Pos} {m : Int} {jc : Nat} {a : Addr} {ns : List Int} {ps : List Str} {E : Ends} (ck : CK X) (cl : Cal X f ps (spBags X.K)) (hn : ns.length ≤ 63) (hm : 0 ≤ m ∧ m ≤ 60) (hσ : σ[i]? = some (some (.ref a))) (hS : SqL X.K H a (ns.map V.int)) (hj : j < σ.length)
    (h12 : T1 ≠ T2) (hjt : t1 ≠ j ∧ t2 ≠ j) (k1 : TbAt H H T1 q1) (k2 : TbAt H H T2 q2)
    (body : ∀ b, BB X (rhoT σ.length j t1 t2 b T1 T2 q1 q2) sts { nx := fun ρ => ρ.length = σ.length ∧ ρ[t1]? = some (.tb T1 q1) ∧ ρ[t2]? = some (.tb T2 q2), rt := fun _ _ => False })
    (hrest : BB X (List.replicate σ.length Sl.non) rest { nx := fun _ => False, rt := fun d _ => d = .bool true }) (q : ∀ H', E.rt (.bl true) H') (hN : X.N[i]? = some y := by rfl) (hx : X.N[j]? = some x := by rfl)
    (hv : Vis X.env.scope y := by first | exact Or.inl rfl | exact Or.inr (Or.inl rfl) | exact Or.inr (Or.inr rfl)) (hd : (y == ("__debug__" : Str)) = false := by decide) (hcd : (y == ("__classdict__" : Str)) = false := by decide) (hl : Loc X.env.scope x := by first | exact Or.inl rfl | exact Or.inr rfl)
    (hg : Gl X f := by rfl) (hdb : (f == ("__debug__" : Str)) = false := by decide) (s1 : starEach [.Name y py, .Constant (.int m) jc p1] X.env = (false, eval (.Name y py) X.env) :: starEach [.Constant (.int m) jc p1] X.env := by rfl) (s2 : starEach [.Constant (.int m) jc p1] X.env = (false, eval (.Constant (.int m) jc p1) X.env) :: starEach [] X.env := by rfl)
    (hpl : (backTo cp (starEach [.Constant (.int m) jc p1] X.env)).any (·.1) = false := by rfl) (hp : PassesOwn (model X.prog X.w) X.A X.env X.xe := by exact PassesOwn.never) (hf : X.fn x = true ∨ X.env.scope.names.lookup x = some .local := by first | exact .inl rfl | exact .inr rfl)
    (hs : ∀ v, foldedSetIterable (.Call (.Name f pf) [.Name y py, .Constant (.int m) jc p1] [] cp) X.env v = pure v := by intro _; rfl) :
    tB X (.For (.Name x px) (.Call (.Name f pf) [.Name y py, .Constant (.int m) jc p1] [] cp) sts [] pos :: rest) E σ H := by
  obtain ⟨k, hr, fa, fd, G, hmg, kp, bd⟩ := cl
  refine ofPSs (pss_cons (ps_for hp ck.calm (pi_list (pe_call G hr hg hmg kp bd .nil pass0 (pa_cons (pe_var hN hv hd hcd) (pa_cons pe_int pa_nil s2) s1) hdb s1 hpl)) (pg_name ck.nd hx hl hf) pssW hs) pssW) ?_
  refine ⟨_, hσ, a, ns, m, rfl, hS, hn, hm, fun D bs H' sH eD nd nD hb => ⟨D, rfl, ⟨_, .of eD⟩, ?_⟩⟩
  have up : ∀ {T : Addr} {q : Str}, TbAt H H T q → TbAt H' H' T q := fun {T q} h => SlotOk.up (s := .tb T q) (x := none) h sH fun c _ o e => sH c o e
  refine for_list (K := X.K) (a := D) (xs := bs.map V.ref) (fun i σ' H2 => σ'.length = σ.length ∧ H2 D = some (.lst (bs.map V.ref)) ∧ (TbAt H2 H2 T1 q1 ∧ TbAt H2 H2 T2 q2) ∧ ∀ (l : Nat) (b : Addr), i ≤ l → bs[l]? = some b → BagOk H2 b bagN) ⟨rfl, eD, ⟨up k1, up k2⟩, fun l b _ e => hb b (List.mem_of_getElem? e)⟩ (fun i σ' H2 _ h => .of h.2.1) ?_ ?_
  · rintro i v σ' H2 hi ⟨l, e2, ⟨c1, c2⟩, hb2⟩
    rw [List.getElem?_map] at hi
    cases q0 : bs[i]? with
    | none => rw [q0] at hi; cases hi
    | some b =>
    rw [q0] at hi
    cases hi
    have nT : ∀ {T : Addr} {q : Str} {c : Addr} {xs : List V}, TbAt H2 H2 T q → H2 c = some (.lst xs) → c ≠ T := fun {T q c xs} h e z => by
      obtain ⟨ps, e', _⟩ := h
      rw [z, e'] at e
      cases e
    refine turnT (by rw [l]; exact hj) h12 (hb2 i b (Nat.le_refl _) q0) c1 c2 hjt (by rw [l]; exact body b) fun σ3 H3 l3 fr c3 c4 => ⟨l3.trans l, fr D _ (fun z => nD (z ▸ List.mem_of_getElem? q0)) (nT c1 e2) (nT c2 e2) e2, ⟨c3, c4⟩, fun l' b' hl' e' => ?_⟩
    obtain ⟨z, w, t, e, r⟩ := hb2 l' b' (Nat.le_of_succ_le hl') e'
    refine ⟨z, w, t, fr b' _ (fun z => ?_) (nT c1 e) (nT c2 e) e, r⟩
    obtain ⟨g1, g2⟩ := List.getElem?_eq_some_iff.mp q0
    obtain ⟨g3, g4⟩ := List.getElem?_eq_some_iff.mp e'
    have := (List.nodup_iff_pairwise_ne.mp nd)
    have h4 := List.pairwise_iff_getElem.mp this i l' g1 g3 hl'
    rw [g2, g4] at h4
    exact h4 z.symm
  · rintro σ' H2 ⟨l, _, _⟩
    exact bb_raw (Q := E.rt) (by rw [l]; exact hrest) q _ rfl
end
end DL

/-! the mirror of the program's reckoning: plain lists of ints -/
namespace FM
structure Fy where
  s : Int
  w : Int
  a : Int
  m : Int
structure Fy.Ok (F : Fy) : Prop where
  s1 : 1 ≤ F.s
  s2 : F.s ≤ 12
  w1 : 1 ≤ F.w
  w2 : F.w ≤ 20
  a1 : 1 ≤ F.a
  a2 : F.a ≤ 20
  m1 : 1 ≤ F.m
  m2 : F.m ≤ 9
abbrev Lvs := List (Int × Int)
structure BkOk (F : Fy) (last : Int) (ls : Lvs) : Prop where
  l0 : 0 ≤ last
  l1 : last ≤ 60
  n : ls.length ≤ 10
  tk : ∀ p ∈ ls, 0 ≤ p.1 ∧ p.1 ≤ last
  ld : ∀ p ∈ ls, 1 ≤ p.2 ∧ p.2 ≤ F.s
  up : ls.Pairwise fun p q => p.1 < q.1
def endless : Int := 1000000
/-- what leavings tell, so far -/
structure BS where
  L : List Int
  U : List Int
  good : Bool
def upL (L : List Int) (t : Int) (v : Int) : List Int := L.set t.toNat (max (L.getD t.toNat 0) v)
def upU (U : List Int) (t : Int) (v : Int) : List Int := if 0 ≤ t then U.set t.toNat (min (U.getD t.toNat 0) v) else U
def leave (F : Fy) (b : BS) (home gone tick load : Int) : BS :=
  if tick < home then ⟨upL b.L tick (gone + load), b.U, false⟩
  else if load < F.s then
    if tick - F.w < home then ⟨upL b.L tick (gone + load), upU b.U tick (gone + load), false⟩
    else ⟨upL (upL b.L tick (gone + load)) (tick - F.w) (gone + 1), upU (upU b.U tick (gone + load)) (tick - F.w - 1) (if home < tick - F.w then gone else endless), b.good⟩
  else ⟨upL b.L tick (gone + load), upU (upU b.U (tick - 1) (if home < tick then gone + F.s - 1 else endless)) (tick - F.w - 1) (if home < tick - F.w then gone else endless), b.good⟩
def leaves (F : Fy) : BS → Int → Int → Lvs → BS × Int × Int
  | b, home, gone, [] => (b, home, gone)
  | b, home, gone, p :: r => leaves F (leave F b home gone p.1 p.2) (p.1 + F.a) (gone + p.2) r
def bs0 (last : Int) : BS := ⟨List.replicate (last + 1).toNat 0, List.replicate (last + 1).toNat endless, true⟩
def close (F : Fy) (last : Int) (x : BS × Int × Int) : BS :=
  if x.2.1 ≤ last then ⟨x.1.L, upU (upU x.1.U last (x.2.2 + F.s - 1)) (last - F.w) (if x.2.1 ≤ last - F.w then x.2.2 else endless), x.1.good⟩ else x.1
def bounds (F : Fy) (last : Int) (ls : Lvs) : BS := close F last (leaves F (bs0 last) 0 0 ls)
def goneOf (ls : Lvs) : Int := (ls.map (·.2)).sum
/-- forward: the least, the most -/
def fwdL : Int → List Int → List Int
  | _, [] => []
  | p, x :: r => max x p :: fwdL (max x p) r
def fwdU (m : Int) : Int → List Int → List Int
  | _, [] => []
  | p, x :: r => min x (p + m) :: fwdU m (min x (p + m)) r
def bwdL (m : Int) : List Int → List Int
  | [] => []
  | [x] => [x]
  | x :: y :: r => max x ((bwdL m (y :: r)).headD 0 - m) :: bwdL m (y :: r)
def bwdU : List Int → List Int
  | [] => []
  | [x] => [x]
  | x :: y :: r => min x ((bwdU (y :: r)).headD 0) :: bwdU (y :: r)
def finL (F : Fy) (b : BS) : List Int := bwdL F.m (fwdL 0 b.L)
def finU (F : Fy) (b : BS) : List Int := bwdU (fwdU F.m 0 b.U)
def stairsB (F : Fy) (b : BS) : Option (List (Int × Int)) :=
  if (b.good && decide ((finL F b).headD 0 ≤ F.m)) = true then
    (if (((finL F b).zip (finU F b)).all fun p => decide (p.1 ≤ p.2)) = true then some ((finL F b).zip (finU F b)) else none)
  else none
def stairs (F : Fy) (last : Int) (ls : Lvs) : Option (List (Int × Int)) := stairsB F (bounds F last ls)
theorem upL_len (L : List Int) (t v : Int) : (upL L t v).length = L.length := by unfold upL; rw [List.length_set]
theorem upU_len (L : List Int) (t v : Int) : (upU L t v).length = L.length := by unfold upU; split <;> simp
theorem leave_lenL (F : Fy) (b : BS) (h g t l : Int) : (leave F b h g t l).L.length = b.L.length := by
  unfold leave; split
  · exact upL_len _ _ _
  · split
    · split
      · exact upL_len _ _ _
      · exact (upL_len _ _ _).trans (upL_len _ _ _)
    · exact upL_len _ _ _
theorem leave_lenU (F : Fy) (b : BS) (h g t l : Int) : (leave F b h g t l).U.length = b.U.length := by
  unfold leave; split
  · rfl
  · split
    · split
      · exact upU_len _ _ _
      · exact (upU_len _ _ _).trans (upU_len _ _ _)
    · exact (upU_len _ _ _).trans (upU_len _ _ _)
theorem leaves_lenL (F : Fy) : ∀ (ls : Lvs) (b : BS) (h g : Int), (leaves F b h g ls).1.L.length = b.L.length
  | [], _, _, _ => rfl
  | p :: r, b, h, g => by
    show (leaves F (leave F b h g p.1 p.2) (p.1 + F.a) (g + p.2) r).1.L.length = _
    rw [leaves_lenL F r, leave_lenL]
theorem leaves_lenU (F : Fy) : ∀ (ls : Lvs) (b : BS) (h g : Int), (leaves F b h g ls).1.U.length = b.U.length
  | [], _, _, _ => rfl
  | p :: r, b, h, g => by
    show (leaves F (leave F b h g p.1 p.2) (p.1 + F.a) (g + p.2) r).1.U.length = _
    rw [leaves_lenU F r, leave_lenU]
theorem close_lenL (F : Fy) (last : Int) (x : BS × Int × Int) : (close F last x).L.length = x.1.L.length := by unfold close; split <;> rfl
theorem close_lenU (F : Fy) (last : Int) (x : BS × Int × Int) : (close F last x).U.length = x.1.U.length := by
  unfold close; split
  · exact (upU_len _ _ _).trans (upU_len _ _ _)
  · rfl
theorem bounds_lenL (F : Fy) (last : Int) (ls : Lvs) : (bounds F last ls).L.length = (last + 1).toNat := by
  unfold bounds; rw [close_lenL, leaves_lenL]; exact List.length_replicate
theorem bounds_lenU (F : Fy) (last : Int) (ls : Lvs) : (bounds F last ls).U.length = (last + 1).toNat := by
  unfold bounds; rw [close_lenU, leaves_lenU]; exact List.length_replicate
theorem fwdL_len : ∀ (l : List Int) (p : Int), (fwdL p l).length = l.length
  | [], _ => rfl
  | x :: r, p => by
    show (fwdL _ r).length + 1 = r.length + 1
    rw [fwdL_len r]
theorem fwdU_len (m : Int) : ∀ (l : List Int) (p : Int), (fwdU m p l).length = l.length
  | [], _ => rfl
  | x :: r, p => by
    show (fwdU m _ r).length + 1 = r.length + 1
    rw [fwdU_len m r]
theorem bwdL_len (m : Int) : ∀ l : List Int, (bwdL m l).length = l.length
  | [] => rfl
  | [_] => rfl
  | x :: y :: r => by
    show (bwdL m (y :: r)).length + 1 = (y :: r).length + 1
    rw [bwdL_len m (y :: r)]
theorem bwdU_len : ∀ l : List Int, (bwdU l).length = l.length
  | [] => rfl
  | [_] => rfl
  | x :: y :: r => by
    show (bwdU (y :: r)).length + 1 = (y :: r).length + 1
    rw [bwdU_len (y :: r)]
theorem finL_len (F : Fy) (b : BS) : (finL F b).length = b.L.length := by unfold finL; rw [bwdL_len, fwdL_len]
theorem finU_len (F : Fy) (b : BS) : (finU F b).length = b.U.length := by unfold finU; rw [bwdU_len, fwdU_len]
theorem stairs_len {F : Fy} {last : Int} {ls : Lvs} {st : List (Int × Int)} (h : stairs F last ls = some st) : st.length = (last + 1).toNat := by
  unfold stairs stairsB at h
  split at h
  · split at h
    · cases h
      rw [List.length_zip, finL_len, finU_len, bounds_lenL, bounds_lenU, Nat.min_self]
    · cases h
  · cases h
example : stairs ⟨2, 2, 3, 1⟩ 6 [(2, 1), (5, 2)] = some [(1, 1), (1, 1), (1, 1), (1, 2), (2, 3), (3, 4), (3, 5)] := by decide +kernel
example : stairs ⟨3, 4, 2, 9⟩ 9 [(2, 1), (8, 3)] = none := by decide +kernel
end FM

/-! lists gone over by place: the loops of the stairs -/
namespace FM
def mix {α : Type} (A B : List α) (t : Nat) : List α := A.take t ++ B.drop t
section
variable {α : Type} {A B : List α} {t j : Nat}
theorem mix_len (h : A.length = B.length) (ht : t ≤ A.length) : (mix A B t).length = A.length := by unfold mix; rw [List.length_append, List.length_take, List.length_drop]; omega
theorem mix_lt (ht : t ≤ A.length) (h : j < t) : (mix A B t)[j]? = A[j]? := by
  unfold mix
  rw [List.getElem?_append_left (by rw [List.length_take]; omega), List.getElem?_take, if_pos h]
theorem mix_ge (ht : t ≤ A.length) (h : t ≤ j) : (mix A B t)[j]? = B[j]? := by
  unfold mix
  rw [List.getElem?_append_right (by rw [List.length_take]; omega), List.getElem?_drop, List.length_take]
  congr 1
  omega
theorem mix_zero : mix A B 0 = B := rfl
theorem mix_full (h : A.length = B.length) (ht : t = A.length) : mix A B t = A := by unfold mix; rw [ht, List.take_length, h, List.drop_length, List.append_nil]
theorem mix_up {x : α} (h : A.length = B.length) (hx : A[t]? = some x) : (mix A B t).set t x = mix A B (t + 1) := by
  have ht : t < A.length := (List.getElem?_eq_some_iff.mp hx).1
  apply List.ext_getElem?
  intro j
  rw [List.getElem?_set]
  by_cases e : t = j
  · subst e
    rw [if_pos rfl, if_pos (by rw [mix_len h (Nat.le_of_lt ht)]; exact ht), mix_lt ht (Nat.lt_succ_self _), hx]
  · rw [if_neg e]
    by_cases l : j < t
    · rw [mix_lt (Nat.le_of_lt ht) l, mix_lt ht (by omega)]
    · rw [mix_ge (Nat.le_of_lt ht) (by omega), mix_ge ht (by omega)]
theorem mix_dn {x : α} (h : A.length = B.length) (hx : B[t]? = some x) : (mix A B (t + 1)).set t x = mix A B t := by
  have ht : t < A.length := by rw [h]; exact (List.getElem?_eq_some_iff.mp hx).1
  apply List.ext_getElem?
  intro j
  rw [List.getElem?_set]
  by_cases e : t = j
  · subst e
    rw [if_pos rfl, if_pos (by rw [mix_len h ht]; exact ht), mix_ge (Nat.le_of_lt ht) (Nat.le_refl _), hx]
  · rw [if_neg e]
    by_cases l : j < t
    · rw [mix_lt ht (by omega), mix_lt (Nat.le_of_lt ht) l]
    · rw [mix_ge ht (by omega), mix_ge (Nat.le_of_lt ht) (by omega)]
theorem mix_last (h : A.length = B.length) (hl : A.length = t + 1) (e : A[t]? = B[t]?) : mix A B t = A := by
  apply List.ext_getElem?
  intro j
  by_cases l : j < t
  · rw [mix_lt (by omega) l]
  · rw [mix_ge (by omega) (by omega)]
    by_cases q : j = t
    · rw [q, e]
    · rw [List.getElem?_eq_none (by omega), List.getElem?_eq_none (by omega)]
end
theorem gd_some {l : List Int} {i : Nat} (h : i < l.length) : l[i]? = some (l.getD i 0) := by rw [List.getD_eq_getElem?_getD, List.getElem?_eq_getElem h]; rfl
theorem fwdL_0 {L : List Int} {p : Int} (h : 0 < L.length) : (fwdL p L).getD 0 0 = max (L.getD 0 0) p := by
  cases L with
  | nil => exact absurd h (Nat.lt_irrefl 0)
  | cons x r => rfl
theorem fwdL_S : ∀ {L : List Int} {p : Int} {i : Nat}, i + 1 < L.length → (fwdL p L).getD (i + 1) 0 = max (L.getD (i + 1) 0) ((fwdL p L).getD i 0)
  | [], _, _, h => absurd h (by simp)
  | x :: r, p, 0, h => fwdL_0 (p := max x p) (by simpa using h)
  | x :: r, p, i + 1, h => by
    show (fwdL (max x p) r).getD (i + 1) 0 = max (r.getD (i + 1) 0) ((fwdL (max x p) r).getD i 0)
    exact fwdL_S (by simpa using h)
theorem fwdU_0 {L : List Int} {m p : Int} (h : 0 < L.length) : (fwdU m p L).getD 0 0 = min (L.getD 0 0) (p + m) := by
  cases L with
  | nil => exact absurd h (Nat.lt_irrefl 0)
  | cons x r => rfl
theorem fwdU_S {m : Int} : ∀ {L : List Int} {p : Int} {i : Nat}, i + 1 < L.length → (fwdU m p L).getD (i + 1) 0 = min (L.getD (i + 1) 0) ((fwdU m p L).getD i 0 + m)
  | [], _, _, h => absurd h (by simp)
  | x :: r, p, 0, h => fwdU_0 (p := min x (p + m)) (by simpa using h)
  | x :: r, p, i + 1, h => by
    show (fwdU m (min x (p + m)) r).getD (i + 1) 0 = min (r.getD (i + 1) 0) ((fwdU m (min x (p + m)) r).getD i 0 + m)
    exact fwdU_S (by simpa using h)
theorem hd_gd (l : List Int) : l.headD 0 = l.getD 0 0 := by cases l <;> rfl
theorem bwdL_S {m : Int} : ∀ {L : List Int} {i : Nat}, i + 1 < L.length → (bwdL m L).getD i 0 = max (L.getD i 0) ((bwdL m L).getD (i + 1) 0 - m)
  | [], _, h => absurd h (by simp)
  | [_], _, h => absurd h (by simp)
  | x :: y :: r, 0, h => by
    show max x ((bwdL m (y :: r)).headD 0 - m) = max x ((bwdL m (y :: r)).getD 0 0 - m)
    rw [hd_gd]
  | x :: y :: r, i + 1, h => by
    show (bwdL m (y :: r)).getD i 0 = max ((y :: r).getD i 0) ((bwdL m (y :: r)).getD (i + 1) 0 - m)
    exact bwdL_S (by simpa using h)
theorem bwdL_e {m : Int} : ∀ {L : List Int} {i : Nat}, i + 1 = L.length → (bwdL m L).getD i 0 = L.getD i 0
  | [], _, h => absurd h (by simp)
  | [x], i, h => by
    obtain rfl : i = 0 := by simpa using h
    rfl
  | x :: y :: r, 0, h => absurd h (by simp)
  | x :: y :: r, i + 1, h => by
    show (bwdL m (y :: r)).getD i 0 = (y :: r).getD i 0
    exact bwdL_e (by simpa using h)
theorem bwdU_S : ∀ {L : List Int} {i : Nat}, i + 1 < L.length → (bwdU L).getD i 0 = min (L.getD i 0) ((bwdU L).getD (i + 1) 0)
  | [], _, h => absurd h (by simp)
  | [_], _, h => absurd h (by simp)
  | x :: y :: r, 0, h => by
    show min x ((bwdU (y :: r)).headD 0) = min x ((bwdU (y :: r)).getD 0 0)
    rw [hd_gd]
  | x :: y :: r, i + 1, h => by
    show (bwdU (y :: r)).getD i 0 = min ((y :: r).getD i 0) ((bwdU (y :: r)).getD (i + 1) 0)
    exact bwdU_S (by simpa using h)
theorem bwdU_e : ∀ {L : List Int} {i : Nat}, i + 1 = L.length → (bwdU L).getD i 0 = L.getD i 0
  | [], _, h => absurd h (by simp)
  | [x], i, h => by
    obtain rfl : i = 0 := by simpa using h
    rfl
  | x :: y :: r, 0, h => absurd h (by simp)
  | x :: y :: r, i + 1, h => by
    show (bwdU (y :: r)).getD i 0 = (y :: r).getD i 0
    exact bwdU_e (by simpa using h)
end FM

/-! what the stairs keep of the leavings: everyone gone has come -/
namespace FM
theorem getD_set {l : List Int} {i j : Nat} {v : Int} : (l.set i v).getD j 0 = if i = j ∧ i < l.length then v else l.getD j 0 := by
  rw [List.getD_eq_getElem?_getD, List.getD_eq_getElem?_getD, List.getElem?_set]
  by_cases h : i = j
  · subst h
    by_cases h2 : i < l.length
    · rw [if_pos rfl, if_pos h2, if_pos ⟨rfl, h2⟩]; rfl
    · rw [if_pos rfl, if_neg h2, if_neg fun z => h2 z.2, List.getElem?_eq_none (by omega)]
  · rw [if_neg h, if_neg fun z => h z.1]
theorem upL_ge (L : List Int) (t v : Int) (i : Nat) : L.getD i 0 ≤ (upL L t v).getD i 0 := by
  unfold upL
  rw [getD_set]
  split
  · rename_i h; rw [h.1]; omega
  · omega
theorem upL_at {L : List Int} {t v : Int} (h : t.toNat < L.length) : v ≤ (upL L t v).getD t.toNat 0 := by
  unfold upL
  rw [getD_set, if_pos ⟨rfl, h⟩]; omega
theorem leave_ge (F : Fy) (b : BS) (h g t l : Int) (i : Nat) : b.L.getD i 0 ≤ (leave F b h g t l).L.getD i 0 := by
  unfold leave
  split
  · exact upL_ge _ _ _ _
  · split
    · split
      · exact upL_ge _ _ _ _
      · exact Int.le_trans (upL_ge _ _ _ _) (upL_ge _ _ _ _)
    · exact upL_ge _ _ _ _
theorem leave_at {F : Fy} {b : BS} {h g t l : Int} (ht : t.toNat < b.L.length) : g + l ≤ (leave F b h g t l).L.getD t.toNat 0 := by
  unfold leave
  split
  · exact upL_at ht
  · split
    · split
      · exact upL_at ht
      · exact Int.le_trans (upL_at ht) (upL_ge _ _ _ _)
    · exact upL_at ht
theorem leaves_ge (F : Fy) : ∀ (ls : Lvs) (b : BS) (h g : Int) (i : Nat), b.L.getD i 0 ≤ (leaves F b h g ls).1.L.getD i 0
  | [], _, _, _, _ => Int.le_refl _
  | p :: r, b, h, g, i => Int.le_trans (leave_ge F b h g p.1 p.2 i) (leaves_ge F r _ _ _ i)
theorem leaves_reach (F : Fy) : ∀ (ls : Lvs) (b : BS) (h g : Int), ls ≠ [] → (∀ p ∈ ls, p.1.toNat < b.L.length) → ∃ i, i < b.L.length ∧ g + goneOf ls ≤ (leaves F b h g ls).1.L.getD i 0
  | [], _, _, _, h, _ => absurd rfl h
  | [p], b, h, g, _, ht => ⟨p.1.toNat, ht p (.head _), by
    show g + (p.2 + 0) ≤ (leave F b h g p.1 p.2).L.getD p.1.toNat 0
    have := leave_at (F := F) (h := h) (g := g) (l := p.2) (ht p (.head _))
    omega⟩
  | p :: q :: r, b, h, g, _, ht => by
    have hl := leave_lenL F b h g p.1 p.2
    obtain ⟨i, hi, e⟩ := leaves_reach F (q :: r) (leave F b h g p.1 p.2) (p.1 + F.a) (g + p.2) (by simp) fun x hx => by rw [hl]; exact ht x (.tail _ hx)
    refine ⟨i, by rw [← hl]; exact hi, ?_⟩
    show g + (p.2 + goneOf (q :: r)) ≤ (leaves F (leave F b h g p.1 p.2) (p.1 + F.a) (g + p.2) (q :: r)).1.L.getD i 0
    omega
theorem fwdL_ge : ∀ (L : List Int) (p : Int) (i : Nat), i < L.length → L.getD i 0 ≤ (fwdL p L).getD i 0
  | [], _, _, h => absurd h (by simp)
  | x :: r, p, 0, _ => by show x ≤ max x p; omega
  | x :: r, p, i + 1, h => fwdL_ge r _ i (by simpa using h)
theorem bwdL_ge (m : Int) : ∀ (L : List Int) (i : Nat), i < L.length → L.getD i 0 ≤ (bwdL m L).getD i 0
  | [], _, h => absurd h (by simp)
  | [x], 0, _ => Int.le_refl _
  | [x], i + 1, h => absurd h (by simp)
  | x :: y :: r, 0, _ => by show x ≤ max x _; omega
  | x :: y :: r, i + 1, h => bwdL_ge m (y :: r) i (by simpa using h)
theorem finL_ge (F : Fy) (b : BS) (i : Nat) (h : i < b.L.length) : b.L.getD i 0 ≤ (finL F b).getD i 0 :=
  Int.le_trans (fwdL_ge _ _ _ h) (bwdL_ge _ _ _ (by rw [fwdL_len]; exact h))
theorem close_L (F : Fy) (last : Int) (x : BS × Int × Int) : (close F last x).L = x.1.L := by unfold close; split <;> rfl
/-- the stairs: the parts -/
theorem stairs_is {F : Fy} {last : Int} {ls : Lvs} {st : List (Int × Int)} (h : stairs F last ls = some st) :
    (bounds F last ls).good = true ∧ (finL F (bounds F last ls)).headD 0 ≤ F.m ∧ (∀ p ∈ st, p.1 ≤ p.2) ∧ st = (finL F (bounds F last ls)).zip (finU F (bounds F last ls)) := by
  unfold stairs stairsB at h
  split at h
  · rename_i h1
    rw [Bool.and_eq_true] at h1
    split at h
    · rename_i h2
      cases h
      exact ⟨h1.1, of_decide_eq_true h1.2, fun p hp => of_decide_eq_true (List.all_eq_true.mp h2 p hp), rfl⟩
    · cases h
  · cases h
theorem zip_fst {xs ys : List Int} (h : xs.length = ys.length) : (xs.zip ys).map (·.1) = xs := by
  induction xs generalizing ys with
  | nil => rfl
  | cons x r ih =>
    cases ys with
    | nil => cases h
    | cons y s => exact congrArg (List.cons x) (ih (Nat.succ.inj h))
theorem zip_snd {xs ys : List Int} (h : xs.length = ys.length) : (xs.zip ys).map (·.2) = ys := by
  induction xs generalizing ys with
  | nil => cases ys with
    | nil => rfl
    | cons _ _ => cases h
  | cons x r ih =>
    cases ys with
    | nil => cases h
    | cons y s => exact congrArg (List.cons y) (ih (Nat.succ.inj h))
theorem fin_same (F : Fy) (last : Int) (ls : Lvs) : (finL F (bounds F last ls)).length = (finU F (bounds F last ls)).length := by rw [finL_len, finU_len, bounds_lenL, bounds_lenU]
theorem stairs_lo {F : Fy} {last : Int} {ls : Lvs} {st : List (Int × Int)} (h : stairs F last ls = some st) : st.map (·.1) = finL F (bounds F last ls) := by
  rw [(stairs_is h).2.2.2, zip_fst (fin_same F last ls)]
theorem stairs_hi {F : Fy} {last : Int} {ls : Lvs} {st : List (Int × Int)} (h : stairs F last ls = some st) : st.map (·.2) = finU F (bounds F last ls) := by
  rw [(stairs_is h).2.2.2, zip_snd (fin_same F last ls)]
theorem goneOf_nn {F : Fy} {last : Int} {ls : Lvs} (ok : BkOk F last ls) : 0 ≤ goneOf ls ∧ goneOf ls ≤ F.s * ls.length := by
  have : ∀ l : Lvs, (∀ p ∈ l, 1 ≤ p.2 ∧ p.2 ≤ F.s) → 0 ≤ goneOf l ∧ goneOf l ≤ F.s * l.length := by
    intro l
    induction l with
    | nil => intro _; exact ⟨Int.le_refl _, by simp [goneOf]⟩
    | cons p r ih =>
      intro h
      obtain ⟨h1, h2⟩ := ih fun q hq => h q (.tail _ hq)
      have h3 := h p (.head _)
      have e : goneOf (p :: r) = p.2 + goneOf r := rfl
      rw [e, List.length_cons]
      have e2 : F.s * ((r.length + 1 : Nat) : Int) = F.s * (r.length : Int) + F.s := by rw [Int.natCast_add]; rw [Int.mul_add]; simp
      rw [e2]
      omega
  exact this ls ok.ld
/-- some tick has all that are gone, in the least sums -/
theorem lo_reach {F : Fy} {last : Int} {ls : Lvs} {st : List (Int × Int)} (ok : BkOk F last ls) (h : stairs F last ls = some st) (hg : 0 < goneOf ls) : ∃ p ∈ st, goneOf ls ≤ p.1 ∧ goneOf ls ≤ p.2 := by
  have ne : ls ≠ [] := fun z => by rw [z] at hg; exact absurd hg (by decide)
  have l0 := ok.l0
  obtain ⟨i, hi, e⟩ := leaves_reach F ls (bs0 last) 0 0 ne fun p hp => by
    have := ok.tk p hp
    show p.1.toNat < (List.replicate _ _).length
    rw [List.length_replicate]; omega
  have hb : (bounds F last ls).L = (leaves F (bs0 last) 0 0 ls).1.L := close_L _ _ _
  have hi' : i < (bounds F last ls).L.length := by rw [hb, leaves_lenL]; exact hi
  have e2 : goneOf ls ≤ (finL F (bounds F last ls)).getD i 0 := by
    have := finL_ge F (bounds F last ls) i hi'
    rw [hb] at this
    rw [hb] at *
    omega
  have hlen := stairs_len h
  have hi2 : i < st.length := by rw [hlen, ← bounds_lenL F last ls]; exact hi'
  refine ⟨st[i], List.getElem_mem hi2, ?_⟩
  have e3 : (finL F (bounds F last ls)).getD i 0 = (st[i]).1 := by
    rw [← stairs_lo h, List.getD_eq_getElem?_getD, List.getElem?_map, List.getElem?_eq_getElem hi2]; rfl
  have e4 := (stairs_is h).2.2.1 _ (List.getElem_mem hi2)
  omega
end FM

/-! how far the stairs go; how many rows -/
namespace FM
theorem fwdU_le {m : Int} (hm : 0 ≤ m) : ∀ (L : List Int) (p : Int), ∀ x ∈ fwdU m p L, x ≤ p + m * L.length
  | [], _, _, h => nomatch h
  | y :: r, p, x, h => by
    have e : m * ((y :: r).length : Int) = m * (r.length : Int) + m := by rw [List.length_cons, Int.natCast_add, Int.mul_add]; simp
    have e0 : 0 ≤ m * (r.length : Int) := Int.mul_nonneg hm (Int.natCast_nonneg _)
    rcases List.mem_cons.mp h with z | z
    · rw [z, e]
      have : min y (p + m) ≤ p + m := Int.min_le_right _ _
      omega
    · have := fwdU_le hm r (min y (p + m)) x z
      have h2 : min y (p + m) ≤ p + m := Int.min_le_right _ _
      omega
theorem bwdU_le {B : Int} : ∀ (L : List Int), (∀ x ∈ L, x ≤ B) → ∀ x ∈ bwdU L, x ≤ B
  | [], _, _, h => nomatch h
  | [y], hb, x, h => hb x h
  | y :: z :: r, hb, x, h => by
    rcases List.mem_cons.mp h with e | e
    · have := hb y (.head _)
      have h2 : min y ((bwdU (z :: r)).headD 0) ≤ y := Int.min_le_left _ _
      omega
    · exact bwdU_le (z :: r) (fun w hw => hb w (.tail _ hw)) x e
theorem fwdL_nn : ∀ (L : List Int) (p : Int), 0 ≤ p → ∀ x ∈ fwdL p L, 0 ≤ x
  | [], _, _, _, h => nomatch h
  | y :: r, p, hp, x, h => by
    have h2 : p ≤ max y p := Int.le_max_right _ _
    rcases List.mem_cons.mp h with e | e
    · omega
    · exact fwdL_nn r (max y p) (by omega) x e
theorem bwdL_nn {m : Int} : ∀ (L : List Int), (∀ x ∈ L, 0 ≤ x) → ∀ x ∈ bwdL m L, 0 ≤ x
  | [], _, _, h => nomatch h
  | [y], hb, x, h => hb x h
  | y :: z :: r, hb, x, h => by
    rcases List.mem_cons.mp h with e | e
    · have := hb y (.head _)
      have h2 : y ≤ max y ((bwdL m (z :: r)).headD 0 - m) := Int.le_max_left _ _
      omega
    · exact bwdL_nn (z :: r) (fun w hw => hb w (.tail _ hw)) x e
theorem finL_nn (F : Fy) (b : BS) : ∀ x ∈ finL F b, 0 ≤ x := bwdL_nn _ (fwdL_nn _ _ (Int.le_refl 0))
theorem finU_le {F : Fy} (ok : F.Ok) (b : BS) (h : b.U.length ≤ 61) : ∀ x ∈ finU F b, x ≤ 549 := bwdU_le _ fun x hx => by
  have h1 := fwdU_le (m := F.m) (by have := ok.m1; omega) b.U 0 x hx
  have h2 : F.m * (b.U.length : Int) ≤ 9 * 61 := Int.mul_le_mul ok.m2 (by omega) (Int.natCast_nonneg _) (by omega)
  omega
/-- the stairs' steps lie in 0 .. 549 -/
theorem stairs_in {F : Fy} {last : Int} {ls : Lvs} {st : List (Int × Int)} (okF : F.Ok) (ok : BkOk F last ls) (h : stairs F last ls = some st) : ∀ p ∈ st, 0 ≤ p.1 ∧ p.1 ≤ p.2 ∧ p.2 ≤ 549 := fun p hp => by
  obtain ⟨_, _, h3, h4⟩ := stairs_is h
  refine ⟨finL_nn F (bounds F last ls) _ ?_, h3 p hp, finU_le okF (bounds F last ls) (by rw [bounds_lenU]; have := ok.l1; omega) _ ?_⟩
  · rw [← stairs_lo h]; exact List.mem_map.mpr ⟨p, hp, rfl⟩
  · rw [← stairs_hi h]; exact List.mem_map.mpr ⟨p, hp, rfl⟩
/-- the sums that a number can come from -/
def hmSums (t : List (Int × Int)) (m many : Int) : List Int := (List.range (m + 1).toNat).filterMap fun (more : Nat) => t.lookup (many - (more : Int))
def hmNext (t : List (Int × Int)) (m lo : Int) (n : Nat) : List (Int × Int) := (List.range n).filterMap fun (j : Nat) => if hmSums t m (lo + (j : Int)) = [] then none else some (lo + (j : Int), (hmSums t m (lo + (j : Int))).sum)
def hmStep (m : Int) (t : List (Int × Int)) (p : Int × Int) : List (Int × Int) := hmNext t m p.1 (p.2 + 1 - p.1).toNat
def hmTable (m : Int) (st : List (Int × Int)) : List (Int × Int) := st.foldl (hmStep m) [(0, 1)]
def howMany (F : Fy) (last : Int) (ls : Lvs) : Int := match stairs F last ls with
  | none => 0
  | some st => ((hmTable F.m st).map (·.2)).sum
theorem hmNext_S (t : List (Int × Int)) (m lo : Int) (n : Nat) : hmNext t m lo (n + 1) = hmNext t m lo n ++ (if hmSums t m (lo + (n : Int)) = [] then [] else [(lo + (n : Int), (hmSums t m (lo + (n : Int))).sum)]) := by
  unfold hmNext
  rw [List.range_succ, List.filterMap_append]
  congr 1
  rw [List.filterMap_cons, List.filterMap_nil]
  split <;> rename_i h
  · split at h
    · rename_i h2; rw [if_pos h2]
    · cases h
  · split at h
    · cases h
    · rename_i h2; rw [if_neg h2]; cases h; rfl
theorem hmNext_len (t : List (Int × Int)) (m lo : Int) (n : Nat) : (hmNext t m lo n).length ≤ n := by
  unfold hmNext
  exact Nat.le_trans (List.length_filterMap_le _ _) (by rw [List.length_range]; exact Nat.le_refl _)
theorem hmNext_new (t : List (Int × Int)) (m lo : Int) (n : Nat) : (hmNext t m lo n).lookup (lo + (n : Int)) = none := by
  rw [List.lookup_eq_none_iff]
  intro p hp
  unfold hmNext at hp
  obtain ⟨j, hj, e⟩ := List.mem_filterMap.mp hp
  have := List.mem_range.mp hj
  split at e
  · cases e
  · cases e
    exact bne_iff_ne.mpr (by show lo + (n : Int) ≠ lo + (j : Int); omega)
example : howMany ⟨2, 2, 3, 1⟩ 6 [(2, 1), (5, 2)] = 8 := by decide +kernel
/-- entries of a row by its sums -/
def stepsOf (sums : List Int) : List Int := List.zipWith (· - ·) sums (0 :: sums.dropLast)
def firstTick (sums : List Int) (c : Int) : Option Nat := sums.findIdx? fun v => decide (c ≤ v)
def waitedOf (ls : Lvs) (sums : List Int) : Int := (ls.map fun p => p.1 * p.2).sum - ((List.range (goneOf ls).toNat).map fun (c : Nat) => (((firstTick sums ((c : Int) + 1)).getD 0 : Nat) : Int)).sum
def waitsOf (F : Fy) (last : Int) (ls : Lvs) : Option (Int × Int) := (stairs F last ls).map fun st => (waitedOf ls (st.map (·.1)), waitedOf ls (st.map (·.2)))
def thereOf (F : Fy) (last : Int) (ls : Lvs) : Option (Int × Int) := (stairs F last ls).map fun st => ((st.getLastD (0, 0)).1 - goneOf ls, (st.getLastD (0, 0)).2 - goneOf ls)
end FM

/-! the ferry run over a row: who leaves when -/
namespace FM
structure LS where
  bank : Nat
  ab : Nat
  since : Int
  back : Int
  found : Lvs
def lsStep (F : Fy) (s : LS) (tick many : Int) : LS :=
  if s.back ≤ tick then
    (if s.ab + min (s.bank + many.toNat) (F.s.toNat - s.ab) ≠ 0 ∧ (((s.ab + min (s.bank + many.toNat) (F.s.toNat - s.ab) : Nat) : Int) = F.s ∨ F.w ≤ tick - (if s.ab = 0 then tick else s.since)) then
      ⟨s.bank + many.toNat - min (s.bank + many.toNat) (F.s.toNat - s.ab), 0, if s.ab = 0 then tick else s.since, tick + F.a, s.found ++ [(tick, ((s.ab + min (s.bank + many.toNat) (F.s.toNat - s.ab) : Nat) : Int))]⟩
    else ⟨s.bank + many.toNat - min (s.bank + many.toNat) (F.s.toNat - s.ab), s.ab + min (s.bank + many.toNat) (F.s.toNat - s.ab), if s.ab = 0 then tick else s.since, s.back, s.found⟩)
  else ⟨s.bank + many.toNat, s.ab, s.since, s.back, s.found⟩
def lsRun (F : Fy) : LS → Int → List Int → LS
  | s, _, [] => s
  | s, t, x :: r => lsRun F (lsStep F s t x) (t + 1) r
def leftOf (F : Fy) (row : List Int) : Lvs := (lsRun F ⟨0, 0, 0, 0, []⟩ 0 row).found
example : leftOf ⟨2, 3, 2, 3⟩ [1, 0, 0, 0, 2, 0, 1] = [(3, 1), (5, 2)] := by decide +kernel
example : leftOf ⟨1, 1, 2, 9⟩ [3, 0, 0, 0, 0] = [(0, 1), (2, 1), (4, 1)] := by decide +kernel
theorem lsRun_app (F : Fy) : ∀ (xs ys : List Int) (s : LS) (t : Int), lsRun F s t (xs ++ ys) = lsRun F (lsRun F s t xs) (t + xs.length) ys
  | [], ys, s, t => by show lsRun F s t ys = lsRun F s (t + (0 : Nat)) ys; rw [show t + ((0 : Nat) : Int) = t by omega]
  | x :: xs, ys, s, t => by
    show lsRun F (lsStep F s t x) (t + 1) (xs ++ ys) = lsRun F (lsRun F (lsStep F s t x) (t + 1) xs) (t + ((xs.length + 1 : Nat) : Int)) ys
    rw [lsRun_app F xs ys, show t + 1 + (xs.length : Int) = t + ((xs.length + 1 : Nat) : Int) by omega]
end FM

namespace FM
structure LsG (F : Fy) (s : LS) (t : Int) : Prop where
  tk : ∀ p ∈ s.found, 0 ≤ p.1 ∧ p.1 < t
  ld : ∀ p ∈ s.found, 1 ≤ p.2 ∧ p.2 ≤ F.s
  up : s.found.Pairwise fun p q => p.1 < q.1
  ab : s.ab ≤ F.s.toNat
theorem LsG.step {F : Fy} {s : LS} {t x : Int} (g : LsG F s t) (h0 : 0 ≤ t) : LsG F (lsStep F s t x) (t + 1) := by
  have tk' : ∀ p ∈ s.found, 0 ≤ p.1 ∧ p.1 < t + 1 := fun p hp => by have := g.tk p hp; omega
  have gab := g.ab
  unfold lsStep
  generalize (if s.ab = 0 then t else s.since) = sn
  split
  · split
    · rename_i h1 h2
      refine ⟨fun p hp => ?_, fun p hp => ?_, ?_, Nat.zero_le _⟩
      · rcases List.mem_append.mp hp with z | z
        · exact tk' p z
        · rw [List.mem_singleton.mp z]; exact ⟨h0, Int.lt_succ t⟩
      · rcases List.mem_append.mp hp with z | z
        · exact g.ld p z
        · rw [List.mem_singleton.mp z]
          have := h2.1
          constructor
          · show (1 : Int) ≤ ((s.ab + min (s.bank + x.toNat) (F.s.toNat - s.ab) : Nat) : Int); omega
          · show ((s.ab + min (s.bank + x.toNat) (F.s.toNat - s.ab) : Nat) : Int) ≤ F.s; omega
      · refine List.pairwise_append.mpr ⟨g.up, List.pairwise_singleton _ _, fun a ha b hb => ?_⟩
        rw [List.mem_singleton.mp hb]
        exact (g.tk a ha).2
    · exact ⟨tk', g.ld, g.up, by show s.ab + min (s.bank + x.toNat) (F.s.toNat - s.ab) ≤ F.s.toNat; omega⟩
  · exact ⟨tk', g.ld, g.up, g.ab⟩
theorem LsG.run {F : Fy} : ∀ (row : List Int) {s : LS} {t : Int}, LsG F s t → 0 ≤ t → LsG F (lsRun F s t row) (t + row.length)
  | [], s, t, g, _ => by
    show LsG F s (t + ((0 : Nat) : Int))
    rw [show t + ((0 : Nat) : Int) = t by omega]
    exact g
  | x :: r, s, t, g, h0 => by
    have := LsG.run r (g.step (x := x) h0) (by omega)
    rw [show t + 1 + (r.length : Int) = t + (((x :: r).length : Nat) : Int) by rw [List.length_cons]; omega] at this
    exact this
theorem left_ok (F : Fy) (row : List Int) : (∀ p ∈ leftOf F row, 0 ≤ p.1 ∧ p.1 < row.length) ∧ (∀ p ∈ leftOf F row, 1 ≤ p.2 ∧ p.2 ≤ F.s) ∧ (leftOf F row).Pairwise fun p q => p.1 < q.1 := by
  have g := LsG.run (F := F) row (s := ⟨0, 0, 0, 0, []⟩) (t := 0) ⟨(fun p h => nomatch h), (fun p h => nomatch h), List.Pairwise.nil, Nat.zero_le _⟩ (Int.le_refl 0)
  rw [Int.zero_add] at g
  exact ⟨g.tk, g.ld, g.up⟩
theorem pair_ge : ∀ (ls : Lvs) (c : Int) (j : Nat) (p : Int × Int), (∀ q ∈ ls, c ≤ q.1) → (ls.Pairwise fun p q => p.1 < q.1) → ls[j]? = some p → c + (j : Int) ≤ p.1
  | [], _, _, _, _, _, h => by simp at h
  | q :: r, c, 0, p, h0, _, h => by
    rw [List.getElem?_cons_zero] at h; cases h
    have := h0 q (.head _)
    omega
  | q :: r, c, j + 1, p, h0, up, h => by
    rw [List.getElem?_cons_succ] at h
    have h1 := (List.pairwise_cons.mp up)
    have := pair_ge r (c + 1) j p (fun x hx => by have := h1.1 x hx; have := h0 q (.head _); omega) h1.2 h
    omega
theorem left_bk {F : Fy} {row : List Int} (h1 : 1 ≤ row.length) (h2 : row.length ≤ 61) (h3 : (leftOf F row).length ≤ 10) : BkOk F ((row.length : Int) - 1) (leftOf F row) := by
  obtain ⟨a, b, c⟩ := left_ok F row
  exact ⟨by omega, by omega, h3, fun p hp => by have := a p hp; omega, b, c⟩
end FM

namespace FB
open PySem L2
def top (i : Nat) : Stmt := PySem.Challenge.pw_ferryback_k01_what_are_books_and_who_is.main.body.getD i (.Pass ⟨0, 0, 0, 0⟩)
abbrev s_FerryError : Stmt := top 1
abbrev s_NoFerry : Stmt := top 2
abbrev s_NoBook : Stmt := top 3
abbrev s_NoRow : Stmt := top 4
abbrev s_NoComer : Stmt := top 5
abbrev s_is_whole : Stmt := top 9
abbrev s_is_within : Stmt := top 10
abbrev s_is_ferry : Stmt := top 11
abbrev s_look_at_ferry : Stmt := top 12
abbrev s_is_leaving : Stmt := top 13
abbrev s_is_book_of : Stmt := top 14
abbrev s_is_book : Stmt := top 15
abbrev s_look_at : Stmt := top 16
abbrev s_is_row : Stmt := top 17
abbrev s_leavings_so : Stmt := top 18
abbrev s_leavings : Stmt := top 19
abbrev s_is_story : Stmt := top 20
abbrev s_Bounds : Stmt := top 23
abbrev s_Bounds___init__ : Stmt := inClass (top 23) 0
abbrev s_Bounds_at_least : Stmt := inClass (top 23) 1
abbrev s_Bounds_at_most : Stmt := inClass (top 23) 2
abbrev s_Bounds_leaving : Stmt := inClass (top 23) 3
abbrev s_Bounds_stairs : Stmt := inClass (top 23) 4
abbrev s_stairs_so : Stmt := top 24
abbrev s_stairs : Stmt := top 25
abbrev s_can_be : Stmt := top 26
abbrev s_first_bar : Stmt := top 27
abbrev s_how_many : Stmt := top 29
abbrev s_steps_of : Stmt := top 30
abbrev s_fewest_row : Stmt := top 31
abbrev s_most_row : Stmt := top 32
abbrev s_first_tick : Stmt := top 33
abbrev s_came : Stmt := top 34
abbrev s_waited : Stmt := top 35
abbrev s_waits : Stmt := top 36
abbrev s_there : Stmt := top 37
abbrev s_mends : Stmt := top 38
abbrev s__law_well : Stmt := top 40
abbrev s__law_take : Stmt := top 41
abbrev s__law_bags : Stmt := top 42
abbrev s__law_same : Stmt := top 43
abbrev s__law_in : Stmt := top 44
abbrev s__law_tried : Stmt := top 45
abbrev s__law_ferry : Stmt := top 46
abbrev s__law_row : Stmt := top 47
abbrev s__law_left : Stmt := top 48
abbrev s__law_book : Stmt := top 49
abbrev s__law_good_ferry : Stmt := top 50
abbrev s__law_good : Stmt := top 51
abbrev s__law_odd : Stmt := top 52
abbrev s__law_doors : Stmt := top 53
abbrev s__law_refused : Stmt := top 54
abbrev s_law : Stmt := top 55
end FB
namespace FB
open PySem PySem.Spec PyProof.Rows L2 DL FM
/-! ### the program's first functions, at good ferries and books -/
def isW : PyData → Bool
  | .int _ => true
  | _ => false
theorem isW_iff {d : PyData} (h : isW d = true) : ∃ i, d = .int i := by cases d <;> first | exact ⟨_, rfl⟩ | cases h
def isIn (lo hi : Int) : PyData → Bool
  | .int i => decide (lo ≤ i) && decide (i ≤ hi)
  | _ => false
theorem isIn_int {lo hi i : Int} (h1 : lo ≤ i) (h2 : i ≤ hi) : isIn lo hi (.int i) = true := by
  show (decide (lo ≤ i) && decide (i ≤ hi)) = true
  rw [decide_eq_true h1, decide_eq_true h2]
  rfl
abbrev dF (F : Fy) : PyData := .tuple [.int F.s, .int F.w, .int F.a, .int F.m]
abbrev dLv (p : Int × Int) : PyData := .tuple [.int p.1, .int p.2]
abbrev dLs (ls : Lvs) : PyData := .tuple (ls.map dLv)
abbrev dB (last : Int) (ls : Lvs) : PyData := .tuple [.int last, dLs ls]
structure GT (mg : Str → Option Value) : Prop where
  b : ∀ x ∈ bNames, mg x = none
  ml : ∃ t, mg "MOST_LAST" = some (.int 60 t)
  mv : ∃ t, mg "MOST_LEAVINGS" = some (.int 10 t)
  en : ∃ t, mg "ENDLESS" = some (.int 1000000 t)
section
variable {P : Program} {w : World} {K : PySem.W.Frag} {mg : Str → Option Value} {base : Heap}
def S_is_whole : DSpec := fun ds k => ∃ d, ds = [d] ∧ k (.bool (isW d))
theorem sc_is_whole : FnScope ["thing"] ["thing"] (defScope s_is_whole) := ⟨rfl, rfl, rfl, by decide +kernel, rfl, by decide +kernel, by decide +kernel⟩
theorem ok_is_whole {f : Addr} {fd : FuncData} (F : Fun K "is_whole" "is_whole" s_is_whole f fd) (T : GT mg) : FnOk P w K mg base CX0 1 f fd ["thing"] (spD S_is_whole) := by
  refine fn_D F sc_is_whole T.b (fun ds q ⟨d, e, _⟩ => by rw [e]; rfl) ?_
  rintro cdv A outer s H E _ q hr ck ⟨d, rfl, h⟩
  refine bb_one (ss_ret (ee_M (ee_andM (ee_isInt ck (ee_var 0 rfl (⟨rfl, rfl⟩))) (fun _ => ee_one (ee_not (ee_isBool ck (ee_var 0 rfl (⟨_, rfl, ⟨rfl, rfl⟩⟩)))))) ?_))
  cases d <;> exact h
def S_is_within : DSpec := fun ds k => ∃ d lo hi, ds = [d, .int lo, .int hi] ∧ k (.bool (isIn lo hi d))
theorem sc_is_within : FnScope ["thing", "low", "high"] ["thing", "low", "high"] (defScope s_is_within) := ⟨rfl, rfl, rfl, by decide +kernel, rfl, by decide +kernel, by decide +kernel⟩
theorem ok_is_within {f : Addr} {fd : FuncData} {k : Nat} (F : Fun K "is_within" "is_within" s_is_within f fd) (T : GT mg) (g1 : Kn P w K mg base k "is_whole" ["thing"] (spD S_is_whole)) :
    FnOk P w K mg base CX0 (k + 1) f fd ["thing", "low", "high"] (spD S_is_within) := by
  refine fn_D F sc_is_within T.b (fun ds q ⟨d, lo, hi, e, _⟩ => by rw [e]; rfl) ?_
  rintro cdv A outer s H E _ q hr ck ⟨d, lo, hi, rfl, h⟩
  refine bb_one (ss_ret (ee_and (ee_call ⟨_, hr, g1⟩ (ea_cons (ee_var 0 rfl (ea_nil ⟨d, rfl, _, rfl, ?_⟩))))))
  refine ite2 (fun c => ?_) (fun c => ?_)
  · obtain ⟨i, rfl⟩ := isW_iff c
    refine ee_one (ee_chain (ee_var 1 rfl (ee_var 0 rfl (br_le (ite2 (fun c1 => ee_var 2 rfl (br_le ?_)) (fun c1 => ?_))))))
    · exact fin (q := q) h (by have c1 : decide (lo ≤ i) = true := c1; rw [isIn, c1, Bool.true_and])
    · exact fin (q := q) h (by have c1 : ¬ decide (lo ≤ i) = true := c1; rw [isIn, Bool.eq_false_iff.mpr c1, Bool.false_and])
  · exact fin (q := q) h (by cases d <;> first | rfl | exact absurd rfl c)
def S_is_ferry : DSpec := fun ds k => ∃ F : Fy, ds = [dF F] ∧ F.Ok ∧ k (.bool true)
theorem sc_is_ferry : FnScope ["thing"] ["thing"] (defScope s_is_ferry) := ⟨rfl, rfl, rfl, by decide +kernel, rfl, by decide +kernel, by decide +kernel⟩
theorem ok_is_ferry {f : Addr} {fd : FuncData} {k : Nat} (F : Fun K "is_ferry" "is_ferry" s_is_ferry f fd) (T : GT mg) (g_is_within : Kn P w K mg base k "is_within" ["thing", "low", "high"] (spD S_is_within)) :
    FnOk P w K mg base CX0 (k + 1) f fd ["thing"] (spD S_is_ferry) := by
  refine fn_D F sc_is_ferry T.b (fun ds q ⟨d, e, _⟩ => by rw [e]; rfl) ?_
  rintro cdv A outer s H E _ q hr ck ⟨Y, rfl, ok, h⟩
  refine bb_cons <| ss_if (et_M (et_bool <| ew_orM (et_not <| et_val <| ee_isTup ck <| ee_var 0 rfl <| ⟨_, rfl, ⟨rfl, rfl⟩⟩) (fun _ => ew_orM (et_cmp <| ee_len ck <| ea_cons <| ee_var 0 rfl <| ea_nil <| ee_int <| br_ne ck <| ⟨rfl, rfl⟩) (fun _ => ew_one <| et_not <| et_val <| ee_call ⟨_, hr, g_is_within⟩ <| ea_cons <| ee_ix <| ee_var 0 rfl <| ee_int <| ⟨_, rfl, ea_cons <| ee_int <| ea_cons <| ee_int <| ea_nil <| ⟨_, _, _, rfl, ⟨_, rfl, ⟨rfl, rfl⟩⟩⟩⟩)))
     (ite2 (fun c => absurd c ?_)
     (fun c =>
    bb_nil <| bb_one <| ss_ret <| ee_M (ee_andM (ee_call ⟨_, hr, g_is_within⟩ <| ea_cons <| ee_ix <| ee_var 0 rfl <| ee_int <| ⟨_, rfl, ea_cons <| ee_int <| ea_cons <| ee_int <| ea_nil <| ⟨_, _, _, rfl, ⟨rfl, rfl⟩⟩⟩) (fun _ => ee_andM (ee_call ⟨_, hr, g_is_within⟩ <| ea_cons <| ee_ix <| ee_var 0 rfl <| ee_int <| ⟨_, rfl, ea_cons <| ee_int <| ea_cons <| ee_int <| ea_nil <| ⟨_, _, _, rfl, ⟨rfl, rfl⟩⟩⟩) (fun _ => ee_one <| ee_call ⟨_, hr, g_is_within⟩ <| ea_cons <| ee_ix <| ee_var 0 rfl <| ee_int <| ⟨_, rfl, ea_cons <| ee_int <| ea_cons <| ee_int <| ea_nil <| ⟨_, _, _, rfl, ⟨rfl, rfl⟩⟩⟩))) <| ?_)))
  · rw [isIn_int ok.s1 ok.s2]; exact Bool.false_ne_true
  · exact fin (q := q) h (by rw [isIn_int ok.w1 ok.w2, isIn_int ok.a1 ok.a2, isIn_int ok.m1 ok.m2]; rfl)
def S_is_leaving : DSpec := fun ds k => ∃ (F : Fy) (l : Int) (p : Int × Int), ds = [dF F, .int l, dLv p] ∧ (0 ≤ p.1 ∧ p.1 ≤ l) ∧ (1 ≤ p.2 ∧ p.2 ≤ F.s) ∧ k (.bool true)
theorem sc_is_leaving : FnScope ["ferry", "last", "thing"] ["ferry", "last", "thing"] (defScope s_is_leaving) := ⟨rfl, rfl, rfl, by decide +kernel, rfl, by decide +kernel, by decide +kernel⟩
theorem ok_is_leaving {f : Addr} {fd : FuncData} {k : Nat} (F : Fun K "is_leaving" "is_leaving" s_is_leaving f fd) (T : GT mg) (g_is_within : Kn P w K mg base k "is_within" ["thing", "low", "high"] (spD S_is_within)) :
    FnOk P w K mg base CX0 (k + 1) f fd ["ferry", "last", "thing"] (spD S_is_leaving) := by
  refine fn_D F sc_is_leaving T.b (fun ds q ⟨_, _, _, e, _⟩ => by rw [e]; rfl) ?_
  rintro cdv A outer s H E _ q hr ck ⟨Y, l, p, rfl, ⟨h1, h2⟩, ⟨h3, h4⟩, h⟩
  refine bb_cons <| ss_if (et_M (et_bool <| ew_orM (et_not <| et_val <| ee_isTup ck <| ee_var 2 rfl <| ⟨_, rfl, ⟨rfl, rfl⟩⟩) (fun _ => ew_one <| et_cmp <| ee_len ck <| ea_cons <| ee_var 2 rfl <| ea_nil <| ee_int <| br_ne ck <| ⟨rfl, rfl⟩))
     (ifF rfl <|
    bb_nil <| bb_one <| ss_ret <| ee_M (ee_andM (ee_call ⟨_, hr, g_is_within⟩ <| ea_cons <| ee_ix <| ee_var 2 rfl <| ee_int <| ⟨_, rfl, ea_cons <| ee_int <| ea_cons <| ee_var 1 rfl <| ea_nil <| ⟨_, _, _, rfl, ⟨rfl, rfl⟩⟩⟩) (fun _ => ee_one <| ee_call ⟨_, hr, g_is_within⟩ <| ea_cons <| ee_ix <| ee_var 2 rfl <| ee_int <| ⟨_, rfl, ea_cons <| ee_int <| ea_cons <| ee_ix <| ee_var 0 rfl <| ee_int <| ⟨_, rfl, ea_nil <| ⟨_, _, _, rfl, ⟨rfl, rfl⟩⟩⟩⟩)) <| ?_))
  exact fin (q := q) h (by rw [isIn_int h1 h2, isIn_int h3 h4]; rfl)
def S_is_book_of : DSpec := fun ds k => ∃ (F : Fy) (l : Int) (ls : Lvs), ds = [dF F, dB l ls] ∧ BkOk F l ls ∧ k (.bool true)
theorem sc_is_book_of : FnScope ["ferry", "thing", "last", "leavings", "one", "other"] ["ferry", "thing"] (defScope s_is_book_of) := ⟨rfl, rfl, rfl, by decide +kernel, rfl, by decide +kernel, by decide +kernel⟩
theorem all_tm {α : Type} (l : List α) : ∃ bs : List Bool, [PyData.list (l.map fun _ => PyData.bool true)] = [PyData.list (bs.map PyData.bool)] ∧ bs.all id = true :=
  ⟨l.map fun _ => true, by rw [List.map_map]; rfl, by simp⟩
theorem ok_is_book_of {f : Addr} {fd : FuncData} {k : Nat} (F : Fun K "is_book_of" "is_book_of" s_is_book_of f fd) (T : GT mg) (g_is_within : Kn P w K mg base k "is_within" ["thing", "low", "high"] (spD S_is_within)) (g_is_leaving : Kn P w K mg base k "is_leaving" ["ferry", "last", "thing"] (spD S_is_leaving)) :
    FnOk P w K mg base CX0 (k + 1) f fd ["ferry", "thing"] (spD S_is_book_of) := by
  refine fn_D F sc_is_book_of T.b (fun ds q ⟨_, _, _, e, _⟩ => by rw [e]; rfl) ?_
  rintro cdv A outer s H E _ q hr ck ⟨Y, l, ls, rfl, ok, h⟩
  obtain ⟨t1, T1⟩ := T.ml
  obtain ⟨t2, T2⟩ := T.mv
  have n10 : (ls.map dLv).length ≤ 10 := by rw [List.length_map]; exact ok.n
  refine bb_cons <| ss_if (et_M (et_bool <| ew_orM (et_not <| et_val <| ee_isTup ck <| ee_var 1 rfl <| ⟨_, rfl, ⟨rfl, rfl⟩⟩) (fun _ => ew_orM (et_cmp <| ee_len ck <| ea_cons <| ee_var 1 rfl <| ea_nil <| ee_int <| br_ne ck <| ⟨rfl, rfl⟩) (fun _ => ew_one <| et_not <| et_val <| ee_call ⟨_, hr, g_is_within⟩ <| ea_cons <| ee_ix <| ee_var 1 rfl <| ee_int <| ⟨_, rfl, ea_cons <| ee_int <| ea_cons <| ee_globI T1 <| ea_nil <| ⟨_, _, _, rfl, ⟨_, rfl, ⟨rfl, rfl⟩⟩⟩⟩)))
     (ite2 (fun c => absurd c ?_)
     (fun c =>
    bb_nil <| bb_cons <| ss_asg <| ee_var 1 rfl <| gg_tup ck <| ggs_cons <| gg_name 2 ck <| ggs_cons <| gg_name 3 ck <| ggs_nil <| 
    bb_cons <| ss_if (et_M (et_bool <| ew_orM (et_not <| et_val <| ee_isTup ck <| ee_var 3 rfl <| ⟨_, rfl, ⟨rfl, rfl⟩⟩) (fun _ => ew_one <| et_cmp <| ee_len ck <| ea_cons <| ee_var 3 rfl <| ea_nil <| ee_globI T2 <| br_gt <| ⟨rfl, rfl⟩))
     (ite2 (fun c => absurd c ?_)
     (fun c =>
    bb_nil <| bb_cons <| ss_if (et_not <| et_val <| ee_all ck <| ea_cons <| ee_lc [("one", 4)] ck (blkOk_by rfl) <| ii_tup <| ee_var 3 rfl <| ⟨_, rfl, lcK_map (fun _ => .bool true) (by omega) [4] (fun j hj => hj) (fun d hd _ _ _ _ _ => gg_name 4 ck.blk <| fun _ _ _ _ _ => ?_) <| ea_nil <| let ⟨bs, e1, e2⟩ := all_tm (ls.map dLv); ⟨bs, e1, ⟨true, congrArg PyData.bool e2, ifF rfl <|
    bb_nil <| bb_one <| ss_ret <| ee_all ck <| ea_cons <| ee_lc [("one", 4), ("other", 5)] ck (blkOk_by rfl) <| ii_zip2T ck <| ea_cons <| ee_var 3 rfl <| ea_cons <| ee_sl <| ee_var 3 rfl <| ee_int <| ⟨_, rfl, ea_nil <| ⟨_, _, rfl, lcK_map (fun _ => .bool true) ?_ [4, 5] (fun j hj => hj) (fun d hd _ _ _ _ _ => ?_) <| ea_nil <| let ⟨bs, e1, e2⟩ := all_tm (zipD (ls.map dLv) (DL.cutD (ls.map dLv) (some 1) none)); ⟨bs, e1, fin (q := q) h (congrArg PyData.bool e2)⟩⟩⟩⟩⟩⟩)))))))
  · rw [isIn_int ok.l0 ok.l1]; exact Bool.false_ne_true
  · intro z
    have := of_decide_eq_true (show decide ((10 : Int) < ((ls.map dLv).length : Int)) = true from z)
    omega
  · obtain ⟨p, hp, rfl⟩ := List.mem_map.mp hd
    exact ee_call ⟨_, hr, g_is_leaving⟩ <| ea_cons <| ee_var 0 rfl <| ea_cons <| ee_var 2 rfl <| ea_cons <| ee_var 4 rfl <| ea_nil <| ⟨_, _, p, rfl, ok.tk p hp, ok.ld p hp, rfl⟩
  · have : (zipD (ls.map dLv) (DL.cutD (ls.map dLv) (some 1) none)).length ≤ (ls.map dLv).length := by unfold zipD; rw [List.length_zipWith]; exact Nat.min_le_left _ _
    omega
  · obtain ⟨i, hi⟩ := List.mem_iff_getElem?.mp hd
    obtain ⟨x, y, hx, hy, rfl⟩ := zipD_get hi
    have hy2 : (ls.map dLv)[i + 1]? = some y := by
      have e0 : DL.cutD (ls.map dLv) (some 1) none = ((ls.map dLv).drop (min 1 (ls.map dLv).length)).take ((ls.map dLv).length - min 1 (ls.map dLv).length) := by
        unfold DL.cutD
        rw [show (some (1 : Int)) = some ((1 : Nat) : Int) from rfl, HT.sIx_nat, HT.sIx_none]
      rw [e0] at hy
      have lt := (List.getElem?_eq_some_iff.mp hx).1
      have e1 : min 1 (ls.map dLv).length = 1 := by omega
      rw [e1, List.getElem?_take] at hy
      by_cases hh : i < (ls.map dLv).length - 1
      · rw [if_pos hh, List.getElem?_drop, Nat.add_comm] at hy
        exact hy
      · rw [if_neg hh] at hy
        cases hy
    rw [List.getElem?_map] at hx hy2
    cases e1 : ls[i]? with
    | none => rw [e1] at hx; cases hx
    | some p =>
      cases e2 : ls[i + 1]? with
      | none => rw [e2] at hy2; cases hy2
      | some p2 =>
        rw [e1] at hx
        rw [e2] at hy2
        cases hx
        cases hy2
        have lt : p.1 < p2.1 := by
          have := List.pairwise_iff_getElem.mp ok.up i (i + 1) (by have := (List.getElem?_eq_some_iff.mp e1).1; exact this) (by have := (List.getElem?_eq_some_iff.mp e2).1; exact this) (Nat.lt_succ_self i)
          rw [(List.getElem?_eq_some_iff.mp e1).2, (List.getElem?_eq_some_iff.mp e2).2] at this
          exact this
        exact gg_tup (js := [4, 5]) ck.blk <| ggs_cons (js := [4]) (ks := [5]) <| gg_name 4 ck.blk <| ggs_cons (js := [5]) (ks := []) <| gg_name 5 ck.blk <| ggs_nil <| fun _ _ _ _ _ => ee_cmp <| ee_ix <| ee_var 4 rfl <| ee_int <| ⟨_, rfl, ee_ix <| ee_var 5 rfl <| ee_int <| ⟨_, rfl, br_lt <| (congrArg PyData.bool (decide_eq_true lt)).symm⟩⟩
def S_look_at_ferry : DSpec := fun ds k => ∃ F : Fy, ds = [dF F] ∧ F.Ok ∧ k .none
theorem sc_look_at_ferry : FnScope ["ferry"] ["ferry"] (defScope s_look_at_ferry) := ⟨rfl, rfl, rfl, by decide +kernel, rfl, by decide +kernel, by decide +kernel⟩
theorem ok_look_at_ferry {f : Addr} {fd : FuncData} {k : Nat} (F : Fun K "look_at_ferry" "look_at_ferry" s_look_at_ferry f fd) (T : GT mg) (g_is_ferry : Kn P w K mg base k "is_ferry" ["thing"] (spD S_is_ferry)) :
    FnOk P w K mg base CX0 (k + 1) f fd ["ferry"] (spD S_look_at_ferry) := by
  refine fn_D F sc_look_at_ferry T.b (fun ds q ⟨_, e, _⟩ => by rw [e]; rfl) ?_
  rintro cdv A outer s H E _ q hr ck ⟨Y, rfl, ok, h⟩
  exact bb_one <| ss_if (et_not <| et_val <| ee_call ⟨_, hr, g_is_ferry⟩ <| ea_cons <| ee_var 0 rfl <| ea_nil <| ⟨Y, rfl, ok, ⟨_, rfl, ifF rfl <| bb_nil h⟩⟩)
def S_look_at : DSpec := fun ds k => ∃ (F : Fy) (l : Int) (ls : Lvs), ds = [dF F, dB l ls] ∧ F.Ok ∧ BkOk F l ls ∧ k .none
theorem sc_look_at : FnScope ["ferry", "book"] ["ferry", "book"] (defScope s_look_at) := ⟨rfl, rfl, rfl, by decide +kernel, rfl, by decide +kernel, by decide +kernel⟩
theorem ok_look_at {f : Addr} {fd : FuncData} {k : Nat} (F : Fun K "look_at" "look_at" s_look_at f fd) (T : GT mg) (g_look_at_ferry : Kn P w K mg base k "look_at_ferry" ["ferry"] (spD S_look_at_ferry)) (g_is_book_of : Kn P w K mg base k "is_book_of" ["ferry", "thing"] (spD S_is_book_of)) :
    FnOk P w K mg base CX0 (k + 1) f fd ["ferry", "book"] (spD S_look_at) := by
  refine fn_D F sc_look_at T.b (fun ds q ⟨_, _, _, e, _⟩ => by rw [e]; rfl) ?_
  rintro cdv A outer s H E _ q hr ck ⟨Y, l, ls, rfl, okF, ok, h⟩
  exact bb_cons <| ss_expr <| ee_call ⟨_, hr, g_look_at_ferry⟩ <| ea_cons <| ee_var 0 rfl <| ea_nil <| ⟨Y, rfl, okF, bb_one <| ss_if (et_not <| et_val <| ee_call ⟨_, hr, g_is_book_of⟩ <| ea_cons <| ee_var 0 rfl <| ea_cons <| ee_var 1 rfl <| ea_nil <| ⟨Y, l, ls, rfl, ok, ⟨_, rfl, ifF rfl <| bb_nil h⟩⟩)⟩
end
end FB

namespace FB
open PySem PySem.Spec PyProof.Rows L2 DL FM
/-! ### Bounds -/
abbrev iL (l : List Int) : List PyData := l.map PyData.int
theorem setFd_same {f : Str} {d : Fd} : ∀ {fs : List (Str × Fd)}, fs.lookup f = some d → setFd f d fs = fs
  | [], e => by simp at e
  | (n, x) :: r, e => by
    rw [List.lookup_cons] at e
    unfold setFd
    by_cases z : n = f
    · subst z
      rw [beq_self_eq_true] at e; cases e
      rw [if_pos rfl]
    · rw [show (f == n) = false from beq_eq_false_iff_ne.mpr (Ne.symm z)] at e
      rw [if_neg z, setFd_same e]
theorem ixN_nat {n : Nat} {t : Int} (h0 : 0 ≤ t) (h1 : t.toNat < n) : ixN n t = some t.toNat := by
  unfold ixN
  rw [if_pos h0, if_pos (by omega)]
theorem atI_nat {α : Type} {l : List α} {t : Int} {d : α} (h0 : 0 ≤ t) (h1 : l[t.toNat]? = some d) : atI l t = some d := by
  unfold atI
  rw [ixN_nat h0 (by have := (List.getElem?_eq_some_iff.mp h1).1; exact this)]
  exact h1
theorem iL_get {l : List Int} {n : Nat} (h : n < l.length) : (iL l)[n]? = some (.int (l.getD n 0)) := by
  rw [List.getElem?_map, List.getD_eq_getElem?_getD, List.getElem?_eq_getElem h]
  rfl
theorem iL_set (l : List Int) (n : Nat) (v : Int) : (iL l).set n (.int v) = iL (l.set n v) := (List.map_set).symm
abbrev bNs : List Str := ["ferry", "last", "leavings", "least", "most", "good", "gone"]
abbrev fsB (F : Fy) (last : Int) (ls : Lvs) (la ma : Addr) (b : BS) : List (Str × Fd) :=
  [("ferry", .dat (dF F)), ("last", .dat (.int last)), ("leavings", .dat (dLs ls)), ("least", .own la (iL b.L)), ("most", .own ma (iL b.U)), ("good", .dat (.bool b.good))]
abbrev fsG (F : Fy) (last : Int) (ls : Lvs) (la ma : Addr) (b : BS) (g : Int) : List (Str × Fd) :=
  [("ferry", .dat (dF F)), ("last", .dat (.int last)), ("leavings", .dat (dLs ls)), ("least", .own la (iL b.L)), ("most", .own ma (iL b.U)), ("good", .dat (.bool b.good)), ("gone", .dat (.int g))]
theorem bb_fs {X : Cx} {ρ : List Sl} {r : List Stmt} {D : DE} {i : Nat} {p C : Addr} {fs fs' : List (Str × Fd)} (e : fs = fs') (h : BB X (ρ.set i (.bo p C fs')) r D) : BB X (ρ.set i (.bo p C fs)) r D := by rw [e]; exact h
section
variable {P : Program} {w : World} {K : PySem.W.Frag} {mg : Str → Option Value} {base : Heap} {C : Addr}
def S_at_least : SpecM := fun fs ds k => ∃ a L t v, fs.lookup ("least" : Str) = some (Fd.own a (iL L)) ∧ ds = [.int t, .int v] ∧ 0 ≤ t ∧ t.toNat < L.length ∧ k .none (setFd "least" (.own a (iL (upL L t v))) fs)
theorem sc_at_least : FnScope ["self", "tick", "many"] ["self", "tick", "many"] (defScope s_Bounds_at_least) := ⟨rfl, rfl, rfl, by decide +kernel, rfl, by decide +kernel, by decide +kernel⟩
theorem ok_at_least {f : Addr} {fd : FuncData} {k : Nat} (F : Fun K "at_least" "Bounds.at_least" s_Bounds_at_least f fd) (T : GT mg) (B : CB K C bNs) :
    FnOk P w K mg base CX0 (k + 1) f fd ["self", "tick", "many"] (spM C S_at_least) := by
  refine fn_M F sc_at_least T.b (fun fs ds q ⟨_, _, _, _, _, e, _⟩ => by rw [e]; rfl) ?_
  rintro cdv A outer s H E p fs _ q hr ck ⟨a, L, t, v, hl, rfl, h0, h1, h⟩
  have na := B.na "least" (by simp)
  refine bb_one <| ss_oIx (a := a) 0 B.cls na (ee_max ck <| ea_cons <| ee_oIx 0 rfl B.cls na hl <| ee_var 1 rfl <| ⟨t, _, fs, _, rfl, rfl, hl, atI_nat h0 (iL_get h1), ea_cons <| ee_var 2 rfl <| ea_nil <| ⟨fs, _, rfl, hl, ee_var 1 rfl ⟨t, _, fs, _, rfl, rfl, hl, ixN_nat h0 (by rw [List.length_map]; exact h1), ⟨_, rfl, ?_⟩⟩⟩⟩)
  rw [iL_set]
  exact h
def S_at_most : SpecM := fun fs ds k => ∃ a U t v, fs.lookup ("most" : Str) = some (Fd.own a (iL U)) ∧ ds = [.int t, .int v] ∧ t.toNat < U.length ∧ k .none (setFd "most" (.own a (iL (upU U t v))) fs)
theorem sc_at_most : FnScope ["self", "tick", "many"] ["self", "tick", "many"] (defScope s_Bounds_at_most) := ⟨rfl, rfl, rfl, by decide +kernel, rfl, by decide +kernel, by decide +kernel⟩
theorem ok_at_most {f : Addr} {fd : FuncData} {k : Nat} (F : Fun K "at_most" "Bounds.at_most" s_Bounds_at_most f fd) (T : GT mg) (B : CB K C bNs) :
    FnOk P w K mg base CX0 (k + 1) f fd ["self", "tick", "many"] (spM C S_at_most) := by
  refine fn_M F sc_at_most T.b (fun fs ds q ⟨_, _, _, _, _, e, _⟩ => by rw [e]; rfl) ?_
  rintro cdv A outer s H E p fs _ q hr ck ⟨a, U, t, v, hl, rfl, h1, h⟩
  have na := B.na "most" (by simp)
  refine bb_one <| ss_if (et_M (et_cmp <| ee_var 1 rfl <| ee_int <| br_ge <| ⟨rfl, rfl⟩)
     (ite2 (fun c =>
    bb_one <| ss_oIx (a := a) 0 B.cls na (ee_min ck <| ea_cons <| ee_oIx 0 rfl B.cls na hl <| ee_var 1 rfl <| ⟨t, _, fs, _, rfl, rfl, hl, atI_nat (of_decide_eq_true c) (iL_get h1), ea_cons <| ee_var 2 rfl <| ea_nil <| ⟨fs, _, rfl, hl, ee_var 1 rfl ⟨t, _, fs, _, rfl, rfl, hl, ixN_nat (of_decide_eq_true c) (by rw [List.length_map]; exact h1), ⟨_, rfl, ?_⟩⟩⟩⟩))
     (fun c =>
    bb_nil <| ⟨fs, rfl, ?_⟩)))
  · rw [iL_set]
    unfold upU at h
    rw [if_pos (of_decide_eq_true c)] at h
    exact h
  · unfold upU at h
    rw [if_neg (fun z => c (decide_eq_true z)), setFd_same hl] at h
    exact h

def S_leaving : SpecM := fun fs ds k => ∃ F last ls la ma b home gone tick load, fs = fsB F last ls la ma b ∧ ds = [.int home, .int gone, .int tick, .int load] ∧ (0 ≤ tick ∧ tick.toNat < b.L.length ∧ b.U.length = b.L.length ∧ 0 ≤ home ∧ 1 ≤ F.w) ∧ k .none (fsB F last ls la ma (leave F b home gone tick load))
theorem sc_leaving : FnScope ["self", "home", "gone", "tick", "load", "first", "seats", "waits", "away", "most"] ["self", "home", "gone", "tick", "load"] (defScope s_Bounds_leaving) := ⟨rfl, rfl, rfl, by decide +kernel, rfl, by decide +kernel, by decide +kernel⟩
theorem dI_if {c : Prop} [Decidable c] {x y : Int} (h : c) : PyData.int x = .int (if c then x else y) := congrArg PyData.int (if_pos h).symm
theorem dI_ifn {c : Prop} [Decidable c] {x y : Int} (h : ¬ c) : PyData.int y = .int (if c then x else y) := congrArg PyData.int (if_neg h).symm
theorem lk_least {F : Fy} {last : Int} {ls : Lvs} {la ma : Addr} {b : BS} : (fsB F last ls la ma b).lookup ("least" : Str) = some (Fd.own la (iL b.L)) := rfl
theorem lk_most {F : Fy} {last : Int} {ls : Lvs} {la ma : Addr} {b : BS} : (fsB F last ls la ma b).lookup ("most" : Str) = some (Fd.own ma (iL b.U)) := rfl
theorem st_least {F : Fy} {last : Int} {ls : Lvs} {la ma : Addr} {b : BS} {L : List Int} : setFd "least" (.own la (iL L)) (fsB F last ls la ma b) = fsB F last ls la ma ⟨L, b.U, b.good⟩ := by kernel_rfl
theorem st_most {F : Fy} {last : Int} {ls : Lvs} {la ma : Addr} {b : BS} {U : List Int} : setFd "most" (.own ma (iL U)) (fsB F last ls la ma b) = fsB F last ls la ma ⟨b.L, U, b.good⟩ := by kernel_rfl
theorem st_good {F : Fy} {last : Int} {ls : Lvs} {la ma : Addr} {b : BS} {g : Bool} : setFd "good" (.dat (.bool g)) (fsB F last ls la ma b) = fsB F last ls la ma ⟨b.L, b.U, g⟩ := by kernel_rfl
def KnM (P : Program) (w : World) (K : PySem.W.Frag) (mg : Str → Option Value) (base : Heap) (k : Nat) (C : Addr) (m : Str) (ps : List Str) (sp : Sp) : Prop :=
  ∃ (f : Addr) (fd : FuncData), FnOk P w K mg base CX0 k f fd ps sp ∧ Meth K C m f ∧ Binds K fd ps []
theorem KnM.cal {X : Cx} {k : Nat} {C : Addr} {m : Str} {ps : List Str} {sp : Sp} (hr : Room k X.A) (g : KnM X.prog X.w X.K X.mg X.base k C m ps sp) : CalM X C m ps sp := by
  obtain ⟨f, fd, a, b, c⟩ := g
  exact ⟨k, f, fd, hr, a, b, c⟩
theorem ok_leaving {f : Addr} {fd : FuncData} {k : Nat} (F : Fun K "leaving" "Bounds.leaving" s_Bounds_leaving f fd) (T : GT mg) (B : CB K C bNs) (g1 : KnM P w K mg base k C "at_least" ["self", "tick", "many"] (spM C S_at_least)) (g2 : KnM P w K mg base k C "at_most" ["self", "tick", "many"] (spM C S_at_most)) :
    FnOk P w K mg base CX0 (k + 1) f fd ["self", "home", "gone", "tick", "load"] (spM C S_leaving) := by
  refine fn_M F sc_leaving T.b (fun fs ds q ⟨_, _, _, _, _, _, _, _, _, _, _, e, _⟩ => by rw [e]; rfl) ?_
  rintro cdv A outer s H E p _ _ q hr ck ⟨Y, last, ls, la, ma, b, home, gone, tick, load, rfl, rfl, ⟨t0, t1, lU, h0, w1⟩, h⟩
  obtain ⟨te, Te⟩ := T.en
  have nf := B.na "ferry" (by simp)
  have ng := B.na "good" (by simp)
  have l1 : (upL b.L tick (gone + load)).length = b.L.length := upL_len _ _ _
  refine bb_cons <| ss_asg <| ee_oF 0 rfl B.cls nf rfl <| gg_tup ck <| ggs_cons <| gg_name 6 ck <| ggs_cons <| gg_name 7 ck <| ggs_cons <| gg_name 8 ck <| ggs_cons <| gg_name 9 ck <| ggs_nil <|
    bb_cons <| ss_set 5 ck <| ee_sub <| ee_var 3 rfl <| ee_var 7 rfl <|
    bb_cons <| ss_expr <| ee_meth 0 B.cls (KnM.cal hr g1) rfl rfl <| ea_cons <| ee_var 3 rfl <| ea_cons <| ee_add <| ee_var 2 rfl <| ee_var 4 rfl <| ea_nil <| ⟨_, rfl, la, b.L, tick, gone + load, lk_least, rfl, t0, t1, bb_fs (i := 0) st_least <|
    bb_one <| ss_if (et_M (et_cmp <| ee_var 3 rfl <| ee_var 1 rfl <| br_lt <| ⟨rfl, rfl⟩)
      (ite2 (fun c => bb_one <| ss_oF 0 B.cls ng (ee_bl ⟨_, rfl, (by show (6 : Nat) < 1000; decide), ⟨_, rfl, ?_⟩⟩))
       (fun c => bb_one <| ss_if (et_M (et_cmp <| ee_var 4 rfl <| ee_var 6 rfl <| br_lt <| ⟨rfl, rfl⟩)
        (ite2 (fun c1 => bb_cons <| ss_expr <| ee_meth 0 B.cls (KnM.cal hr g2) rfl rfl <| ea_cons <| ee_var 3 rfl <| ea_cons <| ee_add <| ee_var 2 rfl <| ee_var 4 rfl <| ea_nil <| ⟨_, rfl, ma, b.U, tick, gone + load, lk_most, rfl, by omega, bb_fs (i := 0) st_most <|
          bb_one <| ss_if (et_M (et_cmp <| ee_var 5 rfl <| ee_var 1 rfl <| br_lt <| ⟨rfl, rfl⟩)
          (ite2 (fun c2 => bb_one <| ss_oF 0 B.cls ng (ee_bl ⟨_, rfl, (by show (6 : Nat) < 1000; decide), ⟨_, rfl, ?_⟩⟩))
           (fun c2 => bb_cons <| ss_expr <| ee_meth 0 B.cls (KnM.cal hr g1) rfl rfl <| ea_cons <| ee_var 5 rfl <| ea_cons <| ee_add <| ee_var 2 rfl <| ee_int <| ea_nil <| ⟨_, rfl, la, _, tick - Y.w, gone + 1, lk_least, rfl, ?_, ?_, bb_fs (i := 0) st_least <|
            bb_one <| ss_expr <| ee_meth 0 B.cls (KnM.cal hr g2) rfl rfl <| ea_cons <| ee_sub <| ee_var 5 rfl <| ee_int <| ea_cons <| ee_M (d := .int (if home < tick - Y.w then gone else endless)) (ee_if (et_M (et_cmp <| ee_var 5 rfl <| ee_var 1 rfl <| br_gt <| ⟨rfl, rfl⟩) (ite2 (fun c3 => ee_var 2 rfl ⟨dI_if (of_decide_eq_true c3), rfl⟩) (fun c3 => ee_globI Te ⟨dI_ifn (fun z => c3 (decide_eq_true z)), rfl⟩)))) <| ea_nil <| ⟨_, rfl, ma, _, tick - Y.w - 1, _, lk_most, rfl, ?_, ⟨_, rfl, ?_⟩⟩⟩)))⟩)
         (fun c1 => bb_cons <| ss_expr <| ee_meth 0 B.cls (KnM.cal hr g2) rfl rfl <| ea_cons <| ee_sub <| ee_var 3 rfl <| ee_int <| ea_cons <| ee_M (d := .int (if home < tick then gone + Y.s - 1 else endless)) (ee_if (et_M (et_cmp <| ee_var 3 rfl <| ee_var 1 rfl <| br_gt <| ⟨rfl, rfl⟩) (ite2 (fun c3 => ee_sub <| ee_add <| ee_var 2 rfl <| ee_var 6 rfl <| ee_int ⟨dI_if (of_decide_eq_true c3), rfl⟩) (fun c3 => ee_globI Te ⟨dI_ifn (fun z => c3 (decide_eq_true z)), rfl⟩)))) <| ea_nil <| ⟨_, rfl, ma, _, tick - 1, _, lk_most, rfl, ?_, bb_fs (i := 0) st_most <|
          bb_one <| ss_expr <| ee_meth 0 B.cls (KnM.cal hr g2) rfl rfl <| ea_cons <| ee_sub <| ee_var 5 rfl <| ee_int <| ea_cons <| ee_M (d := .int (if home < tick - Y.w then gone else endless)) (ee_if (et_M (et_cmp <| ee_var 5 rfl <| ee_var 1 rfl <| br_gt <| ⟨rfl, rfl⟩) (ite2 (fun c3 => ee_var 2 rfl ⟨dI_if (of_decide_eq_true c3), rfl⟩) (fun c3 => ee_globI Te ⟨dI_ifn (fun z => c3 (decide_eq_true z)), rfl⟩)))) <| ea_nil <| ⟨_, rfl, ma, _, tick - Y.w - 1, _, lk_most, rfl, ?_, ⟨_, rfl, ?_⟩⟩⟩))))))⟩
  · have c' : tick < home := of_decide_eq_true c
    unfold leave at h
    rw [if_pos c'] at h
    rw [st_good]
    exact h
  · have c' : ¬ tick < home := fun z => c (decide_eq_true z)
    have c1' : load < Y.s := of_decide_eq_true c1
    have c2' : tick - Y.w < home := of_decide_eq_true c2
    unfold leave at h
    rw [if_neg c', if_pos c1', if_pos c2'] at h
    rw [st_good]
    exact h
  · have c2' : ¬ tick - Y.w < home := fun z => c2 (decide_eq_true z)
    omega
  · show (tick - Y.w).toNat < (upL b.L tick (gone + load)).length
    rw [l1]; omega
  · show (tick - Y.w - 1).toNat < (upU b.U tick (gone + load)).length
    rw [upU_len]; omega
  · have c' : ¬ tick < home := fun z => c (decide_eq_true z)
    have c1' : load < Y.s := of_decide_eq_true c1
    have c2' : ¬ tick - Y.w < home := fun z => c2 (decide_eq_true z)
    unfold leave at h
    rw [if_neg c', if_pos c1', if_neg c2'] at h
    rw [st_most]
    exact h
  · show (tick - 1).toNat < b.U.length
    omega
  · show (tick - Y.w - 1).toNat < (upU b.U _ _).length
    rw [upU_len]; omega
  · have c' : ¬ tick < home := fun z => c (decide_eq_true z)
    have c1' : ¬ load < Y.s := fun z => c1 (decide_eq_true z)
    unfold leave at h
    rw [if_neg c', if_neg c1'] at h
    rw [st_most]
    exact h
end
end FB

namespace FB
open PySem PySem.Spec PyProof.Rows L2 DL FM
section
variable {P : Program} {w : World} {K : PySem.W.Frag} {mg : Str → Option Value} {base : Heap} {C : Addr}
def S_init : SpecM := fun fs ds k => ∃ F last ls, fs = [] ∧ ds = [dF F, dB last ls] ∧ F.Ok ∧ BkOk F last ls ∧ ∀ la ma, k .none (fsG F last ls la ma (bounds F last ls) (goneOf ls))
theorem sc_init : FnScope ["self", "ferry", "book", "home", "gone", "tick", "load"] ["self", "ferry", "book"] (defScope s_Bounds___init__) := ⟨rfl, rfl, rfl, by decide +kernel, rfl, by decide +kernel, by decide +kernel⟩
/-- .. after the first i leavings -/
def lvI (F : Fy) (last : Int) (ls : Lvs) (i : Nat) : BS × Int × Int := leaves F (bs0 last) 0 0 (ls.take i)
theorem leaves_app (F : Fy) : ∀ (xs ys : Lvs) (b : BS) (h g : Int), leaves F b h g (xs ++ ys) = leaves F (leaves F b h g xs).1 (leaves F b h g xs).2.1 (leaves F b h g xs).2.2 ys
  | [], _, _, _, _ => rfl
  | x :: xs, ys, b, h, g => leaves_app F xs ys _ _ _
theorem lvI_succ {F : Fy} {last : Int} {ls : Lvs} {i : Nat} {p : Int × Int} (h : ls[i]? = some p) : lvI F last ls (i + 1) = (leave F (lvI F last ls i).1 (lvI F last ls i).2.1 (lvI F last ls i).2.2 p.1 p.2, p.1 + F.a, (lvI F last ls i).2.2 + p.2) := by
  unfold lvI
  rw [List.take_succ, h, leaves_app]
  rfl
theorem leaves_home {F : Fy} (a1 : 1 ≤ F.a) : ∀ (ls : Lvs) (b : BS) (h g : Int), 0 ≤ h → (∀ p ∈ ls, 0 ≤ p.1) → 0 ≤ (leaves F b h g ls).2.1
  | [], _, _, _, h0, _ => h0
  | p :: r, b, h, g, h0, hp => leaves_home a1 r _ _ _ (by have := hp p (.head _); omega) fun q hq => hp q (.tail _ hq)
theorem leaves_gone (F : Fy) : ∀ (ls : Lvs) (b : BS) (h g : Int), (leaves F b h g ls).2.2 = g + goneOf ls
  | [], _, _, g => by show g = g + 0; omega
  | p :: r, b, h, g => by
    show (leaves F _ _ _ r).2.2 = g + (p.2 + goneOf r)
    rw [leaves_gone F r]; omega
theorem st_mostG {F : Fy} {last : Int} {ls : Lvs} {la ma : Addr} {b : BS} {g : Int} {U : List Int} : setFd "most" (.own ma (iL U)) (fsG F last ls la ma b g) = fsG F last ls la ma ⟨b.L, U, b.good⟩ g := by kernel_rfl
theorem ok_init {f : Addr} {fd : FuncData} {k : Nat} (F : Fun K "__init__" "Bounds.__init__" s_Bounds___init__ f fd) (T : GT mg) (B : CB K C bNs) (g1 : KnM P w K mg base k C "leaving" ["self", "home", "gone", "tick", "load"] (spM C S_leaving)) (g2 : KnM P w K mg base k C "at_most" ["self", "tick", "many"] (spM C S_at_most)) :
    FnOk P w K mg base CX0 (k + 1) f fd ["self", "ferry", "book"] (spM C S_init) := by
  refine fn_M F sc_init T.b (fun fs ds q ⟨_, _, _, _, e, _⟩ => by rw [e]; rfl) ?_
  rintro cdv A outer s H E p _ _ q hr ck ⟨Y, last, ls, rfl, rfl, okF, ok, h⟩
  obtain ⟨te, Te⟩ := T.en
  have nf := B.na "ferry" (by simp)
  have nl := B.na "last" (by simp)
  have nv := B.na "leavings" (by simp)
  have n1 := B.na "least" (by simp)
  have n2 := B.na "most" (by simp)
  have ng := B.na "good" (by simp)
  have no := B.na "gone" (by simp)
  have l0 := ok.l0
  have l1 := ok.l1
  refine bb_cons <| ss_oF 0 B.cls nf (ee_var 1 rfl ⟨_, rfl, by decide, bb_fs (i := 0) (fs' := [("ferry", .dat (dF Y))]) rfl <|
    bb_cons <| ss_oF2 0 ck B.cls nl nv (ee_var 2 rfl ⟨_, _, _, rfl, rfl, (by show (1 : Nat) < 900; decide), bb_fs (i := 0) (fs' := [("ferry", .dat (dF Y)), ("last", .dat (.int last)), ("leavings", .dat (dLs ls))]) (by kernel_rfl) <|
    bb_cons <| ss_oRep 0 B.cls n1 (ee_int <| ee_add <| ee_oF 0 rfl B.cls nl rfl <| ee_int ⟨last + 1, _, rfl, by omega, rfl, (by show (3 : Nat) < 1000; decide), fun la => bb_fs (i := 0) (fs' := [("ferry", .dat (dF Y)), ("last", .dat (.int last)), ("leavings", .dat (dLs ls)), ("least", .own la (iL (bs0 last).L))]) ?_ <|
    bb_cons <| ss_oRep 0 B.cls n2 (ee_globI Te <| ee_add <| ee_oF 0 rfl B.cls nl rfl <| ee_int ⟨last + 1, _, rfl, by omega, rfl, (by show (4 : Nat) < 1000; decide), fun ma => bb_fs (i := 0) (fs' := [("ferry", .dat (dF Y)), ("last", .dat (.int last)), ("leavings", .dat (dLs ls)), ("least", .own la (iL (bs0 last).L)), ("most", .own ma (iL (bs0 last).U))]) ?_ <|
    bb_cons <| ss_oF 0 B.cls ng (ee_bl ⟨_, rfl, (by show (5 : Nat) < 1000; decide), bb_fs (i := 0) (fs' := fsB Y last ls la ma (bs0 last)) (by kernel_rfl) <|
    bb_cons <| ss_asg <| ee_tup <| ea_cons <| ee_int <| ea_cons <| ee_int <| ea_nil <| ⟨by decide, gg_tup ck <| ggs_cons <| gg_name 3 ck <| ggs_cons <| gg_name 4 ck <| ggs_nil <|
    bb_cons <| ss_for ck <| ii_tup <| ee_oF 0 rfl B.cls nv rfl <| ⟨_, rfl, fun i ρ => ∃ s5 s6, ρ = [.bo p C (fsB Y last ls la ma (lvI Y last ls i).1), .dat (dF Y), .dat (dB last ls), .dat (.int (lvI Y last ls i).2.1), .dat (.int (lvI Y last ls i).2.2), s5, s6] ∧ s5.ad = [] ∧ s6.ad = [], ⟨_, _, rfl, rfl, rfl⟩, ?_, ?_⟩⟩⟩)⟩)⟩)⟩)⟩)
  · rw [show iL (bs0 last).L = List.replicate (last + 1).toNat (.int 0) from List.map_replicate]
    kernel_rfl
  · rw [show iL (bs0 last).U = List.replicate (last + 1).toNat (.int 1000000) from List.map_replicate]
    kernel_rfl
  · rintro i d ρ hd ⟨s5, s6, rfl, e5, e6⟩
    rw [List.getElem?_map] at hd
    cases hp : ls[i]? with
    | none => rw [hp] at hd; cases hd
    | some pr =>
    rw [hp] at hd
    cases hd
    have mem : pr ∈ ls := List.mem_of_getElem? hp
    obtain ⟨k0, k1⟩ := ok.tk pr mem
    have hL : (lvI Y last ls i).1.L.length = (last + 1).toNat := (leaves_lenL Y _ _ _ _).trans List.length_replicate
    have hU : (lvI Y last ls i).1.U.length = (last + 1).toNat := (leaves_lenU Y _ _ _ _).trans List.length_replicate
    have hh : 0 ≤ (lvI Y last ls i).2.1 := leaves_home okF.a1 _ _ _ _ (Int.le_refl 0) fun q hq => (ok.tk q (List.mem_of_mem_take hq)).1
    refine ⟨_, gg_tup ck <| ggs_cons <| gg_name 5 ck <| ggs_cons <| gg_name 6 ck <| ggs_nil <|
      bb_cons <| ss_expr <| ee_meth 0 B.cls (KnM.cal hr g1) rfl rfl <| ea_cons <| ee_var 3 rfl <| ea_cons <| ee_var 4 rfl <| ea_cons <| ee_var 5 rfl <| ea_cons <| ee_var 6 rfl <| ea_nil <| ⟨_, rfl, Y, last, ls, la, ma, _, _, _, pr.1, pr.2, rfl, rfl, ⟨k0, by rw [hL]; omega, hU.trans hL.symm, hh, okF.w1⟩,
      bb_one <| ss_par (i := 3) (j := 4) ck <| ea_cons <| ee_add <| ee_var 5 rfl <| ee_ix <| ee_var 1 rfl <| ee_int <| ⟨_, rfl, ea_cons <| ee_add <| ee_var 4 rfl <| ee_var 6 rfl <| ea_nil <| ⟨_, _, rfl, .dat (.int pr.1), .dat (.int pr.2), ?_, rfl, rfl⟩⟩⟩⟩
    rw [lvI_succ hp]
    rfl
  · rintro ρ ⟨s5, s6, rfl, e5, e6⟩
    have eT : lvI Y last ls (ls.map dLv).length = leaves Y (bs0 last) 0 0 ls := by unfold lvI; rw [List.length_map, List.take_length]
    rw [eT]
    have eg : (leaves Y (bs0 last) 0 0 ls).2.2 = goneOf ls := (leaves_gone Y ls _ _ _).trans (Int.zero_add _)
    have hL : (leaves Y (bs0 last) 0 0 ls).1.L.length = (last + 1).toNat := (leaves_lenL Y _ _ _ _).trans List.length_replicate
    have hU : (leaves Y (bs0 last) 0 0 ls).1.U.length = (last + 1).toNat := (leaves_lenU Y _ _ _ _).trans List.length_replicate
    have w1 := okF.w1
    have hq := h la ma
    unfold bounds close at hq
    rw [eg] at hq ⊢
    refine bb_cons <| ss_oF 0 B.cls no (ee_var 4 rfl ⟨_, rfl, (by show (6 : Nat) < 1000; decide), bb_fs (i := 0) (fs' := fsG Y last ls la ma (leaves Y (bs0 last) 0 0 ls).1 (goneOf ls)) (by kernel_rfl) <|
      bb_one <| ss_if (et_M (et_cmp <| ee_var 3 rfl <| ee_oF 0 rfl B.cls nl rfl <| br_le <| ⟨rfl, rfl⟩)
      (ite2 (fun c => bb_cons <| ss_expr <| ee_meth 0 B.cls (KnM.cal hr g2) rfl rfl <| ea_cons <| ee_oF 0 rfl B.cls nl rfl <| ea_cons <| ee_sub <| ee_add <| ee_var 4 rfl <| ee_ix <| ee_var 1 rfl <| ee_int <| ⟨_, rfl, ee_int <| ea_nil <| ⟨_, rfl, ma, (leaves Y (bs0 last) 0 0 ls).1.U, last, _, rfl, rfl, ?_, bb_fs (i := 0) st_mostG <|
        bb_one <| ss_expr <| ee_meth 0 B.cls (KnM.cal hr g2) rfl rfl <| ea_cons <| ee_sub <| ee_oF 0 rfl B.cls nl rfl <| ee_ix <| ee_var 1 rfl <| ee_int <| ⟨_, rfl, ea_cons <| ee_M (d := .int (if (leaves Y (bs0 last) 0 0 ls).2.1 ≤ last - Y.w then goneOf ls else endless)) (ee_if (et_M (et_cmp <| ee_sub <| ee_oF 0 rfl B.cls nl rfl <| ee_ix <| ee_var 1 rfl <| ee_int <| ⟨_, rfl, ee_var 3 rfl <| br_ge <| ⟨rfl, rfl⟩⟩) (ite2 (fun c3 => ee_var 4 rfl ⟨dI_if (of_decide_eq_true c3), rfl⟩) (fun c3 => ee_globI Te ⟨dI_ifn (fun z => c3 (decide_eq_true z)), rfl⟩)))) <| ea_nil <| ⟨_, rfl, ma, (upU (leaves Y (bs0 last) 0 0 ls).1.U last (goneOf ls + Y.s - 1)), last - Y.w, _, rfl, rfl, ?_, ⟨_, rfl, ?_⟩⟩⟩⟩⟩)
       (fun c => bb_nil <| ⟨_, rfl, ?_⟩)))⟩)
    · rw [hU]; omega
    · rw [upU_len, hU]; omega
    · rw [if_pos (of_decide_eq_true c)] at hq
      rw [st_mostG]
      exact hq
    · rw [if_neg fun z => c (decide_eq_true z)] at hq
      exact hq
end
end FB

namespace FB
open PySem PySem.Spec PyProof.Rows L2 DL FM
section
variable {P : Program} {w : World} {K : PySem.W.Frag} {mg : Str → Option Value} {base : Heap} {C : Addr}
def dSt : Option (List (Int × Int)) → PyData
  | none => .none
  | some l => .list (l.map dLv)
abbrev fsO (F : Fy) (last : Int) (ls : Lvs) (b : BS) (g : Int) : List (Str × PyData) :=
  [("ferry", dF F), ("last", .int last), ("leavings", dLs ls), ("least", .list (iL b.L)), ("most", .list (iL b.U)), ("good", .bool b.good), ("gone", .int g)]
def S_stairsM : List (Str × PyData) → (PyData → Prop) → Prop := fun fs k => ∃ F last ls b g, fs = fsO F last ls b g ∧ (0 ≤ last ∧ last ≤ 60 ∧ b.L.length = (last + 1).toNat ∧ b.U.length = (last + 1).toNat) ∧ k (dSt (stairsB F b))
theorem sc_stairsM : FnScope ["self", "step", "tick", "good", "least", "most", "ahead", "one", "other"] ["self"] (defScope s_Bounds_stairs) := ⟨rfl, rfl, rfl, by decide +kernel, rfl, by decide +kernel, by decide +kernel⟩
theorem iL_at {l : List Int} {n : Nat} {v : Int} (h : l[n]? = some v) : (iL l)[n]? = some (.int v) := by rw [List.getElem?_map, h]; rfl
theorem le2 : 2 ≤ 1000000 := by decide
def pv (A : List Int) (i : Nat) : Int := if 0 < i then A.getD (i - 1) 0 else 0
def leD : PyData → PyData
  | .tuple [.int a, .int b] => .bool (decide (a ≤ b))
  | _ => .none
theorem zipD_iL : ∀ xs ys : List Int, zipD (iL xs) (iL ys) = (xs.zip ys).map dLv
  | [], _ => rfl
  | _ :: _, [] => rfl
  | x :: xs, y :: ys => congrArg (List.cons (dLv (x, y))) (zipD_iL xs ys)
theorem ok_stairsM {f : Addr} {fd : FuncData} {k : Nat} (F : Fun K "stairs" "Bounds.stairs" s_Bounds_stairs f fd) (T : GT mg) (B : CB K C bNs) :
    FnOk P w K mg base CX0 (k + 1) f fd ["self"] (spF C S_stairsM) := by
  refine fn_F F sc_stairsM T.b rfl ?_
  rintro cdv A outer s H E _ q hr ck ⟨Y, last, ls, b, g, rfl, ⟨l0, l1, hL, hU⟩, h⟩
  have nf := B.na "ferry" (by simp)
  have nl := B.na "last" (by simp)
  have n1 := B.na "least" (by simp)
  have n2 := B.na "most" (by simp)
  have ng := B.na "good" (by simp)
  refine bb_cons <| ss_parLL 0 4 5 ck rfl B.cls n1 n2 rfl rfl fun la ma =>
    bb_cons <| ss_set 1 ck <| ee_ix <| ee_fld 0 rfl B.cls nf rfl <| ee_int <| ⟨_, rfl,
    bb_cons <| ss_for ck <| ii_range1 ck <| ea_cons <| ee_add <| ee_fld 0 rfl B.cls nl rfl <| ee_int <| ea_nil <| ⟨_, rfl, by omega,
      fun i ρ => ∃ s2 s6, ρ = [.obj C (fsO Y last ls b g), .dat (.int Y.m), s2, .non, .own la (iL (mix (fwdL 0 b.L) b.L i)), .own ma (iL (mix (fwdU Y.m 0 b.U) b.U i)), s6, .non, .non] ∧ s2.ad = [] ∧ s6.ad = [], ⟨_, _, rfl, rfl, rfl⟩, ?_, ?_⟩⟩
  · rintro i d ρ hd ⟨s2, s6, rfl, e2, e6⟩
    obtain ⟨hi, rfl⟩ := rngD_get hd
    have eI : ((0 : Int) + (i : Int)).toNat = i := by omega
    have eP : ((0 : Int) + (i : Int) - 1).toNat = i - 1 := by omega
    have hA : (fwdL 0 b.L).length = b.L.length := fwdL_len _ _
    have hB : (fwdU Y.m 0 b.U).length = b.U.length := fwdU_len _ _ _
    have jL : i < b.L.length := by omega
    have jU : i < b.U.length := by omega
    have stA : (fwdL 0 b.L).getD i 0 = max (b.L.getD i 0) (pv (fwdL 0 b.L) i) := by
      cases i with
      | zero => exact fwdL_0 jL
      | succ i => exact fwdL_S jL
    have stB : (fwdU Y.m 0 b.U).getD i 0 = min (b.U.getD i 0) (pv (fwdU Y.m 0 b.U) i + Y.m) := by
      cases i with
      | zero => exact fwdU_0 jU
      | succ i => exact fwdU_S jU
    have atL : atI (iL (mix (fwdL 0 b.L) b.L i)) (0 + (i : Int)) = some (.int (b.L.getD i 0)) := atI_nat (by omega) (iL_at (by rw [eI, mix_ge (by omega) (Nat.le_refl _)]; exact gd_some jL))
    have atU : atI (iL (mix (fwdU Y.m 0 b.U) b.U i)) (0 + (i : Int)) = some (.int (b.U.getD i 0)) := atI_nat (by omega) (iL_at (by rw [eI, mix_ge (by omega) (Nat.le_refl _)]; exact gd_some jU))
    have sA : (iL (mix (fwdL 0 b.L) b.L i)).set ((0 : Int) + (i : Int)).toNat (.int (max (b.L.getD i 0) (pv (fwdL 0 b.L) i))) = iL (mix (fwdL 0 b.L) b.L (i + 1)) := by
      rw [← stA, eI, iL_set, mix_up hA (gd_some (by omega))]
    have sB : (iL (mix (fwdU Y.m 0 b.U) b.U i)).set ((0 : Int) + (i : Int)).toNat (.int (min (b.U.getD i 0) (pv (fwdU Y.m 0 b.U) i + Y.m))) = iL (mix (fwdU Y.m 0 b.U) b.U (i + 1)) := by
      rw [← stB, eI, iL_set, mix_up hB (gd_some (by omega))]
    have nL : ixN (iL (mix (fwdL 0 b.L) b.L i)).length (0 + (i : Int)) = some ((0 : Int) + (i : Int)).toNat := ixN_nat (by omega) (by rw [List.length_map, mix_len hA (by omega)]; omega)
    have nU : ixN (iL (mix (fwdU Y.m 0 b.U) b.U i)).length (0 + (i : Int)) = some ((0 : Int) + (i : Int)).toNat := ixN_nat (by omega) (by rw [List.length_map, mix_len hB (by omega)]; omega)
    refine ⟨_, gg_name 2 ck <| bb_cons <| ss_set 6 ck <| ee_M (d := .tuple [.int (pv (fwdL 0 b.L) i), .int (pv (fwdU Y.m 0 b.U) i)])
      (ee_if (et_M (et_cmp <| ee_var 2 rfl <| ee_int <| br_gt <| ⟨rfl, rfl⟩) (ite2
        (fun c => ee_tup <| ea_cons <| ee_ixOwn 4 rfl <| ee_sub <| ee_var 2 rfl <| ee_int <| ⟨_, .int ((fwdL 0 b.L).getD (i - 1) 0), _, rfl, rfl, ?_, ea_cons <| ee_ixOwn 5 rfl <| ee_sub <| ee_var 2 rfl <| ee_int <| ⟨_, .int ((fwdU Y.m 0 b.U).getD (i - 1) 0), _, rfl, rfl, ?_, ea_nil <| ⟨le2, ?_, rfl⟩⟩⟩)
        (fun c => ee_tup <| ea_cons <| ee_int <| ea_cons <| ee_int <| ea_nil <| ⟨le2, ?_, rfl⟩)))) <|
      bb_cons <| ss_ixset 4 <| ee_max ck <| ea_cons <| ee_ixOwn 4 rfl <| ee_var 2 rfl <| ⟨_, _, _, rfl, rfl, atL, ea_cons <| ee_ix <| ee_var 6 rfl <| ee_int <| ⟨_, rfl, ea_nil <| ⟨_, rfl, ee_var 2 rfl ⟨_, _, _, rfl, rfl, nL,
      bb_one <| ss_ixset 5 <| ee_min ck <| ea_cons <| ee_ixOwn 5 rfl <| ee_var 2 rfl <| ⟨_, _, _, rfl, rfl, atU, ea_cons <| ee_add <| ee_ix <| ee_var 6 rfl <| ee_int <| ⟨_, rfl, ee_var 1 rfl <| ea_nil <| ⟨_, rfl, ee_var 2 rfl ⟨_, _, _, rfl, rfl, nU, .dat (.int (0 + (i : Int))), .dat (.tuple [.int (pv (fwdL 0 b.L) i), .int (pv (fwdU Y.m 0 b.U) i)]), ?_, rfl, rfl⟩⟩⟩⟩⟩⟩⟩⟩⟩
    · have c' : (0 : Int) < 0 + (i : Int) := of_decide_eq_true c
      exact atI_nat (by omega) (iL_at (by rw [eP, mix_lt (by omega) (by omega)]; exact gd_some (by omega)))
    · have c' : (0 : Int) < 0 + (i : Int) := of_decide_eq_true c
      exact atI_nat (by omega) (iL_at (by rw [eP, mix_lt (by omega) (by omega)]; exact gd_some (by omega)))
    · have c' : (0 : Int) < 0 + (i : Int) := of_decide_eq_true c
      have i0 : 0 < i := by omega
      unfold pv
      rw [if_pos i0, if_pos i0]
    · have c' : ¬ (0 : Int) < 0 + (i : Int) := fun z => c (decide_eq_true z)
      have i0 : ¬ 0 < i := by omega
      unfold pv
      rw [if_neg i0, if_neg i0]
    · rw [← sA, ← sB]
      rfl
  · rintro ρ ⟨s2, s6, rfl, e2, e6⟩
    have hA : (fwdL 0 b.L).length = b.L.length := fwdL_len _ _
    have hB : (fwdU Y.m 0 b.U).length = b.U.length := fwdU_len _ _ _
    have hA2 : (bwdL Y.m (fwdL 0 b.L)).length = (fwdL 0 b.L).length := bwdL_len _ _
    have hB2 : (bwdU (fwdU Y.m 0 b.U)).length = (fwdU Y.m 0 b.U).length := bwdU_len _
    rw [rngD_len, mix_full hA (by rw [hA]; omega), mix_full hB (by rw [hB]; omega)]
    refine bb_cons <| ss_for ck <| ii_rangeN ck <| ea_cons <| ee_sub <| ee_fld 0 rfl B.cls nl rfl <| ee_int <| ea_cons <| ee_neg <| ee_int <| ⟨_, rfl, ea_cons <| ee_neg <| ee_int <| ⟨_, rfl, ea_nil <| ⟨_, _, rfl, by omega,
      fun i ρ => ∃ s2, ρ = [.obj C (fsO Y last ls b g), .dat (.int Y.m), s2, .non, .own la (iL (mix (fwdL 0 b.L) (bwdL Y.m (fwdL 0 b.L)) (last.toNat - i))), .own ma (iL (mix (fwdU Y.m 0 b.U) (bwdU (fwdU Y.m 0 b.U)) (last.toNat - i))), s6, .non, .non] ∧ s2.ad = [], ⟨s2, ?_, e2⟩, ?_, ?_⟩⟩⟩
    · rw [Nat.sub_zero, mix_last hA2.symm (by omega) ?_, mix_last hB2.symm (by omega) ?_]
      · rw [gd_some (by omega), gd_some (l := bwdU (fwdU Y.m 0 b.U)) (by omega), bwdU_e (by omega)]
      · rw [gd_some (by omega), gd_some (l := bwdL Y.m (fwdL 0 b.L)) (by omega), bwdL_e (by omega)]
    · rintro i d ρ hd ⟨s2, rfl, e2⟩
      obtain ⟨hi, rfl⟩ := rngN_get hd
      have hi' : i < last.toNat := by omega
      obtain ⟨t, ht⟩ : ∃ t, last.toNat - i = t + 1 := ⟨last.toNat - i - 1, by omega⟩
      have ht2 : last.toNat - (i + 1) = t := by omega
      have eT : (last - 1 + (i : Int) * (-1)).toNat = t := by omega
      have eS : (last - 1 + (i : Int) * (-1) + 1).toNat = t + 1 := by omega
      rw [ht]
      have atL : atI (iL (mix (fwdL 0 b.L) (bwdL Y.m (fwdL 0 b.L)) (t + 1))) (last - 1 + (i : Int) * (-1)) = some (.int ((fwdL 0 b.L).getD t 0)) := atI_nat (by omega) (iL_at (by rw [eT, mix_lt (by omega) (Nat.lt_succ_self _)]; exact gd_some (by omega)))
      have atU : atI (iL (mix (fwdU Y.m 0 b.U) (bwdU (fwdU Y.m 0 b.U)) (t + 1))) (last - 1 + (i : Int) * (-1)) = some (.int ((fwdU Y.m 0 b.U).getD t 0)) := atI_nat (by omega) (iL_at (by rw [eT, mix_lt (by omega) (Nat.lt_succ_self _)]; exact gd_some (by omega)))
      have atL2 : atI (iL (mix (fwdL 0 b.L) (bwdL Y.m (fwdL 0 b.L)) (t + 1))) (last - 1 + (i : Int) * (-1) + 1) = some (.int ((bwdL Y.m (fwdL 0 b.L)).getD (t + 1) 0)) := atI_nat (by omega) (iL_at (by rw [eS, mix_ge (by omega) (Nat.le_refl _)]; exact gd_some (by omega)))
      have atU2 : atI (iL (mix (fwdU Y.m 0 b.U) (bwdU (fwdU Y.m 0 b.U)) (t + 1))) (last - 1 + (i : Int) * (-1) + 1) = some (.int ((bwdU (fwdU Y.m 0 b.U)).getD (t + 1) 0)) := atI_nat (by omega) (iL_at (by rw [eS, mix_ge (by omega) (Nat.le_refl _)]; exact gd_some (by omega)))
      have nL : ixN (iL (mix (fwdL 0 b.L) (bwdL Y.m (fwdL 0 b.L)) (t + 1))).length (last - 1 + (i : Int) * (-1)) = some (last - 1 + (i : Int) * (-1)).toNat := ixN_nat (by omega) (by rw [List.length_map, mix_len hA2.symm (by omega)]; omega)
      have nU : ixN (iL (mix (fwdU Y.m 0 b.U) (bwdU (fwdU Y.m 0 b.U)) (t + 1))).length (last - 1 + (i : Int) * (-1)) = some (last - 1 + (i : Int) * (-1)).toNat := ixN_nat (by omega) (by rw [List.length_map, mix_len hB2.symm (by omega)]; omega)
      have sA : (iL (mix (fwdL 0 b.L) (bwdL Y.m (fwdL 0 b.L)) (t + 1))).set (last - 1 + (i : Int) * (-1)).toNat (.int (max ((fwdL 0 b.L).getD t 0) ((bwdL Y.m (fwdL 0 b.L)).getD (t + 1) 0 - Y.m))) = iL (mix (fwdL 0 b.L) (bwdL Y.m (fwdL 0 b.L)) t) := by
        rw [← bwdL_S (by omega), eT, iL_set, mix_dn hA2.symm (gd_some (by omega))]
      have sB : (iL (mix (fwdU Y.m 0 b.U) (bwdU (fwdU Y.m 0 b.U)) (t + 1))).set (last - 1 + (i : Int) * (-1)).toNat (.int (min ((fwdU Y.m 0 b.U).getD t 0) ((bwdU (fwdU Y.m 0 b.U)).getD (t + 1) 0))) = iL (mix (fwdU Y.m 0 b.U) (bwdU (fwdU Y.m 0 b.U)) t) := by
        rw [← bwdU_S (by omega), eT, iL_set, mix_dn hB2.symm (gd_some (by omega))]
      refine ⟨_, gg_name 2 ck <| bb_cons <| ss_ixset 4 <| ee_max ck <| ea_cons <| ee_ixOwn 4 rfl <| ee_var 2 rfl <| ⟨_, _, _, rfl, rfl, atL, ea_cons <| ee_sub <| ee_ixOwn 4 rfl <| ee_add <| ee_var 2 rfl <| ee_int <| ⟨_, _, _, rfl, rfl, atL2, ee_var 1 rfl <| ea_nil <| ⟨_, rfl, ee_var 2 rfl ⟨_, _, _, rfl, rfl, nL,
        bb_one <| ss_ixset 5 <| ee_min ck <| ea_cons <| ee_ixOwn 5 rfl <| ee_var 2 rfl <| ⟨_, _, _, rfl, rfl, atU, ea_cons <| ee_ixOwn 5 rfl <| ee_add <| ee_var 2 rfl <| ee_int <| ⟨_, _, _, rfl, rfl, atU2, ea_nil <| ⟨_, rfl, ee_var 2 rfl ⟨_, _, _, rfl, rfl, nU, .dat (.int (last - 1 + (i : Int) * (-1))), ?_, rfl⟩⟩⟩⟩⟩⟩⟩⟩⟩
      rw [ht2, ← sA, ← sB]
      rfl
    · rintro ρ ⟨s2, rfl, e2⟩
      rw [rngN_len, show last.toNat - (last - 1 - -1).toNat = 0 by omega, mix_zero, mix_zero]
      have hz : zipD (iL (finL Y b)) (iL (finU Y b)) = ((finL Y b).zip (finU Y b)).map dLv := zipD_iL _ _
      unfold stairsB at h
      rw [hd_gd] at h
      refine bb_cons <| ss_set 3 ck <| ee_M (ee_andM (ee_fld 0 rfl B.cls ng rfl ⟨rfl, rfl⟩) (fun _ => ee_one <| ee_cmp <| ee_ixOwn 4 rfl <| ee_int ⟨0, .int ((finL Y b).getD 0 0), _, rfl, rfl, ?_, ee_var 1 rfl <| br_le ⟨rfl, rfl⟩⟩)) <|
        bb_freeze 4 rfl <| bb_freeze 5 rfl <| bb_cons <| ss_if (et_M (et_bool <| ew_orM (et_not <| et_val <| ee_var 3 rfl ⟨_, rfl, rfl, rfl⟩) (fun _ => ew_one <| et_not <| et_val <| ee_all ck <| ea_cons <| ee_lc [("one", 7), ("other", 8)] ck (blkOk_by rfl) <| ii_zip2L ck <| ea_cons <| ee_var 4 rfl <| ea_cons <| ee_var 5 rfl <| ea_nil <| ⟨_, _, rfl, lcK_map leD ?_ [7, 8] (fun j hj => hj) (fun d hd _ _ _ _ _ => ?_) <| ea_nil <| ⟨((finL Y b).zip (finU Y b)).map fun p => decide (p.1 ≤ p.2), ?_, ⟨_, rfl, rfl, rfl⟩⟩⟩))
          (ite2 (fun c => bb_one <| ss_ret <| ee_non ?_) (fun c => bb_nil <| bb_one <| ss_ret <| ee_listZip ck <| ea_cons <| ee_var 4 rfl <| ea_cons <| ee_var 5 rfl <| ea_nil ⟨_, _, rfl, ?_⟩)))
      · exact atI_nat (Int.le_refl 0) (iL_at (gd_some (by show 0 < (finL Y b).length; rw [finL_len]; omega)))
      · show (zipD (iL (finL Y b)) (iL (finU Y b))).length ≤ 1000000
        rw [hz, List.length_map, List.length_zip, finL_len, finU_len]
        omega
      · rw [show iL (bwdL Y.m (fwdL 0 b.L)) = iL (finL Y b) from rfl, show iL (bwdU (fwdU Y.m 0 b.U)) = iL (finU Y b) from rfl, hz] at hd
        obtain ⟨pr, _, rfl⟩ := List.mem_map.mp hd
        exact gg_tup (js := [7, 8]) ck.blk <| ggs_cons (js := [7]) (ks := [8]) <| gg_name 7 ck.blk <| ggs_cons (js := [8]) (ks := []) <| gg_name 8 ck.blk <| ggs_nil <| fun _ _ _ _ _ => ee_cmp <| ee_var 7 rfl <| ee_var 8 rfl <| br_le rfl
      · show [PyData.list ((zipD (iL (finL Y b)) (iL (finU Y b))).map leD)] = _
        rw [hz, List.map_map, List.map_map]
        rfl
      · have ea : (((finL Y b).zip (finU Y b)).map fun p => decide (p.1 ≤ p.2)).all id = ((finL Y b).zip (finU Y b)).all fun p => decide (p.1 ≤ p.2) := by rw [List.all_map]; rfl
        rw [ea] at c
        by_cases hG : (b.good && decide ((finL Y b).getD 0 0 ≤ Y.m)) = true
        · rw [if_pos hG] at h
          by_cases hA : ((finL Y b).zip (finU Y b)).all (fun p => decide (p.1 ≤ p.2)) = true
          · rw [hG, hA] at c
            exact absurd c (by decide)
          · rw [if_neg hA] at h
            exact h
        · rw [if_neg hG] at h
          exact h
      · have ea : (((finL Y b).zip (finU Y b)).map fun p => decide (p.1 ≤ p.2)).all id = ((finL Y b).zip (finU Y b)).all fun p => decide (p.1 ≤ p.2) := by rw [List.all_map]; rfl
        rw [ea] at c
        by_cases hG : (b.good && decide ((finL Y b).getD 0 0 ≤ Y.m)) = true
        · rw [if_pos hG] at h
          by_cases hA : ((finL Y b).zip (finU Y b)).all (fun p => decide (p.1 ≤ p.2)) = true
          · rw [if_pos hA] at h
            show q (.list (zipD (iL (finL Y b)) (iL (finU Y b))))
            rw [hz]
            exact h
          · exact absurd (by rw [Bool.eq_false_iff.mpr hA, Bool.not_false, Bool.or_true]) c
        · exact absurd (by rw [Bool.eq_false_iff.mpr hG, Bool.not_false, Bool.true_or]) c
end
end FB

namespace FB
open PySem PySem.Spec PyProof.Rows L2 DL FM
theorem cutD_to {xs : List PyData} {k : Int} (h : 0 ≤ k) : DL.cutD xs none (some k) = xs.take k.toNat := by
  obtain ⟨n, rfl⟩ := Int.eq_ofNat_of_zero_le h
  unfold DL.cutD
  rw [show (some ((n : Nat) : Int)) = some ((n : Nat) : Int) from rfl, HT.sIx_nat, HT.sIx_none, List.drop_zero, Nat.sub_zero, Int.toNat_natCast]
  rcases Nat.le_total n xs.length with l | l
  · rw [Nat.min_eq_left l]
  · rw [Nat.min_eq_right l, List.take_length, List.take_of_length_le l]
theorem cutD_from {xs : List PyData} {k : Int} (h : 0 ≤ k) : DL.cutD xs (some k) none = xs.drop k.toNat := by
  obtain ⟨n, rfl⟩ := Int.eq_ofNat_of_zero_le h
  unfold DL.cutD
  rw [HT.sIx_nat, HT.sIx_none, Int.toNat_natCast]
  rcases Nat.le_total n xs.length with l | l
  · rw [Nat.min_eq_left l, List.take_of_length_le (by rw [List.length_drop]; omega)]
  · rw [Nat.min_eq_right l, List.drop_length, List.take_nil, List.drop_of_length_le l]
theorem enumD_map {α : Type} (f : α → PyData) {ls : List α} {i : Nat} {d : PyData} (h : (enumD (ls.map f))[i]? = some d) : ∃ p, ls[i]? = some p ∧ d = .tuple [.int (i : Int), f p] := by
  obtain ⟨x, hx, e⟩ := enumD_get h
  rw [List.getElem?_map] at hx
  cases q : ls[i]? with
  | none => rw [q] at hx; cases hx
  | some p => rw [q] at hx; cases hx; exact ⟨p, rfl, e⟩
theorem _root_.FM.BkOk.cut {F : Fy} {last : Int} {ls : Lvs} {i : Nat} {p : Int × Int} (ok : BkOk F last ls) (h : ls[i]? = some p) : BkOk F p.1 (ls.take (i + 1)) := by
  have hm := List.mem_of_getElem? h
  obtain ⟨hi, e⟩ := List.getElem?_eq_some_iff.mp h
  refine ⟨(ok.tk p hm).1, Int.le_trans (ok.tk p hm).2 ok.l1, by rw [List.length_take]; have := ok.n; omega, fun q hq => ⟨(ok.tk q (List.mem_of_mem_take hq)).1, ?_⟩, fun q hq => ok.ld q (List.mem_of_mem_take hq), List.Pairwise.sublist (List.take_sublist _ _) ok.up⟩
  obtain ⟨j, hj⟩ := List.mem_iff_getElem?.mp hq
  rw [List.getElem?_take] at hj
  by_cases l : j < i + 1
  · rw [if_pos l] at hj
    obtain ⟨hj', ej⟩ := List.getElem?_eq_some_iff.mp hj
    rcases Nat.lt_or_ge j i with y | y
    · have := List.pairwise_iff_getElem.mp ok.up j i hj' hi y
      rw [e, ej] at this
      omega
    · have : j = i := by omega
      subst this
      rw [hj] at h
      cases h
      omega
  · rw [if_neg l] at hj; cases hj
/-- the first leaving that cannot be -/
def _root_.FM.firstBar (F : Fy) (last : Int) (ls : Lvs) : Option Nat :=
  ((List.range ls.length).find? fun i => (stairs F (ls.getD i (0, 0)).1 (ls.take (i + 1))).isNone).or (if (stairs F last ls).isNone then some ls.length else none)
theorem find_at {p : Nat → Bool} {n i : Nat} (hi : i < n) (h : ∀ j, j < i → p j = false) (hp : p i = true) : (List.range n).find? p = some i := by
  rw [List.find?_range_eq_some]
  exact ⟨hp, List.mem_range.mpr hi, fun j hj => by rw [h j hj]; rfl⟩
theorem find_no {p : Nat → Bool} {n : Nat} (h : ∀ j, j < n → p j = false) : (List.range n).find? p = none := by
  rw [List.find?_eq_none]
  intro j hj
  rw [h j (List.mem_range.mp hj)]
  exact Bool.false_ne_true
def dO : Option Nat → PyData
  | none => .none
  | some i => .int (i : Int)
theorem dSt_no (o : Option (List (Int × Int))) : isNone (dSt o) = o.isNone := by cases o <;> rfl
def KnK (P : Program) (w : World) (K : PySem.W.Frag) (mg : Str → Option Value) (base : Heap) (k : Nat) (x : Str) (C : Addr) (ps : List Str) (sp : Sp) : Prop :=
  ∃ (f : Addr) (fd : FuncData), Mk K C f ∧ FnOk P w K mg base CX0 k f fd ps sp ∧ mg x = some (.ref C) ∧ Binds K fd ps []
theorem KnK.cal {X : Cx} {j k : Nat} {x : Str} {C : Addr} {ps : List Str} {sp : Sp} (hr : Room j X.A) (hk : k + 1 ≤ j) (g : KnK X.prog X.w X.K X.mg X.base k x C ps sp) : CalK X x C ps sp := by
  obtain ⟨f, fd, a, b, c, d⟩ := g
  exact ⟨k, f, fd, hr.mono hk, a, b, c, d⟩
section
variable {P : Program} {w : World} {K : PySem.W.Frag} {mg : Str → Option Value} {base : Heap} {C : Addr}
/-- a def of a good ferry and book -/
def S_fb (g : Fy → Int → Lvs → PyData) : DSpec := fun ds k => ∃ F last ls, ds = [dF F, dB last ls] ∧ F.Ok ∧ BkOk F last ls ∧ k (g F last ls)
abbrev dStairs (F : Fy) (last : Int) (ls : Lvs) : PyData := dSt (stairs F last ls)
theorem made_ok {F : Fy} {last : Int} {ls : Lvs} (ok : BkOk F last ls) : 0 ≤ last ∧ last ≤ 60 ∧ (bounds F last ls).L.length = (last + 1).toNat ∧ (bounds F last ls).U.length = (last + 1).toNat := ⟨ok.l0, ok.l1, bounds_lenL _ _ _, bounds_lenU _ _ _⟩
theorem sc_stairs_so : FnScope ["ferry", "book"] ["ferry", "book"] (defScope s_stairs_so) := ⟨rfl, rfl, rfl, by decide +kernel, rfl, by decide +kernel, by decide +kernel⟩
theorem ok_stairs_so {f : Addr} {fd : FuncData} {k : Nat} (F : Fun K "stairs_so" "stairs_so" s_stairs_so f fd) (T : GT mg) (B : CB K C bNs) (g1 : KnM P w K mg base (k + 1) C "stairs" ["self"] (spF C S_stairsM)) (g2 : KnK P w K mg base k "Bounds" C ["self", "ferry", "book"] (spM C S_init)) :
    FnOk P w K mg base CX0 (k + 2) f fd ["ferry", "book"] (spD (S_fb dStairs)) := by
  refine fn_D F sc_stairs_so T.b (fun ds q ⟨_, _, _, e, _⟩ => by rw [e]; rfl) ?_
  rintro cdv A outer s H E _ q hr ck ⟨Y, last, ls, rfl, okF, ok, h⟩
  exact bb_one <| ss_ret <| ee_meth0 B.cls (KnM.cal hr g1) <| en_make (KnK.cal hr (Nat.le_refl _) g2) <| ea_cons <| ee_var 0 rfl <| ea_cons <| ee_var 1 rfl <| ea_nil <| ⟨Y, last, ls, rfl, rfl, okF, ok, fun la ma => ⟨rfl, rfl, Y, last, ls, bounds Y last ls, goneOf ls, rfl, made_ok ok, h⟩⟩
theorem sc_stairs : FnScope ["ferry", "book"] ["ferry", "book"] (defScope s_stairs) := ⟨rfl, rfl, rfl, by decide +kernel, rfl, by decide +kernel, by decide +kernel⟩
theorem ok_stairs {f : Addr} {fd : FuncData} {k : Nat} (F : Fun K "stairs" "stairs" s_stairs f fd) (T : GT mg) (g_look_at : Kn P w K mg base k "look_at" ["ferry", "book"] (spD S_look_at)) (g_stairs_so : Kn P w K mg base k "stairs_so" ["ferry", "book"] (spD (S_fb dStairs))) :
    FnOk P w K mg base CX0 (k + 1) f fd ["ferry", "book"] (spD (S_fb dStairs)) := by
  refine fn_D F sc_stairs T.b (fun ds q ⟨_, _, _, e, _⟩ => by rw [e]; rfl) ?_
  rintro cdv A outer s H E _ q hr ck ⟨Y, last, ls, rfl, okF, ok, h⟩
  exact bb_cons <| ss_expr <| ee_call ⟨_, hr, g_look_at⟩ <| ea_cons <| ee_var 0 rfl <| ea_cons <| ee_var 1 rfl <| ea_nil <| ⟨Y, last, ls, rfl, okF, ok, bb_one <| ss_ret <| ee_call ⟨_, hr, g_stairs_so⟩ <| ea_cons <| ee_var 0 rfl <| ea_cons <| ee_var 1 rfl <| ea_nil <| ⟨Y, last, ls, rfl, okF, ok, h⟩⟩
abbrev dCan (F : Fy) (last : Int) (ls : Lvs) : PyData := .bool (!(stairs F last ls).isNone)
theorem sc_can_be : FnScope ["ferry", "book"] ["ferry", "book"] (defScope s_can_be) := ⟨rfl, rfl, rfl, by decide +kernel, rfl, by decide +kernel, by decide +kernel⟩
theorem ok_can_be {f : Addr} {fd : FuncData} {k : Nat} (F : Fun K "can_be" "can_be" s_can_be f fd) (T : GT mg) (g_look_at : Kn P w K mg base k "look_at" ["ferry", "book"] (spD S_look_at)) (g_stairs_so : Kn P w K mg base k "stairs_so" ["ferry", "book"] (spD (S_fb dStairs))) :
    FnOk P w K mg base CX0 (k + 1) f fd ["ferry", "book"] (spD (S_fb dCan)) := by
  refine fn_D F sc_can_be T.b (fun ds q ⟨_, _, _, e, _⟩ => by rw [e]; rfl) ?_
  rintro cdv A outer s H E _ q hr ck ⟨Y, last, ls, rfl, okF, ok, h⟩
  exact bb_cons <| ss_expr <| ee_call ⟨_, hr, g_look_at⟩ <| ea_cons <| ee_var 0 rfl <| ea_cons <| ee_var 1 rfl <| ea_nil <| ⟨Y, last, ls, rfl, okF, ok, bb_one <| ss_ret <| ee_cmp <| ee_call ⟨_, hr, g_stairs_so⟩ <| ea_cons <| ee_var 0 rfl <| ea_cons <| ee_var 1 rfl <| ea_nil <| ⟨Y, last, ls, rfl, okF, ok, ee_non <| br_notN <| fin (q := q) h (congrArg (fun z => PyData.bool (!z)) (dSt_no _))⟩⟩
abbrev dBar (F : Fy) (last : Int) (ls : Lvs) : PyData := dO (firstBar F last ls)
theorem sc_first_bar : FnScope ["ferry", "book", "last", "leavings", "at", "tick", "load"] ["ferry", "book"] (defScope s_first_bar) := ⟨rfl, rfl, rfl, by decide +kernel, rfl, by decide +kernel, by decide +kernel⟩
theorem ok_first_bar {f : Addr} {fd : FuncData} {k : Nat} (F : Fun K "first_bar" "first_bar" s_first_bar f fd) (T : GT mg) (g_look_at : Kn P w K mg base k "look_at" ["ferry", "book"] (spD S_look_at)) (g_stairs_so : Kn P w K mg base k "stairs_so" ["ferry", "book"] (spD (S_fb dStairs))) :
    FnOk P w K mg base CX0 (k + 1) f fd ["ferry", "book"] (spD (S_fb dBar)) := by
  refine fn_D F sc_first_bar T.b (fun ds q ⟨_, _, _, e, _⟩ => by rw [e]; rfl) ?_
  rintro cdv A outer s H E _ q hr ck ⟨Y, last, ls, rfl, okF, ok, h⟩
  refine bb_cons <| ss_expr <| ee_call ⟨_, hr, g_look_at⟩ <| ea_cons <| ee_var 0 rfl <| ea_cons <| ee_var 1 rfl <| ea_nil <| ⟨Y, last, ls, rfl, okF, ok, bb_cons <| ss_asg <| ee_var 1 rfl <| gg_tup ck <| ggs_cons <| gg_name 2 ck <| ggs_cons <| gg_name 3 ck <| ggs_nil <|
    bb_cons <| ss_for ck <| ii_enumT ck <| ea_cons <| ee_var 3 rfl <| ea_nil <| ⟨_, rfl, fun i ρ => (∀ j, j < i → (stairs Y (ls.getD j (0, 0)).1 (ls.take (j + 1))).isNone = false) ∧ ∃ d4 d5 d6, ρ = [.dat (dF Y), .dat (dB last ls), .dat (.int last), .dat (dLs ls), d4, d5, d6] ∧ d4.ad = [] ∧ d5.ad = [] ∧ d6.ad = [], ⟨fun j hj => absurd hj (Nat.not_lt_zero j), _, _, _, rfl, rfl, rfl, rfl⟩, ?_, ?_⟩⟩
  · rintro i d ρ hd ⟨hI, d4, d5, d6, rfl, e4, e5, e6⟩
    obtain ⟨p, hp, rfl⟩ := enumD_map dLv hd
    have eg : ls.getD i (0, 0) = p := by rw [List.getD_eq_getElem?_getD, hp]; rfl
    have hi : i < ls.length := (List.getElem?_eq_some_iff.mp hp).1
    have ec : DL.cutD (ls.map dLv) none (some ((i : Int) + 1)) = (ls.take (i + 1)).map dLv := by
      rw [cutD_to (by omega), show ((i : Int) + 1).toNat = i + 1 by omega, List.map_take]
    refine ⟨_, gg_tup ck <| ggs_cons <| gg_name 4 ck <| ggs_cons <| gg_tup ck <| ggs_cons <| gg_name 5 ck <| ggs_cons <| gg_name 6 ck <| ggs_nil <| ggs_nil <|
      bb_one <| ss_if (et_M (et_cmp <| ee_call ⟨_, hr, g_stairs_so⟩ <| ea_cons <| ee_var 0 rfl <| ea_cons <| ee_tup <| ea_cons <| ee_var 5 rfl <| ea_cons <| ee_sl <| ee_var 3 rfl <| ee_add <| ee_var 4 rfl <| ee_int <| ⟨_, rfl, ea_nil <| ⟨le2, ea_nil <| ⟨Y, p.1, ls.take (i + 1), ?_, okF, ok.cut hp, ee_non <| br_isN <| ⟨rfl, rfl⟩⟩⟩⟩)
       (ite2 (fun c =>
      bb_one <| ss_ret <| ee_var 4 rfl <| ?_)
       (fun c =>
      bb_nil <| ⟨fun j hj => ?_, _, _, _, rfl, rfl, rfl, rfl⟩)))⟩
    · rw [ec]
    · rw [dSt_no] at c
      refine fin (q := q) h ?_
      show PyData.int (i : Int) = dO (firstBar Y last ls)
      unfold firstBar
      rw [find_at (i := i) hi hI (by rw [eg]; exact c)]
      rfl
    · rcases Nat.lt_or_ge j i with y | y
      · exact hI j y
      · have : j = i := by omega
        subst this
        rw [dSt_no] at c
        rw [eg]
        exact Bool.eq_false_iff.mpr c
  · rintro ρ ⟨hI, d4, d5, d6, rfl, e4, e5, e6⟩
    have hn : (List.range ls.length).find? (fun i => (stairs Y (ls.getD i (0, 0)).1 (ls.take (i + 1))).isNone) = none := find_no fun j hj => hI j (by rw [enumD_len, List.length_map]; exact hj)
    refine bb_one <| ss_ret <| ee_if (et_M (et_cmp <| ee_call ⟨_, hr, g_stairs_so⟩ <| ea_cons <| ee_var 0 rfl <| ea_cons <| ee_var 1 rfl <| ea_nil <| ⟨Y, last, ls, rfl, okF, ok, ee_non <| br_isN <| ⟨rfl, rfl⟩⟩) (ite2 (fun c => ee_len ck <| ea_cons <| ee_var 3 rfl <| ea_nil <| ?_) (fun c => ee_non <| ?_)))
    · rw [dSt_no] at c
      refine fin (q := q) h ?_
      show PyData.int ((ls.map dLv).length : Int) = dO (firstBar Y last ls)
      unfold firstBar
      rw [hn, if_pos c, List.length_map]
      rfl
    · rw [dSt_no] at c
      refine fin (q := q) h ?_
      show PyData.none = dO (firstBar Y last ls)
      unfold firstBar
      rw [hn, if_neg c]
      rfl
def dP : Option (Int × Int) → PyData
  | none => .none
  | some p => dLv p
abbrev dThere (F : Fy) (last : Int) (ls : Lvs) : PyData := dP (thereOf F last ls)
theorem sc_there : FnScope ["ferry", "book", "bounds", "some"] ["ferry", "book"] (defScope s_there) := ⟨rfl, rfl, rfl, by decide +kernel, rfl, by decide +kernel, by decide +kernel⟩
theorem at_last {l : List (Int × Int)} (h : l ≠ []) : atI (l.map dLv) (-1) = some (dLv (l.getLastD (0, 0))) := by
  have hl : 0 < l.length := List.length_pos_iff.mpr h
  unfold atI ixN
  rw [if_neg (by decide), List.length_map, if_pos (by omega)]
  show (l.map dLv)[(-1 + (l.length : Int)).toNat]? = _
  rw [show (-1 + (l.length : Int)).toNat = l.length - 1 by omega, List.getElem?_map, ← List.getLast?_eq_getElem?, List.getLastD_eq_getLast?]
  cases q : l.getLast? with
  | none => exact absurd (List.getLast?_eq_none_iff.mp q) h
  | some x => rfl
theorem ok_there {f : Addr} {fd : FuncData} {k : Nat} (F : Fun K "there" "there" s_there f fd) (T : GT mg) (B : CB K C bNs) (g_look_at : Kn P w K mg base (k + 1) "look_at" ["ferry", "book"] (spD S_look_at)) (g1 : KnM P w K mg base (k + 1) C "stairs" ["self"] (spF C S_stairsM)) (g2 : KnK P w K mg base k "Bounds" C ["self", "ferry", "book"] (spM C S_init)) :
    FnOk P w K mg base CX0 (k + 2) f fd ["ferry", "book"] (spD (S_fb dThere)) := by
  refine fn_D F sc_there T.b (fun ds q ⟨_, _, _, e, _⟩ => by rw [e]; rfl) ?_
  rintro cdv A outer s H E _ q hr ck ⟨Y, last, ls, rfl, okF, ok, h⟩
  have ng := B.na "gone" (by simp)
  have fld : frz (fsG Y last ls 0 0 (bounds Y last ls) (goneOf ls)) = fsO Y last ls (bounds Y last ls) (goneOf ls) := rfl
  refine bb_cons <| ss_expr <| ee_call ⟨_, hr, g_look_at⟩ <| ea_cons <| ee_var 0 rfl <| ea_cons <| ee_var 1 rfl <| ea_nil <| ⟨Y, last, ls, rfl, okF, ok, bb_cons <| ss_setO 2 ck <| en_make (KnK.cal hr (Nat.le_refl _) g2) <| ea_cons <| ee_var 0 rfl <| ea_cons <| ee_var 1 rfl <| ea_nil <| ⟨Y, last, ls, rfl, rfl, okF, ok, fun la ma => ⟨rfl,
    bb_cons <| ss_set 3 ck <| ee_meth0 B.cls (KnM.cal hr g1) <| en_var 2 rfl <| ⟨rfl, Y, last, ls, bounds Y last ls, goneOf ls, rfl, made_ok ok, ?_⟩⟩⟩⟩
  cases hs : stairs Y last ls with
  | none =>
    have h' : q (dThere Y last ls) := h
    unfold dThere thereOf at h'
    rw [hs] at h'
    have hs' : stairsB Y (bounds Y last ls) = none := hs
    rw [hs']
    exact bb_one <| ss_ret <| ee_if (et_M (et_cmp <| ee_var 3 rfl <| ee_non <| br_isN <| ⟨rfl, rfl⟩) (ifT rfl <| ee_non h'))
  | some st =>
    have h' : q (dThere Y last ls) := h
    unfold dThere thereOf at h'
    rw [hs] at h'
    have hs' : stairsB Y (bounds Y last ls) = some st := hs
    have hl := stairs_len hs
    have l0 := ok.l0
    have ne : st ≠ [] := fun z => by rw [z] at hl; have : (last + 1).toNat = 0 := hl.symm; omega
    rw [hs']
    exact bb_one <| ss_ret <| ee_if (et_M (et_cmp <| ee_var 3 rfl <| ee_non <| br_isN <| ⟨rfl, rfl⟩) (ifF rfl <| ee_tup <| ea_cons <| ee_sub <| ee_ix <| ee_ix <| ee_var 3 rfl <| ee_neg <| ee_int <| ⟨_, rfl, ⟨_, at_last ne, ee_int <| ⟨_, rfl, ee_fld 2 rfl B.cls ng rfl <|
      ea_cons <| ee_sub <| ee_ix <| ee_ix <| ee_var 3 rfl <| ee_neg <| ee_int <| ⟨_, rfl, ⟨_, at_last ne, ee_int <| ⟨_, rfl, ee_fld 2 rfl B.cls ng rfl <| ea_nil ⟨le2, h'⟩⟩⟩⟩⟩⟩⟩))
end
end FB

namespace FB
open PySem PySem.Spec PyProof.Rows L2 DL FM
/-! ### told -/
def fstD : PyData → PyData
  | .tuple (a :: _) => a
  | _ => .none
def sndD : PyData → PyData
  | .tuple (_ :: b :: _) => b
  | _ => .none
def subD : PyData → PyData
  | .tuple [.int a, .int b] => .int (a - b)
  | _ => .none
def mulD : PyData → PyData
  | .tuple [.int a, .int b] => .int (a * b)
  | _ => .none
abbrev lo (st : List (Int × Int)) : List Int := st.map (·.1)
abbrev hi (st : List (Int × Int)) : List Int := st.map (·.2)
theorem map_fst (st : List (Int × Int)) : (st.map dLv).map fstD = iL (lo st) := by unfold iL lo; rw [List.map_map, List.map_map]; rfl
theorem map_snd (st : List (Int × Int)) : (st.map dLv).map sndD = iL (hi st) := by unfold iL hi; rw [List.map_map, List.map_map]; rfl
theorem cutD_but {xs : List PyData} : DL.cutD xs none (some (-1)) = xs.dropLast := by
  unfold DL.cutD
  rw [HT.sIx_none, List.drop_zero, Nat.sub_zero]
  have e : ∀ n : Nat, HT.sIx n n (some (-1)) = n - 1 := fun n => by
    show (if (-1 : Int) < 0 then ((-1) + (n : Int)).toNat else min (-1 : Int).toNat n) = n - 1
    rw [if_pos (by decide)]
    omega
  rw [e, List.dropLast_eq_take]
theorem zip_sub : ∀ xs ys : List Int, (zipD (iL xs) (iL ys)).map subD = iL (List.zipWith (· - ·) xs ys)
  | [], _ => rfl
  | _ :: _, [] => rfl
  | x :: xs, y :: ys => by
    show PyData.int (x - y) :: (zipD (iL xs) (iL ys)).map subD = PyData.int (x - y) :: iL (List.zipWith (· - ·) xs ys)
    rw [zip_sub xs ys]
theorem iL_len (l : List Int) : (iL l).length = l.length := List.length_map _
section
variable {P : Program} {w : World} {K : PySem.W.Frag} {mg : Str → Option Value} {base : Heap} {C : Addr}
def S_steps_of : DSpec := fun ds k => ∃ sums, ds = [.list (iL sums)] ∧ sums.length ≤ 1000 ∧ k (.tuple (iL (stepsOf sums)))
theorem sc_steps_of : FnScope ["sums", "one", "other"] ["sums"] (defScope s_steps_of) := ⟨rfl, rfl, rfl, by decide +kernel, rfl, by decide +kernel, by decide +kernel⟩
theorem ok_steps_of {f : Addr} {fd : FuncData} {k : Nat} (F : Fun K "steps_of" "steps_of" s_steps_of f fd) (T : GT mg) : FnOk P w K mg base CX0 (k + 1) f fd ["sums"] (spD S_steps_of) := by
  refine fn_D F sc_steps_of T.b (fun ds q ⟨_, e, _⟩ => by rw [e]; rfl) ?_
  rintro cdv A outer s H E _ q hr ck ⟨sums, rfl, hl, h⟩
  have ec : [PyData.int 0] ++ DL.cutD (iL sums) none (some (-1)) = iL (0 :: sums.dropLast) := by
    rw [cutD_but]
    show [PyData.int 0] ++ (List.map PyData.int sums).dropLast = _
    rw [← List.map_dropLast]; rfl
  have lz : (zipD (iL sums) (iL (0 :: sums.dropLast))).length ≤ 1000000 := by
    unfold zipD
    rw [List.length_zipWith, iL_len]
    omega
  refine bb_one <| ss_ret <| ee_tuple ck <| ea_cons <| ee_lc [("one", 1), ("other", 2)] ck (blkOk_by rfl) <| ii_zip2L ck <| ea_cons <| ee_var 0 rfl <| ea_cons <| ee_add <| ee_lst <| ea_cons <| ee_int <| ea_nil <| ⟨by decide, ee_sl <| ee_var 0 rfl <| ee_neg <| ee_int <| ⟨_, rfl, ⟨_, rfl, ⟨?_, ea_nil <| ⟨_, _, rfl, ?_⟩⟩⟩⟩⟩
  · have : (DL.cutD (iL sums) none (some (-1))).length ≤ 1000 := by rw [cutD_but, List.length_dropLast, iL_len]; omega
    show 1 + (DL.cutD (iL sums) none (some (-1))).length ≤ 1000000
    omega
  · rw [ec]
    refine lcK_map subD lz [1, 2] (fun j hj => hj) (fun d hd _ _ _ _ _ => ?_) <| ea_nil ?_
    · rw [zipD_iL] at hd
      obtain ⟨pr, _, rfl⟩ := List.mem_map.mp hd
      exact gg_tup (js := [1, 2]) ck.blk <| ggs_cons (js := [1]) (ks := [2]) <| gg_name 1 ck.blk <| ggs_cons (js := [2]) (ks := []) <| gg_name 2 ck.blk <| ggs_nil <| fun _ _ _ _ _ => ee_sub <| ee_var 1 rfl <| ee_var 2 rfl <| rfl
    · rw [zip_sub]
      exact h
abbrev dFew (F : Fy) (last : Int) (ls : Lvs) : PyData := match stairs F last ls with
  | none => .none
  | some st => .tuple (iL (stepsOf (lo st)))
abbrev dMost (F : Fy) (last : Int) (ls : Lvs) : PyData := match stairs F last ls with
  | none => .none
  | some st => .tuple (iL (stepsOf (hi st)))
theorem st_small {F : Fy} {last : Int} {ls : Lvs} {st : List (Int × Int)} (ok : BkOk F last ls) (h : stairs F last ls = some st) : st.length ≤ 61 := by
  have := stairs_len h
  have := ok.l0
  have := ok.l1
  omega
theorem sc_fewest_row : FnScope ["ferry", "book", "some", "one"] ["ferry", "book"] (defScope s_fewest_row) := ⟨rfl, rfl, rfl, by decide +kernel, rfl, by decide +kernel, by decide +kernel⟩
theorem ok_fewest_row {f : Addr} {fd : FuncData} {k : Nat} (F : Fun K "fewest_row" "fewest_row" s_fewest_row f fd) (T : GT mg) (g_look_at : Kn P w K mg base k "look_at" ["ferry", "book"] (spD S_look_at)) (g_stairs_so : Kn P w K mg base k "stairs_so" ["ferry", "book"] (spD (S_fb dStairs))) (g_steps_of : Kn P w K mg base k "steps_of" ["sums"] (spD S_steps_of)) :
    FnOk P w K mg base CX0 (k + 1) f fd ["ferry", "book"] (spD (S_fb dFew)) := by
  refine fn_D F sc_fewest_row T.b (fun ds q ⟨_, _, _, e, _⟩ => by rw [e]; rfl) ?_
  rintro cdv A outer s H E _ q hr ck ⟨Y, last, ls, rfl, okF, ok, h⟩
  refine bb_cons <| ss_expr <| ee_call ⟨_, hr, g_look_at⟩ <| ea_cons <| ee_var 0 rfl <| ea_cons <| ee_var 1 rfl <| ea_nil <| ⟨Y, last, ls, rfl, okF, ok, bb_cons <| ss_set 2 ck <| ee_call ⟨_, hr, g_stairs_so⟩ <| ea_cons <| ee_var 0 rfl <| ea_cons <| ee_var 1 rfl <| ea_nil <| ⟨Y, last, ls, rfl, okF, ok, ?_⟩⟩
  unfold dFew at h
  unfold dStairs
  cases hs : stairs Y last ls with
  | none =>
    rw [hs] at h
    exact bb_one <| ss_ret <| ee_if (et_M (et_cmp <| ee_var 2 rfl <| ee_non <| br_isN <| ⟨rfl, rfl⟩) (ifT rfl <| ee_non h))
  | some st =>
    rw [hs] at h
    have l := st_small ok hs
    refine bb_one <| ss_ret <| ee_if (et_M (et_cmp <| ee_var 2 rfl <| ee_non <| br_isN <| ⟨rfl, rfl⟩) (ifF rfl <| ee_call ⟨_, hr, g_steps_of⟩ <| ea_cons <| ee_lc [("one", 3)] ck (blkOk_by rfl) <| ii_list <| ee_var 2 rfl <| ⟨_, rfl, lcK_map fstD (by rw [List.length_map]; omega) [3] (fun j hj => hj) (fun d hd _ _ _ _ _ => ?_) <| ea_nil <| ⟨lo st, ?_, by rw [List.length_map]; omega, h⟩⟩))
    · obtain ⟨p, _, rfl⟩ := List.mem_map.mp hd
      exact gg_name 3 ck.blk <| fun _ _ _ _ _ => ee_ix <| ee_var 3 rfl <| ee_int <| ⟨_, rfl, rfl⟩
    · rw [map_fst]
theorem sc_most_row : FnScope ["ferry", "book", "some", "one"] ["ferry", "book"] (defScope s_most_row) := ⟨rfl, rfl, rfl, by decide +kernel, rfl, by decide +kernel, by decide +kernel⟩
theorem ok_most_row {f : Addr} {fd : FuncData} {k : Nat} (F : Fun K "most_row" "most_row" s_most_row f fd) (T : GT mg) (g_look_at : Kn P w K mg base k "look_at" ["ferry", "book"] (spD S_look_at)) (g_stairs_so : Kn P w K mg base k "stairs_so" ["ferry", "book"] (spD (S_fb dStairs))) (g_steps_of : Kn P w K mg base k "steps_of" ["sums"] (spD S_steps_of)) :
    FnOk P w K mg base CX0 (k + 1) f fd ["ferry", "book"] (spD (S_fb dMost)) := by
  refine fn_D F sc_most_row T.b (fun ds q ⟨_, _, _, e, _⟩ => by rw [e]; rfl) ?_
  rintro cdv A outer s H E _ q hr ck ⟨Y, last, ls, rfl, okF, ok, h⟩
  refine bb_cons <| ss_expr <| ee_call ⟨_, hr, g_look_at⟩ <| ea_cons <| ee_var 0 rfl <| ea_cons <| ee_var 1 rfl <| ea_nil <| ⟨Y, last, ls, rfl, okF, ok, bb_cons <| ss_set 2 ck <| ee_call ⟨_, hr, g_stairs_so⟩ <| ea_cons <| ee_var 0 rfl <| ea_cons <| ee_var 1 rfl <| ea_nil <| ⟨Y, last, ls, rfl, okF, ok, ?_⟩⟩
  unfold dMost at h
  unfold dStairs
  cases hs : stairs Y last ls with
  | none =>
    rw [hs] at h
    exact bb_one <| ss_ret <| ee_if (et_M (et_cmp <| ee_var 2 rfl <| ee_non <| br_isN <| ⟨rfl, rfl⟩) (ifT rfl <| ee_non h))
  | some st =>
    rw [hs] at h
    have l := st_small ok hs
    refine bb_one <| ss_ret <| ee_if (et_M (et_cmp <| ee_var 2 rfl <| ee_non <| br_isN <| ⟨rfl, rfl⟩) (ifF rfl <| ee_call ⟨_, hr, g_steps_of⟩ <| ea_cons <| ee_lc [("one", 3)] ck (blkOk_by rfl) <| ii_list <| ee_var 2 rfl <| ⟨_, rfl, lcK_map sndD (by rw [List.length_map]; omega) [3] (fun j hj => hj) (fun d hd _ _ _ _ _ => ?_) <| ea_nil <| ⟨hi st, ?_, by rw [List.length_map]; omega, h⟩⟩))
    · obtain ⟨p, _, rfl⟩ := List.mem_map.mp hd
      exact gg_name 3 ck.blk <| fun _ _ _ _ _ => ee_ix <| ee_var 3 rfl <| ee_int <| ⟨_, rfl, rfl⟩
    · rw [map_snd]
def S_first_tick : DSpec := fun ds k => ∃ sums c, ds = [.list (iL sums), .int c] ∧ k (dO (firstTick sums c))
theorem sc_first_tick : FnScope ["sums", "comer", "tick", "many"] ["sums", "comer"] (defScope s_first_tick) := ⟨rfl, rfl, rfl, by decide +kernel, rfl, by decide +kernel, by decide +kernel⟩
theorem idx_at {α : Type} {p : α → Bool} : ∀ {l : List α} {i : Nat} {x : α}, l[i]? = some x → p x = true → (∀ j y, j < i → l[j]? = some y → p y = false) → l.findIdx? p = some i
  | [], _, _, h, _, _ => by simp at h
  | a :: r, 0, x, h, hp, _ => by
    rw [List.getElem?_cons_zero] at h; cases h
    rw [List.findIdx?_cons, hp]; rfl
  | a :: r, i + 1, x, h, hp, hn => by
    rw [List.getElem?_cons_succ] at h
    rw [List.findIdx?_cons, hn 0 a (Nat.succ_pos i) rfl, idx_at h hp fun j y hj hy => hn (j + 1) y (Nat.succ_lt_succ hj) hy]
    rfl
theorem ok_first_tick {f : Addr} {fd : FuncData} {k : Nat} (F : Fun K "first_tick" "first_tick" s_first_tick f fd) (T : GT mg) : FnOk P w K mg base CX0 (k + 1) f fd ["sums", "comer"] (spD S_first_tick) := by
  refine fn_D F sc_first_tick T.b (fun ds q ⟨_, _, e, _⟩ => by rw [e]; rfl) ?_
  rintro cdv A outer s H E _ q hr ck ⟨sums, c, rfl, h⟩
  refine bb_cons <| ss_for ck <| ii_enumL ck <| ea_cons <| ee_var 0 rfl <| ea_nil <| ⟨_, rfl, fun i ρ => (∀ j y, j < i → sums[j]? = some y → decide (c ≤ y) = false) ∧ ∃ d2 d3, ρ = [.dat (.list (iL sums)), .dat (.int c), d2, d3] ∧ d2.ad = [] ∧ d3.ad = [], ⟨fun j y hj _ => absurd hj (Nat.not_lt_zero j), _, _, rfl, rfl, rfl⟩, ?_, ?_⟩
  · rintro i d ρ hd ⟨hI, d2, d3, rfl, e2, e3⟩
    obtain ⟨v, hv, rfl⟩ := enumD_map PyData.int hd
    refine ⟨_, gg_tup ck <| ggs_cons <| gg_name 2 ck <| ggs_cons <| gg_name 3 ck <| ggs_nil <|
      bb_one <| ss_if (et_M (et_cmp <| ee_var 3 rfl <| ee_var 1 rfl <| br_ge <| ⟨rfl, rfl⟩)
       (ite2 (fun c =>
      bb_one <| ss_ret <| ee_var 2 rfl <| ?_)
       (fun c =>
      bb_nil <| ⟨fun j y hj hy => ?_, _, _, rfl, rfl, rfl⟩)))⟩
    · refine fin (q := q) h ?_
      unfold firstTick
      rw [idx_at hv c hI]
      rfl
    · rcases Nat.lt_or_ge j i with z | z
      · exact hI j y z hy
      · have : j = i := by omega
        subst this
        rw [hv] at hy; cases hy
        exact Bool.eq_false_iff.mpr c
  · rintro ρ ⟨hI, d2, d3, rfl, e2, e3⟩
    refine bb_one <| ss_ret <| ee_non <| fin (q := q) h ?_
    unfold firstTick
    rw [List.findIdx?_eq_none_iff.mpr fun v hv => ?_]
    · rfl
    · obtain ⟨j, hj⟩ := List.mem_iff_getElem?.mp hv
      exact hI j v (by rw [enumD_len, iL_len]; exact (List.getElem?_eq_some_iff.mp hj).1) hj
def dCame (F : Fy) (last : Int) (ls : Lvs) (c : Int) : PyData := match stairs F last ls with
  | none => .none
  | some st => .tuple [dO (firstTick (hi st) c), dO (firstTick (lo st) c)]
def S_came : DSpec := fun ds k => ∃ F last ls c, ds = [dF F, dB last ls, .int c] ∧ F.Ok ∧ BkOk F last ls ∧ 1 ≤ c ∧ k (dCame F last ls c)
theorem sc_came : FnScope ["ferry", "book", "comer", "some", "one"] ["ferry", "book", "comer"] (defScope s_came) := ⟨rfl, rfl, rfl, by decide +kernel, rfl, by decide +kernel, by decide +kernel⟩
theorem ok_came {f : Addr} {fd : FuncData} {k : Nat} (F : Fun K "came" "came" s_came f fd) (T : GT mg) (g_look_at : Kn P w K mg base k "look_at" ["ferry", "book"] (spD S_look_at)) (g_stairs_so : Kn P w K mg base k "stairs_so" ["ferry", "book"] (spD (S_fb dStairs))) (g_first_tick : Kn P w K mg base k "first_tick" ["sums", "comer"] (spD S_first_tick)) (g_is_whole : Kn P w K mg base k "is_whole" ["thing"] (spD S_is_whole)) :
    FnOk P w K mg base CX0 (k + 1) f fd ["ferry", "book", "comer"] (spD S_came) := by
  refine fn_D F sc_came T.b (fun ds q ⟨_, _, _, _, e, _⟩ => by rw [e]; rfl) ?_
  rintro cdv A outer s H E _ q hr ck ⟨Y, last, ls, cm, rfl, okF, ok, c1, h⟩
  refine bb_cons <| ss_expr <| ee_call ⟨_, hr, g_look_at⟩ <| ea_cons <| ee_var 0 rfl <| ea_cons <| ee_var 1 rfl <| ea_nil <| ⟨Y, last, ls, rfl, okF, ok, bb_cons <| ss_if (et_M (et_bool <| ew_orM (et_not <| et_val <| ee_call ⟨_, hr, g_is_whole⟩ <| ea_cons <| ee_var 2 rfl <| ea_nil <| ⟨_, rfl, ⟨_, rfl, ⟨rfl, rfl⟩⟩⟩) (fun _ => ew_one <| et_cmp <| ee_var 2 rfl <| ee_int <| br_lt <| ⟨rfl, rfl⟩))
     (ite2 (fun c => absurd c ?_)
     (fun c =>
    bb_nil <| bb_cons <| ss_set 3 ck <| ee_call ⟨_, hr, g_stairs_so⟩ <| ea_cons <| ee_var 0 rfl <| ea_cons <| ee_var 1 rfl <| ea_nil <| ⟨Y, last, ls, rfl, okF, ok, ?_⟩)))⟩
  · intro z
    have z' : decide (cm < 1) = true := z
    have := of_decide_eq_true z'
    omega
  · unfold dCame at h
    unfold dStairs
    cases hs : stairs Y last ls with
    | none =>
      rw [hs] at h
      exact bb_cons <| ss_if (et_M (et_cmp <| ee_var 3 rfl <| ee_non <| br_isN <| ⟨rfl, rfl⟩) (ifT rfl <| bb_one <| ss_ret <| ee_non h))
    | some st =>
      rw [hs] at h
      have l := st_small ok hs
      refine bb_cons <| ss_if (et_M (et_cmp <| ee_var 3 rfl <| ee_non <| br_isN <| ⟨rfl, rfl⟩) (ifF rfl <|
        bb_nil <| bb_one <| ss_ret <| ee_tup <| ea_cons <| ee_call ⟨_, hr, g_first_tick⟩ <| ea_cons <| ee_lc [("one", 4)] ck (blkOk_by rfl) <| ii_list <| ee_var 3 rfl <| ⟨_, rfl, lcK_map sndD (by rw [List.length_map]; omega) [4] (fun j hj => hj) (fun d hd _ _ _ _ _ => ?_) <| ea_cons <| ee_var 2 rfl <| ea_nil <| ⟨hi st, cm, ?_, ea_cons <| ee_call ⟨_, hr, g_first_tick⟩ <| ea_cons <| ee_lc [("one", 4)] ck (blkOk_by rfl) <| ii_list <| ee_var 3 rfl <| ⟨_, rfl, lcK_map fstD (by rw [List.length_map]; omega) [4] (fun j hj => hj) (fun d hd _ _ _ _ _ => ?_) <| ea_cons <| ee_var 2 rfl <| ea_nil <| ⟨lo st, cm, ?_, ea_nil <| ⟨le2, h⟩⟩⟩⟩⟩))
      · obtain ⟨p, _, rfl⟩ := List.mem_map.mp hd
        exact gg_name 4 ck.blk <| fun _ _ _ _ _ => ee_ix <| ee_var 4 rfl <| ee_int <| ⟨_, rfl, rfl⟩
      · rw [map_snd]
      · obtain ⟨p, _, rfl⟩ := List.mem_map.mp hd
        exact gg_name 4 ck.blk <| fun _ _ _ _ _ => ee_ix <| ee_var 4 rfl <| ee_int <| ⟨_, rfl, rfl⟩
      · rw [map_fst]
end
end FB

namespace FB
open PySem PySem.Spec PyProof.Rows L2 DL FM
theorem first_some {sums : List Int} {c v : Int} (hv : v ∈ sums) (h : c ≤ v) : (firstTick sums c).isSome = true := by
  unfold firstTick
  rw [List.findIdx?_isSome, List.any_eq_true]
  exact ⟨v, hv, decide_eq_true h⟩
theorem map_load (ls : Lvs) : (ls.map dLv).map sndD = (ls.map (·.2)).map PyData.int := by rw [List.map_map, List.map_map]; rfl
theorem map_wait (ls : Lvs) : (ls.map dLv).map mulD = (ls.map fun p => p.1 * p.2).map PyData.int := by rw [List.map_map, List.map_map]; rfl
section
variable {P : Program} {w : World} {K : PySem.W.Frag} {mg : Str → Option Value} {base : Heap} {C : Addr}
def S_waited : DSpec := fun ds k => ∃ F last ls sums, ds = [dB last ls, .list (iL sums)] ∧ F.Ok ∧ BkOk F last ls ∧ (∀ c, 1 ≤ c → c ≤ goneOf ls → (firstTick sums c).isSome = true) ∧ k (.int (waitedOf ls sums))
theorem sc_waited : FnScope ["book", "sums", "gone", "came_in_all", "comer", "tick", "load"] ["book", "sums"] (defScope s_waited) := ⟨rfl, rfl, rfl, by decide +kernel, rfl, by decide +kernel, by decide +kernel⟩
def ftD (sums : List Int) : PyData → PyData
  | .int c => dO (firstTick sums c)
  | _ => .none
theorem ok_waited {f : Addr} {fd : FuncData} {k : Nat} (F : Fun K "waited" "waited" s_waited f fd) (T : GT mg) (g_first_tick : Kn P w K mg base k "first_tick" ["sums", "comer"] (spD S_first_tick)) : FnOk P w K mg base CX0 (k + 1) f fd ["book", "sums"] (spD S_waited) := by
  refine fn_D F sc_waited T.b (fun ds q ⟨_, _, _, _, e, _⟩ => by rw [e]; rfl) ?_
  rintro cdv A outer s H E _ q hr ck ⟨Y, last, ls, sums, rfl, okF, ok, hs, h⟩
  have n10 : (ls.map dLv).length ≤ 1000000 := by have := ok.n; rw [List.length_map]; omega
  have gb : 0 ≤ goneOf ls ∧ goneOf ls ≤ 1000 := by
    obtain ⟨h1, h2⟩ := goneOf_nn ok
    have := ok.n
    have := okF.s2
    have : Y.s * (ls.length : Int) ≤ 12 * 10 := Int.mul_le_mul (by omega) (by omega) (by omega) (by omega)
    omega
  have eF : (rngD 1 (goneOf ls + 1 - 1).toNat).map (ftD sums) = ((List.range (goneOf ls).toNat).map fun (c : Nat) => (((firstTick sums ((c : Int) + 1)).getD 0 : Nat) : Int)).map PyData.int := by
    unfold rngD
    rw [List.map_map, List.map_map, show goneOf ls + 1 - 1 = goneOf ls by omega]
    refine List.map_congr_left fun c hc => ?_
    have := List.mem_range.mp hc
    show dO (firstTick sums (1 + (c : Int))) = PyData.int _
    rw [show (1 : Int) + (c : Int) = (c : Int) + 1 by omega]
    have hsm := hs ((c : Int) + 1) (by omega) (by omega)
    show _ = PyData.int (((firstTick sums ((c : Int) + 1)).getD 0 : Nat) : Int)
    cases q : firstTick sums ((c : Int) + 1) with
    | none => rw [q] at hsm; cases hsm
    | some t => rfl
  refine bb_cons <| ss_set 2 ck <| ee_sum ck <| ea_cons <| ee_lc [("tick", 5), ("load", 6)] ck (blkOk_by rfl) <| ii_tup <| ee_ix <| ee_var 0 rfl <| ee_int <| ⟨_, rfl, ⟨_, rfl, lcK_map sndD n10 [5, 6] (fun j hj => hj) (fun d hd _ _ _ _ _ => ?_) <| ea_nil <| ⟨_, congrArg (fun z => [PyData.list z]) (map_load ls),
    bb_cons <| ss_set 3 ck <| ee_sum ck <| ea_cons <| ee_lc [("comer", 4)] ck (blkOk_by rfl) <| ii_range2 ck <| ea_cons <| ee_int <| ea_cons <| ee_add <| ee_var 2 rfl <| ee_int <| ea_nil <| ⟨1, goneOf ls + 1, rfl, by omega, lcK_map (ftD sums) (by rw [rngD_len]; omega) [4] (fun j hj => hj) (fun d hd _ _ _ _ _ => ?_) <| ea_nil <| ⟨_, congrArg (fun z => [PyData.list z]) eF,
    bb_one <| ss_ret <| ee_sub <| ee_sum ck <| ea_cons <| ee_lc [("tick", 5), ("load", 6)] ck (blkOk_by rfl) <| ii_tup <| ee_ix <| ee_var 0 rfl <| ee_int <| ⟨_, rfl, ⟨_, rfl, lcK_map mulD n10 [5, 6] (fun j hj => hj) (fun d hd _ _ _ _ _ => ?_) <| ea_nil <| ⟨_, congrArg (fun z => [PyData.list z]) (map_wait ls), ee_var 3 rfl <| h⟩⟩⟩⟩⟩⟩⟩⟩
  · obtain ⟨pr, _, rfl⟩ := List.mem_map.mp hd
    exact gg_tup (js := [5, 6]) ck.blk <| ggs_cons (js := [5]) (ks := [6]) <| gg_name 5 ck.blk <| ggs_cons (js := [6]) (ks := []) <| gg_name 6 ck.blk <| ggs_nil <| fun _ _ _ _ _ => ee_var 6 rfl <| rfl
  · obtain ⟨j, hj⟩ := List.mem_iff_getElem?.mp hd
    obtain ⟨_, rfl⟩ := rngD_get hj
    exact gg_name 4 ck.blk <| fun _ _ _ _ _ => ee_call ⟨_, hr, g_first_tick⟩ <| ea_cons <| ee_var 1 rfl <| ea_cons <| ee_var 4 rfl <| ea_nil <| ⟨sums, _, rfl, rfl⟩
  · obtain ⟨pr, hp, rfl⟩ := List.mem_map.mp hd
    have := ok.tk pr hp
    have := ok.l1
    exact gg_tup (js := [5, 6]) ck.blk <| ggs_cons (js := [5]) (ks := [6]) <| gg_name 5 ck.blk <| ggs_cons (js := [6]) (ks := []) <| gg_name 6 ck.blk <| ggs_nil <| fun _ _ _ _ _ => ee_mul <| ee_var 5 rfl <| ee_var 6 rfl <| ⟨.inl ⟨by omega, by omega⟩, rfl⟩
abbrev dWaits (F : Fy) (last : Int) (ls : Lvs) : PyData := dP (waitsOf F last ls)
theorem sc_waits : FnScope ["ferry", "book", "some", "one"] ["ferry", "book"] (defScope s_waits) := ⟨rfl, rfl, rfl, by decide +kernel, rfl, by decide +kernel, by decide +kernel⟩
theorem ok_waits {f : Addr} {fd : FuncData} {k : Nat} (F : Fun K "waits" "waits" s_waits f fd) (T : GT mg) (g_look_at : Kn P w K mg base k "look_at" ["ferry", "book"] (spD S_look_at)) (g_stairs_so : Kn P w K mg base k "stairs_so" ["ferry", "book"] (spD (S_fb dStairs))) (g_waited : Kn P w K mg base k "waited" ["book", "sums"] (spD S_waited)) :
    FnOk P w K mg base CX0 (k + 1) f fd ["ferry", "book"] (spD (S_fb dWaits)) := by
  refine fn_D F sc_waits T.b (fun ds q ⟨_, _, _, e, _⟩ => by rw [e]; rfl) ?_
  rintro cdv A outer s H E _ q hr ck ⟨Y, last, ls, rfl, okF, ok, h⟩
  refine bb_cons <| ss_expr <| ee_call ⟨_, hr, g_look_at⟩ <| ea_cons <| ee_var 0 rfl <| ea_cons <| ee_var 1 rfl <| ea_nil <| ⟨Y, last, ls, rfl, okF, ok, bb_cons <| ss_set 2 ck <| ee_call ⟨_, hr, g_stairs_so⟩ <| ea_cons <| ee_var 0 rfl <| ea_cons <| ee_var 1 rfl <| ea_nil <| ⟨Y, last, ls, rfl, okF, ok, ?_⟩⟩
  unfold dWaits waitsOf at h
  unfold dStairs
  cases hs : stairs Y last ls with
  | none =>
    rw [hs] at h
    exact bb_cons <| ss_if (et_M (et_cmp <| ee_var 2 rfl <| ee_non <| br_isN <| ⟨rfl, rfl⟩) (ifT rfl <| bb_one <| ss_ret <| ee_non h))
  | some st =>
    rw [hs] at h
    have l := st_small ok hs
    have rl : ∀ c, 1 ≤ c → c ≤ goneOf ls → (firstTick (lo st) c).isSome = true := fun c h1 h2 => by
      obtain ⟨p, hp, e1, _⟩ := lo_reach ok hs (by omega)
      exact first_some (List.mem_map.mpr ⟨p, hp, rfl⟩) (by omega)
    have rh : ∀ c, 1 ≤ c → c ≤ goneOf ls → (firstTick (hi st) c).isSome = true := fun c h1 h2 => by
      obtain ⟨p, hp, _, e2⟩ := lo_reach ok hs (by omega)
      exact first_some (List.mem_map.mpr ⟨p, hp, rfl⟩) (by omega)
    refine bb_cons <| ss_if (et_M (et_cmp <| ee_var 2 rfl <| ee_non <| br_isN <| ⟨rfl, rfl⟩) (ifF rfl <|
      bb_nil <| bb_one <| ss_ret <| ee_tup <| ea_cons <| ee_call ⟨_, hr, g_waited⟩ <| ea_cons <| ee_var 1 rfl <| ea_cons <| ee_lc [("one", 3)] ck (blkOk_by rfl) <| ii_list <| ee_var 2 rfl <| ⟨_, rfl, lcK_map fstD (by rw [List.length_map]; omega) [3] (fun j hj => hj) (fun d hd _ _ _ _ _ => ?_) <| ea_nil <| ⟨Y, last, ls, lo st, ?_, okF, ok, rl, ea_cons <| ee_call ⟨_, hr, g_waited⟩ <| ea_cons <| ee_var 1 rfl <| ea_cons <| ee_lc [("one", 3)] ck (blkOk_by rfl) <| ii_list <| ee_var 2 rfl <| ⟨_, rfl, lcK_map sndD (by rw [List.length_map]; omega) [3] (fun j hj => hj) (fun d hd _ _ _ _ _ => ?_) <| ea_nil <| ⟨Y, last, ls, hi st, ?_, okF, ok, rh, ea_nil <| ⟨le2, h⟩⟩⟩⟩⟩))
    · obtain ⟨p, _, rfl⟩ := List.mem_map.mp hd
      exact gg_name 3 ck.blk <| fun _ _ _ _ _ => ee_ix <| ee_var 3 rfl <| ee_int <| ⟨_, rfl, rfl⟩
    · rw [map_fst]
    · obtain ⟨p, _, rfl⟩ := List.mem_map.mp hd
      exact gg_name 3 ck.blk <| fun _ _ _ _ _ => ee_ix <| ee_var 3 rfl <| ee_int <| ⟨_, rfl, rfl⟩
    · rw [map_snd]
/-- the mends of leaving i, up to j loads -/
def _root_.FM.mendsRow (F : Fy) (last : Int) (ls : Lvs) (i : Nat) (p : Int × Int) (j : Nat) : List (Int × Int) :=
  ((List.range j).filter fun (l : Nat) => decide (1 + (l : Int) ≠ p.2) && !(stairs F last (ls.set i (p.1, 1 + (l : Int)))).isNone).map fun (l : Nat) => ((i : Int), 1 + (l : Int))
def _root_.FM.mendsTo (F : Fy) (last : Int) (ls : Lvs) (i : Nat) : List (Int × Int) := (List.range i).flatMap fun i => mendsRow F last ls i (ls.getD i (0, 0)) F.s.toNat
def _root_.FM.mendsOf (F : Fy) (last : Int) (ls : Lvs) : List (Int × Int) := mendsTo F last ls ls.length
abbrev dMends (F : Fy) (last : Int) (ls : Lvs) : PyData := .list ((mendsOf F last ls).map dLv)
theorem mendsRow_len (F : Fy) (last : Int) (ls : Lvs) (i : Nat) (p : Int × Int) (j : Nat) : (mendsRow F last ls i p j).length ≤ j := by
  unfold mendsRow
  rw [List.length_map]
  exact Nat.le_trans (List.length_filter_le _ _) (by rw [List.length_range]; exact Nat.le_refl _)
theorem filter1 {α : Type} {p : α → Bool} {a : α} : [a].filter p = if p a = true then [a] else [] := by rw [List.filter_cons]; rfl
theorem mendsRow_S (F : Fy) (last : Int) (ls : Lvs) (i : Nat) (p : Int × Int) (j : Nat) : mendsRow F last ls i p (j + 1) = mendsRow F last ls i p j ++ (if (decide (1 + (j : Int) ≠ p.2) && !(stairs F last (ls.set i (p.1, 1 + (j : Int)))).isNone) = true then [((i : Int), 1 + (j : Int))] else []) := by
  unfold mendsRow
  rw [List.range_succ, List.filter_append, List.map_append]
  congr 1
  rw [filter1]
  split <;> rfl
theorem mendsTo_S (F : Fy) (last : Int) (ls : Lvs) (i : Nat) : mendsTo F last ls (i + 1) = mendsTo F last ls i ++ mendsRow F last ls i (ls.getD i (0, 0)) F.s.toNat := by
  unfold mendsTo
  rw [List.range_succ, List.flatMap_append, List.flatMap_singleton]
theorem mendsTo_len {F : Fy} (last : Int) (ls : Lvs) (h : F.s ≤ 12) (i : Nat) : (mendsTo F last ls i).length ≤ 12 * i := by
  induction i with
  | zero => exact Nat.le_refl _
  | succ i ih =>
    rw [mendsTo_S, List.length_append]
    have := mendsRow_len F last ls i (ls.getD i (0, 0)) F.s.toNat
    omega
theorem _root_.FM.BkOk.swap {F : Fy} {last : Int} {ls : Lvs} {i : Nat} {p : Int × Int} {v : Int} (ok : BkOk F last ls) (h : ls[i]? = some p) (h1 : 1 ≤ v) (h2 : v ≤ F.s) : BkOk F last (ls.set i (p.1, v)) := by
  have hm := ok.tk p (List.mem_of_getElem? h)
  refine ⟨ok.l0, ok.l1, by rw [List.length_set]; exact ok.n, fun q hq => ?_, fun q hq => ?_, ?_⟩
  · rcases List.mem_or_eq_of_mem_set hq with z | z
    · exact ok.tk q z
    · rw [z]; exact hm
  · rcases List.mem_or_eq_of_mem_set hq with z | z
    · exact ok.ld q z
    · rw [z]; exact ⟨h1, h2⟩
  · rw [List.pairwise_iff_getElem]
    intro a b ha hb lt
    rw [List.length_set] at ha hb
    have hu := List.pairwise_iff_getElem.mp ok.up a b ha hb lt
    obtain ⟨hi, e⟩ := List.getElem?_eq_some_iff.mp h
    have fs : ∀ j (hj : j < ls.length), ((ls.set i (p.1, v))[j]'(by rw [List.length_set]; exact hj)).1 = ls[j].1 := fun j hj => by
      rw [List.getElem_set]
      split
      · rename_i z; subst z; rw [e]
      · rfl
    rw [fs a ha, fs b hb]
    exact hu
theorem sc_mends : FnScope ["ferry", "book", "found", "last", "leavings", "at", "load", "tick", "mine", "other"] ["ferry", "book"] (defScope s_mends) := ⟨rfl, rfl, rfl, by decide +kernel, rfl, by decide +kernel, by decide +kernel⟩
theorem ok_mends {f : Addr} {fd : FuncData} {k : Nat} (F : Fun K "mends" "mends" s_mends f fd) (T : GT mg) (g_look_at : Kn P w K mg base k "look_at" ["ferry", "book"] (spD S_look_at)) (g_stairs_so : Kn P w K mg base k "stairs_so" ["ferry", "book"] (spD (S_fb dStairs))) :
    FnOk P w K mg base CX0 (k + 1) f fd ["ferry", "book"] (spD (S_fb dMends)) := by
  refine fn_D F sc_mends T.b (fun ds q ⟨_, _, _, e, _⟩ => by rw [e]; rfl) ?_
  rintro cdv A outer s H E _ q hr ck ⟨Y, last, ls, rfl, okF, ok, h⟩
  have n10 := ok.n
  have s2 := okF.s2
  have s1 := okF.s1
  refine bb_cons <| ss_expr <| ee_call ⟨_, hr, g_look_at⟩ <| ea_cons <| ee_var 0 rfl <| ea_cons <| ee_var 1 rfl <| ea_nil <| ⟨Y, last, ls, rfl, okF, ok, bb_cons <| ss_asg <| ee_var 1 rfl <| gg_tup ck <| ggs_cons <| gg_name 3 ck <| ggs_cons <| gg_name 4 ck <| ggs_nil <|
    bb_cons <| ss_setL 2 ck <| ea_nil <| ⟨by decide, fun l =>
    bb_cons <| ss_for ck <| ii_enumT ck <| ea_cons <| ee_var 4 rfl <| ea_nil <| ⟨_, rfl, fun i ρ => ∃ d5 d6 d7 d8 d9, ρ = [.dat (dF Y), .dat (dB last ls), .own l ((mendsTo Y last ls i).map dLv), .dat (.int last), .dat (dLs ls), d5, d6, d7, d8, d9] ∧ d5.ad = [] ∧ d6.ad = [] ∧ d7.ad = [] ∧ d8.ad = [] ∧ d9.ad = [], ⟨_, _, _, _, _, rfl, rfl, rfl, rfl, rfl, rfl⟩, ?_, ?_⟩⟩⟩
  · rintro i d ρ hd ⟨d5, d6, d7, d8, d9, rfl, e5, e6, e7, e8, e9⟩
    obtain ⟨p, hp, rfl⟩ := enumD_map dLv hd
    have eg : ls.getD i (0, 0) = p := by rw [List.getD_eq_getElem?_getD, hp]; rfl
    have hi : i < ls.length := (List.getElem?_eq_some_iff.mp hp).1
    refine ⟨_, gg_tup ck <| ggs_cons <| gg_name 5 ck <| ggs_cons <| gg_tup ck <| ggs_cons <| gg_name 7 ck <| ggs_cons <| gg_name 8 ck <| ggs_nil <| ggs_nil <|
      bb_one <| ss_for ck <| ii_range2 ck <| ea_cons <| ee_int <| ea_cons <| ee_add <| ee_ix <| ee_var 0 rfl <| ee_int <| ⟨_, rfl, ee_int <| ea_nil <| ⟨1, Y.s + 1, rfl, by omega, fun j ρ => ∃ d6 d9, ρ = [.dat (dF Y), .dat (dB last ls), .own l ((mendsTo Y last ls i ++ mendsRow Y last ls i p j).map dLv), .dat (.int last), .dat (dLs ls), .dat (.int (i : Int)), d6, .dat (.int p.1), .dat (.int p.2), d9] ∧ d6.ad = [] ∧ d9.ad = [], ⟨d6, d9, ?_, e6, e9⟩, ?_, ?_⟩⟩⟩
    · rw [show mendsRow Y last ls i p 0 = [] from rfl, List.append_nil]
      rfl
    · rintro j d ρ hd ⟨d6, d9, rfl, e6, e9⟩
      obtain ⟨hj, rfl⟩ := rngD_get hd
      have c1 : DL.cutD (ls.map dLv) none (some (i : Int)) = (ls.take i).map dLv := by rw [cutD_to (by omega), Int.toNat_natCast, List.map_take]
      have c2 : DL.cutD (ls.map dLv) (some ((i : Int) + 1)) none = (ls.drop (i + 1)).map dLv := by rw [cutD_from (by omega), show ((i : Int) + 1).toNat = i + 1 by omega, List.map_drop]
      have es : (DL.cutD (ls.map dLv) none (some (i : Int)) ++ [dLv (p.1, 1 + (j : Int))]) ++ DL.cutD (ls.map dLv) (some ((i : Int) + 1)) none = (ls.set i (p.1, 1 + (j : Int))).map dLv := by
        rw [c1, c2, List.set_eq_take_append_cons_drop, if_pos hi, List.map_append, List.map_cons, List.append_assoc]
        rfl
      have l1 : (DL.cutD (ls.map dLv) none (some (i : Int))).length ≤ 10 := by rw [c1, List.length_map, List.length_take]; omega
      have l2 : (DL.cutD (ls.map dLv) (some ((i : Int) + 1)) none).length ≤ 10 := by rw [c2, List.length_map, List.length_drop]; omega
      have ml : (mendsTo Y last ls i ++ mendsRow Y last ls i p j).length ≤ 1000 := by
        have a1 := mendsTo_len last ls okF.s2 i
        have a2 := mendsRow_len Y last ls i p j
        rw [List.length_append]; omega
      refine ⟨_, gg_name 6 ck <|
        bb_cons <| ss_set 9 ck <| ee_add <| ee_add <| ee_sl <| ee_var 4 rfl <| ee_var 5 rfl <| ⟨_, rfl, ee_tup <| ea_cons <| ee_tup <| ea_cons <| ee_var 7 rfl <| ea_cons <| ee_var 6 rfl <| ea_nil <| ⟨le2, ea_nil <| ⟨(by show 1 ≤ 1000000; decide), ⟨?_, ee_sl <| ee_var 4 rfl <| ee_add <| ee_var 5 rfl <| ee_int <| ⟨_, rfl, ⟨?_, ?_⟩⟩⟩⟩⟩⟩⟩
      · show (DL.cutD (ls.map dLv) none (some (i : Int))).length + 1 ≤ 1000000
        omega
      · rw [List.length_append]
        show (DL.cutD (ls.map dLv) none (some (i : Int))).length + 1 + _ ≤ 1000000
        omega
      · have es' : PyData.tuple ((DL.cutD (ls.map dLv) none (some (i : Int)) ++ [dLv (p.1, 1 + (j : Int))]) ++ DL.cutD (ls.map dLv) (some ((i : Int) + 1)) none) = dLs (ls.set i (p.1, 1 + (j : Int))) := congrArg PyData.tuple es
        rw [es']
        have okS : BkOk Y last (ls.set i (p.1, 1 + (j : Int))) := ok.swap hp (by omega) (by omega)
        refine bb_one <| ss_if (et_M (t := decide (1 + (j : Int) ≠ p.2) && !(stairs Y last (ls.set i (p.1, 1 + (j : Int)))).isNone) (et_bool <| ew_andM (et_cmp <| ee_var 6 rfl <| ee_var 8 rfl <| br_ne ck <| ⟨?_, rfl⟩) (fun _ => ew_one <| et_cmp <| ee_call ⟨_, hr, g_stairs_so⟩ <| ea_cons <| ee_var 0 rfl <| ea_cons <| ee_tup <| ea_cons <| ee_var 3 rfl <| ea_cons <| ee_var 9 rfl <| ea_nil <| ⟨le2, ea_nil <| ⟨Y, last, _, rfl, okF, okS, ee_non <| br_notN <| ⟨by rw [dSt_no], rfl⟩⟩⟩))
         (ite2 (fun c =>
        bb_one <| ss_app 2 rfl <| ee_tup <| ea_cons <| ee_var 5 rfl <| ea_cons <| ee_var 6 rfl <| ea_nil <| ⟨le2, ⟨_, rfl, by rw [List.length_map]; omega,
          ⟨.dat (.int (1 + (j : Int))), .dat (dLs (ls.set i (p.1, 1 + (j : Int)))), ?_, rfl, rfl⟩⟩⟩)
         (fun c =>
        bb_nil <| ⟨.dat (.int (1 + (j : Int))), .dat (dLs (ls.set i (p.1, 1 + (j : Int)))), ?_, rfl, rfl⟩)))
        · by_cases z : (1 + (j : Int) = p.2)
          · rw [decide_eq_true z, decide_eq_false fun y => y z]; rfl
          · rw [decide_eq_false z, decide_eq_true z]; rfl
        · rw [mendsRow_S, if_pos c, ← List.append_assoc, List.map_append (l₂ := [_])]
          rfl
        · rw [mendsRow_S, if_neg c, List.append_nil]
          rfl
    · rintro ρ ⟨d6, d9, rfl, e6, e9⟩
      refine ⟨.dat (.int (i : Int)), d6, .dat (.int p.1), .dat (.int p.2), d9, ?_, rfl, e6, rfl, rfl, e9⟩
      rw [rngD_len, mendsTo_S, eg, show (Y.s + 1 - 1).toNat = Y.s.toNat by omega]
  · rintro ρ ⟨d5, d6, d7, d8, d9, rfl, e5, e6, e7, e8, e9⟩
    rw [enumD_len, List.length_map]
    exact bb_freeze 2 rfl <| bb_one <| ss_ret <| ee_var 2 rfl <| h
end
end FB

namespace FB
open PySem PySem.Spec PyProof.Rows L2 DL FM
/-! ### how_many -/
def lkD (t : List (Int × Int)) (many : Int) : PyData → Option PyData
  | .int more => (t.lookup (many - more)).map PyData.int
  | _ => none
theorem hm_list (t : List (Int × Int)) (m many : Int) : (rngD 0 (m + 1).toNat).filterMap (lkD t many) = iL (hmSums t m many) := by
  unfold rngD hmSums iL
  rw [List.filterMap_map, List.map_filterMap]
  congr 1
  funext j
  show (t.lookup (many - (0 + (j : Int)))).map PyData.int = _
  rw [Int.zero_add]
theorem hmSums_len (t : List (Int × Int)) (m many : Int) : (hmSums t m many).length ≤ (m + 1).toNat := by
  unfold hmSums
  exact Nat.le_trans (List.length_filterMap_le _ _) (by rw [List.length_range]; exact Nat.le_refl _)
section
variable {P : Program} {w : World} {K : PySem.W.Frag} {mg : Str → Option Value} {base : Heap} {C : Addr}
abbrev dMany (F : Fy) (last : Int) (ls : Lvs) : PyData := .int (howMany F last ls)
theorem sc_how_many : FnScope ["ferry", "book", "some", "table", "least", "most", "later", "many", "sums", "more"] ["ferry", "book"] (defScope s_how_many) := ⟨rfl, rfl, rfl, by decide +kernel, rfl, by decide +kernel, by decide +kernel⟩
theorem ok_how_many {f : Addr} {fd : FuncData} {k : Nat} (F : Fun K "how_many" "how_many" s_how_many f fd) (T : GT mg) (g_look_at : Kn P w K mg base k "look_at" ["ferry", "book"] (spD S_look_at)) (g_stairs_so : Kn P w K mg base k "stairs_so" ["ferry", "book"] (spD (S_fb dStairs))) :
    FnOk P w K mg base CX0 (k + 1) f fd ["ferry", "book"] (spD (S_fb dMany)) := by
  refine fn_D F sc_how_many T.b (fun ds q ⟨_, _, _, e, _⟩ => by rw [e]; rfl) ?_
  rintro cdv A outer s H E _ q hr ck ⟨Y, last, ls, rfl, okF, ok, h⟩
  refine bb_cons <| ss_expr <| ee_call ⟨_, hr, g_look_at⟩ <| ea_cons <| ee_var 0 rfl <| ea_cons <| ee_var 1 rfl <| ea_nil <| ⟨Y, last, ls, rfl, okF, ok, bb_cons <| ss_set 2 ck <| ee_call ⟨_, hr, g_stairs_so⟩ <| ea_cons <| ee_var 0 rfl <| ea_cons <| ee_var 1 rfl <| ea_nil <| ⟨Y, last, ls, rfl, okF, ok, ?_⟩⟩
  unfold dMany howMany at h
  unfold dStairs
  have m1 := okF.m1
  have m2 := okF.m2
  cases hs : stairs Y last ls with
  | none =>
    rw [hs] at h
    exact bb_cons <| ss_if (et_M (et_cmp <| ee_var 2 rfl <| ee_non <| br_isN <| ⟨rfl, rfl⟩) (ifT rfl <| bb_one <| ss_ret <| ee_int h))
  | some st =>
    rw [hs] at h
    have l := st_small ok hs
    have bd := stairs_in okF ok hs
    refine bb_cons <| ss_if (et_M (et_cmp <| ee_var 2 rfl <| ee_non <| br_isN <| ⟨rfl, rfl⟩) (ifF rfl <|
      bb_nil <| bb_cons <| ss_setD1 3 ck <| bb_cons <| ss_for ck <| ii_list <| ee_var 2 rfl <| ⟨_, rfl, fun i ρ => ∃ d4 d5 d6 d7 d8 d9, ρ = [.dat (dF Y), .dat (dB last ls), .dat (dSt (some st)), .fI (hmTable Y.m (st.take i)), d4, d5, d6, d7, d8, d9] ∧ (d4.ad = [] ∧ d5.ad = [] ∧ d6.ad = [] ∧ d7.ad = [] ∧ d8.ad = [] ∧ d9.ad = []), ⟨_, _, _, _, _, _, rfl, rfl, rfl, rfl, rfl, rfl, rfl⟩, ?_, ?_⟩))
    · rintro i d ρ hd ⟨d4, d5, d6, d7, d8, d9, rfl, e4, e5, e6, e7, e8, e9⟩
      rw [List.getElem?_map] at hd
      cases hp : st[i]? with
      | none => rw [hp] at hd; cases hd
      | some pr =>
      rw [hp] at hd
      cases hd
      obtain ⟨b1, b2, b3⟩ := bd pr (List.mem_of_getElem? hp)
      have eS : hmTable Y.m (st.take (i + 1)) = hmStep Y.m (hmTable Y.m (st.take i)) pr := by
        unfold hmTable
        rw [List.take_succ, hp, List.foldl_append]
        rfl
      generalize hmTable Y.m (st.take i) = t at *
      refine ⟨_, gg_tup ck <| ggs_cons <| gg_name 4 ck <| ggs_cons <| gg_name 5 ck <| ggs_nil <|
        bb_cons <| ss_setDE 6 ck <| fun a => bb_cons <| ss_for ck <| ii_range2 ck <| ea_cons <| ee_var 4 rfl <| ea_cons <| ee_add <| ee_var 5 rfl <| ee_int <| ea_nil <| ⟨pr.1, pr.2 + 1, rfl, by omega,
          fun j ρ => ∃ d7 d8, ρ = [.dat (dF Y), .dat (dB last ls), .dat (dSt (some st)), .fI t, .dat (.int pr.1), .dat (.int pr.2), .dI a (hmNext t Y.m pr.1 j), d7, d8, d9] ∧ d7.ad = [] ∧ d8.ad = [], ⟨_, _, rfl, e7, e8⟩, ?_, ?_⟩⟩
      · rintro j d ρ hd ⟨d7, d8, rfl, e7, e8⟩
        obtain ⟨hj, rfl⟩ := rngD_get hd
        refine ⟨_, gg_name 7 ck <|
          bb_cons <| ss_setLc 8 [("more", 9)] ck (blkOk_by rfl) (ii_range1 ck <| ea_cons <| ee_add <| ee_ix <| ee_var 0 rfl <| ee_int <| ⟨_, rfl, ee_int <| ea_nil <| ⟨Y.m + 1, rfl, by omega, lkD t (pr.1 + (j : Int)), ?_, ?_, ?_⟩⟩) (sw_true rfl rfl rfl (by decide +kernel))⟩
        · rw [rngD_len]; omega
        · intro d hd
          obtain ⟨n, hn⟩ := List.mem_iff_getElem?.mp hd
          obtain ⟨_, rfl⟩ := rngD_get hn
          refine ⟨[9], fun j hj => hj, fun _ _ _ _ _ => gg_name 9 ck.blk <| fun _ _ _ _ _ => et_dinF 3 ck.blk <| ee_sub <| ee_var 7 rfl <| ee_var 9 rfl <| ⟨_, t, rfl, rfl, ite2 (fun c _ _ _ _ _ => ?_) (fun c => ?_)⟩⟩
          · obtain ⟨v, hv⟩ := Option.isSome_iff_exists.mp c
            exact ee_dgetF 3 ck.blk rfl <| ee_sub <| ee_var 7 rfl <| ee_var 9 rfl <| ⟨_, v, rfl, hv, by show Option.map _ _ = _; rw [hv]; rfl⟩
          · show Option.map PyData.int (t.lookup _) = none
            rw [Option.not_isSome_iff_eq_none.mp c]; rfl
        · rw [hm_list]
          have hn := hmNext_S t Y.m pr.1 j
          have hsl := hmSums_len t Y.m (pr.1 + (j : Int))
          by_cases hz : hmSums t Y.m (pr.1 + (j : Int)) = []
          · rw [if_pos hz, List.append_nil] at hn
            rw [hz]
            exact bb_one <| ss_if (et_cmp <| ee_var 8 rfl <| ee_lst <| ea_nil <| ⟨by decide, br_ne ck <| ⟨⟨rfl, rfl⟩, ifF (by decide +kernel) <| bb_nil <| ⟨_, _, by rw [hn]; rfl, rfl, rfl⟩⟩⟩)
          · rw [if_neg hz] at hn
            have ne : (!PyData.eqv (.list (iL (hmSums t Y.m (pr.1 + (j : Int))))) (.list [])) = true := by
              cases hq : hmSums t Y.m (pr.1 + (j : Int)) with
              | nil => exact absurd hq hz
              | cons a r => rfl
            refine bb_one <| ss_if (et_cmp <| ee_var 8 rfl <| ee_lst <| ea_nil <| ⟨by decide, br_ne ck <| ⟨⟨?_, rfl⟩, ifT ne <|
              bb_one <| ss_dput 6 ck <| ee_sum ck <| ea_cons <| ee_var 8 rfl <| ea_nil <| ⟨_, rfl, _, _, rfl, rfl, ee_var 7 rfl <| ⟨_, _, rfl, rfl, hmNext_new t Y.m pr.1 j, ?_, ⟨.dat (.int (pr.1 + (j : Int))), .dat (.list (iL (hmSums t Y.m (pr.1 + (j : Int))))), ?_, rfl, rfl⟩⟩⟩⟩⟩)
            · exact (shp_ints _).ok
            · have := hmNext_len t Y.m pr.1 j
              omega
            · rw [hn]
              rfl
      · rintro ρ ⟨d7, d8, rfl, e7, e8⟩
        refine bb_one <| ss_moveD 3 6 ck rfl <| ⟨.dat (.int pr.1), .dat (.int pr.2), .fI (hmStep Y.m t pr), d7, d8, d9, ?_, rfl, rfl, rfl, e7, e8, e9⟩
        rw [rngD_len, eS]
        rfl
    · rintro ρ ⟨d4, d5, d6, d7, d8, d9, rfl, e4, e5, e6, e7, e8, e9⟩
      rw [List.length_map, List.take_length]
      exact bb_one <| ss_ret <| ee_sumV 3 ck rfl <| h
end
end FB

namespace FB
open PySem PySem.Spec PyProof.Rows L2 DL FM
/-! ### the law's own hands: wells, draws, bags, ferries -/
section
variable {P : Program} {w : World} {K : PySem.W.Frag} {mg : Str → Option Value} {base : Heap} {C : Addr}
theorem sc_well : FnScope ["cell", "turn"] ["cell", "turn"] (defScope s__law_well) := ⟨rfl, rfl, rfl, by decide +kernel, rfl, by decide +kernel, by decide +kernel⟩
theorem bag_new {H : Hp} {p : Addr} {z c t : Int} (h : 0 ≤ t ∧ t ≤ 2 ^ 59) : BagOk (upd H p (.lst [.int z, .int (c % 2305843009213693951), .int t])) p bagN := by
  refine ⟨z, _, t, upd_same, Int.emod_nonneg _ (by decide), Int.emod_lt_of_pos _ (by decide), h.1, ?_⟩
  have e : ((bagN : Nat) : Int) = 2 ^ 59 := by unfold bagN; exact Int.natCast_pow 2 59
  rw [e]
  omega
theorem ea_run {X : Cx} {F : Fm} {σ : L2.St} {H : Hp} {ρ : List Sl} {es : List Expr} {Φ : List PyData → List Sl → Prop} {Q : List V → Hp → Prop} (S : Stt F H σ ρ) (h : EA X ρ es Φ) (k : KA F σ (gh F ρ H) Φ Q) : tA X es σ H Q := h F σ H Q S k
theorem ok_well {f : Addr} {fd : FuncData} (F : Fun K "_law_well" "_law_well" s__law_well f fd) (T : GT mg) : FnOk P w K mg base CX0 1 f fd ["cell", "turn"] spW := by
  refine F.ok sc_well (fun vs H Q E h => ?_) (fun cdv A outer s H vs Q E hr h => ?_)
  · obtain ⟨c, t, rfl, _⟩ := h
    rfl
  · obtain ⟨c, t, rfl, ht, k⟩ := h
    have ck : CK (cxOf CX0 P w K mg base ["cell", "turn"] "_law_well" (defScope s__law_well) f cdv A outer s H E).nox := ⟨rfl, sc_well.nd, by
      show (A.deeper (envOfC "_law_well" (defScope s__law_well) s.heap.objs.size f cdv)).units + 100 < cLine
      have := hr.un
      omega, T.b⟩
    refine ⟨_, pss_cons (ps_if ptW (pss_one (ps_ret (pe_lst paW))) pss_nil) (pss_one (ps_ret (pe_lst paW))), ?_⟩
    have St : Stt ⟨[], [], H⟩ H (start ["cell", "turn"] [.int c, .int t]) [.dat (.int c), .dat (.int t)] := ⟨(fun _ m => nomatch m), fun a o _ e => e, fun a e => e, List.nodup_nil, (fun a m => nomatch m), (fun a m => nomatch m), ⟨⟨_, rfl, .int c⟩, ⟨_, rfl, .int t⟩, trivial⟩⟩
    refine (et_cmp (Ψ := fun _ ρ1 => ρ1 = [.dat (.int c), .dat (.int t)]) <| ee_var 0 rfl <| ee_pow <| ee_int <| ee_int <| ⟨by decide, br_ge rfl⟩) _ _ H _ St fun b H1 ρ1 er S1 g1 => ?_
    subst er
    have s1 : Same H H1 := fun a o e => S1.fr a o (fun z => nomatch z) e
    have fin : ∀ (z : Int) (H2 : Hp) (us : List V) (ds : List PyData) (ρ2 : List Sl), Stt ⟨[], [], H⟩ H2 (start ["cell", "turn"] [.int c, .int t]) ρ2 → RpAll (gh ⟨[], [], H⟩ ρ2 H2) us ds → ds = [.int z, .int (c % 2305843009213693951), .int t] → us.length ≤ sizeLine ∧ ∀ p, H2 p = none → Q (.ref p) (upd H2 p (.lst us)) := fun z H2 us ds ρ2 S2 r ed => by
      subst ed
      match us, r with
      | [_, _, _], .cons (.int _) (.cons (.int _) (.cons (.int _) .nil)) =>
        refine ⟨by show 3 ≤ sizeLine; decide, fun p hp => k p _ (fun a o e => ?_) ?_ (bag_new ht)⟩
        · have e2 : H2 a = some o := S2.fr a o (fun z => nomatch z) e
          rw [upd_ne (ne_of_none e2 hp)]; exact e2
        · cases q : H p with
          | none => rfl
          | some o => have := S2.fr p o (fun z => nomatch z) q; rw [hp] at this; cases this
    cases b with
    | true =>
      refine iteT ?_
      exact ea_run (Φ := fun ds _ => ds = [.int (c - 10 ^ (18 : Int).toNat), .int (c % 2305843009213693951), .int t]) S1 (ea_cons <| ee_sub <| ee_var 0 rfl <| ee_pow <| ee_int <| ee_int <| ⟨by decide, ea_cons <| ee_mod <| ee_var 0 rfl <| ee_int <| ⟨by decide, ea_cons <| ee_var 1 rfl <| ea_nil rfl⟩⟩) fun us H2 ds ρ2 ed S2 g2 r => fin _ H2 us ds ρ2 S2 r ed
    | false =>
      refine iteF ?_
      exact ea_run (Φ := fun ds _ => ds = [.int 0, .int (c % 2305843009213693951), .int t]) S1 (ea_cons <| ee_int <| ea_cons <| ee_mod <| ee_var 0 rfl <| ee_int <| ⟨by decide, ea_cons <| ee_var 1 rfl <| ea_nil rfl⟩) fun us H2 ds ρ2 ed S2 g2 r => fin _ H2 us ds ρ2 S2 r ed
def S_take : SpecB := fun ds n k => ∃ m : Int, ds = [.int m] ∧ (1 ≤ m ∧ m < 1073741824) ∧ 1 ≤ n ∧ ∀ v, 0 ≤ v → v < m → k (.int v) (n - 1)
theorem sc_take : FnScope ["bag", "many", "found", "p", "n"] ["bag", "many"] (defScope s__law_take) := ⟨rfl, rfl, rfl, by decide +kernel, rfl, by decide +kernel, by decide +kernel⟩
theorem ok_take {f : Addr} {fd : FuncData} (F : Fun K "_law_take" "_law_take" s__law_take f fd) (T : GT mg) : FnOk P w K mg base CX0 1 f fd ["bag", "many"] (spB S_take) := by
  refine fn_B F sc_take T.b (fun ds n q ⟨_, e, _⟩ => by rw [e]; rfl) ?_
  rintro cdv A outer s H E b _ n q hr ck ⟨m, rfl, ⟨m1, m2⟩, n1, h⟩
  refine bb_open fun z w0 t ⟨a1, a2, a3, a4⟩ => ?_
  have a2' : w0 < 2305843009213693951 := a2
  refine bb_cons <| ss_if (et_cmp <| ee_ixOwn 0 rfl <| ee_int <| ⟨0, .int z, _, rfl, rfl, rfl, ee_int <| br_gt <| ite2 (fun c => ?_) (fun c => bb_nil ?_)⟩)
  · exact bb_cons <| ss_set 2 ck <| ee_mod <| ee_ixOwn 0 rfl <| ee_int <| ⟨0, .int z, _, rfl, rfl, rfl, ee_var 1 rfl <| ⟨by omega,
      bb_cons <| ss_ixset 0 <| ee_fdiv <| ee_ixOwn 0 rfl <| ee_int <| ⟨0, .int z, _, rfl, rfl, rfl, ee_var 1 rfl <| ⟨by omega, ⟨_, rfl, ee_int ⟨0, 0, _, rfl, rfl, rfl,
      bb_one <| ss_ret <| ee_var 2 rfl <| ⟨_, w0, t, n - 1, rfl, ⟨a1, a2, a3, by omega⟩, h _ (Int.emod_nonneg _ (by omega)) (Int.emod_lt_of_pos _ (by omega))⟩⟩⟩⟩⟩⟩⟩
  · refine bb_cons <| ss_ixset 0 <| ee_add <| ee_ixOwn 0 rfl <| ee_int <| ⟨2, .int t, _, rfl, rfl, rfl, ee_int <| ⟨_, rfl, ee_int ⟨2, 2, _, rfl, rfl, rfl,
      bb_cons <| ss_set 3 ck <| ee_int <|
      bb_cons <| ss_set 4 ck <| ee_mod <| ee_add <| ee_ixOwn 0 rfl <| ee_int <| ⟨1, .int w0, _, rfl, rfl, rfl, ee_mul <| ee_int <| ee_ixOwn 0 rfl <| ee_int <| ⟨2, .int (t + 1), _, rfl, rfl, rfl, ⟨.inl ⟨by decide, by decide⟩, ee_var 3 rfl <| ⟨by decide, ?_⟩⟩⟩⟩⟩⟩⟩
    have n0 := Int.emod_nonneg (w0 + 1000003 * (t + 1)) (b := 2305843009213693951) (by decide)
    have n2 := Int.emod_lt_of_pos (w0 + 1000003 * (t + 1)) (b := 2305843009213693951) (by decide)
    generalize (w0 + 1000003 * (t + 1)) % 2305843009213693951 = v1 at *
    refine bb_cons <| ss_set 4 ck <| ee_mod <| ee_add <| ee_add <| ee_mul <| ee_var 4 rfl <| ee_var 4 rfl <| ⟨.inl ⟨by omega, by omega⟩, ee_mul <| ee_int <| ee_pow <| ee_ixOwn 0 rfl <| ee_int <| ⟨2, .int (t + 1), _, rfl, rfl, rfl, ee_int <| ⟨⟨by decide, by decide, by omega⟩, ⟨.inl ⟨by decide, by decide⟩, ee_int <| ee_var 3 rfl <| ⟨by decide, ?_⟩⟩⟩⟩⟩
    have n3 := Int.emod_nonneg (v1 * v1 + 7919 * (t + 1) ^ (2 : Int).toNat + 5) (b := 2305843009213693951) (by decide)
    have n4 := Int.emod_lt_of_pos (v1 * v1 + 7919 * (t + 1) ^ (2 : Int).toNat + 5) (b := 2305843009213693951) (by decide)
    generalize (v1 * v1 + 7919 * (t + 1) ^ (2 : Int).toNat + 5) % 2305843009213693951 = v2 at *
    exact bb_one <| ss_ret <| ee_mod <| ee_fdiv <| ee_mod <| ee_pow <| ee_var 4 rfl <| ee_int <| ⟨⟨by decide, by decide, by omega⟩, ee_var 3 rfl <| ⟨by decide, ee_int <| ⟨by decide, ee_var 1 rfl <| ⟨by omega, ⟨z, w0, t + 1, n - 1, rfl, ⟨a1, a2, by omega, by omega⟩, h _ (Int.emod_nonneg _ (by omega)) (Int.emod_lt_of_pos _ (by omega))⟩⟩⟩⟩⟩
theorem at2 (x y v : Int) (h0 : 0 ≤ v) (h1 : v < 2) : ∃ c, atI [PyData.int x, .int y] v = some (.int c) ∧ (c = x ∨ c = y) := by
  rcases (by omega : v = 0 ∨ v = 1) with rfl | rfl
  · exact ⟨x, rfl, .inl rfl⟩
  · exact ⟨y, rfl, .inr rfl⟩
def S_lferry : SpecB := fun ds n k => ∃ little : Bool, ds = [.bool little] ∧ 10 ≤ n ∧ ∀ F : Fy, F.Ok → (little = true → F.s ≤ 3 ∧ F.w ≤ 3 ∧ F.a ≤ 3 ∧ F.m ≤ 2) → ∀ n', n ≤ n' + 10 → k (dF F) n'
theorem sc_lferry : FnScope ["bag", "little", "seats", "waits1", "away1"] ["bag", "little"] (defScope s__law_ferry) := ⟨rfl, rfl, rfl, by decide +kernel, rfl, by decide +kernel, by decide +kernel⟩
theorem ok_lferry {f : Addr} {fd : FuncData} (F : Fun K "_law_ferry" "_law_ferry" s__law_ferry f fd) (T : GT mg) (g__law_take : Kn P w K mg base 1 "_law_take" ["bag", "many"] (spB S_take)) : FnOk P w K mg base CX0 2 f fd ["bag", "little"] (spB S_lferry) := by
  refine fn_B F sc_lferry T.b (fun ds n q ⟨_, e, _⟩ => by rw [e]; rfl) ?_
  rintro cdv A outer s H E b _ n q hr ck ⟨little, rfl, n1, h⟩
  refine bb_cons <| ss_if (et_val <| ee_var 1 rfl <| ⟨_, rfl, ite2 (fun c => ?_) (fun c => bb_nil ?_)⟩)
  · exact bb_one <| ss_ret <| ee_tup <| ea_cons <| ee_add <| ee_int <| ee_callG 0 ⟨_, hr, g__law_take⟩ rfl <| ea_cons <| ee_int <| ea_nil <| ⟨_, rfl, 3, rfl, ⟨by decide, by decide⟩, by omega, fun v1 a1 b1 =>
      ea_cons <| ee_add <| ee_int <| ee_callG 0 ⟨_, hr, g__law_take⟩ rfl <| ea_cons <| ee_int <| ea_nil <| ⟨_, rfl, 3, rfl, ⟨by decide, by decide⟩, by omega, fun v2 a2 b2 =>
      ea_cons <| ee_add <| ee_int <| ee_callG 0 ⟨_, hr, g__law_take⟩ rfl <| ea_cons <| ee_int <| ea_nil <| ⟨_, rfl, 3, rfl, ⟨by decide, by decide⟩, by omega, fun v3 a3 b3 =>
      ea_cons <| ee_add <| ee_int <| ee_callG 0 ⟨_, hr, g__law_take⟩ rfl <| ea_cons <| ee_int <| ea_nil <| ⟨_, rfl, 2, rfl, ⟨by decide, by decide⟩, by omega, fun v4 a4 b4 =>
      ea_nil ⟨by show 4 ≤ 1000000; decide, ⟨_, rfl, h ⟨1 + v1, 1 + v2, 1 + v3, 1 + v4⟩ ⟨by show 1 ≤ 1 + v1; omega, by show 1 + v1 ≤ 12; omega, by show 1 ≤ 1 + v2; omega, by show 1 + v2 ≤ 20; omega, by show 1 ≤ 1 + v3; omega, by show 1 + v3 ≤ 20; omega, by show 1 ≤ 1 + v4; omega, by show 1 + v4 ≤ 9; omega⟩ (fun _ => ⟨by show 1 + v1 ≤ 3; omega, by show 1 + v2 ≤ 3; omega, by show 1 + v3 ≤ 3; omega, by show 1 + v4 ≤ 2; omega⟩) _ (by omega)⟩⟩⟩⟩⟩⟩
  · refine bb_cons <| ss_par (i := 2) (j := 3) ck <| ea_cons <| ee_add <| ee_int <| ee_callG 0 ⟨_, hr, g__law_take⟩ rfl <| ea_cons <| ee_int <| ea_nil <| ⟨_, rfl, 12, rfl, ⟨by decide, by decide⟩, by omega, fun v1 a1 b1 =>
      ea_cons <| ee_add <| ee_int <| ee_callG 0 ⟨_, hr, g__law_take⟩ rfl <| ea_cons <| ee_ix <| ee_lst <| ea_cons <| ee_int <| ea_cons <| ee_int <| ea_nil <| ⟨le2, ee_callG 0 ⟨_, hr, g__law_take⟩ rfl <| ea_cons <| ee_int <| ea_nil <| ⟨_, rfl, 2, rfl, ⟨by decide, by decide⟩, by omega, fun u2 c2 d2 => ?_⟩⟩⟩
    obtain ⟨x2, e2, x2'⟩ := at2 4 20 u2 c2 d2
    refine ⟨_, e2, ea_nil <| ⟨_, rfl, x2, rfl, ⟨by omega, by omega⟩, by omega, fun v2 a2 b2 => ea_nil ⟨_, _, rfl,
      bb_cons <| ss_set 4 ck <| ee_add <| ee_int <| ee_callG 0 ⟨_, hr, g__law_take⟩ rfl <| ea_cons <| ee_ix <| ee_lst <| ea_cons <| ee_int <| ea_cons <| ee_int <| ea_nil <| ⟨le2, ee_callG 0 ⟨_, hr, g__law_take⟩ rfl <| ea_cons <| ee_int <| ea_nil <| ⟨_, rfl, 2, rfl, ⟨by decide, by decide⟩, by omega, fun u3 c3 d3 => ?_⟩⟩⟩⟩⟩
    obtain ⟨x3, e3, x3'⟩ := at2 4 20 u3 c3 d3
    refine ⟨_, e3, ea_nil <| ⟨_, rfl, x3, rfl, ⟨by omega, by omega⟩, by omega, fun v3 a3 b3 =>
      bb_one <| ss_ret <| ee_tup <| ea_cons <| ee_var 2 rfl <| ea_cons <| ee_var 3 rfl <| ea_cons <| ee_var 4 rfl <| ea_cons <| ee_add <| ee_int <| ee_callG 0 ⟨_, hr, g__law_take⟩ rfl <| ea_cons <| ee_ix <| ee_lst <| ea_cons <| ee_int <| ea_cons <| ee_int <| ea_nil <| ⟨le2, ee_callG 0 ⟨_, hr, g__law_take⟩ rfl <| ea_cons <| ee_int <| ea_nil <| ⟨_, rfl, 2, rfl, ⟨by decide, by decide⟩, by omega, fun u4 c4 d4 => ?_⟩⟩⟩⟩
    obtain ⟨x4, e4, x4'⟩ := at2 2 9 u4 c4 d4
    exact ⟨_, e4, ea_nil <| ⟨_, rfl, x4, rfl, ⟨by omega, by omega⟩, by omega, fun v4 a4 b4 => ea_nil ⟨by show 4 ≤ 1000000; decide, ⟨_, rfl, h ⟨1 + v1, 1 + v2, 1 + v3, 1 + v4⟩ ⟨by show 1 ≤ 1 + v1; omega, by show 1 + v1 ≤ 12; omega, by show 1 ≤ 1 + v2; omega, by show 1 + v2 ≤ 20; omega, by show 1 ≤ 1 + v3; omega, by show 1 + v3 ≤ 20; omega, by show 1 ≤ 1 + v4; omega, by show 1 + v4 ≤ 9; omega⟩ (fun z => absurd z c) _ (by omega)⟩⟩⟩⟩
end
end FB

namespace FB
open PySem PySem.Spec PyProof.Rows L2 DL FM
section
variable {P : Program} {w : World} {K : PySem.W.Frag} {mg : Str → Option Value} {base : Heap} {C : Addr}
theorem sc_bags : FnScope ["script", "most", "k", "cell"] ["script", "most"] (defScope s__law_bags) := ⟨rfl, rfl, rfl, by decide +kernel, rfl, by decide +kernel, by decide +kernel⟩
theorem cutV_ints (ns : List Int) (lo hi : Option Int) : ∃ ms : List Int, cutV (ns.map V.int) lo hi = ms.map V.int ∧ ms.length ≤ ns.length := by
  unfold cutV
  refine ⟨(ns.drop _).take _, by rw [List.map_take, List.map_drop], ?_⟩
  rw [List.length_take, List.length_drop]
  omega
theorem ok_bags {f : Addr} {fd : FuncData} (F : Fun K "_law_bags" "_law_bags" s__law_bags f fd) (T : GT mg) (g : Kn P w K mg base 1 "_law_well" ["cell", "turn"] spW) : FnOk P w K mg base CX0 2 f fd ["script", "most"] (spBags K) := by
  refine F.ok sc_bags (fun vs H Q E h => ?_) (fun cdv A outer s H vs Q E hr h => ?_)
  · obtain ⟨a, ns, m, rfl, _⟩ := h
    rfl
  · obtain ⟨a, ns, m, rfl, hS, hn, hm, k⟩ := h
    have ck : CK (cxOf CX0 P w K mg base ["script", "most", "k", "cell"] "_law_bags" (defScope s__law_bags) f cdv A outer s H E).nox := ⟨rfl, sc_bags.nd, by
      show (A.deeper (envOfC "_law_bags" (defScope s__law_bags) s.heap.objs.size f cdv)).units + 100 < cLine
      have := hr.un
      omega, T.b⟩
    obtain ⟨fw, fdw, Gw, mgw, kpw, bdw⟩ := g
    have hr1 : Room 1 _ := hr
    refine ⟨_, pss_one (ps_ret (pe_lc (g := gTup K 2 (gCons (gName 2) (gCons (gName 3) gNil))) (own := [("k", 2), ("cell", 3)]) ck.calm ck.nd (pi_enum rfl (ck.bt _ (by simp [bNames])) (pa_cons (pe_op op_cat (pe_slice sl_list (pe_var (i := 0) rfl (Or.inl rfl) (by decide) (by decide)) po_none (po_some (pe_var (i := 1) rfl (Or.inl rfl) (by decide) (by decide)))) (pe_lst (pa_cons pe_int pa_nil))) pa_nil) rfl) (blkOk_by rfl)
      (fun s H C cl fp => pg_tup ck.blk.calm (pgs_cons (pg_name (i := 2) ck.blk.nd rfl (Or.inl rfl) (hf := Or.inr rfl)) (pgs_cons (pg_name (i := 3) ck.blk.nd rfl (Or.inl rfl) (hf := Or.inr rfl)) pgs_nil))) (fun s H C cl fp => pts_nil)
      (fun s H C cl fp => pe_call Gw hr1 rfl mgw kpw bdw .nil pass0 (pa_cons (pe_var (i := 3) rfl (Or.inl rfl) (by decide) (by decide)) (pa_cons (pe_op op_mul pe_int (pe_var (i := 2) rfl (Or.inl rfl) (by decide) (by decide))) pa_nil))))), ?_⟩
    obtain ⟨ms, em, lm⟩ := cutV_ints ns none (some m)
    refine ⟨_, rfl, _, rfl, m, rfl, a, ns.map V.int, rfl, hS, fun p hp => ?_⟩
    rw [em]
    refine ⟨by show 1 ≤ sizeLine; decide, fun p2 hp2 => ?_⟩
    have np : p ≠ p2 := fun z => by rw [← z, upd_same] at hp2; cases hp2
    refine ⟨p, p2, ms.map V.int, _, rfl, rfl, by rw [upd_ne np, upd_same], upd_same, big_le (by rw [List.length_map]; show ms.length + 1 ≤ 1000000; omega), fun p3 hp3 => ⟨_, _, rfl, .of upd_same, fun D hD => ?_⟩⟩
    have e3 : ms.map V.int ++ [V.int 0] = (ms ++ [0]).map V.int := by rw [List.map_append]; rfl
    rw [e3] at hD ⊢
    have hL : (ms ++ [0]).length ≤ 64 := by rw [List.length_append]; show ms.length + 1 ≤ 64; omega
    generalize ms ++ [0] = zs at *
    have s0 : Same H (upd (upd (upd H p (.lst (ms.map V.int))) p2 (.lst [V.int 0])) p3 (.lst (zs.map V.int))) := ((same_new hp).trans (same_new hp2)).trans (same_new hp3)
    have e0 : (upd (upd (upd H p (.lst (ms.map V.int))) p2 (.lst [V.int 0])) p3 (.lst (zs.map V.int))) p3 = some (.lst (zs.map V.int)) := upd_same
    generalize (upd (upd (upd H p (.lst (ms.map V.int))) p2 (.lst [V.int 0])) p3 (.lst (zs.map V.int))) = H1 at *
    refine ⟨fun i m H2 => m = zs.length - i ∧ i ≤ zs.length ∧ Same H1 H2 ∧ ∃ bs : List Addr, H2 D = some (.lst (bs.map V.ref)) ∧ bs.length = i ∧ bs.Nodup ∧ D ∉ bs ∧ ∀ b ∈ bs, BagOk H2 b bagN, ⟨_, rfl, Nat.zero_le _, same_new hD, [], upd_same, rfl, List.nodup_nil, (fun z => nomatch z), (fun _ z => nomatch z)⟩, ?_⟩
    rintro i m' H2 ⟨rfl, hi, s2, bs, eD, lb, nd, nD, hb⟩
    have eq3 : SqL K H2 p3 (zs.map V.int) := .of (s2 _ _ e0)
    by_cases hlt : i < zs.length
    · refine .inr ⟨⟨_, .int zs[i], eq3, by rw [List.getElem?_map, List.getElem?_eq_getElem hlt]; rfl⟩, fun H3 => Same H1 H3 ∧ ∃ bs : List Addr, H3 D = some (.lst (bs.map V.ref)) ∧ bs.length = i + 1 ∧ bs.Nodup ∧ D ∉ bs ∧ ∀ b ∈ bs, BagOk H3 b bagN, fun H3 ⟨a1, a2⟩ => ⟨zs.length - (i + 1), by omega, rfl, hlt, a1, a2⟩, ?_⟩
      rintro x H3 ⟨T, x, rfl, hT, rfl, hx⟩
      have hx' := hx _ eq3
      rw [List.getElem?_map, List.getElem?_eq_getElem hlt] at hx'
      cases hx'
      refine ⟨T, _, rfl, .of upd_same, rfl, _, _, rfl, _, _, rfl, rfl, ?_⟩
      refine ⟨rfl, ?_⟩
      unfold tYes
      dsimp only
      rw [if_pos rfl]
      refine ⟨_, rfl, _, rfl, _, _, rfl, rfl, .inl ⟨by decide, by decide⟩, zs[i], 977 * (i : Int), rfl, ⟨by omega, by omega⟩, fun b H4 s4 hb0 bo => ?_⟩
      have sT : Same H2 H4 := (same_new hT).trans s4
      have nbs : b ∉ bs := fun z => by
        obtain ⟨z1, w1, t1, e1, _⟩ := hb b z
        rw [(same_new hT) _ _ e1] at hb0; cases hb0
      have nbD : b ≠ D := fun z => by
        rw [z, (same_new hT) _ _ eD] at hb0; cases hb0
      refine ⟨bs.map V.ref, sT _ _ eD, big_lt (by rw [List.length_map]; omega), fun a o e => ?_, bs ++ [b], ?_, by rw [List.length_append, lb]; rfl, ?_, ?_, ?_⟩
      · have : a ≠ D := fun z => by rw [z, hD] at e; cases e
        rw [upd_ne this]
        exact sT _ _ (s2 _ _ e)
      · rw [upd_same, List.map_append]; rfl
      · exact List.nodup_append.mpr ⟨nd, by simp, fun x hx y hy z => nbs (by rw [← List.mem_singleton.mp hy, ← z]; exact hx)⟩
      · intro z
        rcases List.mem_append.mp z with z | z
        · exact nD z
        · exact nbD (List.mem_singleton.mp z).symm
      · intro c hc
        have bk : BagOk H4 c bagN := by
          rcases List.mem_append.mp hc with z | z
          · obtain ⟨z1, w1, t1, e1, r⟩ := hb c z
            exact ⟨z1, w1, t1, sT _ _ e1, r⟩
          · rw [List.mem_singleton.mp z]; exact bo
        have ncD : c ≠ D := fun z => by
          rcases List.mem_append.mp hc with y | y
          · exact nD (z ▸ y)
          · exact nbD ((List.mem_singleton.mp y).symm.trans z)
        obtain ⟨z1, w1, t1, e1, r⟩ := bk
        exact ⟨z1, w1, t1, by rw [upd_ne ncD]; exact e1, r⟩
    · refine .inl ⟨⟨_, eq3, by rw [List.length_map]; omega⟩, k D bs H2 (s0.trans s2) eD nd nD hb⟩
end
end FB

namespace FB
open PySem PySem.Spec PyProof.Rows L2 DL FM
/-! ### rows of the law -/
section
variable {P : Program} {w : World} {K : PySem.W.Frag} {mg : Str → Option Value} {base : Heap} {C : Addr}
def S_row : SpecB := fun ds n k => ∃ (F : Fy) (t : Int), ds = [dF F, .int t] ∧ F.Ok ∧ (1 ≤ t ∧ t ≤ 61) ∧ 200 ≤ n ∧ ∀ row : List Int, row.length = t.toNat → (∀ x ∈ row, 0 ≤ x ∧ x ≤ F.m) → ∀ n', n ≤ n' + 200 → k (.tuple (iL row)) n'
theorem sc_row : FnScope ["bag", "ferry1", "ticks1", "idle", "found", "turn"] ["bag", "ferry1", "ticks1"] (defScope s__law_row) := ⟨rfl, rfl, rfl, by decide +kernel, rfl, by decide +kernel, by decide +kernel⟩
theorem ok_row {f : Addr} {fd : FuncData} (F : Fun K "_law_row" "_law_row" s__law_row f fd) (T : GT mg) (g__law_take : Kn P w K mg base 1 "_law_take" ["bag", "many"] (spB S_take)) : FnOk P w K mg base CX0 2 f fd ["bag", "ferry1", "ticks1"] (spB S_row) := by
  refine fn_B F sc_row T.b (fun ds n q ⟨_, _, e, _⟩ => by rw [e]; rfl) ?_
  rintro cdv A outer s H E b _ n q hr ck ⟨Y, t, rfl, okF, ht, hn, h⟩
  have m1 := okF.m1
  have m2 := okF.m2
  refine bb_cons <| ss_set 3 ck <| ee_callG 0 ⟨_, hr, g__law_take⟩ rfl <| ea_cons <| ee_int <| ea_nil <| ⟨_, rfl, 6, rfl, ⟨by decide, by decide⟩, by omega, fun v0 a0 b0 =>
    bb_cons <| ss_setL 4 ck <| ea_nil <| ⟨by decide, fun l =>
    bb_cons <| ss_for ck <| ii_range1 ck <| ea_cons <| ee_var 2 rfl <| ea_nil <| ⟨t, rfl, by omega, fun i ρ => ∃ (row : List Int) (n' : Nat) (d5 : Sl), ρ = [.bag b n', .dat (dF Y), .dat (.int t), .dat (.int v0), .own l (iL row), d5] ∧ d5.ad = [] ∧ row.length = i ∧ (∀ x ∈ row, 0 ≤ x ∧ x ≤ Y.m) ∧ n ≤ n' + (1 + 2 * i), ⟨[], n - 1, .non, rfl, rfl, rfl, (fun x h => nomatch h), by omega⟩, ?_, ?_⟩⟩⟩
  · rintro i d ρ hd ⟨row, n', d5, rfl, e5, hl, hx, hb⟩
    obtain ⟨hi, rfl⟩ := rngD_get hd
    refine ⟨_, gg_name 5 ck <|
      bb_one <| ss_app 4 rfl <| ee_if (et_cmp <| ee_callG 0 ⟨_, hr, g__law_take⟩ rfl <| ea_cons <| ee_int <| ea_nil <| ⟨_, rfl, 6, rfl, ⟨by decide, by decide⟩, by omega, fun v1 a1 b1 => ee_var 3 rfl <| br_lt <| ite2 (fun c => ee_int <| ⟨_, rfl, by rw [iL_len]; omega, ?_⟩)
       (fun c => ee_callG 0 ⟨_, hr, g__law_take⟩ rfl <| ea_cons <| ee_add <| ee_ix <| ee_var 1 rfl <| ee_int <| ⟨_, rfl, ee_int <| ea_nil <| ⟨_, rfl, Y.m + 1, rfl, ⟨by omega, by omega⟩, by omega, fun v2 a2 b2 => ⟨_, rfl, by rw [iL_len]; omega, ?_⟩⟩⟩)⟩)⟩
    · refine ⟨row ++ [0], n' - 1, .dat (.int (0 + (i : Int))), ?_, rfl, by rw [List.length_append, hl]; rfl, fun x hx' => ?_, by omega⟩
      · rw [show iL (row ++ [0]) = iL row ++ [PyData.int 0] from List.map_append]; rfl
      · rcases List.mem_append.mp hx' with z | z
        · exact hx x z
        · rw [List.mem_singleton.mp z]; exact ⟨Int.le_refl 0, by omega⟩
    · refine ⟨row ++ [v2], n' - 1 - 1, .dat (.int (0 + (i : Int))), ?_, rfl, by rw [List.length_append, hl]; rfl, fun x hx' => ?_, by omega⟩
      · rw [show iL (row ++ [v2]) = iL row ++ [PyData.int v2] from List.map_append]; rfl
      · rcases List.mem_append.mp hx' with z | z
        · exact hx x z
        · rw [List.mem_singleton.mp z]; exact ⟨a2, by omega⟩
  · rintro ρ ⟨row, n', d5, rfl, e5, hl, hx, hb⟩
    rw [rngD_len] at hl hb
    exact bb_freeze 4 rfl <| bb_one <| ss_ret <| ee_tuple ck <| ea_cons <| ee_var 4 rfl <| ea_nil <| ⟨_, rfl, h row hl hx n' (by omega)⟩
end
end FB

namespace FB
open PySem PySem.Spec PyProof.Rows L2 DL FM
section
variable {P : Program} {w : World} {K : PySem.W.Frag} {mg : Str → Option Value} {base : Heap} {C : Addr}
def S_left : DSpec := fun ds k => ∃ (F : Fy) (row : List Int), ds = [dF F, .tuple (iL row)] ∧ F.Ok ∧ row.length ≤ 61 ∧ (∀ x ∈ row, 0 ≤ x ∧ x ≤ 9) ∧ k (dLs (leftOf F row))
theorem sc_left : FnScope ["ferry1", "row", "found", "seats", "waits1", "away1", "most1", "bank", "aboard", "back1", "tick", "many"] ["ferry1", "row"] (defScope s__law_left) := ⟨rfl, rfl, rfl, by decide +kernel, rfl, by decide +kernel, by decide +kernel⟩
theorem rep_iL (n : Nat) (t : Int) : (List.replicate n [PyData.int t]).flatten = iL (List.replicate n t) := by
  rw [List.flatten_replicate_singleton]; exact List.map_replicate.symm
theorem ne_nil {l : List Int} : (!PyData.eqv (.list (iL l)) (.list [])) = decide (l ≠ []) := by
  cases l with
  | nil => rfl
  | cons a r => rfl
abbrev ls0 : LS := ⟨0, 0, 0, 0, []⟩
structure LsI (F : Fy) (s : LS) (i : Nat) (B A : List Int) : Prop where
  b : B.length = s.bank
  a : A.length = s.ab
  hd : ∀ x, A.head? = some x → x = s.since
  nb : B.length ≤ 9 * i
  na : A.length ≤ F.s.toNat
  nf : s.found.length ≤ i
theorem ok_left {f : Addr} {fd : FuncData} (F : Fun K "_law_left" "_law_left" s__law_left f fd) (T : GT mg) : FnOk P w K mg base CX0 1 f fd ["ferry1", "row"] (spD S_left) := by
  refine fn_D F sc_left T.b (fun ds q ⟨_, _, e, _⟩ => by rw [e]; rfl) ?_
  rintro cdv A outer s H E _ q hr ck ⟨Y, row, rfl, okF, hl, hx, h⟩
  have s1 := okF.s1
  have s2 := okF.s2
  refine bb_cons <| ss_asg <| ee_var 0 rfl <| gg_tup ck <| ggs_cons <| gg_name 3 ck <| ggs_cons <| gg_name 4 ck <| ggs_cons <| gg_name 5 ck <| ggs_cons <| gg_name 6 ck <| ggs_nil <|
    bb_cons <| ss_par3 (i := 7) (j := 8) (l := 9) ck <| ea_cons <| ee_lst <| ea_nil <| ⟨by decide, ea_cons <| ee_lst <| ea_nil <| ⟨by decide, ea_cons <| ee_int <| ea_nil <| ⟨_, _, _, rfl,
    bb_cons <| ss_setL 2 ck <| ea_nil <| ⟨by decide, fun l =>
    bb_cons <| ss_for ck <| ii_enumT ck <| ea_cons <| ee_var 1 rfl <| ea_nil <| ⟨_, rfl, fun i ρ => ∃ B A d10 d11, ρ = [.dat (dF Y), .dat (.tuple (iL row)), .own l ((lsRun Y ls0 0 (row.take i)).found.map dLv), .dat (.int Y.s), .dat (.int Y.w), .dat (.int Y.a), .dat (.int Y.m), .dat (.list (iL B)), .dat (.list (iL A)), .dat (.int (lsRun Y ls0 0 (row.take i)).back), d10, d11] ∧ d10.ad = [] ∧ d11.ad = [] ∧ LsI Y (lsRun Y ls0 0 (row.take i)) i B A,
      ⟨[], [], .non, .non, rfl, rfl, rfl, ⟨rfl, rfl, (fun x h => nomatch h), Nat.le_refl _, Nat.zero_le _, Nat.le_refl _⟩⟩, ?_, ?_⟩⟩⟩⟩⟩
  · rintro i d ρ hd ⟨B, A, d10, d11, rfl, e10, e11, hI⟩
    obtain ⟨x, hp, rfl⟩ := enumD_map PyData.int hd
    have hi : i < row.length := (List.getElem?_eq_some_iff.mp hp).1
    obtain ⟨x0, x9⟩ := hx x (List.mem_of_getElem? hp)
    have eS : lsRun Y ls0 0 (row.take (i + 1)) = lsStep Y (lsRun Y ls0 0 (row.take i)) (i : Int) x := by
      rw [List.take_succ, hp, lsRun_app]
      rw [List.length_take, Nat.min_eq_left (Nat.le_of_lt hi)]
      show lsStep Y _ (0 + (i : Int)) x = _
      rw [Int.zero_add]
    generalize lsRun Y ls0 0 (row.take i) = z at *
    obtain ⟨Ib, Ia, Ih, Inb, Ina, Inf⟩ := hI
    refine ⟨_, gg_tup ck <| ggs_cons <| gg_name 10 ck <| ggs_cons <| gg_name 11 ck <| ggs_nil <|
      bb_cons <| ss_set 7 ck <| ee_add <| ee_var 7 rfl <| ee_mul <| ee_lst <| ea_cons <| ee_var 10 rfl <| ea_nil <| ⟨(by show 1 ≤ 1000000; decide), ee_var 11 rfl <| ⟨⟨by omega, by omega, (by show 1 * x.toNat ≤ 1000000; omega)⟩, ⟨?_, ?_⟩⟩⟩⟩
    · rw [rep_iL, iL_len, iL_len, List.length_replicate]; omega
    · have eB : iL B ++ (List.replicate x.toNat [PyData.int (i : Int)]).flatten = iL (B ++ List.replicate x.toNat (i : Int)) := by rw [rep_iL]; exact List.map_append.symm
      rw [eB]
      have lB : (B ++ List.replicate x.toNat (i : Int)).length = z.bank + x.toNat := by rw [List.length_append, List.length_replicate, Ib]
      generalize B ++ List.replicate x.toNat (i : Int) = B1 at *
      have st : ∀ z', lsStep Y z (i : Int) x = z' → lsRun Y ls0 0 (row.take (i + 1)) = z' := fun z' e => eS.trans e
      refine bb_one <| ss_if (et_cmp <| ee_var 10 rfl <| ee_var 9 rfl <| br_ge <| ite2 (fun c => ?_) (fun c => bb_nil ?_))
      · have c' : z.back ≤ (i : Int) := of_decide_eq_true c
        refine bb_cons <| ss_while (fun m ρ => ∃ (j : Nat) (B2 : List Int), m = B2.length ∧ ρ = [.dat (dF Y), .dat (.tuple (iL row)), .own l (z.found.map dLv), .dat (.int Y.s), .dat (.int Y.w), .dat (.int Y.a), .dat (.int Y.m), .dat (.list (iL B2)), .dat (.list (iL (A ++ List.replicate j (i : Int)))), .dat (.int z.back), .dat (.int (i : Int)), .dat (.int x)] ∧ B2.length + j = B1.length ∧ A.length + j ≤ Y.s.toNat) ⟨B1.length, 0, B1, rfl, ?_, rfl, by omega⟩ (fun m ρ hI => ?_)
        · rw [List.replicate_zero, List.append_nil]; rfl
        · obtain ⟨j, B2, rfl, rfl, b1, b2⟩ := hI
          refine et_M (t := decide (B2 ≠ []) && decide (((A.length + j : Nat) : Int) < Y.s)) (et_bool <| ew_andM (et_cmp <| ee_var 7 rfl <| ee_lst <| ea_nil <| ⟨by decide, br_ne ck <| ⟨⟨(shp_ints _).ok, (shp_ints []).ok⟩, ⟨ne_nil, rfl⟩⟩⟩) (fun _ => ew_one <| et_cmp <| ee_len ck <| ea_cons <| ee_var 8 rfl <| ea_nil <| ee_var 3 rfl <| br_lt <| ⟨by rw [iL_len, List.length_append, List.length_replicate], rfl⟩)) (ite2 (fun c1 => ?_) (fun c1 => ?_))
          · rw [Bool.and_eq_true] at c1
            have n0 : B2 ≠ [] := of_decide_eq_true c1.1
            have n1 : ((A.length + j : Nat) : Int) < Y.s := of_decide_eq_true c1.2
            have n2 : 0 < B2.length := List.length_pos_iff.mpr n0
            have e1 : DL.cutD (iL B2) (some 1) none = iL (B2.drop 1) := by rw [cutD_from (by decide)]; exact List.map_drop.symm
            have e2 : iL (A ++ List.replicate j (i : Int)) ++ [PyData.int (i : Int)] = iL (A ++ List.replicate (j + 1) (i : Int)) := by
              rw [List.replicate_succ', ← List.append_assoc]; exact (List.map_append (l₂ := [(i : Int)])).symm
            refine bb_cons <| ss_set 7 ck <| ee_sl <| ee_var 7 rfl <| ee_int <| ⟨_, rfl, bb_one <| ss_set 8 ck <| ee_add <| ee_var 8 rfl <| ee_lst <| ea_cons <| ee_var 10 rfl <| ea_nil <| ⟨(by show 1 ≤ 1000000; decide), ⟨?_, ⟨(B2.drop 1).length, by rw [List.length_drop]; omega, j + 1, B2.drop 1, rfl, ?_, by rw [List.length_drop]; omega, by omega⟩⟩⟩⟩
            · rw [iL_len, List.length_append, List.length_replicate]
              show A.length + j + 1 ≤ 1000000
              omega
            · rw [e1, e2]; rfl
          · have hj : j = min (z.bank + x.toNat) (Y.s.toNat - z.ab) := by
              by_cases n0 : B2 = []
              · rw [n0] at b1
                have : ([] : List Int).length = 0 := rfl
                omega
              · rw [decide_eq_true n0, Bool.true_and] at c1
                have n1 : ¬ ((A.length + j : Nat) : Int) < Y.s := fun y => c1 (decide_eq_true y)
                omega
            have lA : (A ++ List.replicate j (i : Int)).length = z.ab + j := by rw [List.length_append, List.length_replicate, Ia]
            have lB2 : B2.length = z.bank + x.toNat - j := by omega
            have hd0 : A ++ List.replicate j (i : Int) ≠ [] → (A ++ List.replicate j (i : Int)).head? = some (if z.ab = 0 then (i : Int) else z.since) := fun hne => by
              cases A with
              | nil =>
                have : z.ab = 0 := by rw [← Ia]; rfl
                rw [if_pos this]
                cases j with
                | zero => exact absurd rfl hne
                | succ j => rfl
              | cons a r =>
                have : z.ab ≠ 0 := by rw [← Ia]; simp
                rw [if_neg this, ← Ih a rfl]; rfl
            have hA2 : ∀ y, (A ++ List.replicate j (i : Int)).head? = some y → y = (if z.ab = 0 then (i : Int) else z.since) := fun y hy => by
              have hne : A ++ List.replicate j (i : Int) ≠ [] := fun q => by rw [q] at hy; cases hy
              rw [hd0 hne] at hy; exact (Option.some.inj hy).symm
            generalize A ++ List.replicate j (i : Int) = A2 at *
            refine bb_one <| ss_if (et_M (t := decide (A2 ≠ []) && (decide ((A2.length : Int) = Y.s) || decide (Y.w ≤ (i : Int) - (if z.ab = 0 then (i : Int) else z.since)))) (et_bool <| ew_andM (et_cmp <| ee_var 8 rfl <| ee_lst <| ea_nil <| ⟨by decide, br_ne ck <| ⟨⟨(shp_ints _).ok, (shp_ints []).ok⟩, ⟨ne_nil, rfl⟩⟩⟩) (fun hs => ew_one <| et_bool <| ew_orM (et_cmp <| ee_len ck <| ea_cons <| ee_var 8 rfl <| ea_nil <| ee_var 3 rfl <| br_eq ck <| ⟨by rw [iL_len], rfl⟩)
              (fun _ => ew_one <| et_cmp <| ee_sub <| ee_var 10 rfl <| ee_ix <| ee_var 8 rfl <| ee_int <| ⟨.int (if z.ab = 0 then (i : Int) else z.since), ?_, ee_var 4 rfl <| br_ge <| ⟨rfl, rfl⟩⟩))) (ite2 (fun c2 => ?_) (fun c2 => bb_nil ?_)))
            · have hne : A2 ≠ [] := of_decide_eq_true hs
              refine atI_nat (Int.le_refl 0) (iL_at ?_)
              rw [← hd0 hne, List.head?_eq_getElem?]; rfl
            · have e : lsRun Y ls0 0 (row.take (i + 1)) = ⟨z.bank + x.toNat - j, 0, if z.ab = 0 then (i : Int) else z.since, (i : Int) + Y.a, z.found ++ [((i : Int), ((z.ab + j : Nat) : Int))]⟩ := st _ (by
                unfold lsStep
                rw [if_pos c', ← hj, if_pos ?_]
                rw [Bool.and_eq_true, Bool.or_eq_true] at c2
                refine ⟨fun q => of_decide_eq_true c2.1 (List.eq_nil_of_length_eq_zero (lA.trans q)), c2.2.imp (fun y => ?_) of_decide_eq_true⟩
                rw [← lA]; exact of_decide_eq_true y)
              refine bb_cons <| ss_app 2 rfl <| ee_tup <| ea_cons <| ee_var 10 rfl <| ea_cons <| ee_len ck <| ea_cons <| ee_var 8 rfl <| ea_nil <| ea_nil <| ⟨le2, ⟨_, rfl, by rw [List.length_map]; omega,
                bb_one <| ss_par (i := 8) (j := 9) ck <| ea_cons <| ee_lst <| ea_nil <| ⟨by decide, ea_cons <| ee_add <| ee_var 10 rfl <| ee_var 5 rfl <| ea_nil <| ⟨_, _, rfl, B2, [], .dat (.int (i : Int)), .dat (.int x), ?_, rfl, rfl, ?_⟩⟩⟩⟩
              · have e3 : (z.found ++ [((i : Int), ((z.ab + j : Nat) : Int))]).map dLv = z.found.map dLv ++ [PyData.tuple [.int (i : Int), .int ((iL A2).length : Int)]] := by rw [List.map_append, iL_len, lA]; rfl
                rw [e]
                dsimp only
                rw [e3]
                rfl
              · rw [e]
                exact ⟨lB2, rfl, (fun y hy => nomatch hy), by omega, Nat.zero_le _, by rw [List.length_append]; show z.found.length + 1 ≤ i + 1; omega⟩
            · have e : lsRun Y ls0 0 (row.take (i + 1)) = ⟨z.bank + x.toNat - j, z.ab + j, if z.ab = 0 then (i : Int) else z.since, z.back, z.found⟩ := st _ (by
                unfold lsStep
                rw [if_pos c', ← hj, if_neg ?_]
                rintro ⟨q1, q2⟩
                have hne : A2 ≠ [] := fun q => q1 (by rw [← lA, q]; rfl)
                refine c2 ?_
                rw [decide_eq_true hne, Bool.true_and, Bool.or_eq_true]
                exact q2.imp (fun y => decide_eq_true (by rw [lA]; exact y)) decide_eq_true)
              refine ⟨B2, A2, .dat (.int (i : Int)), .dat (.int x), ?_, rfl, rfl, ?_⟩
              · rw [e]
              · rw [e]
                exact ⟨lB2, lA, hA2, by omega, by rw [lA]; omega, Nat.le_succ_of_le Inf⟩
      · have c' : ¬ z.back ≤ (i : Int) := fun y => c (decide_eq_true y)
        have e := st _ (show lsStep Y z (i : Int) x = ⟨z.bank + x.toNat, z.ab, z.since, z.back, z.found⟩ by unfold lsStep; rw [if_neg c'])
        refine ⟨B1, A, .dat (.int (i : Int)), .dat (.int x), ?_, rfl, rfl, ?_⟩
        · rw [e]; rfl
        · rw [e]; exact ⟨lB, Ia, Ih, by rw [lB, ← Ib]; omega, Ina, Nat.le_succ_of_le Inf⟩
  · rintro ρ ⟨B, A, d10, d11, rfl, e10, e11, hI⟩
    have eE : row.take (enumD (iL row)).length = row := by rw [enumD_len, iL_len, List.take_length]
    rw [eE]
    exact bb_freeze 2 rfl <| bb_one <| ss_ret <| ee_tuple ck <| ea_cons <| ee_var 2 rfl <| ea_nil <| h
end
end FB

namespace FB
open PySem PySem.Spec PyProof.Rows L2 DL FM
section
variable {P : Program} {w : World} {K : PySem.W.Frag} {mg : Str → Option Value} {base : Heap} {C : Addr}
def dBk (F : Fy) (row : List Int) : PyData := .tuple [dB ((row.length : Int) - 1) (leftOf F row), .tuple (iL row)]
def S_book : SpecB := fun ds n k => ∃ (F : Fy) (t : Int), ds = [dF F, .int t] ∧ F.Ok ∧ (1 ≤ t ∧ t ≤ 61) ∧ 200 ≤ n ∧ ∀ row : List Int, 1 ≤ row.length → row.length ≤ t.toNat → (∀ x ∈ row, 0 ≤ x ∧ x ≤ F.m) → (leftOf F row).length ≤ 10 → ∀ n', n ≤ n' + 200 → k (dBk F row) n'
theorem sc_book : FnScope ["bag", "ferry1", "ticks1", "row", "left1"] ["bag", "ferry1", "ticks1"] (defScope s__law_book) := ⟨rfl, rfl, rfl, by decide +kernel, rfl, by decide +kernel, by decide +kernel⟩
theorem sl_tupE {lo hi : Option Int} {xs ys : List PyData} {k : PyData → Prop} (e : DL.cutD xs lo hi = ys) (h : k (.tuple ys)) : slK lo hi (.tuple xs) k := by
  show k (.tuple (DL.cutD xs lo hi))
  rw [e]; exact h
theorem sl_lstE {lo hi : Option Int} {xs ys : List PyData} {k : PyData → Prop} (e : DL.cutD xs lo hi = ys) (h : k (.list ys)) : slK lo hi (.list xs) k := by
  show k (.list (DL.cutD xs lo hi))
  rw [e]; exact h
theorem ok_book {f : Addr} {fd : FuncData} (F : Fun K "_law_book" "_law_book" s__law_book f fd) (T : GT mg) (g__law_row : Kn P w K mg base 2 "_law_row" ["bag", "ferry1", "ticks1"] (spB S_row)) (g__law_left : Kn P w K mg base 2 "_law_left" ["ferry1", "row"] (spD S_left)) : FnOk P w K mg base CX0 3 f fd ["bag", "ferry1", "ticks1"] (spB S_book) := by
  refine fn_B F sc_book T.b (fun ds n q ⟨_, _, e, _⟩ => by rw [e]; rfl) ?_
  rintro cdv A outer s H E b _ n q hr ck ⟨Y, t, rfl, okF, ht, hn, h⟩
  have m2 := okF.m2
  refine bb_cons <| ss_set 3 ck <| ee_callG 0 ⟨_, hr, g__law_row⟩ rfl <| ea_cons <| ee_var 1 rfl <| ea_cons <| ee_var 2 rfl <| ea_nil <| ⟨_, rfl, Y, t, rfl, okF, ht, hn, fun row0 hl0 hx0 n' hn' =>
    bb_cons <| ss_set 4 ck <| ee_call ⟨_, hr, g__law_left⟩ <| ea_cons <| ee_var 1 rfl <| ea_cons <| ee_var 3 rfl <| ea_nil <| ⟨Y, row0, rfl, okF, by omega, fun x hx => by have := hx0 x hx; omega,
    bb_cons <| ss_while (fun m ρ => ∃ row : List Int, m = row.length ∧ ρ = [.bag b n', .dat (dF Y), .dat (.int t), .dat (.tuple (iL row)), .dat (dLs (leftOf Y row))] ∧ 1 ≤ row.length ∧ row.length ≤ t.toNat ∧ (∀ x ∈ row, 0 ≤ x ∧ x ≤ Y.m)) ⟨_, row0, rfl, rfl, by omega, by omega, hx0⟩ (fun m ρ hI => ?_)⟩⟩
  obtain ⟨row, rfl, rfl, l1, l2, hx⟩ := hI
  obtain ⟨a1, a2, a3⟩ := left_ok Y row
  refine et_M (t := decide ((10 : Int) < ((leftOf Y row).length : Int))) (et_cmp <| ee_len ck <| ea_cons <| ee_var 4 rfl <| ea_nil <| ee_int <| br_gt <| ⟨by rw [List.length_map], rfl⟩) (ite2 (fun c => ?_) (fun c => ?_))
  · have c' : (10 : Int) < ((leftOf Y row).length : Int) := of_decide_eq_true c
    have hp : (leftOf Y row)[10]? = some (leftOf Y row)[10] := List.getElem?_eq_getElem (by omega)
    have g0 := pair_ge (leftOf Y row) 0 10 _ (fun p hp => (a1 p hp).1) a3 hp
    have g1 := a1 _ (List.mem_of_getElem? hp)
    generalize (leftOf Y row)[10] = p at *
    have ha : atI ((leftOf Y row).map dLv) 10 = some (dLv p) := atI_nat (by decide) (by rw [List.getElem?_map, show (10 : Int).toNat = 10 from rfl, hp]; rfl)
    have ec : DL.cutD (iL row) none (some p.1) = iL (row.take p.1.toNat) := by rw [cutD_to (by omega)]; exact List.map_take.symm
    refine bb_cons <| ss_set 3 ck <| ee_sl <| ee_var 3 rfl <| ee_ix <| ee_ix <| ee_var 4 rfl <| ee_int <| ⟨_, ha, ee_int <| ⟨_, rfl, ⟨_, rfl, sl_tupE ec ?_⟩⟩⟩
    have lt : (row.take p.1.toNat).length = p.1.toNat := by rw [List.length_take]; omega
    exact bb_one <| ss_set 4 ck <| ee_call ⟨_, hr, g__law_left⟩ <| ea_cons <| ee_var 1 rfl <| ea_cons <| ee_var 3 rfl <| ea_nil <| ⟨Y, row.take p.1.toNat, rfl, okF, by omega, fun x hx' => by have := hx x (List.mem_of_mem_take hx'); omega, (row.take p.1.toNat).length, by omega, row.take p.1.toNat, rfl, rfl, by omega, by omega, fun x hx' => hx x (List.mem_of_mem_take hx')⟩
  · have c' : ¬ (10 : Int) < ((leftOf Y row).length : Int) := fun z => c (decide_eq_true z)
    refine bb_one <| ss_ret <| ee_tup <| ea_cons <| ee_tup <| ea_cons <| ee_sub <| ee_len ck <| ea_cons <| ee_var 3 rfl <| ea_nil <| ee_int <| ea_cons <| ee_var 4 rfl <| ea_nil <| ⟨le2, ea_cons <| ee_var 3 rfl <| ea_nil <| ⟨le2, ⟨n', rfl, ?_⟩⟩⟩
    have := h row l1 l2 hx (by omega) n' hn'
    unfold dBk at this
    rw [iL_len]
    exact this
end
end FB

namespace FB
open PySem PySem.Spec PyProof.Rows L2 DL FM
/-! ### equal, and of the same kinds all through -/
section
variable {P : Program} {w : World} {K : PySem.W.Frag} {mg : Str → Option Value} {base : Heap} {C : Addr}
def S_same (n : Nat) : DSpec := fun ds k => ∃ a b, ds = [a, b] ∧ Nst n a ∧ Nst n b ∧ k (.bool (dEq a b))
noncomputable def sameF : PyData → PyData
  | .tuple [x, y] => .bool (dEq x y)
  | _ => .none
theorem sameF_zip : ∀ xs ys : List PyData, (zipD xs ys).map sameF = (List.zipWith dEq xs ys).map PyData.bool
  | [], _ => rfl
  | _ :: _, [] => rfl
  | x :: xs, y :: ys => congrArg (List.cons (PyData.bool (dEq x y))) (sameF_zip xs ys)
theorem same_all : ∀ xs ys : List PyData, xs.length = ys.length → ((List.zipWith dEq xs ys).all id = true ↔ xs = ys)
  | [], [], _ => ⟨fun _ => rfl, fun _ => rfl⟩
  | [], _ :: _, h => nomatch h
  | _ :: _, [], h => nomatch h
  | x :: xs, y :: ys, h => by
    have ih := same_all xs ys (Nat.succ.inj h)
    show (dEq x y && (List.zipWith dEq xs ys).all id) = true ↔ _
    rw [Bool.and_eq_true, ih, dEq_iff]
    exact ⟨fun ⟨a, b⟩ => by rw [a, b], fun e => ⟨(List.cons.inj e).1, (List.cons.inj e).2⟩⟩
theorem nst_list {n : Nat} {xs : List PyData} (h : Nst n (.list xs)) : ∃ m, n = m + 1 ∧ xs.length ≤ 1000000 ∧ ∀ x ∈ xs, Nst m x := by
  cases n with
  | zero => exact h.elim
  | succ m => exact ⟨m, rfl, h.1, h.2⟩
theorem nst_tup {n : Nat} {xs : List PyData} (h : Nst n (.tuple xs)) : ∃ m, n = m + 1 ∧ xs.length ≤ 1000000 ∧ ∀ x ∈ xs, Nst m x := by
  cases n with
  | zero => exact h.elim
  | succ m => exact ⟨m, rfl, h.1, h.2⟩
theorem nst_str {n : Nat} {a : PyData} (h : Nst n a) : isS a = false := by
  cases a with
  | str s => cases n <;> exact h.elim
  | _ => rfl
theorem isL_iff {d : PyData} (h : isL d = true) : ∃ ds, d = .list ds := by cases d <;> first | exact ⟨_, rfl⟩ | cases h
theorem isB_iff {d : PyData} (h : isB d = true) : ∃ x, d = .bool x := by cases d <;> first | exact ⟨_, rfl⟩ | cases h
theorem zipD_mem {xs ys : List PyData} {d : PyData} (h : d ∈ zipD xs ys) : ∃ x y, d = .tuple [x, y] ∧ x ∈ xs ∧ y ∈ ys := by
  obtain ⟨i, hi⟩ := List.mem_iff_getElem?.mp h
  obtain ⟨x, y, h1, h2, rfl⟩ := zipD_get hi
  exact ⟨x, y, rfl, List.mem_of_getElem? h1, List.mem_of_getElem? h2⟩
theorem zipD_le (xs ys : List PyData) : (zipD xs ys).length ≤ xs.length := by
  unfold zipD
  rw [List.length_zipWith]; omega
theorem sc_same : FnScope ["a", "b", "x", "y"] ["a", "b"] (defScope s__law_same) := ⟨rfl, rfl, rfl, by decide +kernel, rfl, by decide +kernel, by decide +kernel⟩
theorem ok_same1 {f : Addr} {fd : FuncData} (F : Fun K "_law_same" "_law_same" s__law_same f fd) (T : GT mg) (n : Nat) (g : ∀ m, n = m + 1 → Kn P w K mg base n "_law_same" ["a", "b"] (spD (S_same m))) : FnOk P w K mg base CX0 (n + 1) f fd ["a", "b"] (spD (S_same n)) := by
  refine fn_D F sc_same T.b (fun ds q ⟨_, _, e, _⟩ => by rw [e]; rfl) ?_
  rintro cdv A outer s H E _ q hr ck ⟨a, b, rfl, na, nb, h⟩
  refine bb_cons <| ss_if (et_M (t := (isL a && isL b) || (isT a && isT b)) (et_bool <| ew_orM (et_bool <| ew_andM (et_val <| ee_isList ck <| ee_var 0 rfl <| ⟨_, rfl, rfl, rfl⟩) (fun _ => ew_one <| et_val <| ee_isList ck <| ee_var 1 rfl <| ⟨_, rfl, rfl, rfl⟩))
      (fun _ => ew_one <| et_bool <| ew_andM (et_val <| ee_isTup ck <| ee_var 0 rfl <| ⟨_, rfl, rfl, rfl⟩) (fun _ => ew_one <| et_val <| ee_isTup ck <| ee_var 1 rfl <| ⟨_, rfl, rfl, rfl⟩))) (ite2 (fun c => ?_) (fun c => ?_)))
  · rw [Bool.or_eq_true, Bool.and_eq_true, Bool.and_eq_true] at c
    rcases c with ⟨c1, c2⟩ | ⟨c1, c2⟩
    · obtain ⟨xs, rfl⟩ := isL_iff c1
      obtain ⟨ys, rfl⟩ := isL_iff c2
      obtain ⟨m, rfl, l1, n1⟩ := nst_list na
      obtain ⟨m', e', l2, n2⟩ := nst_list nb
      obtain rfl : m = m' := Nat.succ.inj e'
      refine bb_one <| ss_ret <| ee_and <| ee_cmp <| ee_len ck <| ea_cons <| ee_var 0 rfl <| ea_nil <| ee_len ck <| ea_cons <| ee_var 1 rfl <| ea_nil <| br_eq ck <| ⟨_, rfl, ite2 (fun c => ?_) (fun c => ?_)⟩
      · have hl : xs.length = ys.length := by have := of_decide_eq_true c; omega
        refine ee_one <| ee_all ck <| ea_cons <| ee_lc [("x", 2), ("y", 3)] ck (blkOk_by rfl) <| ii_zip2L ck <| ea_cons <| ee_var 0 rfl <| ea_cons <| ee_var 1 rfl <| ea_nil <| ⟨xs, ys, rfl, lcK_map sameF ?_ [2, 3] (fun j hj => hj) (fun d hd _ _ _ _ _ => ?_) <| ea_nil <| ⟨_, congrArg (fun y => [PyData.list y]) (sameF_zip xs ys), fin (q := q) h (congrArg PyData.bool (dEq_of ((same_all xs ys hl).trans ⟨fun e => by rw [e], fun e => by cases e; rfl⟩)))⟩⟩
        · exact Nat.le_trans (zipD_le xs ys) l1
        · obtain ⟨x, y, rfl, hx, hy⟩ := zipD_mem hd
          exact gg_tup (js := [2, 3]) ck.blk <| ggs_cons (js := [2]) (ks := [3]) <| gg_name 2 ck.blk <| ggs_cons (js := [3]) (ks := []) <| gg_name 3 ck.blk <| ggs_nil <| fun _ _ _ _ _ => ee_call ⟨_, hr, g m rfl⟩ <| ea_cons <| ee_var 2 rfl <| ea_cons <| ee_var 3 rfl <| ea_nil <| ⟨x, y, rfl, n1 x hx, n2 y hy, rfl⟩
      · exact fin (q := q) h (congrArg PyData.bool (dEq_f fun e => by cases e; exact c (decide_eq_true rfl)).symm)
    · obtain ⟨xs, rfl⟩ := isT_iff c1
      obtain ⟨ys, rfl⟩ := isT_iff c2
      obtain ⟨m, rfl, l1, n1⟩ := nst_tup na
      obtain ⟨m', e', l2, n2⟩ := nst_tup nb
      obtain rfl : m = m' := Nat.succ.inj e'
      refine bb_one <| ss_ret <| ee_and <| ee_cmp <| ee_len ck <| ea_cons <| ee_var 0 rfl <| ea_nil <| ee_len ck <| ea_cons <| ee_var 1 rfl <| ea_nil <| br_eq ck <| ⟨_, rfl, ite2 (fun c => ?_) (fun c => ?_)⟩
      · have hl : xs.length = ys.length := by have := of_decide_eq_true c; omega
        refine ee_one <| ee_all ck <| ea_cons <| ee_lc [("x", 2), ("y", 3)] ck (blkOk_by rfl) <| ii_zip2T ck <| ea_cons <| ee_var 0 rfl <| ea_cons <| ee_var 1 rfl <| ea_nil <| ⟨xs, ys, rfl, lcK_map sameF ?_ [2, 3] (fun j hj => hj) (fun d hd _ _ _ _ _ => ?_) <| ea_nil <| ⟨_, congrArg (fun y => [PyData.list y]) (sameF_zip xs ys), fin (q := q) h (congrArg PyData.bool (dEq_of ((same_all xs ys hl).trans ⟨fun e => by rw [e], fun e => by cases e; rfl⟩)))⟩⟩
        · exact Nat.le_trans (zipD_le xs ys) l1
        · obtain ⟨x, y, rfl, hx, hy⟩ := zipD_mem hd
          exact gg_tup (js := [2, 3]) ck.blk <| ggs_cons (js := [2]) (ks := [3]) <| gg_name 2 ck.blk <| ggs_cons (js := [3]) (ks := []) <| gg_name 3 ck.blk <| ggs_nil <| fun _ _ _ _ _ => ee_call ⟨_, hr, g m rfl⟩ <| ea_cons <| ee_var 2 rfl <| ea_cons <| ee_var 3 rfl <| ea_nil <| ⟨x, y, rfl, n1 x hx, n2 y hy, rfl⟩
      · exact fin (q := q) h (congrArg PyData.bool (dEq_f fun e => by cases e; exact c (decide_eq_true rfl)).symm)
  · have no : a = b → isL a = false ∧ isT a = false := fun e => by
      subst e
      cases h1 : isL a <;> cases h2 : isT a <;> first | exact ⟨rfl, rfl⟩ | exact absurd (by rw [h1, h2]; rfl) c
    refine bb_nil <| bb_cons <| ss_if (et_M (t := isBLT a || isBLT b) (et_bool <| ew_orM (et_val <| ee_isBLT ck <| ee_var 0 rfl <| ⟨_, rfl, rfl, rfl⟩) (fun _ => ew_one <| et_val <| ee_isBLT ck <| ee_var 1 rfl <| ⟨_, rfl, rfl, rfl⟩)) (ite2 (fun c2 => ?_) (fun c2 => ?_)))
    · have no2 : a = b → isB a = true := fun e => by
        obtain ⟨h1, h2⟩ := no e
        subst e
        rw [Bool.or_self] at c2
        unfold isBLT at c2
        rw [h1, h2, Bool.or_self, Bool.or_false] at c2
        exact c2
      refine bb_one <| ss_ret <| ee_and <| ee_isBool ck <| ee_var 0 rfl <| ⟨_, rfl, ite2 (fun c3 => ee_and <| ee_isBool ck <| ee_var 1 rfl <| ⟨_, rfl, ite2 (fun c4 => ?_) (fun c4 => ?_)⟩) (fun c3 => ?_)⟩
      · obtain ⟨x, rfl⟩ := isB_iff c3
        obtain ⟨y, rfl⟩ := isB_iff c4
        exact ee_one <| ee_cmp <| ee_var 0 rfl <| ee_var 1 rfl <| br_eq ck <| fin (q := q) h (congrArg PyData.bool (dEq_of (decide_eq_true_iff.trans ⟨fun e => by rw [e], fun e => by cases e; rfl⟩)))
      · exact fin (q := q) h (congrArg PyData.bool (dEq_f fun e => c4 (by rw [← e]; exact no2 e)).symm)
      · exact fin (q := q) h (congrArg PyData.bool (dEq_f fun e => c3 (no2 e)).symm)
    · have c2' : isBLT a = false ∧ isBLT b = false := by
        cases h1 : isBLT a <;> cases h2 : isBLT b <;> first | exact ⟨rfl, rfl⟩ | exact absurd (by rw [h1, h2]; rfl) c2
      refine bb_nil <| bb_cons <| ss_if (et_M (t := isI a || isI b) (et_bool <| ew_orM (et_val <| ee_isInt ck <| ee_var 0 rfl <| ⟨_, rfl, rfl, rfl⟩) (fun _ => ew_one <| et_val <| ee_isInt ck <| ee_var 1 rfl <| ⟨_, rfl, rfl, rfl⟩)) (ite2 (fun c3 => ?_) (fun c3 => ?_)))
      · refine bb_one <| ss_ret <| ee_and <| ee_isInt ck <| ee_var 0 rfl <| ⟨_, rfl, ite2 (fun c4 => ee_and <| ee_isInt ck <| ee_var 1 rfl <| ⟨_, rfl, ite2 (fun c5 => ?_) (fun c5 => ?_)⟩) (fun c4 => ?_)⟩
        · cases a with
          | int x =>
            cases b with
            | int y => exact ee_one <| ee_cmp <| ee_var 0 rfl <| ee_var 1 rfl <| br_eq ck <| fin (q := q) h (congrArg PyData.bool (dEq_of (decide_eq_true_iff.trans ⟨fun e => by rw [e], fun e => by cases e; rfl⟩)))
            | bool y => exact nomatch c2'.2
            | _ => exact nomatch c5
          | bool x => exact nomatch c2'.1
          | _ => exact nomatch c4
        · refine fin (q := q) h (congrArg PyData.bool (dEq_f fun e => ?_).symm)
          rw [e, Bool.or_self] at c3
          exact c5 c3
        · refine fin (q := q) h (congrArg PyData.bool (dEq_f fun e => ?_).symm)
          rw [← e, Bool.or_self] at c3
          exact c4 c3
      · have c3' : isI a = false ∧ isI b = false := by
          cases h1 : isI a <;> cases h2 : isI b <;> first | exact ⟨rfl, rfl⟩ | exact absurd (by rw [h1, h2]; rfl) c3
        have ea : a = .none := by
          cases a with
          | none => rfl
          | bool x => exact nomatch c2'.1
          | int x => exact nomatch c3'.1
          | str x => exact nomatch nst_str na
          | list x => exact nomatch c2'.1
          | tuple x => exact nomatch c2'.1
          | dict x => cases n <;> exact na.elim
        have eb : b = .none := by
          cases b with
          | none => rfl
          | bool x => exact nomatch c2'.2
          | int x => exact nomatch c3'.2
          | str x => exact nomatch nst_str nb
          | list x => exact nomatch c2'.2
          | tuple x => exact nomatch c2'.2
          | dict x => cases n <;> exact nb.elim
        subst ea
        subst eb
        refine bb_nil <| bb_cons <| ss_if (et_M (t := false) (et_bool <| ew_orM (s := false) (t := false) (et_val <| ee_isStr ck <| ee_var 0 rfl <| ⟨_, rfl, rfl, rfl⟩) (fun _ => ew_one <| et_val <| ee_isStr ck <| ee_var 1 rfl <| ⟨_, rfl, rfl, rfl⟩)) (ifF rfl <| bb_nil <|
          bb_one <| ss_ret <| ee_and <| ee_cmp <| ee_var 0 rfl <| ee_non <| br_isN <| ⟨_, rfl, ifT rfl <| ee_one <| ee_cmp <| ee_var 1 rfl <| ee_non <| br_isN <| fin (q := q) h (congrArg PyData.bool (dEq_t rfl).symm)⟩))
theorem ok_same {f : Addr} {fd : FuncData} (F : Fun K "_law_same" "_law_same" s__law_same f fd) (T : GT mg) (hm : mg "_law_same" = some (.ref f)) (hk : PySem.W.keepIn K (.ref f) = true) (hb : Binds K fd ["a", "b"] []) : ∀ n, FnOk P w K mg base CX0 (n + 1) f fd ["a", "b"] (spD (S_same n))
  | 0 => ok_same1 F T 0 fun m e => nomatch e
  | n + 1 => ok_same1 F T (n + 1) fun m e => by
    obtain rfl := Nat.succ.inj e
    exact ⟨f, fd, ok_same F T hm hk hb n, hm, hk, hb⟩
end
end FB

namespace FB
open PySem PySem.Spec PyProof.Rows L2 DL FM
/-! ### what are ferries, books, rows: of any thing -/
section
variable {P : Program} {w : World} {K : PySem.W.Frag} {mg : Str → Option Value} {base : Heap}
def ferryD : PyData → Bool
  | .tuple [a, b, c, d] => isIn 1 12 a && (isIn 1 20 b && (isIn 1 20 c && isIn 1 9 d))
  | _ => false
theorem ferryD_no {d : PyData} (h : isT d = false) : ferryD d = false := by cases d <;> first | rfl | cases h
theorem len4 {α : Type} {xs : List α} (h : xs.length = 4) : ∃ a b c d, xs = [a, b, c, d] := by
  match xs, h with
  | [a, b, c, d], _ => exact ⟨a, b, c, d, rfl⟩
theorem len2 {α : Type} {xs : List α} (h : xs.length = 2) : ∃ a b, xs = [a, b] := by
  match xs, h with
  | [a, b], _ => exact ⟨a, b, rfl⟩
theorem ferryD_len {xs : List PyData} (h : xs.length ≠ 4) : ferryD (.tuple xs) = false := by
  match xs, h with
  | [], _ => rfl
  | [_], _ => rfl
  | [_, _], _ => rfl
  | [_, _, _], _ => rfl
  | [_, _, _, _], h => exact absurd rfl h
  | _ :: _ :: _ :: _ :: _ :: _, _ => rfl
def S_ferG : DSpec := fun ds k => ∃ d, ds = [d] ∧ k (.bool (ferryD d))
theorem neq_len {n m : Nat} (h : n ≠ m) : (!decide ((n : Int) = (m : Int))) = true := by
  rw [decide_eq_false (fun z => h (by omega))]; rfl
theorem ok_is_ferryG {f : Addr} {fd : FuncData} {k : Nat} (F : Fun K "is_ferry" "is_ferry" s_is_ferry f fd) (T : GT mg) (g_is_within : Kn P w K mg base k "is_within" ["thing", "low", "high"] (spD S_is_within)) :
    FnOk P w K mg base CX0 (k + 1) f fd ["thing"] (spD S_ferG) := by
  refine fn_D F sc_is_ferry T.b (fun ds q ⟨d, e, _⟩ => by rw [e]; rfl) ?_
  rintro cdv A outer s H E _ q hr ck ⟨d, rfl, h⟩
  cases hd : isT d with
  | false =>
    exact bb_cons <| ss_if (et_M (t := true) (et_bool <| ew_orM (s := true) (t := true) (et_not <| et_val <| ee_isTup ck <| ee_var 0 rfl <| ⟨_, rfl, ⟨by rw [hd]; rfl, rfl⟩⟩) (fun z => nomatch z)) (ifT rfl <| bb_one <| ss_ret <| ee_bl <| fin (q := q) h (congrArg PyData.bool (ferryD_no hd).symm)))
  | true =>
    obtain ⟨xs, rfl⟩ := isT_iff hd
    by_cases hl : xs.length = 4
    · obtain ⟨a, b, c, e, rfl⟩ := len4 hl
      refine bb_cons <| ss_if (et_M (et_bool <| ew_orM (et_not <| et_val <| ee_isTup ck <| ee_var 0 rfl <| ⟨_, rfl, ⟨rfl, rfl⟩⟩) (fun _ => ew_orM (et_cmp <| ee_len ck <| ea_cons <| ee_var 0 rfl <| ea_nil <| ee_int <| br_ne ck <| ⟨rfl, rfl⟩) (fun _ => ew_one <| et_not <| et_val <| ee_call ⟨_, hr, g_is_within⟩ <| ea_cons <| ee_ix <| ee_var 0 rfl <| ee_int <| ⟨_, rfl, ea_cons <| ee_int <| ea_cons <| ee_int <| ea_nil <| ⟨_, _, _, rfl, ⟨_, rfl, ⟨rfl, rfl⟩⟩⟩⟩)))
        (ite2 (fun z => bb_one <| ss_ret <| ee_bl <| fin (q := q) h (congrArg PyData.bool ?_))
        (fun z => bb_nil <| bb_one <| ss_ret <| ee_M (ee_andM (ee_call ⟨_, hr, g_is_within⟩ <| ea_cons <| ee_ix <| ee_var 0 rfl <| ee_int <| ⟨_, rfl, ea_cons <| ee_int <| ea_cons <| ee_int <| ea_nil <| ⟨_, _, _, rfl, ⟨rfl, rfl⟩⟩⟩)
          (fun _ => ee_andM (ee_call ⟨_, hr, g_is_within⟩ <| ea_cons <| ee_ix <| ee_var 0 rfl <| ee_int <| ⟨_, rfl, ea_cons <| ee_int <| ea_cons <| ee_int <| ea_nil <| ⟨_, _, _, rfl, ⟨rfl, rfl⟩⟩⟩)
          (fun _ => ee_one <| ee_call ⟨_, hr, g_is_within⟩ <| ea_cons <| ee_ix <| ee_var 0 rfl <| ee_int <| ⟨_, rfl, ea_cons <| ee_int <| ea_cons <| ee_int <| ea_nil <| ⟨_, _, _, rfl, ⟨rfl, rfl⟩⟩⟩))) <| fin (q := q) h (congrArg PyData.bool ?_))))
      · have z' : (!isIn 1 12 a) = true := z
        show false = (isIn 1 12 a && _)
        rw [Bool.not_eq_true'] at z'
        rw [z', Bool.false_and]
      · have z0 : ¬ (!isIn 1 12 a) = true := z
        have z' : isIn 1 12 a = true := by
          cases q0 : isIn 1 12 a with
          | true => rfl
          | false => rw [q0] at z0; exact absurd rfl z0
        show _ = (isIn 1 12 a && _)
        rw [z', Bool.true_and]
    · exact bb_cons <| ss_if (et_M (t := true) (et_bool <| ew_orM (s := false) (et_not <| et_val <| ee_isTup ck <| ee_var 0 rfl <| ⟨_, rfl, ⟨rfl, rfl⟩⟩) (fun _ => ew_orM (s := true) (t := true) (et_cmp <| ee_len ck <| ea_cons <| ee_var 0 rfl <| ea_nil <| ee_int <| br_ne ck <| ⟨neq_len (m := 4) hl, rfl⟩) (fun z => nomatch z)))
        (ifT rfl <| bb_one <| ss_ret <| ee_bl <| fin (q := q) h (congrArg PyData.bool (ferryD_len hl).symm)))
end
end FB

namespace FB
open PySem PySem.Spec PyProof.Rows L2 DL FM
section
variable {P : Program} {w : World} {K : PySem.W.Frag} {mg : Str → Option Value} {base : Heap}
theorem not_no {b : Bool} (h : ¬ (!b) = true) : b = true := by
  cases b with
  | true => rfl
  | false => exact absurd rfl h
theorem not_yes {b : Bool} (h : (!b) = true) : b = false := by
  cases b with
  | true => exact nomatch h
  | false => rfl
def leavD (F : Fy) (l : Int) : PyData → Bool
  | .tuple [a, b] => isIn 0 l a && isIn 1 F.s b
  | _ => false
theorem leavD_no {d : PyData} (h : isT d = false) (F : Fy) (l : Int) : leavD F l d = false := by cases d <;> first | rfl | cases h
theorem leavD_len {xs : List PyData} (h : xs.length ≠ 2) (F : Fy) (l : Int) : leavD F l (.tuple xs) = false := by
  match xs, h with
  | [], _ => rfl
  | [_], _ => rfl
  | [_, _], h => exact absurd rfl h
  | _ :: _ :: _ :: _, _ => rfl
def S_leaG : DSpec := fun ds k => ∃ (F : Fy) (l : Int) (d : PyData), ds = [dF F, .int l, d] ∧ k (.bool (leavD F l d))
theorem ok_is_leavingG {f : Addr} {fd : FuncData} {k : Nat} (F : Fun K "is_leaving" "is_leaving" s_is_leaving f fd) (T : GT mg) (g_is_within : Kn P w K mg base k "is_within" ["thing", "low", "high"] (spD S_is_within)) :
    FnOk P w K mg base CX0 (k + 1) f fd ["ferry", "last", "thing"] (spD S_leaG) := by
  refine fn_D F sc_is_leaving T.b (fun ds q ⟨_, _, _, e, _⟩ => by rw [e]; rfl) ?_
  rintro cdv A outer s H E _ q hr ck ⟨Y, l, d, rfl, h⟩
  cases hd : isT d with
  | false =>
    exact bb_cons <| ss_if (et_M (t := true) (et_bool <| ew_orM (s := true) (t := true) (et_not <| et_val <| ee_isTup ck <| ee_var 2 rfl <| ⟨_, rfl, ⟨by rw [hd]; rfl, rfl⟩⟩) (fun z => nomatch z)) (ifT rfl <| bb_one <| ss_ret <| ee_bl <| fin (q := q) h (congrArg PyData.bool (leavD_no hd Y l).symm)))
  | true =>
    obtain ⟨xs, rfl⟩ := isT_iff hd
    by_cases hl : xs.length = 2
    · obtain ⟨a, b, rfl⟩ := len2 hl
      exact bb_cons <| ss_if (et_M (et_bool <| ew_orM (et_not <| et_val <| ee_isTup ck <| ee_var 2 rfl <| ⟨_, rfl, ⟨rfl, rfl⟩⟩) (fun _ => ew_one <| et_cmp <| ee_len ck <| ea_cons <| ee_var 2 rfl <| ea_nil <| ee_int <| br_ne ck <| ⟨rfl, rfl⟩))
        (ifF rfl <| bb_nil <| bb_one <| ss_ret <| ee_M (ee_andM (ee_call ⟨_, hr, g_is_within⟩ <| ea_cons <| ee_ix <| ee_var 2 rfl <| ee_int <| ⟨_, rfl, ea_cons <| ee_int <| ea_cons <| ee_var 1 rfl <| ea_nil <| ⟨_, _, _, rfl, ⟨rfl, rfl⟩⟩⟩)
          (fun _ => ee_one <| ee_call ⟨_, hr, g_is_within⟩ <| ea_cons <| ee_ix <| ee_var 2 rfl <| ee_int <| ⟨_, rfl, ea_cons <| ee_int <| ea_cons <| ee_ix <| ee_var 0 rfl <| ee_int <| ⟨_, rfl, ea_nil <| ⟨_, _, _, rfl, ⟨rfl, rfl⟩⟩⟩⟩)) <| fin (q := q) h rfl))
    · exact bb_cons <| ss_if (et_M (t := true) (et_bool <| ew_orM (s := false) (et_not <| et_val <| ee_isTup ck <| ee_var 2 rfl <| ⟨_, rfl, ⟨rfl, rfl⟩⟩) (fun _ => ew_one <| et_cmp <| ee_len ck <| ea_cons <| ee_var 2 rfl <| ea_nil <| ee_int <| br_ne ck <| ⟨neq_len (m := 2) hl, rfl⟩))
        (ifT rfl <| bb_one <| ss_ret <| ee_bl <| fin (q := q) h (congrArg PyData.bool (leavD_len hl Y l).symm)))
/-- ticks of two leavings in a row -/
def lessD : PyData → Bool
  | .tuple [.tuple (.int i :: _), .tuple (.int j :: _)] => decide (i < j)
  | _ => false
def riseD (xs : List PyData) : Bool := ((zipD xs (DL.cutD xs (some 1) none)).map lessD).all id
def bookL (F : Fy) : PyData → PyData → Bool
  | .int l, .tuple xs => (decide (0 ≤ l) && decide (l ≤ 60)) && (decide (xs.length ≤ 10) && ((xs.map (leavD F l)).all id && riseD xs))
  | _, _ => false
def bookD (F : Fy) : PyData → Bool
  | .tuple [a, b] => bookL F a b
  | _ => false
theorem bookD_no {d : PyData} (h : isT d = false) (F : Fy) : bookD F d = false := by cases d <;> first | rfl | cases h
theorem bookD_len {xs : List PyData} (h : xs.length ≠ 2) (F : Fy) : bookD F (.tuple xs) = false := by
  match xs, h with
  | [], _ => rfl
  | [_], _ => rfl
  | [_, _], h => exact absurd rfl h
  | _ :: _ :: _ :: _, _ => rfl
theorem bookL_l {a : PyData} (h : isIn 0 60 a = false) (F : Fy) (b : PyData) : bookL F a b = false := by
  cases a with
  | int l =>
    cases b with
    | tuple xs =>
      show ((decide (0 ≤ l) && decide (l ≤ 60)) && _) = false
      rw [show (decide (0 ≤ l) && decide (l ≤ 60)) = false from h, Bool.false_and]
    | _ => rfl
  | _ => rfl
theorem bookL_b {b : PyData} (h : isT b = false) (F : Fy) (a : PyData) : bookL F a b = false := by cases a <;> cases b <;> first | rfl | cases h
theorem isIn_all {lo hi : Int} {d : PyData} (h : isIn lo hi d = true) : ∃ i, d = .int i ∧ lo ≤ i ∧ i ≤ hi := by
  cases d with
  | int i =>
    have h' : (decide (lo ≤ i) && decide (i ≤ hi)) = true := h
    rw [Bool.and_eq_true] at h'
    exact ⟨i, rfl, of_decide_eq_true h'.1, of_decide_eq_true h'.2⟩
  | _ => cases h
theorem leavD_iff {F : Fy} {l : Int} {d : PyData} (h : leavD F l d = true) : ∃ i b, d = .tuple [.int i, b] := by
  cases hd : isT d with
  | false => rw [leavD_no hd] at h; cases h
  | true =>
    obtain ⟨xs, rfl⟩ := isT_iff hd
    by_cases hl : xs.length = 2
    · obtain ⟨a, b, rfl⟩ := len2 hl
      have h' : (isIn 0 l a && isIn 1 F.s b) = true := h
      rw [Bool.and_eq_true] at h'
      obtain ⟨i, rfl, _⟩ := isIn_all h'.1
      exact ⟨i, b, rfl⟩
    · rw [leavD_len hl] at h; cases h
def S_bookG : DSpec := fun ds k => ∃ (F : Fy) (d : PyData), ds = [dF F, d] ∧ k (.bool (bookD F d))
theorem cutD_mem {xs : List PyData} {lo hi : Option Int} {d : PyData} (h : d ∈ DL.cutD xs lo hi) : d ∈ xs := List.mem_of_mem_drop (List.mem_of_mem_take h)
theorem ok_is_book_ofG {f : Addr} {fd : FuncData} {k : Nat} (F : Fun K "is_book_of" "is_book_of" s_is_book_of f fd) (T : GT mg) (g_is_within : Kn P w K mg base k "is_within" ["thing", "low", "high"] (spD S_is_within)) (g_is_leaving : Kn P w K mg base k "is_leaving" ["ferry", "last", "thing"] (spD S_leaG)) :
    FnOk P w K mg base CX0 (k + 1) f fd ["ferry", "thing"] (spD S_bookG) := by
  refine fn_D F sc_is_book_of T.b (fun ds q ⟨_, _, e, _⟩ => by rw [e]; rfl) ?_
  rintro cdv A outer s H E _ q hr ck ⟨Y, d, rfl, h⟩
  obtain ⟨t1, T1⟩ := T.ml
  obtain ⟨t2, T2⟩ := T.mv
  cases hd : isT d with
  | false =>
    exact bb_cons <| ss_if (et_M (t := true) (et_bool <| ew_orM (s := true) (t := true) (et_not <| et_val <| ee_isTup ck <| ee_var 1 rfl <| ⟨_, rfl, ⟨by rw [hd]; rfl, rfl⟩⟩) (fun z => nomatch z)) (ifT rfl <| bb_one <| ss_ret <| ee_bl <| fin (q := q) h (congrArg PyData.bool (bookD_no hd Y).symm)))
  | true =>
    obtain ⟨xs, rfl⟩ := isT_iff hd
    by_cases hl : xs.length = 2
    · obtain ⟨a, b, rfl⟩ := len2 hl
      refine bb_cons <| ss_if (et_M (et_bool <| ew_orM (et_not <| et_val <| ee_isTup ck <| ee_var 1 rfl <| ⟨_, rfl, ⟨rfl, rfl⟩⟩) (fun _ => ew_orM (et_cmp <| ee_len ck <| ea_cons <| ee_var 1 rfl <| ea_nil <| ee_int <| br_ne ck <| ⟨rfl, rfl⟩) (fun _ => ew_one <| et_not <| et_val <| ee_call ⟨_, hr, g_is_within⟩ <| ea_cons <| ee_ix <| ee_var 1 rfl <| ee_int <| ⟨_, rfl, ea_cons <| ee_int <| ea_cons <| ee_globI T1 <| ea_nil <| ⟨_, _, _, rfl, ⟨_, rfl, ⟨rfl, rfl⟩⟩⟩⟩)))
        (ite2 (fun z => bb_one <| ss_ret <| ee_bl <| fin (q := q) h (congrArg PyData.bool (bookL_l (not_yes z) Y b).symm))
        (fun z => bb_nil <| bb_cons <| ss_asg <| ee_var 1 rfl <| gg_tup ck <| ggs_cons <| gg_name 2 ck <| ggs_cons <| gg_name 3 ck <| ggs_nil ?_)))
      obtain ⟨l, rfl, l0, l1⟩ := isIn_all (not_no z)
      cases hb : isT b with
      | false =>
        exact bb_cons <| ss_if (et_M (t := true) (et_bool <| ew_orM (s := true) (t := true) (et_not <| et_val <| ee_isTup ck <| ee_var 3 rfl <| ⟨_, rfl, ⟨by rw [hb]; rfl, rfl⟩⟩) (fun z => nomatch z)) (ifT rfl <| bb_one <| ss_ret <| ee_bl <| fin (q := q) h (congrArg PyData.bool (bookL_b hb Y _).symm)))
      | true =>
        obtain ⟨ys, rfl⟩ := isT_iff hb
        have hB : bookD Y (.tuple [.int l, .tuple ys]) = (decide (ys.length ≤ 10) && ((ys.map (leavD Y l)).all id && riseD ys)) := by
          show ((decide (0 ≤ l) && decide (l ≤ 60)) && _) = _
          rw [decide_eq_true l0, decide_eq_true l1, Bool.true_and, Bool.true_and]
        rw [hB] at h
        refine bb_cons <| ss_if (et_M (et_bool <| ew_orM (et_not <| et_val <| ee_isTup ck <| ee_var 3 rfl <| ⟨_, rfl, ⟨rfl, rfl⟩⟩) (fun _ => ew_one <| et_cmp <| ee_len ck <| ea_cons <| ee_var 3 rfl <| ea_nil <| ee_globI T2 <| br_gt <| ⟨rfl, rfl⟩))
          (ite2 (fun z2 => bb_one <| ss_ret <| ee_bl <| fin (q := q) h (congrArg PyData.bool ?_))
          (fun z2 => bb_nil ?_)))
        · have z3 : (10 : Int) < (ys.length : Int) := of_decide_eq_true z2
          rw [decide_eq_false (show ¬ ys.length ≤ 10 by omega), Bool.false_and]
        · have z3 : ¬ (10 : Int) < (ys.length : Int) := fun z4 => z2 (decide_eq_true z4)
          rw [decide_eq_true (show ys.length ≤ 10 by omega), Bool.true_and] at h
          refine bb_cons <| ss_if (et_not <| et_val <| ee_all ck <| ea_cons <| ee_lc [("one", 4)] ck (blkOk_by rfl) <| ii_tup <| ee_var 3 rfl <| ⟨_, rfl, lcK_map (fun d => .bool (leavD Y l d)) (by omega) [4] (fun j hj => hj) (fun d hd _ _ _ _ _ => gg_name 4 ck.blk <| fun _ _ _ _ _ => ee_call ⟨_, hr, g_is_leaving⟩ <| ea_cons <| ee_var 0 rfl <| ea_cons <| ee_var 2 rfl <| ea_cons <| ee_var 4 rfl <| ea_nil <| ⟨_, _, d, rfl, rfl⟩) <| ea_nil <| ⟨ys.map (leavD Y l), by rw [List.map_map]; rfl, ⟨_, rfl, ite2 (fun z5 => bb_one <| ss_ret <| ee_bl <| fin (q := q) h (congrArg PyData.bool ?_)) (fun z5 => bb_nil ?_)⟩⟩⟩)
          · rw [not_yes z5, Bool.false_and]
          · rw [not_no z5, Bool.true_and] at h
            have all := List.all_eq_true.mp (not_no z5)
            have each : ∀ d ∈ ys, ∃ i b, d = .tuple [.int i, b] := fun d hd => leavD_iff (F := Y) (l := l) (by have := all _ (List.mem_map.mpr ⟨d, hd, rfl⟩); exact this)
            refine bb_one <| ss_ret <| ee_all ck <| ea_cons <| ee_lc [("one", 4), ("other", 5)] ck (blkOk_by rfl) <| ii_zip2T ck <| ea_cons <| ee_var 3 rfl <| ea_cons <| ee_sl <| ee_var 3 rfl <| ee_int <| ⟨_, rfl, ea_nil <| ⟨_, _, rfl, lcK_map (fun d => .bool (lessD d)) ?_ [4, 5] (fun j hj => hj) (fun d hd _ _ _ _ _ => ?_) <| ea_nil <| ⟨(zipD ys (DL.cutD ys (some 1) none)).map lessD, by rw [List.map_map]; rfl, fin (q := q) h rfl⟩⟩⟩
            · have : (zipD ys (DL.cutD ys (some 1) none)).length ≤ ys.length := by unfold zipD; rw [List.length_zipWith]; exact Nat.min_le_left _ _
              omega
            · obtain ⟨j, hj⟩ := List.mem_iff_getElem?.mp hd
              obtain ⟨x, y, hx, hy, rfl⟩ := zipD_get hj
              obtain ⟨i1, b1, rfl⟩ := each x (List.mem_of_getElem? hx)
              obtain ⟨i2, b2, rfl⟩ := each y (cutD_mem (List.mem_of_getElem? hy))
              exact gg_tup (js := [4, 5]) ck.blk <| ggs_cons (js := [4]) (ks := [5]) <| gg_name 4 ck.blk <| ggs_cons (js := [5]) (ks := []) <| gg_name 5 ck.blk <| ggs_nil <| fun _ _ _ _ _ => ee_cmp <| ee_ix <| ee_var 4 rfl <| ee_int <| ⟨_, rfl, ee_ix <| ee_var 5 rfl <| ee_int <| ⟨_, rfl, br_lt <| rfl⟩⟩
    · exact bb_cons <| ss_if (et_M (t := true) (et_bool <| ew_orM (s := false) (et_not <| et_val <| ee_isTup ck <| ee_var 1 rfl <| ⟨_, rfl, ⟨rfl, rfl⟩⟩) (fun _ => ew_orM (s := true) (t := true) (et_cmp <| ee_len ck <| ea_cons <| ee_var 1 rfl <| ea_nil <| ee_int <| br_ne ck <| ⟨neq_len (m := 2) hl, rfl⟩) (fun z => nomatch z)))
        (ifT rfl <| bb_one <| ss_ret <| ee_bl <| fin (q := q) h (congrArg PyData.bool (bookD_len hl Y).symm)))
end
end FB

namespace FB
open PySem PySem.Spec PyProof.Rows L2 DL FM
section
variable {P : Program} {w : World} {K : PySem.W.Frag} {mg : Str → Option Value} {base : Heap} {C : Addr}
/-- a row of comings -/
def rowB (F : Fy) : PyData → Bool
  | .tuple xs => (decide (1 ≤ xs.length) && decide (xs.length ≤ 61)) && xs.all (isIn 0 F.m)
  | _ => false
theorem isIn_iff {lo hi : Int} {d : PyData} (h : isIn lo hi d = true) : ∃ i, d = .int i ∧ lo ≤ i ∧ i ≤ hi := by
  cases d with
  | int i =>
    have h' : (decide (lo ≤ i) && decide (i ≤ hi)) = true := h
    rw [Bool.and_eq_true] at h'
    exact ⟨i, rfl, of_decide_eq_true h'.1, of_decide_eq_true h'.2⟩
  | _ => cases h
theorem all_ints {lo hi : Int} : ∀ xs : List PyData, xs.all (isIn lo hi) = true → ∃ ns : List Int, xs = iL ns ∧ ∀ x ∈ ns, lo ≤ x ∧ x ≤ hi
  | [], _ => ⟨[], rfl, fun _ h => nomatch h⟩
  | d :: xs, h => by
    rw [List.all_cons, Bool.and_eq_true] at h
    obtain ⟨i, rfl, a, b⟩ := isIn_iff h.1
    obtain ⟨ns, rfl, r⟩ := all_ints xs h.2
    refine ⟨i :: ns, rfl, fun x hx => ?_⟩
    rcases List.mem_cons.mp hx with e | e
    · rw [e]; exact ⟨a, b⟩
    · exact r x e
theorem rowB_iff {F : Fy} {d : PyData} (h : rowB F d = true) : ∃ row : List Int, d = .tuple (iL row) ∧ 1 ≤ row.length ∧ row.length ≤ 61 ∧ ∀ x ∈ row, 0 ≤ x ∧ x ≤ F.m := by
  cases d with
  | tuple xs =>
    have h' : ((decide (1 ≤ xs.length) && decide (xs.length ≤ 61)) && xs.all (isIn 0 F.m)) = true := h
    rw [Bool.and_eq_true, Bool.and_eq_true] at h'
    obtain ⟨ns, rfl, r⟩ := all_ints xs h'.2
    rw [iL_len] at h'
    exact ⟨ns, rfl, of_decide_eq_true h'.1.1, of_decide_eq_true h'.1.2, r⟩
  | _ => cases h
theorem row_yes {F : Fy} {row : List Int} (l1 : 1 ≤ row.length) (l2 : row.length ≤ 61) (hx : ∀ x ∈ row, 0 ≤ x ∧ x ≤ F.m) : rowB F (.tuple (iL row)) = true := by
  show ((decide (1 ≤ (iL row).length) && decide ((iL row).length ≤ 61)) && (iL row).all (isIn 0 F.m)) = true
  rw [iL_len, decide_eq_true l1, decide_eq_true l2, Bool.true_and, Bool.true_and, List.all_eq_true]
  intro d hd
  obtain ⟨x, hx', rfl⟩ := List.mem_map.mp hd
  exact isIn_int (hx x hx').1 (hx x hx').2
def lenOk : PyData → Prop
  | .tuple xs => xs.length ≤ 1000
  | _ => True
def S_is_row : DSpec := fun ds k => ∃ F d, ds = [dF F, d] ∧ lenOk d ∧ k (.bool (rowB F d))
theorem sc_is_row : FnScope ["ferry", "thing", "one"] ["ferry", "thing"] (defScope s_is_row) := ⟨rfl, rfl, rfl, by decide +kernel, rfl, by decide +kernel, by decide +kernel⟩
theorem isT_no {d : PyData} (h : isT d = false) (F : Fy) : rowB F d = false := by cases d <;> first | rfl | cases h
theorem ok_is_row {f : Addr} {fd : FuncData} {k : Nat} (F : Fun K "is_row" "is_row" s_is_row f fd) (T : GT mg) (g_is_within : Kn P w K mg base k "is_within" ["thing", "low", "high"] (spD S_is_within)) : FnOk P w K mg base CX0 (k + 1) f fd ["ferry", "thing"] (spD S_is_row) := by
  refine fn_D F sc_is_row T.b (fun ds q ⟨_, _, e, _⟩ => by rw [e]; rfl) ?_
  rintro cdv A outer s H E _ q hr ck ⟨Y, d, rfl, ln, h⟩
  obtain ⟨t1, T1⟩ := T.ml
  cases hd : isT d with
  | false =>
    refine bb_cons <| ss_if (et_M (t := true) (et_bool <| ew_orM (s := true) (t := true) (et_not <| et_val <| ee_isTup ck <| ee_var 1 rfl <| ⟨_, rfl, ⟨by rw [hd]; rfl, rfl⟩⟩) (fun z => nomatch z)) (ifT rfl <| bb_one <| ss_ret <| ee_bl <| fin (q := q) h (congrArg PyData.bool (isT_no hd Y).symm)))
  | true =>
    obtain ⟨xs, rfl⟩ := isT_iff hd
    have ln' : xs.length ≤ 1000 := ln
    refine bb_cons <| ss_if (et_M (t := !(decide (1 ≤ xs.length) && decide (xs.length ≤ 61))) (et_bool <| ew_orM (s := false) (et_not <| et_val <| ee_isTup ck <| ee_var 1 rfl <| ⟨_, rfl, ⟨rfl, rfl⟩⟩) (fun _ => ew_one <| et_not <| et_chain <| ee_int <| ee_len ck <| ea_cons <| ee_var 1 rfl <| ea_nil <| br_le <| ite2 (fun c => ee_add <| ee_globI T1 <| ee_int <| br_le ⟨?_, rfl⟩) (fun c => ⟨?_, rfl⟩))) (ite2 (fun c => bb_one <| ss_ret <| ee_bl <| fin (q := q) h (congrArg PyData.bool ?_)) (fun c => ?_)))
    · have c' : (1 : Int) ≤ (xs.length : Int) := of_decide_eq_true c
      rw [decide_eq_true (show 1 ≤ xs.length by omega), Bool.true_and]
      show (!decide ((xs.length : Int) ≤ 60 + 1)) = _
      congr 1
      exact decide_eq_decide.mpr (by omega)
    · have c' : ¬ (1 : Int) ≤ (xs.length : Int) := fun z => c (decide_eq_true z)
      rw [decide_eq_false (show ¬ 1 ≤ xs.length by omega)]; rfl
    · show false = ((decide (1 ≤ xs.length) && decide (xs.length ≤ 61)) && xs.all (isIn 0 Y.m))
      rw [Bool.not_eq_true'] at c
      rw [c]; rfl
    · have c' : (decide (1 ≤ xs.length) && decide (xs.length ≤ 61)) = true := by
        cases q0 : (decide (1 ≤ xs.length) && decide (xs.length ≤ 61)) with
        | true => rfl
        | false => rw [q0] at c; exact absurd rfl c
      refine bb_nil <| bb_one <| ss_ret <| ee_all ck <| ea_cons <| ee_lc [("one", 2)] ck (blkOk_by rfl) <| ii_tup <| ee_var 1 rfl <| ⟨_, rfl, lcK_map (fun d => .bool (isIn 0 Y.m d)) (by omega) [2] (fun j hj => hj) (fun d hd _ _ _ _ _ => gg_name 2 ck.blk <| fun _ _ _ _ _ => ee_call ⟨_, hr, g_is_within⟩ <| ea_cons <| ee_var 2 rfl <| ea_cons <| ee_int <| ea_cons <| ee_ix <| ee_var 0 rfl <| ee_int <| ⟨_, rfl, ea_nil <| ⟨_, _, _, rfl, rfl⟩⟩) <| ea_nil <| ⟨xs.map (isIn 0 Y.m), by rw [List.map_map]; rfl, fin (q := q) h (congrArg PyData.bool ?_)⟩⟩
      show (xs.map (isIn 0 Y.m)).all id = ((decide (1 ≤ xs.length) && decide (xs.length ≤ 61)) && xs.all (isIn 0 Y.m))
      rw [c', Bool.true_and, List.all_map]
      rfl

/-- a class whose instances may be raised by one text -/
structure ExT (K : PySem.W.Frag) (mg : Str → Option Value) (x : Str) (C : Addr) : Prop where
  g : mg x = some (.ref C)
  x : PySem.W.excIn K C [.type "ValueError", .type "Exception", .type "BaseException", .type "object"] "ValueError.__new__" = true
  k : PySem.W.keepIn K (.ref C) = true
  b : PySem.W.subIn K (.ref C) (.type "BaseException") = some true
  t : PySem.W.typeIn K (.ref C) = some (.type "type")
def S_lafG : DSpec := fun ds k => ∃ d, ds = [d] ∧ ferryD d = true ∧ k .none
theorem ok_look_at_ferryG {f : Addr} {fd : FuncData} {k : Nat} (F : Fun K "look_at_ferry" "look_at_ferry" s_look_at_ferry f fd) (T : GT mg) (g_is_ferry : Kn P w K mg base k "is_ferry" ["thing"] (spD S_ferG)) :
    FnOk P w K mg base CX0 (k + 1) f fd ["ferry"] (spD S_lafG) := by
  refine fn_D F sc_look_at_ferry T.b (fun ds q ⟨_, e, _⟩ => by rw [e]; rfl) ?_
  rintro cdv A outer s H E _ q hr ck ⟨d, rfl, hd, h⟩
  exact bb_one <| ss_if (et_not <| et_val <| ee_call ⟨_, hr, g_is_ferry⟩ <| ea_cons <| ee_var 0 rfl <| ea_nil <| ⟨d, rfl, ⟨_, rfl, ifF (by rw [hd]; rfl) <| bb_nil h⟩⟩)
def S_lafX (NF : Addr) : SpecX := fun ds C => ∃ d, ds = [d] ∧ ferryD d = false ∧ C = NF
theorem ok_look_at_ferryX {f : Addr} {fd : FuncData} {k : Nat} {NF : Addr} (F : Fun K "look_at_ferry" "look_at_ferry" s_look_at_ferry f fd) (T : GT mg) (X : ExT K mg "NoFerry" NF) (g_is_ferry : Kn P w K mg base k "is_ferry" ["thing"] (spD S_ferG)) :
    FnOk P w K mg base (L2N.CX P w) (k + 1) f fd ["ferry"] (spX (S_lafX NF)) := by
  refine fn_X F sc_look_at_ferry T.b (fun ds C ⟨_, e, _⟩ => by rw [e]; rfl) ?_
  rintro cdv A outer s H E _ C Fr hr ck ⟨d, rfl, hd, rfl⟩ z
  exact bf_here <| sf_if <| et_not <| et_val <| ee_call ⟨_, hr, g_is_ferry⟩ <| ea_cons <| ee_var 0 rfl <| ea_nil <| ⟨d, rfl, ⟨_, rfl, ifT (by rw [hd]; rfl) <| bf_here <| sf_raise z rfl X.x X.g X.k X.b X.t⟩⟩
def S_laG : DSpec := fun ds k => ∃ (F : Fy) (b : PyData), ds = [dF F, b] ∧ ferryD (dF F) = true ∧ bookD F b = true ∧ k .none
theorem ok_look_atG {f : Addr} {fd : FuncData} {k : Nat} (F : Fun K "look_at" "look_at" s_look_at f fd) (T : GT mg) (g_look_at_ferry : Kn P w K mg base k "look_at_ferry" ["ferry"] (spD S_lafG)) (g_is_book_of : Kn P w K mg base k "is_book_of" ["ferry", "thing"] (spD S_bookG)) :
    FnOk P w K mg base CX0 (k + 1) f fd ["ferry", "book"] (spD S_laG) := by
  refine fn_D F sc_look_at T.b (fun ds q ⟨_, _, e, _⟩ => by rw [e]; rfl) ?_
  rintro cdv A outer s H E _ q hr ck ⟨Y, b, rfl, okF, ok, h⟩
  exact bb_cons <| ss_expr <| ee_call ⟨_, hr, g_look_at_ferry⟩ <| ea_cons <| ee_var 0 rfl <| ea_nil <| ⟨_, rfl, okF, bb_one <| ss_if (et_not <| et_val <| ee_call ⟨_, hr, g_is_book_of⟩ <| ea_cons <| ee_var 0 rfl <| ea_cons <| ee_var 1 rfl <| ea_nil <| ⟨Y, b, rfl, ⟨_, rfl, ifF (by rw [ok]; rfl) <| bb_nil h⟩⟩)⟩
/-- a ferry and a book, of which the one or the other is none -/
def BadFB (NF NB : Addr) (d b : PyData) (C : Addr) : Prop := (ferryD d = false ∧ C = NF) ∨ ∃ F : Fy, d = dF F ∧ ferryD (dF F) = true ∧ bookD F b = false ∧ C = NB
def S_laX (NF NB : Addr) : SpecX := fun ds C => ∃ d b, ds = [d, b] ∧ BadFB NF NB d b C
theorem ok_look_atX {f : Addr} {fd : FuncData} {k : Nat} {NF NB : Addr} (F : Fun K "look_at" "look_at" s_look_at f fd) (T : GT mg) (X : ExT K mg "NoBook" NB) (g_look_at_ferry : Kn P w K mg base k "look_at_ferry" ["ferry"] (spD S_lafG)) (x_look_at_ferry : KnX P w K mg base k "look_at_ferry" ["ferry"] (spX (S_lafX NF)))
    (g_is_book_of : Kn P w K mg base k "is_book_of" ["ferry", "thing"] (spD S_bookG)) : FnOk P w K mg base (L2N.CX P w) (k + 1) f fd ["ferry", "book"] (spX (S_laX NF NB)) := by
  refine fn_X F sc_look_at T.b (fun ds C ⟨_, _, e, _⟩ => by rw [e]; rfl) ?_
  rintro cdv A outer s H E _ C Fr hr ck ⟨d, b, rfl, bad⟩ z
  rcases bad with ⟨hd, rfl⟩ | ⟨Y, rfl, okF, hb, rfl⟩
  · exact bf_here <| sf_expr <| ef_call z ⟨_, hr, x_look_at_ferry⟩ <| ea_cons <| ee_var 0 rfl <| ea_nil <| ⟨d, rfl, hd, rfl⟩
  · exact bf_cons <| ss_expr <| ee_call ⟨_, hr, g_look_at_ferry⟩ <| ea_cons <| ee_var 0 rfl <| ea_nil <| ⟨_, rfl, okF, bf_here <| sf_if <| et_not <| et_val <| ee_call ⟨_, hr, g_is_book_of⟩ <| ea_cons <| ee_var 0 rfl <| ea_cons <| ee_var 1 rfl <| ea_nil <| ⟨Y, b, rfl, ⟨_, rfl, ifT (by rw [hb]; rfl) <| bf_here <| sf_raise z rfl X.x X.g X.k X.b X.t⟩⟩⟩
theorem scX_can_be : FnScope ["ferry", "book"] ["ferry", "book"] (defScope s_can_be) := ⟨rfl, rfl, rfl, by decide +kernel, rfl, by decide +kernel, by decide +kernel⟩
theorem okX_can_be {f : Addr} {fd : FuncData} {k : Nat} {NF NB : Addr} (F : Fun K "can_be" "can_be" s_can_be f fd) (T : GT mg) (x_look_at : KnX P w K mg base k "look_at" ["ferry", "book"] (spX (S_laX NF NB))) : FnOk P w K mg base (L2N.CX P w) (k + 1) f fd ["ferry", "book"] (spX (S_laX NF NB)) := by
  refine fn_X F scX_can_be T.b (fun ds C ⟨_, _, e, _⟩ => by rw [e]; rfl) ?_
  rintro cdv A outer s H E _ C Fr hr ck ⟨d, b, rfl, bad⟩ z
  exact bf_here <| sf_expr <| ef_call z ⟨_, hr, x_look_at⟩ <| ea_cons <| ee_var 0 rfl <| ea_cons <| ee_var 1 rfl <| ea_nil <| ⟨d, b, rfl, bad⟩
theorem scX_first_bar : FnScope ["ferry", "book"] ["ferry", "book"] (defScope s_first_bar) := ⟨rfl, rfl, rfl, by decide +kernel, rfl, by decide +kernel, by decide +kernel⟩
theorem okX_first_bar {f : Addr} {fd : FuncData} {k : Nat} {NF NB : Addr} (F : Fun K "first_bar" "first_bar" s_first_bar f fd) (T : GT mg) (x_look_at : KnX P w K mg base k "look_at" ["ferry", "book"] (spX (S_laX NF NB))) : FnOk P w K mg base (L2N.CX P w) (k + 1) f fd ["ferry", "book"] (spX (S_laX NF NB)) := by
  refine fn_X F scX_first_bar T.b (fun ds C ⟨_, _, e, _⟩ => by rw [e]; rfl) ?_
  rintro cdv A outer s H E _ C Fr hr ck ⟨d, b, rfl, bad⟩ z
  exact bf_here <| sf_expr <| ef_call z ⟨_, hr, x_look_at⟩ <| ea_cons <| ee_var 0 rfl <| ea_cons <| ee_var 1 rfl <| ea_nil <| ⟨d, b, rfl, bad⟩
theorem scX_stairs : FnScope ["ferry", "book"] ["ferry", "book"] (defScope s_stairs) := ⟨rfl, rfl, rfl, by decide +kernel, rfl, by decide +kernel, by decide +kernel⟩
theorem okX_stairs {f : Addr} {fd : FuncData} {k : Nat} {NF NB : Addr} (F : Fun K "stairs" "stairs" s_stairs f fd) (T : GT mg) (x_look_at : KnX P w K mg base k "look_at" ["ferry", "book"] (spX (S_laX NF NB))) : FnOk P w K mg base (L2N.CX P w) (k + 1) f fd ["ferry", "book"] (spX (S_laX NF NB)) := by
  refine fn_X F scX_stairs T.b (fun ds C ⟨_, _, e, _⟩ => by rw [e]; rfl) ?_
  rintro cdv A outer s H E _ C Fr hr ck ⟨d, b, rfl, bad⟩ z
  exact bf_here <| sf_expr <| ef_call z ⟨_, hr, x_look_at⟩ <| ea_cons <| ee_var 0 rfl <| ea_cons <| ee_var 1 rfl <| ea_nil <| ⟨d, b, rfl, bad⟩
theorem scX_fewest_row : FnScope ["ferry", "book"] ["ferry", "book"] (defScope s_fewest_row) := ⟨rfl, rfl, rfl, by decide +kernel, rfl, by decide +kernel, by decide +kernel⟩
theorem okX_fewest_row {f : Addr} {fd : FuncData} {k : Nat} {NF NB : Addr} (F : Fun K "fewest_row" "fewest_row" s_fewest_row f fd) (T : GT mg) (x_look_at : KnX P w K mg base k "look_at" ["ferry", "book"] (spX (S_laX NF NB))) : FnOk P w K mg base (L2N.CX P w) (k + 1) f fd ["ferry", "book"] (spX (S_laX NF NB)) := by
  refine fn_X F scX_fewest_row T.b (fun ds C ⟨_, _, e, _⟩ => by rw [e]; rfl) ?_
  rintro cdv A outer s H E _ C Fr hr ck ⟨d, b, rfl, bad⟩ z
  exact bf_here <| sf_expr <| ef_call z ⟨_, hr, x_look_at⟩ <| ea_cons <| ee_var 0 rfl <| ea_cons <| ee_var 1 rfl <| ea_nil <| ⟨d, b, rfl, bad⟩
theorem scX_most_row : FnScope ["ferry", "book"] ["ferry", "book"] (defScope s_most_row) := ⟨rfl, rfl, rfl, by decide +kernel, rfl, by decide +kernel, by decide +kernel⟩
theorem okX_most_row {f : Addr} {fd : FuncData} {k : Nat} {NF NB : Addr} (F : Fun K "most_row" "most_row" s_most_row f fd) (T : GT mg) (x_look_at : KnX P w K mg base k "look_at" ["ferry", "book"] (spX (S_laX NF NB))) : FnOk P w K mg base (L2N.CX P w) (k + 1) f fd ["ferry", "book"] (spX (S_laX NF NB)) := by
  refine fn_X F scX_most_row T.b (fun ds C ⟨_, _, e, _⟩ => by rw [e]; rfl) ?_
  rintro cdv A outer s H E _ C Fr hr ck ⟨d, b, rfl, bad⟩ z
  exact bf_here <| sf_expr <| ef_call z ⟨_, hr, x_look_at⟩ <| ea_cons <| ee_var 0 rfl <| ea_cons <| ee_var 1 rfl <| ea_nil <| ⟨d, b, rfl, bad⟩
theorem scX_how_many : FnScope ["ferry", "book"] ["ferry", "book"] (defScope s_how_many) := ⟨rfl, rfl, rfl, by decide +kernel, rfl, by decide +kernel, by decide +kernel⟩
theorem okX_how_many {f : Addr} {fd : FuncData} {k : Nat} {NF NB : Addr} (F : Fun K "how_many" "how_many" s_how_many f fd) (T : GT mg) (x_look_at : KnX P w K mg base k "look_at" ["ferry", "book"] (spX (S_laX NF NB))) : FnOk P w K mg base (L2N.CX P w) (k + 1) f fd ["ferry", "book"] (spX (S_laX NF NB)) := by
  refine fn_X F scX_how_many T.b (fun ds C ⟨_, _, e, _⟩ => by rw [e]; rfl) ?_
  rintro cdv A outer s H E _ C Fr hr ck ⟨d, b, rfl, bad⟩ z
  exact bf_here <| sf_expr <| ef_call z ⟨_, hr, x_look_at⟩ <| ea_cons <| ee_var 0 rfl <| ea_cons <| ee_var 1 rfl <| ea_nil <| ⟨d, b, rfl, bad⟩
theorem scX_waits : FnScope ["ferry", "book"] ["ferry", "book"] (defScope s_waits) := ⟨rfl, rfl, rfl, by decide +kernel, rfl, by decide +kernel, by decide +kernel⟩
theorem okX_waits {f : Addr} {fd : FuncData} {k : Nat} {NF NB : Addr} (F : Fun K "waits" "waits" s_waits f fd) (T : GT mg) (x_look_at : KnX P w K mg base k "look_at" ["ferry", "book"] (spX (S_laX NF NB))) : FnOk P w K mg base (L2N.CX P w) (k + 1) f fd ["ferry", "book"] (spX (S_laX NF NB)) := by
  refine fn_X F scX_waits T.b (fun ds C ⟨_, _, e, _⟩ => by rw [e]; rfl) ?_
  rintro cdv A outer s H E _ C Fr hr ck ⟨d, b, rfl, bad⟩ z
  exact bf_here <| sf_expr <| ef_call z ⟨_, hr, x_look_at⟩ <| ea_cons <| ee_var 0 rfl <| ea_cons <| ee_var 1 rfl <| ea_nil <| ⟨d, b, rfl, bad⟩
theorem scX_there : FnScope ["ferry", "book"] ["ferry", "book"] (defScope s_there) := ⟨rfl, rfl, rfl, by decide +kernel, rfl, by decide +kernel, by decide +kernel⟩
theorem okX_there {f : Addr} {fd : FuncData} {k : Nat} {NF NB : Addr} (F : Fun K "there" "there" s_there f fd) (T : GT mg) (x_look_at : KnX P w K mg base k "look_at" ["ferry", "book"] (spX (S_laX NF NB))) : FnOk P w K mg base (L2N.CX P w) (k + 1) f fd ["ferry", "book"] (spX (S_laX NF NB)) := by
  refine fn_X F scX_there T.b (fun ds C ⟨_, _, e, _⟩ => by rw [e]; rfl) ?_
  rintro cdv A outer s H E _ C Fr hr ck ⟨d, b, rfl, bad⟩ z
  exact bf_here <| sf_expr <| ef_call z ⟨_, hr, x_look_at⟩ <| ea_cons <| ee_var 0 rfl <| ea_cons <| ee_var 1 rfl <| ea_nil <| ⟨d, b, rfl, bad⟩
theorem scX_mends : FnScope ["ferry", "book"] ["ferry", "book"] (defScope s_mends) := ⟨rfl, rfl, rfl, by decide +kernel, rfl, by decide +kernel, by decide +kernel⟩
theorem okX_mends {f : Addr} {fd : FuncData} {k : Nat} {NF NB : Addr} (F : Fun K "mends" "mends" s_mends f fd) (T : GT mg) (x_look_at : KnX P w K mg base k "look_at" ["ferry", "book"] (spX (S_laX NF NB))) : FnOk P w K mg base (L2N.CX P w) (k + 1) f fd ["ferry", "book"] (spX (S_laX NF NB)) := by
  refine fn_X F scX_mends T.b (fun ds C ⟨_, _, e, _⟩ => by rw [e]; rfl) ?_
  rintro cdv A outer s H E _ C Fr hr ck ⟨d, b, rfl, bad⟩ z
  exact bf_here <| sf_expr <| ef_call z ⟨_, hr, x_look_at⟩ <| ea_cons <| ee_var 0 rfl <| ea_cons <| ee_var 1 rfl <| ea_nil <| ⟨d, b, rfl, bad⟩
def S_la3X (NF NB : Addr) : SpecX := fun ds C => ∃ d b c, ds = [d, b, c] ∧ BadFB NF NB d b C
theorem scX_is_story : FnScope ["ferry", "book", "thing"] ["ferry", "book", "thing"] (defScope s_is_story) := ⟨rfl, rfl, rfl, by decide +kernel, rfl, by decide +kernel, by decide +kernel⟩
theorem okX_is_story {f : Addr} {fd : FuncData} {k : Nat} {NF NB : Addr} (F : Fun K "is_story" "is_story" s_is_story f fd) (T : GT mg) (x_look_at : KnX P w K mg base k "look_at" ["ferry", "book"] (spX (S_laX NF NB))) : FnOk P w K mg base (L2N.CX P w) (k + 1) f fd ["ferry", "book", "thing"] (spX (S_la3X NF NB)) := by
  refine fn_X F scX_is_story T.b (fun ds C ⟨_, _, _, e, _⟩ => by rw [e]; rfl) ?_
  rintro cdv A outer s H E _ C Fr hr ck ⟨d, b, c, rfl, bad⟩ z
  exact bf_here <| sf_expr <| ef_call z ⟨_, hr, x_look_at⟩ <| ea_cons <| ee_var 0 rfl <| ea_cons <| ee_var 1 rfl <| ea_nil <| ⟨d, b, rfl, bad⟩
/-- the number of a comer -/
def comerD : PyData → Bool
  | .int i => decide (1 ≤ i)
  | _ => false
def S_cameX (NF NB NC : Addr) : SpecX := fun ds C => ∃ d b c, ds = [d, b, c] ∧ (BadFB NF NB d b C ∨ ∃ F : Fy, d = dF F ∧ ferryD (dF F) = true ∧ bookD F b = true ∧ comerD c = false ∧ C = NC)
theorem scX_came : FnScope ["ferry", "book", "comer"] ["ferry", "book", "comer"] (defScope s_came) := ⟨rfl, rfl, rfl, by decide +kernel, rfl, by decide +kernel, by decide +kernel⟩
theorem okX_came {f : Addr} {fd : FuncData} {k : Nat} {NF NB NC : Addr} (F : Fun K "came" "came" s_came f fd) (T : GT mg) (X : ExT K mg "NoComer" NC) (x_look_at : KnX P w K mg base k "look_at" ["ferry", "book"] (spX (S_laX NF NB))) (g_look_at : Kn P w K mg base k "look_at" ["ferry", "book"] (spD S_laG)) (g_is_whole : Kn P w K mg base k "is_whole" ["thing"] (spD S_is_whole)) :
    FnOk P w K mg base (L2N.CX P w) (k + 1) f fd ["ferry", "book", "comer"] (spX (S_cameX NF NB NC)) := by
  refine fn_X F scX_came T.b (fun ds C ⟨_, _, _, e, _⟩ => by rw [e]; rfl) ?_
  rintro cdv A outer s H E _ C Fr hr ck ⟨d, b, c, rfl, bad⟩ z
  rcases bad with bad | ⟨Y, rfl, okF, okB, hc, rfl⟩
  · exact bf_here <| sf_expr <| ef_call z ⟨_, hr, x_look_at⟩ <| ea_cons <| ee_var 0 rfl <| ea_cons <| ee_var 1 rfl <| ea_nil <| ⟨d, b, rfl, bad⟩
  · refine bf_cons <| ss_expr <| ee_call ⟨_, hr, g_look_at⟩ <| ea_cons <| ee_var 0 rfl <| ea_cons <| ee_var 1 rfl <| ea_nil <| ⟨Y, b, rfl, okF, okB, bf_here <| sf_if ?_⟩
    cases hw : isW c with
    | false =>
      exact et_M (t := true) (et_bool <| ew_orM (s := true) (t := true) (et_not <| et_val <| ee_call ⟨_, hr, g_is_whole⟩ <| ea_cons <| ee_var 2 rfl <| ea_nil <| ⟨c, rfl, ⟨_, rfl, ⟨by rw [hw]; rfl, rfl⟩⟩⟩) (fun z => nomatch z)) (ifT rfl <| bf_here <| sf_raise z rfl X.x X.g X.k X.b X.t)
    | true =>
      obtain ⟨i, rfl⟩ := isW_iff hw
      have hi : ¬ 1 ≤ i := of_decide_eq_false hc
      exact et_M (t := true) (et_bool <| ew_orM (s := false) (et_not <| et_val <| ee_call ⟨_, hr, g_is_whole⟩ <| ea_cons <| ee_var 2 rfl <| ea_nil <| ⟨_, rfl, ⟨_, rfl, ⟨rfl, rfl⟩⟩⟩) (fun _ => ew_one <| et_cmp <| ee_var 2 rfl <| ee_int <| br_lt <| ⟨decide_eq_true (by omega), rfl⟩)) (ifT rfl <| bf_here <| sf_raise z rfl X.x X.g X.k X.b X.t)
def S_lf2X (NF : Addr) : SpecX := fun ds C => ∃ d b, ds = [d, b] ∧ ferryD d = false ∧ C = NF
theorem scX_is_book : FnScope ["ferry", "thing"] ["ferry", "thing"] (defScope s_is_book) := ⟨rfl, rfl, rfl, by decide +kernel, rfl, by decide +kernel, by decide +kernel⟩
theorem okX_is_book {f : Addr} {fd : FuncData} {k : Nat} {NF : Addr} (F : Fun K "is_book" "is_book" s_is_book f fd) (T : GT mg) (x_look_at_ferry : KnX P w K mg base k "look_at_ferry" ["ferry"] (spX (S_lafX NF))) : FnOk P w K mg base (L2N.CX P w) (k + 1) f fd ["ferry", "thing"] (spX (S_lf2X NF)) := by
  refine fn_X F scX_is_book T.b (fun ds C ⟨_, _, e, _⟩ => by rw [e]; rfl) ?_
  rintro cdv A outer s H E _ C Fr hr ck ⟨d, b, rfl, hd, rfl⟩ z
  exact bf_here <| sf_expr <| ef_call z ⟨_, hr, x_look_at_ferry⟩ <| ea_cons <| ee_var 0 rfl <| ea_nil <| ⟨d, rfl, hd, rfl⟩
def S_ibG : DSpec := fun ds k => ∃ (F : Fy) (b : PyData), ds = [dF F, b] ∧ ferryD (dF F) = true ∧ k (.bool (bookD F b))
theorem ok_is_bookG {f : Addr} {fd : FuncData} {k : Nat} (F : Fun K "is_book" "is_book" s_is_book f fd) (T : GT mg) (g_look_at_ferry : Kn P w K mg base k "look_at_ferry" ["ferry"] (spD S_lafG)) (g_is_book_of : Kn P w K mg base k "is_book_of" ["ferry", "thing"] (spD S_bookG)) :
    FnOk P w K mg base CX0 (k + 1) f fd ["ferry", "thing"] (spD S_ibG) := by
  refine fn_D F scX_is_book T.b (fun ds q ⟨_, _, e, _⟩ => by rw [e]; rfl) ?_
  rintro cdv A outer s H E _ q hr ck ⟨Y, b, rfl, okF, h⟩
  exact bb_cons <| ss_expr <| ee_call ⟨_, hr, g_look_at_ferry⟩ <| ea_cons <| ee_var 0 rfl <| ea_nil <| ⟨_, rfl, okF, bb_one <| ss_ret <| ee_call ⟨_, hr, g_is_book_of⟩ <| ea_cons <| ee_var 0 rfl <| ea_cons <| ee_var 1 rfl <| ea_nil <| ⟨Y, b, rfl, h⟩⟩
def S_lvX (NF NR : Addr) : SpecX := fun ds C => ∃ d b, ds = [d, b] ∧ ((ferryD d = false ∧ C = NF) ∨ ∃ F : Fy, d = dF F ∧ ferryD (dF F) = true ∧ lenOk b ∧ rowB F b = false ∧ C = NR)
theorem scX_leavings : FnScope ["ferry", "row"] ["ferry", "row"] (defScope s_leavings) := ⟨rfl, rfl, rfl, by decide +kernel, rfl, by decide +kernel, by decide +kernel⟩
theorem okX_leavings {f : Addr} {fd : FuncData} {k : Nat} {NF NR : Addr} (F : Fun K "leavings" "leavings" s_leavings f fd) (T : GT mg) (X : ExT K mg "NoRow" NR) (x_look_at_ferry : KnX P w K mg base k "look_at_ferry" ["ferry"] (spX (S_lafX NF))) (g_look_at_ferry : Kn P w K mg base k "look_at_ferry" ["ferry"] (spD S_lafG)) (g_is_row : Kn P w K mg base k "is_row" ["ferry", "thing"] (spD S_is_row)) :
    FnOk P w K mg base (L2N.CX P w) (k + 1) f fd ["ferry", "row"] (spX (S_lvX NF NR)) := by
  refine fn_X F scX_leavings T.b (fun ds C ⟨_, _, e, _⟩ => by rw [e]; rfl) ?_
  rintro cdv A outer s H E _ C Fr hr ck ⟨d, b, rfl, bad⟩ z
  rcases bad with ⟨hd, rfl⟩ | ⟨Y, rfl, okF, lb, hb, rfl⟩
  · exact bf_here <| sf_expr <| ef_call z ⟨_, hr, x_look_at_ferry⟩ <| ea_cons <| ee_var 0 rfl <| ea_nil <| ⟨d, rfl, hd, rfl⟩
  · exact bf_cons <| ss_expr <| ee_call ⟨_, hr, g_look_at_ferry⟩ <| ea_cons <| ee_var 0 rfl <| ea_nil <| ⟨_, rfl, okF, bf_here <| sf_if <| et_not <| et_val <| ee_call ⟨_, hr, g_is_row⟩ <| ea_cons <| ee_var 0 rfl <| ea_cons <| ee_var 1 rfl <| ea_nil <| ⟨Y, b, rfl, lb, ⟨_, rfl, ifT (by rw [hb]; rfl) <| bf_here <| sf_raise z rfl X.x X.g X.k X.b X.t⟩⟩⟩
end
end FB

namespace FB
open PySem PySem.Spec PyProof.Rows L2 DL FM HotX L2H
section
variable {P : Program} {w : World} {K : PySem.W.Frag} {mg : Str → Option Value} {base : Heap}
/-- the classes of refusals, by their names -/
structure XcT (K : PySem.W.Frag) (mg : Str → Option Value) (FE : Addr) (cs : List (Addr × Str)) : Prop where
  fe : mg "FerryError" = some (.ref FE)
  ex : ∀ p ∈ cs, ExT K mg p.2 p.1
  fam : ∀ p ∈ cs, PySem.W.exmOne K (.ref p.1) (.ref FE) = some true
  own : ∀ p ∈ cs, ExcC K p.1
  kit : ∀ p ∈ cs, ∀ q ∈ cs, PySem.W.kitOne K (.ref p.1) (.ref q.1) = some (decide (p.1 = q.1))
theorem takes0N {X : Cx} : L2N.Takes X (fun _ _ _ _ => False) := fun _ _ x => by
  obtain ⟨_, _, _, _, _, _, _, _, _, _, _, _, _, _, _, _, z⟩ := x
  exact z.elim
def spTried (P : Program) (w : World) (K : PySem.W.Frag) (mg : Str → Option Value) (base : Heap) (k : Nat) (cs : List (Addr × Str)) : Sp := fun vs H Q _ =>
  ∃ (v : V) (C : Addr) (nm : Str), vs = [v] ∧ DoorV P w K mg base k C H v ∧ (C, nm) ∈ cs ∧ ∀ p H', Same H H' → H p = none → H' p = some (.tup [.str nm]) → Q (.ref p) H'
theorem sc_tried : FnScope ["deed", "found", "e", "some", "word", "good"] ["deed"] (defScope s__law_tried) := ⟨rfl, rfl, rfl, by decide +kernel, rfl, by decide +kernel, by decide +kernel⟩
/-- names that are asked for, as they come -/
def picks (ps : List (Str × Bool)) (i : Nat) : List Str := ((ps.take i).filter (·.2)).map (·.1)
theorem picks_step (ps : List (Str × Bool)) (i : Nat) (n : Str) (b : Bool) (h : ps[i]? = some (n, b)) : picks ps (i + 1) = picks ps i ++ (if b = true then [n] else []) := by
  unfold picks
  rw [List.take_succ, h]
  rw [show (some (n, b)).toList = [(n, b)] from rfl, List.filter_append, List.map_append]
  cases b <;> rfl
theorem pairs_lc {σ : L2.St} {Hx : Hp} {l : Addr} {ts : List Addr} {ps : List (Str × Bool)} {Q : VK} (hl : σ.length = 6) (e3 : σ[3]? = some (some (.ref l))) (eL : Hx l = some (.lst (ts.map V.ref))) (le : ts.length = ps.length) (l4 : ps.length ≤ 4)
    (he : ∀ (j : Nat) (t : Addr) (n : Str) (b : Bool), ts[j]? = some t → ps[j]? = some (n, b) → Hx t = some (.tup [.str n, .bl b]))
    (q : ∀ D H', Hx D = none → (∀ b o, Hx b = some o → H' b = some o) → H' D = some (.lst ((picks ps ps.length).map V.str)) → Q (.ref D) H') :
    tLc (iList K (tVar 3)) (gTup K 2 (gCons (gName 4) (gCons (gName 5) gNil))) (L2.tB (tVar 5)) (tVar 4) ([("word", 4), ("good", 5)].map (·.2) : List Nat) σ Hx Q := by
  obtain ⟨a0, a1, a2, a3, a4, a5, rfl⟩ : ∃ a0 a1 a2 a3 a4 a5, σ = [a0, a1, a2, a3, a4, a5] := by
    match σ, hl with
    | [a0, a1, a2, a3, a4, a5], _ => exact ⟨a0, a1, a2, a3, a4, a5, rfl⟩
  refine ⟨_, e3, l, rfl, ⟨_, .of eL⟩, fun D hD => ⟨fun i m H' => m = ps.length - i ∧ i ≤ ps.length ∧ (∀ b o, Hx b = some o → H' b = some o) ∧ H' D = some (.lst ((picks ps i).map V.str)), ⟨_, rfl, Nat.zero_le _, same_new hD, upd_same⟩, ?_⟩⟩
  rintro i m H' ⟨rfl, hi, sm, eD⟩
  have eq : SqL K H' l (ts.map V.ref) := .of (sm _ _ eL)
  by_cases hlt : i < ps.length
  · obtain ⟨t, ht⟩ : ∃ t, ts[i]? = some t := ⟨_, List.getElem?_eq_getElem (by omega)⟩
    obtain ⟨nb, hp⟩ : ∃ nb, ps[i]? = some nb := ⟨_, List.getElem?_eq_getElem hlt⟩
    obtain ⟨n, b⟩ := nb
    have e1 := sm _ _ (he i t n b ht hp)
    refine .inr ⟨⟨_, .ref t, eq, by rw [List.getElem?_map, ht]; rfl⟩, fun H2 => (∀ b o, Hx b = some o → H2 b = some o) ∧ H2 D = some (.lst ((picks ps (i + 1)).map V.str)), fun H2 ⟨x1, x2⟩ => ⟨ps.length - (i + 1), by omega, rfl, hlt, x1, x2⟩, ?_⟩
    rintro x H2 ⟨rfl, hx⟩
    have hx' := hx _ eq
    rw [List.getElem?_map, ht] at hx'
    cases hx'
    refine ⟨t, _, rfl, .of e1, rfl, ?_⟩
    refine ⟨_, _, rfl, _, _, rfl, rfl, ?_⟩
    refine ⟨rfl, _, rfl, b, rfl, ?_⟩
    have st := picks_step ps i n b hp
    cases b with
    | false =>
      dsimp only
      rw [if_neg Bool.false_ne_true]
      refine ⟨sm, ?_⟩
      rw [st, if_neg Bool.false_ne_true, List.append_nil]
      exact eD
    | true =>
      dsimp only
      rw [if_pos rfl]
      refine ⟨_, rfl, _, eD, ?_, fun c o e => ?_, ?_⟩
      · refine big_lt ?_
        rw [List.length_map]
        unfold picks
        rw [List.length_map]
        have := (List.length_filter_le (fun q : Str × Bool => q.2) (ps.take i))
        rw [List.length_take] at this
        omega
      · have nD : c ≠ D := fun z => by rw [z, hD] at e; cases e
        rw [upd_ne nD]
        exact sm c o e
      · rw [upd_same, st, if_pos rfl, List.map_append]
        rfl
  · have e0 : i = ps.length := by omega
    subst e0
    exact .inl ⟨⟨_, eq, by rw [List.length_map]; omega⟩, q D H' hD sm eD⟩
def handlerBody : Stmt → List Stmt
  | .Try _ [.ExceptHandler _ _ b _] _ _ _ => b
  | _ => []
def suiteScope : Scope := match (handlerBody ((defBody s__law_tried).getD 1 (.Pass ⟨0, 0, 0, 0⟩))).getD 2 (.Pass ⟨0, 0, 0, 0⟩) with
  | .Assign _ (.Tuple (.Call _ (.ListComp _ _ sc _ :: _) _ _ :: _) _ _) _ => sc
  | _ => ⟨.function, [], false, false, []⟩
abbrev triedX (P : Program) (w : World) (K : PySem.W.Frag) (mg : Str → Option Value) (base : Heap) (f : Addr) (cdv : Value) (A : Around) (outer : List Env) (s : Shared) (H : Hp) (E : XK) : Cx :=
  (cxOf CX0 P w K mg base ["deed", "found", "e", "some", "word", "good"] "_law_tried" (defScope s__law_tried) f cdv A outer s H E).nox
/-- the suite's reading -/
def tSuite (cs : List (Addr × Str)) (a : Addr) (Dc : Addr) : TS := fun D σ H =>
  ∃ nm : Str, σ[2]? = some (some (.ref a)) ∧ σ.length = 6 ∧ (Dc, nm) ∈ cs ∧ ∀ p H' σ', Same H H' → H p = none → H' p = some (.tup [.str nm]) → σ'.length = 6 → σ'[1]? = some (some (.ref p)) → D.nx σ' H'
/-- the names, picked by what the class is -/
theorem pick_one {NF NB NR NC Dc : Addr} {nm : Str} (hd : [NF, NB, NR, NC].Nodup) (m : (Dc, nm) ∈ [(NF, ("NoFerry" : Str)), (NB, "NoBook"), (NR, "NoRow"), (NC, "NoComer")]) :
    picks [("NoFerry", decide (Dc = NF)), ("NoBook", decide (Dc = NB)), ("NoRow", decide (Dc = NR)), ("NoComer", decide (Dc = NC))] 4 = [nm] ∧ Txt.join ("" : Str) [nm] = nm ∧ nm.length ≤ 10 := by
  simp only [List.nodup_cons, List.mem_cons, List.mem_nil_iff, not_or, List.not_mem_nil, or_false] at hd
  obtain ⟨⟨n1, n2, n3⟩, ⟨n4, n5⟩, n6, _⟩ := hd
  rcases List.mem_cons.mp m with e | m
  · cases e
    rw [decide_eq_true rfl, decide_eq_false n1, decide_eq_false n2, decide_eq_false n3]
    exact ⟨rfl, by decide +kernel, by decide +kernel⟩
  · rcases List.mem_cons.mp m with e | m
    · cases e
      rw [decide_eq_true rfl, decide_eq_false (Ne.symm n1), decide_eq_false n4, decide_eq_false n5]
      exact ⟨rfl, by decide +kernel, by decide +kernel⟩
    · rcases List.mem_cons.mp m with e | m
      · cases e
        rw [decide_eq_true rfl, decide_eq_false (Ne.symm n2), decide_eq_false (Ne.symm n4), decide_eq_false n6]
        exact ⟨rfl, by decide +kernel, by decide +kernel⟩
      · cases List.mem_singleton.mp m
        rw [decide_eq_true rfl, decide_eq_false (Ne.symm n3), decide_eq_false (Ne.symm n5), decide_eq_false (Ne.symm n6)]
        exact ⟨rfl, by decide +kernel, by decide +kernel⟩
theorem suite_ok {f : Addr} {cdv : Value} {A : Around} {outer : List Env} {s : Shared} {H0 : Hp} {E : XK} {FE NF NB NR NC a Dc : Addr} {oe : Obj} {pn : List (Addr × Obj)} (T : GT mg) (X : XcT K mg FE [(NF, "NoFerry"), (NB, "NoBook"), (NR, "NoRow"), (NC, "NoComer")]) (hd : [NF, NB, NR, NC].Nodup)
    (hz : L2N.Zn (.ref Dc) none oe) (hf : ∃ vs, oe.data = .fields vs) (EC : ExcC K Dc) :
    PSs ((triedX P w K mg base f cdv A outer s H0 E).suite a ((a, oe) :: pn)) (handlerBody ((defBody s__law_tried).getD 1 (.Pass ⟨0, 0, 0, 0⟩))) (tSuite [(NF, "NoFerry"), (NB, "NoBook"), (NR, "NoRow"), (NC, "NoComer")] a Dc) := by
  have nd := sc_tried.nd
  have is := call_isE (X := triedX P w K mg base f cdv A outer s H0 E) (a := a) (pn := pn) EC hz.zc hf
  obtain ⟨vs, ev⟩ := hf
  have g1 : mg "NoFerry" = some (.ref NF) := (X.ex _ (.head _)).g
  have g2 : mg "NoBook" = some (.ref NB) := (X.ex _ (.tail _ (.head _))).g
  have g3 : mg "NoRow" = some (.ref NR) := (X.ex _ (.tail _ (.tail _ (.head _)))).g
  have g4 : mg "NoComer" = some (.ref NC) := (X.ex _ (.tail _ (.tail _ (.tail _ (.head _))))).g
  have hot : Hot1 ((triedX P w K mg base f cdv A outer s H0 E).suite a ((a, oe) :: pn)).A (a, oe) := ⟨rfl, vs, ev, hz.2.2 vs ev⟩
  have hm : mg "isinstance" = none := T.b _ (by simp [bNames])
  have hc : ∀ (S : Shared) (Hb : Hp) (Ca : Addr) (cl : List (Str × Addr)) (fp : List Addr) (scope : Scope), HotC (((triedX P w K mg base f cdv A outer s H0 E).suite a ((a, oe) :: pn)).blkH (a, oe) S Hb scope (compEnvC scope cl Ca (triedX P w K mg base f cdv A outer s H0 E).env) fp) := fun _ _ _ _ _ _ => ⟨(a, oe), hot, List.mem_singleton.mpr rfl⟩
  suffices key : ∃ t0 : TS, PSs ((triedX P w K mg base f cdv A outer s H0 E).suite a ((a, oe) :: pn)) (handlerBody ((defBody s__law_tried).getD 1 (.Pass ⟨0, 0, 0, 0⟩))) t0 ∧ ∀ D σ H, tSuite [(NF, "NoFerry"), (NB, "NoBook"), (NR, "NoRow"), (NC, "NoComer")] a Dc D σ H → t0 D σ H by
    obtain ⟨t0, h1, h2⟩ := key
    exact ⟨fun pins t σ H D I h => h1.run pins t σ H D I (h2 D σ H h)⟩
  refine ⟨_, pss_cons (ps_set (i := 3) nd rfl (Or.inl rfl) (pe_lst (pa_cons (pe_tup (pa_cons pe_str (pa_cons (pe_callB is (by rfl) hm (by decide +kernel) (pa_cons (pe_var (i := 2) rfl (Or.inl rfl) (by decide) (by decide)) (pa_cons (pe_glob (v := .ref NF) (by rfl) g1 rfl) pa_nil))) pa_nil))) (pa_cons (pe_tup (pa_cons pe_str (pa_cons (pe_callB is (by rfl) hm (by decide +kernel) (pa_cons (pe_var (i := 2) rfl (Or.inl rfl) (by decide) (by decide)) (pa_cons (pe_glob (v := .ref NB) (by rfl) g2 rfl) pa_nil))) pa_nil))) pa_nil))))
    (pss_cons (ps_set (i := 3) nd rfl (Or.inl rfl) (pe_op op_cat (pe_var (i := 3) rfl (Or.inl rfl) (by decide) (by decide)) (pe_lst (pa_cons (pe_tup (pa_cons pe_str (pa_cons (pe_callB is (by rfl) hm (by decide +kernel) (pa_cons (pe_var (i := 2) rfl (Or.inl rfl) (by decide) (by decide)) (pa_cons (pe_glob (v := .ref NR) (by rfl) g3 rfl) pa_nil))) pa_nil))) (pa_cons (pe_tup (pa_cons pe_str (pa_cons (pe_callB is (by rfl) hm (by decide +kernel) (pa_cons (pe_var (i := 2) rfl (Or.inl rfl) (by decide) (by decide)) (pa_cons (pe_glob (v := .ref NC) (by rfl) g4 rfl) pa_nil))) pa_nil))) pa_nil)))))
    (pss_one (ps_set (i := 1) nd rfl (Or.inl rfl) (pe_tup (pa_cons (L2.pe_join pe_str (pe_lcH (scope := suiteScope) (g := gTup K 2 (gCons (gName 4) (gCons (gName 5) gNil))) (own := [("word", 4), ("good", 5)]) hot (.head _) nd (pi_listH (pe_var (i := 3) rfl (Or.inl rfl) (by decide) (by decide))) (blkOk_by rfl)
      (fun S Hb Ca cl fp => pg_tupH (n := 2) (hc S Hb Ca cl fp suiteScope) (pgs_cons (pg_name (i := 4) nd rfl (Or.inl rfl)) (pgs_cons (pg_name (i := 5) nd rfl (Or.inl rfl)) pgs_nil)))
      (fun S Hb Ca cl fp => pts_one (pt_val (pe_var (i := 5) rfl (Or.inl rfl) (by decide) (by decide)))) (fun S Hb Ca cl fp => pe_var (i := 4) rfl (Or.inl rfl) (by decide) (by decide)))) pa_nil))))), ?_⟩
  intro D σ H h
  obtain ⟨nm, h2, hl, mD, q⟩ := h
  obtain ⟨a0, a1, a2, a3, a4, a5, rfl⟩ : ∃ a0 a1 a2 a3 a4 a5, σ = [a0, a1, a2, a3, a4, a5] := by
    match σ, hl with
    | [a0, a1, a2, a3, a4, a5], _ => exact ⟨a0, a1, a2, a3, a4, a5, rfl⟩
  cases h2
  have k1 := X.kit _ mD _ (.head _)
  have k2 := X.kit _ mD _ (.tail _ (.head _))
  have k3 := X.kit _ mD _ (.tail _ (.tail _ (.head _)))
  have k4 := X.kit _ mD _ (.tail _ (.tail _ (.tail _ (.head _))))
  refine ⟨_, rfl, _, _, _, rfl, (fun u r => r), k1, (by show 2 ≤ sizeLine; decide), fun p1 hp1 => ?_⟩
  refine ⟨_, rfl, _, _, _, rfl, (fun u r => r), k2, (by show 2 ≤ sizeLine; decide), fun p2 hp2 => ?_⟩
  refine ⟨(by show 2 ≤ sizeLine; decide), fun l1 hl1 => ?_⟩
  refine ⟨_, rfl, _, rfl, _, _, _, rfl, (fun u r => r), k3, (by show 2 ≤ sizeLine; decide), fun p3 hp3 => ?_⟩
  refine ⟨_, rfl, _, _, _, rfl, (fun u r => r), k4, (by show 2 ≤ sizeLine; decide), fun p4 hp4 => ?_⟩
  refine ⟨(by show 2 ≤ sizeLine; decide), fun l2 hl2 => ?_⟩
  have s1 := same_new (o := .tup [.str "NoFerry", .bl (decide (Dc = NF))]) hp1
  have s2 := same_new (o := .tup [.str "NoBook", .bl (decide (Dc = NB))]) hp2
  have s3 := same_new (o := .lst [.ref p1, .ref p2]) hl1
  have s4 := same_new (o := .tup [.str "NoRow", .bl (decide (Dc = NR))]) hp3
  have s5 := same_new (o := .tup [.str "NoComer", .bl (decide (Dc = NC))]) hp4
  have s6 := same_new (o := .lst [.ref p3, .ref p4]) hl2
  refine ⟨l1, l2, [.ref p1, .ref p2], [.ref p3, .ref p4], rfl, rfl, s6 _ _ (s5 _ _ (s4 _ _ upd_same)), upd_same, (by show 4 ≤ sizeLine; decide), fun l3 hl3 => ?_⟩
  have s7 := same_new (o := .lst ([.ref p1, .ref p2] ++ [.ref p3, .ref p4])) hl3
  have e1 := s7 _ _ (s6 _ _ (s5 _ _ (s4 _ _ (s3 _ _ (s2 _ _ (upd_same (a := p1) (o := .tup [.str "NoFerry", .bl (decide (Dc = NF))]) (H := H)))))))
  have e2 := s7 _ _ (s6 _ _ (s5 _ _ (s4 _ _ (s3 _ _ (upd_same (a := p2))))))
  have e3 := s7 _ _ (s6 _ _ (s5 _ _ (upd_same (a := p3))))
  have e4 := s7 _ _ (s6 _ _ (upd_same (a := p4)))
  refine ⟨⟨_, rfl⟩, pairs_lc (l := l3) (ts := [p1, p2, p3, p4]) (ps := [("NoFerry", decide (Dc = NF)), ("NoBook", decide (Dc = NB)), ("NoRow", decide (Dc = NR)), ("NoComer", decide (Dc = NC))]) rfl rfl upd_same rfl (Nat.le_refl 4) (fun j t n b h1 h2 => ?_) fun Dl H' hDl sm eD => ?_⟩
  · match j, h1, h2 with
    | 0, h1, h2 => cases h1; cases h2; exact e1
    | 1, h1, h2 => cases h1; cases h2; exact e2
    | 2, h1, h2 => cases h1; cases h2; exact e3
    | 3, h1, h2 => cases h1; cases h2; exact e4
  · obtain ⟨u1, u2, u3⟩ := pick_one hd mD
    rw [show List.length _ = 4 from rfl, u1] at eD
    refine ⟨_, Dl, [nm], rfl, rfl, .inl (.of eD), ?_, ?_⟩
    · show (nm.length + 0) + 1 * 0 ≤ 16777216
      omega
    · rw [u2]
      refine ⟨(by show 1 ≤ sizeLine; decide), fun p9 hp9 => ?_⟩
      have sA := ((((((s1.trans s2).trans s3).trans s4).trans s5).trans s6).trans s7).trans (show Same _ H' from sm)
      have n9 : H p9 = none := by
        cases z : H p9 with
        | none => rfl
        | some o => rw [sA p9 o z] at hp9; cases hp9
      exact q p9 _ _ (sA.trans (same_new hp9)) n9 upd_same rfl rfl
def tDoor (P : Program) (w : World) (K : PySem.W.Frag) (mg : Str → Option Value) (base : Heap) (k i : Nat) (W : WX) : TE := fun σ H _ => ∃ (C : Addr) (v : V), σ[i]? = some (some v) ∧ DoorV P w K mg base k C H v ∧ ∀ H', Same H H' → W (.ref C) none σ H'
theorem ok_tried {f : Addr} {fd : FuncData} {k : Nat} {FE NF NB NR NC : Addr} (F : Fun K "_law_tried" "_law_tried" s__law_tried f fd) (T : GT mg) (X : XcT K mg FE [(NF, "NoFerry"), (NB, "NoBook"), (NR, "NoRow"), (NC, "NoComer")]) (hd : [NF, NB, NR, NC].Nodup) :
    FnOk P w K mg base CX0 (k + 2) f fd ["deed"] (spTried P w K mg base k [(NF, "NoFerry"), (NB, "NoBook"), (NR, "NoRow"), (NC, "NoComer")]) := by
  refine F.ok sc_tried (fun vs H Q E h => ?_) (fun cdv A outer s H vs Q E hr h => ?_)
  · obtain ⟨v, C, nm, rfl, _⟩ := h
    rfl
  obtain ⟨v, C, nm, rfl, D, mem, kk⟩ := h
  have nd := sc_tried.nd
  refine ⟨_, pss_cons (ps_set (i := 1) nd rfl (Or.inl rfl) (pe_tup (pa_cons pe_str pa_nil)))
    (pss_cons (L2N.ps_try_as (i := 2) (c := .ref FE) (ts := fun a cls d D σ H => ∃ Dc : Addr, cls = .ref Dc ∧ d = none ∧ ExcC K Dc ∧ tSuite [(NF, "NoFerry"), (NB, "NoBook"), (NR, "NoRow"), (NC, "NoComer")] a Dc D σ H) rfl rfl nd rfl rfl ⟨rfl, by decide, .inl X.fe⟩ takes0N
      (fun W pn xe tk _ => pss_one (ps_set (i := 1) nd rfl (Or.inl rfl) (pe_tup (pa_cons pe_str (pa_cons (show PE _ _ (tDoor P w K mg base k 0 W) from pe_door (k := k) (i := 0) tk hr rfl (Or.inl rfl)) pa_nil)))))
      (fun a oe cls d pn hz hf => ⟨fun pins t σ H' Dn I ⟨Dc, e1, e2, EC, hs⟩ => by
        subst e1
        subst e2
        exact (suite_ok T X hd hz hf EC).run pins t σ H' Dn I hs⟩))
      (pss_one (ps_ret (pe_var (i := 1) rfl (Or.inl rfl) (by decide) (by decide))))), ?_⟩
  refine ⟨(by show 1 ≤ sizeLine; decide), fun p1 hp1 => ?_⟩
  have s1 := same_new (o := .tup [.str "none"]) hp1
  refine ⟨C, v, rfl, D.up s1, fun H2 s2 => ⟨true, X.fam _ mem, fun _ a ha => ⟨C, rfl, rfl, X.own _ mem, nm, rfl, rfl, mem, fun p H' σ' s3 hp e hl h1 => ?_⟩, fun z => nomatch z⟩⟩
  have sA := (s1.trans s2).trans s3
  have e1 : (σ'.set 2 none)[1]? = some (some (.ref p)) := by rw [List.getElem?_set_ne (by decide)]; exact h1
  refine ⟨_, e1, kk p H' sA ?_ e⟩
  cases z : H p with
  | none => rfl
  | some o => rw [(s1.trans s2) p o z] at hp; cases hp
end
end FB

namespace FB
open PySem PySem.Spec PyProof.Rows L2 DL FM
section
variable {P : Program} {w : World} {K : PySem.W.Frag} {mg : Str → Option Value} {base : Heap}
/-- a value that is a door of the class C -/
def kwDoor (P : Program) (w : World) (K : PySem.W.Frag) (mg : Str → Option Value) (base : Heap) (k : Nat) (C : Addr) : Kw := ⟨DoorV P w K mg base k C, fun _ _ _ s h => h.up s⟩
/-- a list of such doors -/
def kwDoors (P : Program) (w : World) (K : PySem.W.Frag) (mg : Str → Option Value) (base : Heap) (k : Nat) (C : Addr) : Kw :=
  ⟨fun G v => ∃ a vs, v = .ref a ∧ G a = some (.lst vs) ∧ vs.length ≤ 100 ∧ ∀ x ∈ vs, DoorV P w K mg base k C G x, fun _ _ _ s ⟨a, vs, e, h, l, q⟩ => ⟨a, vs, e, s _ _ h, l, fun x hx => (q x hx).up s⟩⟩
theorem ee_tried {X : Cx} {ρ : List Sl} {x : Str} {k : Nat} {p px pos : Pos} {Φ : PyData → List Sl → Prop} {cs : List (Addr × Str)} {C : Addr} {nm : Str} (i : Nat) (cl : DL.Cal X "_law_tried" ["deed"] (spTried X.prog X.w X.K X.mg X.base k cs)) (hs : ρ[i]? = some (.any (kwDoor X.prog X.w X.K X.mg X.base k C))) (hm : (C, nm) ∈ cs) (q : Φ (.tuple [.str nm]) ρ)
    (hN : X.N[i]? = some x := by rfl) (hv : Vis X.env.scope x := by first | exact Or.inl rfl | exact Or.inr (Or.inl rfl) | exact Or.inr (Or.inr rfl)) (hg : Gl X "_law_tried" := by rfl) (hd : (x == ("__debug__" : Str)) = false := by decide) (hcd : (x == ("__classdict__" : Str)) = false := by decide)
    (he : starEach [.Name x px] X.env = (false, eval (.Name x px) X.env) :: starEach [] X.env := by rfl) : EE X ρ (.Call (.Name "_law_tried" p) [.Name x px] [] pos) Φ := fun F σ H Q S kk => by
  obtain ⟨j, hr, f, fd, G, hmg, kp, bd⟩ := cl
  obtain ⟨y, e1, v, e2, D⟩ := S.sl.get hs
  subst e2
  refine ofPE (pe_call G hr hg hmg kp bd .nil pass0 (pa_cons (pe_var hN hv hd hcd) pa_nil he)) ⟨v, e1, v, C, nm, rfl, DoorV.up mask_le D, hm, fun p2 H' sm hp e => ?_⟩
  refine kk (.ref p2) H' _ ρ q (S.ext sm) (S.gext sm) (.tup ((mask_out fun m => S.ad p2 m hp).trans e) (.cons (.str nm) .nil))
def spRefused (P : Program) (w : World) (K : PySem.W.Frag) (mg : Str → Option Value) (base : Heap) (k : Nat) (cs : List (Addr × Str)) : Sp := fun vs H Q _ =>
  ∃ (v : V) (C : Addr) (nm : Str), vs = [v, .str nm] ∧ (kwDoors P w K mg base k C).R H v ∧ (C, nm) ∈ cs ∧ ∀ H', Same H H' → Q (.bl true) H'
theorem sc_refused : FnScope ["doors", "word", "door"] ["doors", "word"] (defScope s__law_refused) := ⟨rfl, rfl, rfl, by decide +kernel, rfl, by decide +kernel, by decide +kernel⟩
abbrev refX (P : Program) (w : World) (K : PySem.W.Frag) (mg : Str → Option Value) (base : Heap) (f : Addr) (cdv : Value) (A : Around) (outer : List Env) (s : Shared) (H : Hp) (E : XK) : Cx :=
  (cxOf CX0 P w K mg base ["doors", "word", "door"] "_law_refused" (defScope s__law_refused) f cdv A outer s H E).nox
theorem no_mem {a : Addr} {p : Prop} (m : a ∈ ([] : List Addr)) : p := nomatch m
theorem gh_nil {F : Fm} {ρ : List Sl} {H : Hp} (h : os ρ = []) : gh F ρ H = mask F.hd H := by
  show mask (F.hd ++ os ρ) H = _
  rw [h, List.append_nil]
theorem stt_back {F : Fm} {H H' : Hp} {σ σ' : L2.St} {ρ ρ' : List Sl} (S : Stt F H σ ρ) (S' : Stt F H' σ' ρ') (ho : os ρ = []) (g : Same (mask F.hd H) (mask F.hd H')) : Stt F H' σ ρ := by
  refine ⟨S'.hd, S'.fr, S'.dm, by rw [ho]; exact List.nodup_nil, (fun a m => by rw [ho] at m; cases m), (fun a m => by rw [ho] at m; cases m), ?_⟩
  have h := S.sl
  rw [gh_nil ho] at h ⊢
  exact h.up g fun a m => by rw [ho] at m; cases m
/-- [1 for door in doors if _law_tried(door) != (word,)] finds none -/
theorem ee_lcDoors {X : Cx} {scope : Scope} {k : Nat} {cs : List (Addr × Str)} {C : Addr} {nm : Str} {p0 px pos pk ptw pdn pc pw pt pe : Pos} {kt j1 : Nat} {s2 : Sl} {Φ : PyData → List Sl → Prop} (ck : CK X) (l3 : X.N.length = 3) (ok : BlkOk X.N X.env.scope scope [("door", 2)]) (hm : (C, nm) ∈ cs) (ad : s2.ad = [])
    (cl : DL.Cal X "_law_tried" ["deed"] (spTried X.prog X.w X.K X.mg X.base k cs)) (q : Φ (.list []) [.any (kwDoors X.prog X.w X.K X.mg X.base k C), .dat (.str nm), s2])
    (hv0 : PE X (.Name "doors" p0) (tVar 0)) (gd : ∀ (s : Shared) (H : Hp) (C : Addr) (cl : List (Str × Addr)) (fp : List Addr), PG (X.blk s H scope (compEnvC scope cl C X.env) fp) (.Name "door" px) (gName 2))
    (et : ∀ (s : Shared) (H : Hp) (Ca : Addr) (cl : List (Str × Addr)) (fp : List Addr), ET (X.blk s H scope (compEnvC scope cl Ca X.env) fp) [.non, .dat (.str nm), .any (kwDoor X.prog X.w X.K X.mg X.base k C)] (.Compare (.Call (.Name "_law_tried" ptw) [.Name "door" pdn] [] pc) [.NotEq] [.Tuple [.Name "word" pw] kt pt] pe) fun c _ => c = false) :
    EE X [.any (kwDoors X.prog X.w X.K X.mg X.base k C), .dat (.str nm), s2] (.ListComp (.Constant (.int 1) j1 pk) [⟨.Name "door" px, .Name "doors" p0, [.Compare (.Call (.Name "_law_tried" ptw) [.Name "door" pdn] [] pc) [.NotEq] [.Tuple [.Name "word" pw] kt pt] pe], 0⟩] scope pos) Φ := fun F σ H Q S kk => by
  refine ofPE (pe_lc (own := [("door", 2)]) (g := gName 2) (tt := lcT X scope _) (te := tC (.int 1)) ck.calm ck.nd (pi_list hv0) ok gd (fun s H C cl fp => ⟨fun pins s' σ H' Q I h => ptsW.run pins s' σ H' Q I (h s H C cl fp)⟩) (fun _ _ _ _ _ => pe_int)) ?_
  obtain ⟨y, e1, v, e2, a, vs, ev, eG, lv, doors⟩ := S.sl.get (i := 0) rfl
  subst e2
  subst ev
  have eH := mask_le _ _ eG
  have len : σ.length = 3 := S.len
  have noo : os [.any (kwDoors X.prog X.w X.K X.mg X.base k C), .dat (.str nm), s2] = [] := by
    show [] ++ ([] ++ (s2.ad ++ [])) = []
    rw [ad]
    rfl
  refine ⟨_, e1, a, rfl, ⟨_, .of eH⟩, fun D hD => ⟨fun i m H' => m = vs.length - i ∧ i ≤ vs.length ∧ (∃ σ' ρ', Stt F H' σ' ρ') ∧ Same (mask F.hd H) (mask F.hd H') ∧ H' D = some (.lst []), ⟨_, rfl, Nat.zero_le _, ⟨_, _, S.ext (same_new hD)⟩, mask_same (same_new hD), upd_same⟩, ?_⟩⟩
  rintro i m H' ⟨rfl, hi, ⟨σ', ρ', S'⟩, sm, eD⟩
  have S1 := stt_back S S' noo sm
  have eG1 : H' a = some (.lst vs) := mask_le _ _ (sm _ _ (by rw [← gh_nil noo]; exact eG))
  have eq : SqL X.K H' a vs := .of eG1
  have nD : D ∉ F.hd := fun m => S.hd D m hD
  by_cases hlt : i < vs.length
  · obtain ⟨x, hx⟩ : ∃ x, vs[i]? = some x := ⟨_, List.getElem?_eq_getElem hlt⟩
    refine .inr ⟨⟨_, x, eq, hx⟩, fun H2 => (∃ σ' ρ', Stt F H2 σ' ρ') ∧ Same (mask F.hd H) (mask F.hd H2) ∧ H2 D = some (.lst []), fun H2 ⟨x0, x1, x2⟩ => ⟨vs.length - (i + 1), by omega, rfl, hlt, x0, x1, x2⟩, ?_⟩
    rintro x' H2 ⟨rfl, hx'⟩
    have this := hx' _ eq
    rw [hx] at this
    cases this
    refine ⟨?_, fun s Hb Ca cl fp => ?_⟩
    · show ((List.set (σ.set 2 none) 2 (some x)).set 2 none) = σ.set 2 none
      rw [List.set_set, List.set_set]
    · obtain ⟨b0, b1, b2, rfl⟩ : ∃ b0 b1 b2, σ = [b0, b1, b2] := by
        match σ, len with
        | [b0, b1, b2], _ => exact ⟨b0, b1, b2, rfl⟩
      have sl := S1.sl
      rw [gh_nil noo] at sl
      have S2 : Stt F H2 [b0, b1, some x] [.non, .dat (.str nm), .any (kwDoor X.prog X.w X.K X.mg X.base k C)] := by
        refine ⟨S1.hd, S1.fr, S1.dm, List.nodup_nil, (fun a m => nomatch m), (fun a m => nomatch m), ?_⟩
        rw [gh_nil (show os [Sl.non, .dat (.str nm), .any (kwDoor X.prog X.w X.K X.mg X.base k C)] = [] from rfl)]
        refine ⟨trivial, sl.2.1, ⟨x, rfl, ?_⟩, trivial⟩
        have dx := doors x (List.mem_of_getElem? hx)
        rw [gh_nil noo] at dx
        exact dx.up sm
      exact et s Hb Ca cl fp F _ H2 _ S2 fun b H3 ρ3 hb S3 g3 => by
        subst hb
        dsimp only
        rw [if_neg Bool.false_ne_true]
        have g4 : Same (mask F.hd H2) (mask F.hd H3) := by
          rw [gh_nil (show os [Sl.non, .dat (.str nm), .any (kwDoor X.prog X.w X.K X.mg X.base k C)] = [] from rfl)] at g3
          exact g3.trans (mask_sub fun a m => List.mem_append_left _ m)
        exact ⟨⟨_, _, S3⟩, sm.trans g4, mask_le _ _ (g4 _ _ ((mask_out nD).trans eD))⟩
  · have e0 : i = vs.length := by omega
    subst e0
    refine .inl ⟨⟨_, eq, Nat.le_refl _⟩, kk (.ref D) H' _ _ q S1 (by rw [gh_nil noo, gh_nil noo]; exact sm) ?_⟩
    rw [gh_nil noo]
    exact .lst ((mask_out nD).trans eD) .nil
theorem ok_refused {f : Addr} {fd : FuncData} {k : Nat} {cs : List (Addr × Str)} (F : Fun K "_law_refused" "_law_refused" s__law_refused f fd) (T : GT mg) (shp : ∀ p ∈ cs, Shp 1 (.tuple [.str p.2])) (g : Kn P w K mg base (k + 2) "_law_tried" ["deed"] (spTried P w K mg base k cs)) :
    FnOk P w K mg base CX0 (k + 3) f fd ["doors", "word"] (spRefused P w K mg base k cs) := by
  refine F.ok sc_refused (fun vs H Q E h => ?_) (fun cdv A outer s H vs Q E hr h => ?_)
  · obtain ⟨v, C, nm, rfl, _⟩ := h
    rfl
  obtain ⟨v, C, nm, rfl, kd, mem, kk⟩ := h
  have ck : CK (refX P w K mg base f cdv A outer s H E) := ⟨rfl, sc_refused.nd, by
    show (A.deeper (envOfC "_law_refused" (defScope s__law_refused) s.heap.objs.size f cdv)).units + 100 < cLine
    have := hr.un
    omega, T.b⟩
  have sh := shp _ mem
  have bb : BB (refX P w K mg base f cdv A outer s H E) [.any (kwDoors P w K mg base k C), .dat (.str nm), .non] (defBody s__law_refused) { nx := fun _ => False, rt := fun d _ => d = .bool true } := by
    refine bb_one <| ss_ret <| ee_cmp <| ee_lcDoors (k := k) (cs := cs) (C := C) (nm := nm) ck rfl (blkOk_by rfl) mem rfl ⟨_, hr, g⟩ (ee_lst <| ea_nil <| ⟨by decide, br_eq ck ⟨⟨by decide +kernel, by decide +kernel⟩, rfl⟩⟩) (pe_var rfl (by first | exact Or.inl rfl | exact Or.inr (Or.inl rfl) | exact Or.inr (Or.inr rfl)) (by decide) (by decide)) (fun _ _ _ _ _ => pg_name (i := 2) ck.nd rfl (Or.inl rfl)) (fun _ _ _ _ _ => ?_)
    exact et_cmp <| ee_tried (k := k) (cs := cs) (C := C) (nm := nm) 2 ⟨_, hr, g⟩ rfl mem <| ee_tup <| ea_cons <| ee_var 1 rfl <| ea_nil <| ⟨(show 1 ≤ 1000000 by decide), br_ne ck.blk ⟨⟨sh.ok, sh.ok⟩, by rw [sh.refl]; rfl⟩⟩
  refine ⟨_, pssW, ?_⟩
  have St : Stt ⟨[], [], H⟩ H (start ["doors", "word", "door"] [v, .str nm]) [.any (kwDoors P w K mg base k C), .dat (.str nm), .non] := by
    refine ⟨(fun a m => no_mem m), fun a o _ e => e, fun a e => e, List.nodup_nil, (fun a m => no_mem m), (fun a m => no_mem m), ?_⟩
    refine ⟨⟨v, rfl, (kwDoors P w K mg base k C).up _ _ _ (fun a o e => (mask_out (fun m => no_mem m)).trans e) kd⟩, ⟨_, rfl, .str nm⟩, trivial, trivial⟩
  refine bb ⟨[], [], H⟩ _ H _ St ⟨fun σ' H' ρ' hq _ _ => hq.elim, fun u σ' H' d ρ' hq S' g' r => ?_, fun σ' H' ρ' hq _ _ => hq.elim, fun σ' H' ρ' hq _ _ => hq.elim⟩
  subst hq
  cases r
  exact kk H' fun a o e => S'.fr a o (fun z => nomatch z) e
end
end FB

namespace FB
open PySem PySem.Spec PyProof.Rows L2 DL FM
section
variable {P : Program} {w : World} {K : PySem.W.Frag} {mg : Str → Option Value} {base : Heap}
/-- what refuses -/
structure GX (P : Program) (w : World) (K : PySem.W.Frag) (mg : Str → Option Value) (base : Heap) (k : Nat) (NF NB NC : Addr) : Prop where
  is_story : KnX P w K mg base k "is_story" ["ferry", "book", "thing"] (spX (S_la3X NF NB))
  can_be : KnX P w K mg base k "can_be" ["ferry", "book"] (spX (S_laX NF NB))
  first_bar : KnX P w K mg base k "first_bar" ["ferry", "book"] (spX (S_laX NF NB))
  stairs : KnX P w K mg base k "stairs" ["ferry", "book"] (spX (S_laX NF NB))
  fewest_row : KnX P w K mg base k "fewest_row" ["ferry", "book"] (spX (S_laX NF NB))
  most_row : KnX P w K mg base k "most_row" ["ferry", "book"] (spX (S_laX NF NB))
  how_many : KnX P w K mg base k "how_many" ["ferry", "book"] (spX (S_laX NF NB))
  came : KnX P w K mg base k "came" ["ferry", "book", "comer"] (spX (S_cameX NF NB NC))
  waits : KnX P w K mg base k "waits" ["ferry", "book"] (spX (S_laX NF NB))
  there : KnX P w K mg base k "there" ["ferry", "book"] (spX (S_laX NF NB))
  mends : KnX P w K mg base k "mends" ["ferry", "book"] (spX (S_laX NF NB))
/-- the i-th thing of a written list, in the ways of the body -/
def lamAt : Stmt → Nat → Expr
  | .Assign _ (.List es _) _, i => es.getD i (.Constant .none 0 ⟨0, 0, 0, 0⟩)
  | .Assign _ (.BinOp _ _ (.List es _) _) _, i => es.getD i (.Constant .none 0 ⟨0, 0, 0, 0⟩)
  | .Return (some (.BinOp _ _ (.List es _) _)) _, i => es.getD i (.Constant .none 0 ⟨0, 0, 0, 0⟩)
  | _, _ => .Constant .none 0 ⟨0, 0, 0, 0⟩
def lamPs : Expr → Arguments
  | .Lambda a _ _ _ => a
  | _ => ⟨[], [], none, [], [], none, []⟩
def lamBd : Expr → Expr
  | .Lambda _ b _ _ => b
  | e => e
def lamSc : Expr → Scope
  | .Lambda _ _ s _ => s
  | _ => ⟨.function, [], false, false, []⟩
abbrev lamD (i : Nat) : Expr := lamAt ((defBody s__law_doors).getD (i / 3) (.Pass ⟨0, 0, 0, 0⟩)) (i % 3)
abbrev nsD : List Str := ["x", "ferry1"]
theorem lt_is_story (q : Str) : LamT q (lamPs (lamD 0)) (lamBd (lamD 0)) (lamSc (lamD 0)) nsD := ⟨rfl, rfl, rfl, by decide +kernel, by decide +kernel, by decide +kernel, fun _ _ _ _ => rfl⟩
theorem lok_is_story {k : Nat} {NF NB NC C : Addr} {d0 d1 : PyData} {q : Str} (T : GT mg) (g : GX P w K mg base k NF NB NC) (bad : BadFB NF NB d0 d1 C) : LamOk P w K mg base k q (lamPs (lamD 0)) (lamBd (lamD 0)) (lamSc (lamD 0)) nsD [d1, d0] C :=
  lamOk_of (lt_is_story q) T.b fun A outer s H E cl f c' F hr ck z => ef_call z ⟨_, hr, g.is_story⟩ <| ea_cons <| ee_var 1 rfl <| ea_cons <| ee_var 0 rfl <| ea_cons <| ee_non <| ea_nil <| ⟨_, _, _, rfl, bad⟩
theorem lt_can_be (q : Str) : LamT q (lamPs (lamD 1)) (lamBd (lamD 1)) (lamSc (lamD 1)) nsD := ⟨rfl, rfl, rfl, by decide +kernel, by decide +kernel, by decide +kernel, fun _ _ _ _ => rfl⟩
theorem lok_can_be {k : Nat} {NF NB NC C : Addr} {d0 d1 : PyData} {q : Str} (T : GT mg) (g : GX P w K mg base k NF NB NC) (bad : BadFB NF NB d0 d1 C) : LamOk P w K mg base k q (lamPs (lamD 1)) (lamBd (lamD 1)) (lamSc (lamD 1)) nsD [d1, d0] C :=
  lamOk_of (lt_can_be q) T.b fun A outer s H E cl f c' F hr ck z => ef_call z ⟨_, hr, g.can_be⟩ <| ea_cons <| ee_var 1 rfl <| ea_cons <| ee_var 0 rfl <| ea_nil <| ⟨_, _, rfl, bad⟩
theorem lt_first_bar (q : Str) : LamT q (lamPs (lamD 2)) (lamBd (lamD 2)) (lamSc (lamD 2)) nsD := ⟨rfl, rfl, rfl, by decide +kernel, by decide +kernel, by decide +kernel, fun _ _ _ _ => rfl⟩
theorem lok_first_bar {k : Nat} {NF NB NC C : Addr} {d0 d1 : PyData} {q : Str} (T : GT mg) (g : GX P w K mg base k NF NB NC) (bad : BadFB NF NB d0 d1 C) : LamOk P w K mg base k q (lamPs (lamD 2)) (lamBd (lamD 2)) (lamSc (lamD 2)) nsD [d1, d0] C :=
  lamOk_of (lt_first_bar q) T.b fun A outer s H E cl f c' F hr ck z => ef_call z ⟨_, hr, g.first_bar⟩ <| ea_cons <| ee_var 1 rfl <| ea_cons <| ee_var 0 rfl <| ea_nil <| ⟨_, _, rfl, bad⟩
theorem lt_stairs (q : Str) : LamT q (lamPs (lamD 3)) (lamBd (lamD 3)) (lamSc (lamD 3)) nsD := ⟨rfl, rfl, rfl, by decide +kernel, by decide +kernel, by decide +kernel, fun _ _ _ _ => rfl⟩
theorem lok_stairs {k : Nat} {NF NB NC C : Addr} {d0 d1 : PyData} {q : Str} (T : GT mg) (g : GX P w K mg base k NF NB NC) (bad : BadFB NF NB d0 d1 C) : LamOk P w K mg base k q (lamPs (lamD 3)) (lamBd (lamD 3)) (lamSc (lamD 3)) nsD [d1, d0] C :=
  lamOk_of (lt_stairs q) T.b fun A outer s H E cl f c' F hr ck z => ef_call z ⟨_, hr, g.stairs⟩ <| ea_cons <| ee_var 1 rfl <| ea_cons <| ee_var 0 rfl <| ea_nil <| ⟨_, _, rfl, bad⟩
theorem lt_fewest_row (q : Str) : LamT q (lamPs (lamD 4)) (lamBd (lamD 4)) (lamSc (lamD 4)) nsD := ⟨rfl, rfl, rfl, by decide +kernel, by decide +kernel, by decide +kernel, fun _ _ _ _ => rfl⟩
theorem lok_fewest_row {k : Nat} {NF NB NC C : Addr} {d0 d1 : PyData} {q : Str} (T : GT mg) (g : GX P w K mg base k NF NB NC) (bad : BadFB NF NB d0 d1 C) : LamOk P w K mg base k q (lamPs (lamD 4)) (lamBd (lamD 4)) (lamSc (lamD 4)) nsD [d1, d0] C :=
  lamOk_of (lt_fewest_row q) T.b fun A outer s H E cl f c' F hr ck z => ef_call z ⟨_, hr, g.fewest_row⟩ <| ea_cons <| ee_var 1 rfl <| ea_cons <| ee_var 0 rfl <| ea_nil <| ⟨_, _, rfl, bad⟩
theorem lt_most_row (q : Str) : LamT q (lamPs (lamD 5)) (lamBd (lamD 5)) (lamSc (lamD 5)) nsD := ⟨rfl, rfl, rfl, by decide +kernel, by decide +kernel, by decide +kernel, fun _ _ _ _ => rfl⟩
theorem lok_most_row {k : Nat} {NF NB NC C : Addr} {d0 d1 : PyData} {q : Str} (T : GT mg) (g : GX P w K mg base k NF NB NC) (bad : BadFB NF NB d0 d1 C) : LamOk P w K mg base k q (lamPs (lamD 5)) (lamBd (lamD 5)) (lamSc (lamD 5)) nsD [d1, d0] C :=
  lamOk_of (lt_most_row q) T.b fun A outer s H E cl f c' F hr ck z => ef_call z ⟨_, hr, g.most_row⟩ <| ea_cons <| ee_var 1 rfl <| ea_cons <| ee_var 0 rfl <| ea_nil <| ⟨_, _, rfl, bad⟩
theorem lt_how_many (q : Str) : LamT q (lamPs (lamD 6)) (lamBd (lamD 6)) (lamSc (lamD 6)) nsD := ⟨rfl, rfl, rfl, by decide +kernel, by decide +kernel, by decide +kernel, fun _ _ _ _ => rfl⟩
theorem lok_how_many {k : Nat} {NF NB NC C : Addr} {d0 d1 : PyData} {q : Str} (T : GT mg) (g : GX P w K mg base k NF NB NC) (bad : BadFB NF NB d0 d1 C) : LamOk P w K mg base k q (lamPs (lamD 6)) (lamBd (lamD 6)) (lamSc (lamD 6)) nsD [d1, d0] C :=
  lamOk_of (lt_how_many q) T.b fun A outer s H E cl f c' F hr ck z => ef_call z ⟨_, hr, g.how_many⟩ <| ea_cons <| ee_var 1 rfl <| ea_cons <| ee_var 0 rfl <| ea_nil <| ⟨_, _, rfl, bad⟩
theorem lt_came (q : Str) : LamT q (lamPs (lamD 7)) (lamBd (lamD 7)) (lamSc (lamD 7)) nsD := ⟨rfl, rfl, rfl, by decide +kernel, by decide +kernel, by decide +kernel, fun _ _ _ _ => rfl⟩
theorem lok_came {k : Nat} {NF NB NC C : Addr} {d0 d1 : PyData} {q : Str} (T : GT mg) (g : GX P w K mg base k NF NB NC) (bad : BadFB NF NB d0 d1 C) : LamOk P w K mg base k q (lamPs (lamD 7)) (lamBd (lamD 7)) (lamSc (lamD 7)) nsD [d1, d0] C :=
  lamOk_of (lt_came q) T.b fun A outer s H E cl f c' F hr ck z => ef_call z ⟨_, hr, g.came⟩ <| ea_cons <| ee_var 1 rfl <| ea_cons <| ee_var 0 rfl <| ea_cons <| ee_non <| ea_nil <| ⟨_, _, _, rfl, .inl bad⟩
theorem lt_waits (q : Str) : LamT q (lamPs (lamD 8)) (lamBd (lamD 8)) (lamSc (lamD 8)) nsD := ⟨rfl, rfl, rfl, by decide +kernel, by decide +kernel, by decide +kernel, fun _ _ _ _ => rfl⟩
theorem lok_waits {k : Nat} {NF NB NC C : Addr} {d0 d1 : PyData} {q : Str} (T : GT mg) (g : GX P w K mg base k NF NB NC) (bad : BadFB NF NB d0 d1 C) : LamOk P w K mg base k q (lamPs (lamD 8)) (lamBd (lamD 8)) (lamSc (lamD 8)) nsD [d1, d0] C :=
  lamOk_of (lt_waits q) T.b fun A outer s H E cl f c' F hr ck z => ef_call z ⟨_, hr, g.waits⟩ <| ea_cons <| ee_var 1 rfl <| ea_cons <| ee_var 0 rfl <| ea_nil <| ⟨_, _, rfl, bad⟩
theorem lt_there (q : Str) : LamT q (lamPs (lamD 9)) (lamBd (lamD 9)) (lamSc (lamD 9)) nsD := ⟨rfl, rfl, rfl, by decide +kernel, by decide +kernel, by decide +kernel, fun _ _ _ _ => rfl⟩
theorem lok_there {k : Nat} {NF NB NC C : Addr} {d0 d1 : PyData} {q : Str} (T : GT mg) (g : GX P w K mg base k NF NB NC) (bad : BadFB NF NB d0 d1 C) : LamOk P w K mg base k q (lamPs (lamD 9)) (lamBd (lamD 9)) (lamSc (lamD 9)) nsD [d1, d0] C :=
  lamOk_of (lt_there q) T.b fun A outer s H E cl f c' F hr ck z => ef_call z ⟨_, hr, g.there⟩ <| ea_cons <| ee_var 1 rfl <| ea_cons <| ee_var 0 rfl <| ea_nil <| ⟨_, _, rfl, bad⟩
theorem lt_mends (q : Str) : LamT q (lamPs (lamD 10)) (lamBd (lamD 10)) (lamSc (lamD 10)) nsD := ⟨rfl, rfl, rfl, by decide +kernel, by decide +kernel, by decide +kernel, fun _ _ _ _ => rfl⟩
theorem lok_mends {k : Nat} {NF NB NC C : Addr} {d0 d1 : PyData} {q : Str} (T : GT mg) (g : GX P w K mg base k NF NB NC) (bad : BadFB NF NB d0 d1 C) : LamOk P w K mg base k q (lamPs (lamD 10)) (lamBd (lamD 10)) (lamSc (lamD 10)) nsD [d1, d0] C :=
  lamOk_of (lt_mends q) T.b fun A outer s H E cl f c' F hr ck z => ef_call z ⟨_, hr, g.mends⟩ <| ea_cons <| ee_var 1 rfl <| ea_cons <| ee_var 0 rfl <| ea_nil <| ⟨_, _, rfl, bad⟩
end
end FB

namespace FB
open PySem PySem.Spec PyProof.Rows L2 DL FM
section
variable {P : Program} {w : World} {K : PySem.W.Frag} {mg : Str → Option Value} {base : Heap}
abbrev qD : Str := (("_law_doors" : Str) ++ ".<locals>.") ++ "<lambda>"
abbrev clD (n : Nat) : List (Str × Addr) := [("x", n + 1 + 1), ("ferry1", n + 1)]
/-- a door, whatever it refuses -/
def kwDrs (P : Program) (w : World) (K : PySem.W.Frag) (mg : Str → Option Value) (base : Heap) (k : Nat) (bad : Addr → Prop) : Kw := ⟨fun G v => ∀ C, bad C → DoorV P w K mg base k C G v, fun _ _ _ s h C b => (h C b).up s⟩
def spDoors (P : Program) (w : World) (K : PySem.W.Frag) (mg : Str → Option Value) (base : Heap) (k : Nat) (bad : PyData → PyData → Addr → Prop) (T : Addr) (q : Str) : Sp := fun vs H Q _ =>
  ∃ (hd : List Addr) (v0 v1 : V) (d0 d1 : PyData), vs = [v0, v1] ∧ T ∉ hd ∧ (∀ a ∈ hd, H a ≠ none) ∧ TbAt (mask (T :: hd) H) H T q ∧ Rp (mask (T :: hd) H) v0 d0 ∧ Rp (mask (T :: hd) H) v1 d1 ∧
    ∀ v H', (∀ a o, a ≠ T → H a = some o → H' a = some o) → TbAt (mask (T :: hd) H') H' T q → (kwList (List.replicate 11 (kwDrs P w K mg base k (bad d0 d1)))).R (mask (T :: hd) H') v → Q v H'
def retE : Stmt → Expr
  | .Return (some e) _ => e
  | _ => .Constant .none 0 ⟨0, 0, 0, 0⟩
theorem sc_doors : FnScope ["ferry1", "x", "found", "#tb"] ["ferry1", "x"] (defScope s__law_doors) := ⟨rfl, rfl, rfl, by decide +kernel, rfl, by decide +kernel, by decide +kernel⟩
theorem ks_conv {G G2 : Hp} {r2 : Kw} : ∀ {vs : List V} {rs : List Kw}, (∀ r ∈ rs, ∀ v, r.R G v → r2.R G2 v) → KsOk G vs rs → KsOk G2 vs (List.replicate rs.length r2)
  | [], [], _, _ => trivial
  | v :: vs, r :: rs, h, k => ⟨h r (.head _) v k.1, ks_conv (fun r m => h r (.tail _ m)) k.2⟩
  | [], _ :: _, _, k => k.elim
  | _ :: _, [], _, k => k.elim
theorem lam_door {k n : Nat} {C : Addr} {d0 d1 : PyData} {q : Str} {params : Arguments} {body : Expr} {scope : Scope} {G : Hp} {v : V} (L : LamOk P w K mg base k q params body scope nsD [d1, d0] C) (c0 : CellV G (n + 1) d0) (c1 : CellV G (n + 1 + 1) d1)
    (h : (kwLam q params body scope (clD n)).R G v) : DoorV P w K mg base k C G v := by
  obtain ⟨f, c', pm, ctv, e, h1, h2⟩ := h
  refine ⟨f, c', q, params, body, scope, clD n, pm, ctv, [d1, d0], e, h1, h2, ?_, ⟨c1, c0, trivial⟩, L⟩
  refine List.nodup_cons.mpr ⟨fun m => ?_, List.nodup_cons.mpr ⟨(fun m => nomatch m), List.nodup_nil⟩⟩
  exact absurd (List.mem_singleton.mp m) (Nat.succ_ne_self (n + 1))
theorem ok_doors {f : Addr} {fd : FuncData} {k : Nat} {NF NB NC c T : Addr} (F : Fun K "_law_doors" "_law_doors" s__law_doors f fd) (Tx : GT mg) (g : GX P w K mg base k NF NB NC) (hc : fd.code = .ref c) (B : LamX.TabB base mg c T) :
    FnOk P w K mg base CX0 1 f fd ["ferry1", "x"] (spDoors P w K mg base k (BadFB NF NB) T qD) := by
  refine fn_raw (k := 0) F sc_doors (fun vs H Q E h => ?_) (fun cdv A outer s H vs Q E hcd hr h s1 I => ?_)
  · obtain ⟨hd, v0, v1, d0, d1, rfl, _⟩ := h
    rfl
  obtain ⟨hd, v0, v1, d0, d1, rfl, nT, hh, tb, r0, r1, kk⟩ := h
  obtain rfl : cdv = .ref c := hcd.symm.trans hc
  have ck : CK (cxOf CX0 P w K mg base ["ferry1", "x", "found", "#tb"] "_law_doors" (defScope s__law_doors) f (.ref c) A outer s H E).nox := ⟨rfl, sc_doors.nd, by
    show (A.deeper (envOfC "_law_doors" (defScope s__law_doors) s.heap.objs.size f (.ref c))).units + 100 < cLine
    have := hr.un
    omega, Tx.b⟩
  have hcode : (cxOf CX0 P w K mg base ["ferry1", "x", "found", "#tb"] "_law_doors" (defScope s__law_doors) f (.ref c) A outer s H E).nox.env.code = .ref c := rfl
  have mk1 : ∀ {H' : Hp}, Same (mask (T :: hd) H') (mask (hd ++ [T]) H') := fun {H'} => mask_sub fun a m => by
    rcases List.mem_append.mp m with z | z
    · exact List.mem_cons_of_mem _ z
    · rw [List.mem_singleton.mp z]; exact List.mem_cons_self
  have mk2 : ∀ {H' : Hp}, Same (mask (hd ++ [T]) H') (mask (T :: hd) H') := fun {H'} => mask_sub fun a m => by
    rcases List.mem_cons.mp m with z | z
    · rw [z]; exact List.mem_append_right _ List.mem_cons_self
    · exact List.mem_append_left _ z
  have hT : H T ≠ none := by
    obtain ⟨ps, e, _⟩ := tb
    rw [e]
    exact fun z => nomatch z
  have S0 : Stt ⟨hd, [T], H⟩ H (L2.start ["ferry1", "x", "found", "#tb"] [v0, v1]) [.dat d0, .dat d1, .non, .tb T qD] := by
    refine ⟨hh, fun a o _ e => e, fun a e => e, List.nodup_cons.mpr ⟨(fun m => nomatch m), List.nodup_nil⟩, fun a m => .inl m, fun a m z => ?_, ?_⟩
    · rw [List.mem_singleton.mp (show a ∈ [T] from m)] at z
      exact nT z
    · exact ⟨⟨v0, rfl, Rp.up mk1 _ _ r0⟩, ⟨v1, rfl, Rp.up mk1 _ _ r1⟩, trivial, SlotOk.up (s := .tb T qD) (x := none) (H := H) tb mk1 (fun _ _ _ e => e), trivial⟩
  have D1 : ∀ {σ' : L2.St} {H' : Hp}, Stt ⟨hd, [T], H⟩ H' σ' [.dat d0, .dat d1, .non, .tb T qD] → tS (cxOf CX0 P w K mg base ["ferry1", "x", "found", "#tb"] "_law_doors" (defScope s__law_doors) f (.ref c) A outer s H E).nox ((defBody s__law_doors).getD 0 (.Pass ⟨0, 0, 0, 0⟩)) { nx := fun σ2 H2 => Stt ⟨hd, [T], H⟩ H2 σ2 [.dat d0, .dat d1, .any (kwList [kwLam qD (lamPs (lamD 0)) (lamBd (lamD 0)) (lamSc (lamD 0)) (clD s.heap.objs.size), kwLam qD (lamPs (lamD 1)) (lamBd (lamD 1)) (lamSc (lamD 1)) (clD s.heap.objs.size), kwLam qD (lamPs (lamD 2)) (lamBd (lamD 2)) (lamSc (lamD 2)) (clD s.heap.objs.size)]), .tb T qD], rt := fun _ _ => False } σ' H' := fun {σ' H'} S => by
    exact (ss_setV (D := { nx := fun ρ' => ρ' = [.dat d0, .dat d1, .any (kwList [kwLam qD (lamPs (lamD 0)) (lamBd (lamD 0)) (lamSc (lamD 0)) (clD s.heap.objs.size), kwLam qD (lamPs (lamD 1)) (lamBd (lamD 1)) (lamSc (lamD 1)) (clD s.heap.objs.size), kwLam qD (lamPs (lamD 2)) (lamBd (lamD 2)) (lamSc (lamD 2)) (clD s.heap.objs.size)]), .tb T qD], rt := fun _ _ => False }) 2 ck (ev_lst <| evs_cons <| ev_lam 3 rfl B hcode rfl <| evs_cons <| ev_lam 3 rfl B hcode rfl <| evs_cons <| ev_lam 3 rfl B hcode rfl <| evs_nil <| ⟨(show 3 ≤ 1000 by decide), rfl⟩)) ⟨hd, [T], H⟩ σ' H' _ S ⟨fun σ2 H2 ρ' e S2 _ => e ▸ S2, fun _ _ _ _ _ z _ _ _ => z.elim, fun _ _ _ z _ _ => z.elim, fun _ _ _ z _ _ => z.elim⟩
  have D2 : ∀ {σ' : L2.St} {H' : Hp}, Stt ⟨hd, [T], H⟩ H' σ' [.dat d0, .dat d1, .any (kwList [kwLam qD (lamPs (lamD 0)) (lamBd (lamD 0)) (lamSc (lamD 0)) (clD s.heap.objs.size), kwLam qD (lamPs (lamD 1)) (lamBd (lamD 1)) (lamSc (lamD 1)) (clD s.heap.objs.size), kwLam qD (lamPs (lamD 2)) (lamBd (lamD 2)) (lamSc (lamD 2)) (clD s.heap.objs.size)]), .tb T qD] → tS (cxOf CX0 P w K mg base ["ferry1", "x", "found", "#tb"] "_law_doors" (defScope s__law_doors) f (.ref c) A outer s H E).nox ((defBody s__law_doors).getD 1 (.Pass ⟨0, 0, 0, 0⟩)) { nx := fun σ2 H2 => Stt ⟨hd, [T], H⟩ H2 σ2 [.dat d0, .dat d1, .any (kwList [kwLam qD (lamPs (lamD 0)) (lamBd (lamD 0)) (lamSc (lamD 0)) (clD s.heap.objs.size), kwLam qD (lamPs (lamD 1)) (lamBd (lamD 1)) (lamSc (lamD 1)) (clD s.heap.objs.size), kwLam qD (lamPs (lamD 2)) (lamBd (lamD 2)) (lamSc (lamD 2)) (clD s.heap.objs.size), kwLam qD (lamPs (lamD 3)) (lamBd (lamD 3)) (lamSc (lamD 3)) (clD s.heap.objs.size), kwLam qD (lamPs (lamD 4)) (lamBd (lamD 4)) (lamSc (lamD 4)) (clD s.heap.objs.size), kwLam qD (lamPs (lamD 5)) (lamBd (lamD 5)) (lamSc (lamD 5)) (clD s.heap.objs.size)]), .tb T qD], rt := fun _ _ => False } σ' H' := fun {σ' H'} S => by
    exact (ss_setV (D := { nx := fun ρ' => ρ' = [.dat d0, .dat d1, .any (kwList [kwLam qD (lamPs (lamD 0)) (lamBd (lamD 0)) (lamSc (lamD 0)) (clD s.heap.objs.size), kwLam qD (lamPs (lamD 1)) (lamBd (lamD 1)) (lamSc (lamD 1)) (clD s.heap.objs.size), kwLam qD (lamPs (lamD 2)) (lamBd (lamD 2)) (lamSc (lamD 2)) (clD s.heap.objs.size), kwLam qD (lamPs (lamD 3)) (lamBd (lamD 3)) (lamSc (lamD 3)) (clD s.heap.objs.size), kwLam qD (lamPs (lamD 4)) (lamBd (lamD 4)) (lamSc (lamD 4)) (clD s.heap.objs.size), kwLam qD (lamPs (lamD 5)) (lamBd (lamD 5)) (lamSc (lamD 5)) (clD s.heap.objs.size)]), .tb T qD], rt := fun _ _ => False }) 2 ck (ev_add <| ev_var 2 rfl <| ev_lst <| evs_cons <| ev_lam 3 rfl B hcode rfl <| evs_cons <| ev_lam 3 rfl B hcode rfl <| evs_cons <| ev_lam 3 rfl B hcode rfl <| evs_nil <| (by exact ⟨(show 3 ≤ 1000 by decide), _, _, rfl, rfl, (show 3 + 3 ≤ 1000 by decide), rfl⟩))) ⟨hd, [T], H⟩ σ' H' _ S ⟨fun σ2 H2 ρ' e S2 _ => e ▸ S2, fun _ _ _ _ _ z _ _ _ => z.elim, fun _ _ _ z _ _ => z.elim, fun _ _ _ z _ _ => z.elim⟩
  have D3 : ∀ {σ' : L2.St} {H' : Hp}, Stt ⟨hd, [T], H⟩ H' σ' [.dat d0, .dat d1, .any (kwList [kwLam qD (lamPs (lamD 0)) (lamBd (lamD 0)) (lamSc (lamD 0)) (clD s.heap.objs.size), kwLam qD (lamPs (lamD 1)) (lamBd (lamD 1)) (lamSc (lamD 1)) (clD s.heap.objs.size), kwLam qD (lamPs (lamD 2)) (lamBd (lamD 2)) (lamSc (lamD 2)) (clD s.heap.objs.size), kwLam qD (lamPs (lamD 3)) (lamBd (lamD 3)) (lamSc (lamD 3)) (clD s.heap.objs.size), kwLam qD (lamPs (lamD 4)) (lamBd (lamD 4)) (lamSc (lamD 4)) (clD s.heap.objs.size), kwLam qD (lamPs (lamD 5)) (lamBd (lamD 5)) (lamSc (lamD 5)) (clD s.heap.objs.size)]), .tb T qD] → tS (cxOf CX0 P w K mg base ["ferry1", "x", "found", "#tb"] "_law_doors" (defScope s__law_doors) f (.ref c) A outer s H E).nox ((defBody s__law_doors).getD 2 (.Pass ⟨0, 0, 0, 0⟩)) { nx := fun σ2 H2 => Stt ⟨hd, [T], H⟩ H2 σ2 [.dat d0, .dat d1, .any (kwList [kwLam qD (lamPs (lamD 0)) (lamBd (lamD 0)) (lamSc (lamD 0)) (clD s.heap.objs.size), kwLam qD (lamPs (lamD 1)) (lamBd (lamD 1)) (lamSc (lamD 1)) (clD s.heap.objs.size), kwLam qD (lamPs (lamD 2)) (lamBd (lamD 2)) (lamSc (lamD 2)) (clD s.heap.objs.size), kwLam qD (lamPs (lamD 3)) (lamBd (lamD 3)) (lamSc (lamD 3)) (clD s.heap.objs.size), kwLam qD (lamPs (lamD 4)) (lamBd (lamD 4)) (lamSc (lamD 4)) (clD s.heap.objs.size), kwLam qD (lamPs (lamD 5)) (lamBd (lamD 5)) (lamSc (lamD 5)) (clD s.heap.objs.size), kwLam qD (lamPs (lamD 6)) (lamBd (lamD 6)) (lamSc (lamD 6)) (clD s.heap.objs.size), kwLam qD (lamPs (lamD 7)) (lamBd (lamD 7)) (lamSc (lamD 7)) (clD s.heap.objs.size), kwLam qD (lamPs (lamD 8)) (lamBd (lamD 8)) (lamSc (lamD 8)) (clD s.heap.objs.size)]), .tb T qD], rt := fun _ _ => False } σ' H' := fun {σ' H'} S => by
    exact (ss_setV (D := { nx := fun ρ' => ρ' = [.dat d0, .dat d1, .any (kwList [kwLam qD (lamPs (lamD 0)) (lamBd (lamD 0)) (lamSc (lamD 0)) (clD s.heap.objs.size), kwLam qD (lamPs (lamD 1)) (lamBd (lamD 1)) (lamSc (lamD 1)) (clD s.heap.objs.size), kwLam qD (lamPs (lamD 2)) (lamBd (lamD 2)) (lamSc (lamD 2)) (clD s.heap.objs.size), kwLam qD (lamPs (lamD 3)) (lamBd (lamD 3)) (lamSc (lamD 3)) (clD s.heap.objs.size), kwLam qD (lamPs (lamD 4)) (lamBd (lamD 4)) (lamSc (lamD 4)) (clD s.heap.objs.size), kwLam qD (lamPs (lamD 5)) (lamBd (lamD 5)) (lamSc (lamD 5)) (clD s.heap.objs.size), kwLam qD (lamPs (lamD 6)) (lamBd (lamD 6)) (lamSc (lamD 6)) (clD s.heap.objs.size), kwLam qD (lamPs (lamD 7)) (lamBd (lamD 7)) (lamSc (lamD 7)) (clD s.heap.objs.size), kwLam qD (lamPs (lamD 8)) (lamBd (lamD 8)) (lamSc (lamD 8)) (clD s.heap.objs.size)]), .tb T qD], rt := fun _ _ => False }) 2 ck (ev_add <| ev_var 2 rfl <| ev_lst <| evs_cons <| ev_lam 3 rfl B hcode rfl <| evs_cons <| ev_lam 3 rfl B hcode rfl <| evs_cons <| ev_lam 3 rfl B hcode rfl <| evs_nil <| (by exact ⟨(show 3 ≤ 1000 by decide), _, _, rfl, rfl, (show 6 + 3 ≤ 1000 by decide), rfl⟩))) ⟨hd, [T], H⟩ σ' H' _ S ⟨fun σ2 H2 ρ' e S2 _ => e ▸ S2, fun _ _ _ _ _ z _ _ _ => z.elim, fun _ _ _ z _ _ => z.elim, fun _ _ _ z _ _ => z.elim⟩
  have D4 : ∀ {σ' : L2.St} {H' : Hp}, Stt ⟨hd, [T], H⟩ H' σ' [.dat d0, .dat d1, .any (kwList [kwLam qD (lamPs (lamD 0)) (lamBd (lamD 0)) (lamSc (lamD 0)) (clD s.heap.objs.size), kwLam qD (lamPs (lamD 1)) (lamBd (lamD 1)) (lamSc (lamD 1)) (clD s.heap.objs.size), kwLam qD (lamPs (lamD 2)) (lamBd (lamD 2)) (lamSc (lamD 2)) (clD s.heap.objs.size), kwLam qD (lamPs (lamD 3)) (lamBd (lamD 3)) (lamSc (lamD 3)) (clD s.heap.objs.size), kwLam qD (lamPs (lamD 4)) (lamBd (lamD 4)) (lamSc (lamD 4)) (clD s.heap.objs.size), kwLam qD (lamPs (lamD 5)) (lamBd (lamD 5)) (lamSc (lamD 5)) (clD s.heap.objs.size), kwLam qD (lamPs (lamD 6)) (lamBd (lamD 6)) (lamSc (lamD 6)) (clD s.heap.objs.size), kwLam qD (lamPs (lamD 7)) (lamBd (lamD 7)) (lamSc (lamD 7)) (clD s.heap.objs.size), kwLam qD (lamPs (lamD 8)) (lamBd (lamD 8)) (lamSc (lamD 8)) (clD s.heap.objs.size)]), .tb T qD] → ∀ Q' : VK, (∀ v H2, Stt ⟨hd, [T], H⟩ H2 σ' [.dat d0, .dat d1, .any (kwList [kwLam qD (lamPs (lamD 0)) (lamBd (lamD 0)) (lamSc (lamD 0)) (clD s.heap.objs.size), kwLam qD (lamPs (lamD 1)) (lamBd (lamD 1)) (lamSc (lamD 1)) (clD s.heap.objs.size), kwLam qD (lamPs (lamD 2)) (lamBd (lamD 2)) (lamSc (lamD 2)) (clD s.heap.objs.size), kwLam qD (lamPs (lamD 3)) (lamBd (lamD 3)) (lamSc (lamD 3)) (clD s.heap.objs.size), kwLam qD (lamPs (lamD 4)) (lamBd (lamD 4)) (lamSc (lamD 4)) (clD s.heap.objs.size), kwLam qD (lamPs (lamD 5)) (lamBd (lamD 5)) (lamSc (lamD 5)) (clD s.heap.objs.size), kwLam qD (lamPs (lamD 6)) (lamBd (lamD 6)) (lamSc (lamD 6)) (clD s.heap.objs.size), kwLam qD (lamPs (lamD 7)) (lamBd (lamD 7)) (lamSc (lamD 7)) (clD s.heap.objs.size), kwLam qD (lamPs (lamD 8)) (lamBd (lamD 8)) (lamSc (lamD 8)) (clD s.heap.objs.size)]), .tb T qD] → (kwList [kwLam qD (lamPs (lamD 0)) (lamBd (lamD 0)) (lamSc (lamD 0)) (clD s.heap.objs.size), kwLam qD (lamPs (lamD 1)) (lamBd (lamD 1)) (lamSc (lamD 1)) (clD s.heap.objs.size), kwLam qD (lamPs (lamD 2)) (lamBd (lamD 2)) (lamSc (lamD 2)) (clD s.heap.objs.size), kwLam qD (lamPs (lamD 3)) (lamBd (lamD 3)) (lamSc (lamD 3)) (clD s.heap.objs.size), kwLam qD (lamPs (lamD 4)) (lamBd (lamD 4)) (lamSc (lamD 4)) (clD s.heap.objs.size), kwLam qD (lamPs (lamD 5)) (lamBd (lamD 5)) (lamSc (lamD 5)) (clD s.heap.objs.size), kwLam qD (lamPs (lamD 6)) (lamBd (lamD 6)) (lamSc (lamD 6)) (clD s.heap.objs.size), kwLam qD (lamPs (lamD 7)) (lamBd (lamD 7)) (lamSc (lamD 7)) (clD s.heap.objs.size), kwLam qD (lamPs (lamD 8)) (lamBd (lamD 8)) (lamSc (lamD 8)) (clD s.heap.objs.size), kwLam qD (lamPs (lamD 9)) (lamBd (lamD 9)) (lamSc (lamD 9)) (clD s.heap.objs.size), kwLam qD (lamPs (lamD 10)) (lamBd (lamD 10)) (lamSc (lamD 10)) (clD s.heap.objs.size)]).R (mask (hd ++ [T]) H2) v → Q' v H2) →
      tW (cxOf CX0 P w K mg base ["ferry1", "x", "found", "#tb"] "_law_doors" (defScope s__law_doors) f (.ref c) A outer s H E).nox (retE ((defBody s__law_doors).getD 3 (.Pass ⟨0, 0, 0, 0⟩))) σ' H' Q' := fun {σ' H'} S Q' q => by
    exact (show EV (cxOf CX0 P w K mg base ["ferry1", "x", "found", "#tb"] "_law_doors" (defScope s__law_doors) f (.ref c) A outer s H E).nox _ _ (fun r ρ' => ρ' = [.dat d0, .dat d1, .any (kwList [kwLam qD (lamPs (lamD 0)) (lamBd (lamD 0)) (lamSc (lamD 0)) (clD s.heap.objs.size), kwLam qD (lamPs (lamD 1)) (lamBd (lamD 1)) (lamSc (lamD 1)) (clD s.heap.objs.size), kwLam qD (lamPs (lamD 2)) (lamBd (lamD 2)) (lamSc (lamD 2)) (clD s.heap.objs.size), kwLam qD (lamPs (lamD 3)) (lamBd (lamD 3)) (lamSc (lamD 3)) (clD s.heap.objs.size), kwLam qD (lamPs (lamD 4)) (lamBd (lamD 4)) (lamSc (lamD 4)) (clD s.heap.objs.size), kwLam qD (lamPs (lamD 5)) (lamBd (lamD 5)) (lamSc (lamD 5)) (clD s.heap.objs.size), kwLam qD (lamPs (lamD 6)) (lamBd (lamD 6)) (lamSc (lamD 6)) (clD s.heap.objs.size), kwLam qD (lamPs (lamD 7)) (lamBd (lamD 7)) (lamSc (lamD 7)) (clD s.heap.objs.size), kwLam qD (lamPs (lamD 8)) (lamBd (lamD 8)) (lamSc (lamD 8)) (clD s.heap.objs.size)]), .tb T qD] ∧ r = kwList [kwLam qD (lamPs (lamD 0)) (lamBd (lamD 0)) (lamSc (lamD 0)) (clD s.heap.objs.size), kwLam qD (lamPs (lamD 1)) (lamBd (lamD 1)) (lamSc (lamD 1)) (clD s.heap.objs.size), kwLam qD (lamPs (lamD 2)) (lamBd (lamD 2)) (lamSc (lamD 2)) (clD s.heap.objs.size), kwLam qD (lamPs (lamD 3)) (lamBd (lamD 3)) (lamSc (lamD 3)) (clD s.heap.objs.size), kwLam qD (lamPs (lamD 4)) (lamBd (lamD 4)) (lamSc (lamD 4)) (clD s.heap.objs.size), kwLam qD (lamPs (lamD 5)) (lamBd (lamD 5)) (lamSc (lamD 5)) (clD s.heap.objs.size), kwLam qD (lamPs (lamD 6)) (lamBd (lamD 6)) (lamSc (lamD 6)) (clD s.heap.objs.size), kwLam qD (lamPs (lamD 7)) (lamBd (lamD 7)) (lamSc (lamD 7)) (clD s.heap.objs.size), kwLam qD (lamPs (lamD 8)) (lamBd (lamD 8)) (lamSc (lamD 8)) (clD s.heap.objs.size), kwLam qD (lamPs (lamD 9)) (lamBd (lamD 9)) (lamSc (lamD 9)) (clD s.heap.objs.size), kwLam qD (lamPs (lamD 10)) (lamBd (lamD 10)) (lamSc (lamD 10)) (clD s.heap.objs.size)]) from ev_add <| ev_var 2 rfl <| ev_lst <| evs_cons <| ev_lam 3 rfl B hcode rfl <| evs_cons <| ev_lam 3 rfl B hcode rfl <| evs_nil <| (by exact ⟨(show 2 ≤ 1000 by decide), _, _, rfl, rfl, (show 9 + 2 ≤ 1000 by decide), rfl, rfl⟩)) ⟨hd, [T], H⟩ σ' H' Q' S fun v H2 r ρ' ⟨e1, e2⟩ S2 _ rr => by
      subst e1
      subst e2
      exact q v H2 S2 rr
  refine wp_cons I (D1 S0) fun s2 σ2 H2 I2 S2 => wp_cons I2 (D2 S2) fun s3 σ3 H3 I3 S3 => wp_cons I3 (D3 S3) fun s4 σ4 H4 I4 S4 => wp_ret I4 (D4 S4 (fun v H5 => Stt ⟨hd, [T], H⟩ H5 σ4 _ ∧ (kwList [kwLam qD (lamPs (lamD 0)) (lamBd (lamD 0)) (lamSc (lamD 0)) (clD s.heap.objs.size), kwLam qD (lamPs (lamD 1)) (lamBd (lamD 1)) (lamSc (lamD 1)) (clD s.heap.objs.size), kwLam qD (lamPs (lamD 2)) (lamBd (lamD 2)) (lamSc (lamD 2)) (clD s.heap.objs.size), kwLam qD (lamPs (lamD 3)) (lamBd (lamD 3)) (lamSc (lamD 3)) (clD s.heap.objs.size), kwLam qD (lamPs (lamD 4)) (lamBd (lamD 4)) (lamSc (lamD 4)) (clD s.heap.objs.size), kwLam qD (lamPs (lamD 5)) (lamBd (lamD 5)) (lamSc (lamD 5)) (clD s.heap.objs.size), kwLam qD (lamPs (lamD 6)) (lamBd (lamD 6)) (lamSc (lamD 6)) (clD s.heap.objs.size), kwLam qD (lamPs (lamD 7)) (lamBd (lamD 7)) (lamSc (lamD 7)) (clD s.heap.objs.size), kwLam qD (lamPs (lamD 8)) (lamBd (lamD 8)) (lamSc (lamD 8)) (clD s.heap.objs.size), kwLam qD (lamPs (lamD 9)) (lamBd (lamD 9)) (lamSc (lamD 9)) (clD s.heap.objs.size), kwLam qD (lamPs (lamD 10)) (lamBd (lamD 10)) (lamSc (lamD 10)) (clD s.heap.objs.size)]).R (mask (hd ++ [T]) H5) v) fun v H5 a b => ⟨a, b⟩) fun s5 v u H5 I5 rv ⟨S5, hv⟩ => ?_
  obtain ⟨x0, e0, w0, f0, q0⟩ := S5.sl.get (i := 0) rfl
  obtain ⟨x1, e1, w1, f1, q1⟩ := S5.sl.get (i := 1) rfl
  obtain ⟨x3, e3, tb5⟩ := S5.sl.get (i := 3) rfl
  subst f0
  subst f1
  obtain ⟨m, hns, look⟩ := I5.loc
  have cell : ∀ (i : Nat) (y : Str) (v : V) (c1 : Addr), (["ferry1", "x", "found", "#tb"] : List Str)[i]? = some y → σ4[i]? = some (some v) → (defScope s__law_doors).names.lookup y = some .cell → (cellsFrom (s.heap.objs.size + 1) (defScope s__law_doors).names []).lookup y = some c1 →
      s.heap.objs.size ≤ c1 ∧ H5 c1 = none ∧ ∃ o u, s5.heap.get? c1 = some o ∧ o.data = .cell (some u) ∧ RelV v u := fun i y v c1 hN hs hk hl => by
    obtain ⟨u1, ru, lk⟩ := look i y v hN hs (Or.inr (Or.inl hk))
    refine ⟨I5.ok.cab y c1 rfl hl, I5.freeC y c1 hl, ?_⟩
    rcases lk with ⟨z, _⟩ | ⟨_, c2, z2, o, g2, dd⟩
    · have z : (defScope s__law_doors).names.lookup y = some .local := z
      rw [hk] at z
      cases z
    · have z2 : (cellsFrom (s.heap.objs.size + 1) (defScope s__law_doors).names []).lookup y = some c2 := z2
      rw [hl] at z2
      cases z2
      exact ⟨o, u1, g2, dd, ru⟩
  obtain ⟨n0, fr0, o0, u0, g0, dd0, rv0⟩ := cell 0 "ferry1" w0 (s.heap.objs.size + 1) rfl e0 rfl rfl
  obtain ⟨n1, fr1, o1, u1, g1, dd1, rv1⟩ := cell 1 "x" w1 (s.heap.objs.size + 1 + 1) rfl e1 rfl rfl
  obtain ⟨un1, ok1⟩ := out_track I5.base I5.hok n0 fr0 g0
  have ne10 : (s.heap.objs.size + 1 + 1 : Addr) ≠ s.heap.objs.size + 1 := Nat.succ_ne_self _
  obtain ⟨un2, ok2⟩ := out_track un1 ok1 n1 (by rw [upd_ne ne10]; exact fr1) g1
  have sm : Same H5 (upd (upd H5 (s.heap.objs.size + 1) (kn (s.heap.objs.size + 1) o0)) (s.heap.objs.size + 1 + 1) (kn (s.heap.objs.size + 1 + 1) o1)) := (same_new fr0).trans (same_new (by rw [upd_ne ne10]; exact fr1))
  have k0 : (upd (upd H5 (s.heap.objs.size + 1) (kn (s.heap.objs.size + 1) o0)) (s.heap.objs.size + 1 + 1) (kn (s.heap.objs.size + 1 + 1) o1)) (s.heap.objs.size + 1) = some (kn (s.heap.objs.size + 1) o0) := by rw [upd_ne (Ne.symm ne10), upd_same]
  have k1 : (upd (upd H5 (s.heap.objs.size + 1) (kn (s.heap.objs.size + 1) o0)) (s.heap.objs.size + 1 + 1) (kn (s.heap.objs.size + 1 + 1) o1)) (s.heap.objs.size + 1 + 1) = some (kn (s.heap.objs.size + 1 + 1) o1) := upd_same
  refine ⟨v, _, I5.os, I5.bare, un2, ok2, rv, ?_⟩
  generalize (upd (upd H5 (s.heap.objs.size + 1) (kn (s.heap.objs.size + 1) o0)) (s.heap.objs.size + 1 + 1) (kn (s.heap.objs.size + 1 + 1) o1)) = H6 at sm k0 k1 ⊢
  have g5 : ∀ {G : Hp}, G = mask (hd ++ [T]) H5 → Same G (mask (T :: hd) H6) := fun {G} e => by
    rw [e]
    exact mk2.trans (mask_same sm)
  have out : ∀ {c1 : Addr} {o : Obj}, H5 c1 = none → H6 c1 = some (kn c1 o) → mask (T :: hd) H6 c1 = some (kn c1 o) := fun {c1 o} n e => by
    refine (mask_out fun mm => ?_).trans e
    rcases List.mem_cons.mp mm with z | z
    · have t5 : H5 T ≠ none := S5.dm T hT
      exact t5 (z ▸ n)
    · exact S5.hd c1 z n
  have cv0 : CellV (mask (T :: hd) H6) (s.heap.objs.size + 1) d0 := ⟨o0, u0, w0, out fr0 k0, dd0, rv0, Rp.up (g5 rfl) _ _ q0⟩
  have cv1 : CellV (mask (T :: hd) H6) (s.heap.objs.size + 1 + 1) d1 := ⟨o1, u1, w1, out fr1 k1, dd1, rv1, Rp.up (g5 rfl) _ _ q1⟩
  refine kk v H6 (fun a o na e => sm a o (S5.fr a o (fun mm => na (List.mem_singleton.mp mm)) e)) (SlotOk.up (s := .tb T qD) (x := x3) tb5 (g5 rfl) fun a mm o e => sm a o e) ?_
  obtain ⟨a, vs, ea, ga, ks⟩ := (kwList _).up _ _ _ (g5 rfl) hv
  refine ⟨a, vs, ea, ga, ks_conv (fun r hr1 v hr2 C hb => ?_) ks⟩
  simp only [List.mem_cons, List.mem_nil_iff, or_false, List.not_mem_nil] at hr1
  rcases hr1 with e | e | e | e | e | e | e | e | e | e | e
  · rw [e] at hr2; exact lam_door (lok_is_story Tx g hb) cv0 cv1 hr2
  · rw [e] at hr2; exact lam_door (lok_can_be Tx g hb) cv0 cv1 hr2
  · rw [e] at hr2; exact lam_door (lok_first_bar Tx g hb) cv0 cv1 hr2
  · rw [e] at hr2; exact lam_door (lok_stairs Tx g hb) cv0 cv1 hr2
  · rw [e] at hr2; exact lam_door (lok_fewest_row Tx g hb) cv0 cv1 hr2
  · rw [e] at hr2; exact lam_door (lok_most_row Tx g hb) cv0 cv1 hr2
  · rw [e] at hr2; exact lam_door (lok_how_many Tx g hb) cv0 cv1 hr2
  · rw [e] at hr2; exact lam_door (lok_came Tx g hb) cv0 cv1 hr2
  · rw [e] at hr2; exact lam_door (lok_waits Tx g hb) cv0 cv1 hr2
  · rw [e] at hr2; exact lam_door (lok_there Tx g hb) cv0 cv1 hr2
  · rw [e] at hr2; exact lam_door (lok_mends Tx g hb) cv0 cv1 hr2
end
end FB

namespace FB
open PySem PySem.Spec PyProof.Rows L2 DL FM
/-! ### what the law itself takes for ferries and books -/
section
variable {P : Program} {w : World} {K : PySem.W.Frag} {mg : Str → Option Value} {base : Heap}
theorem sc_lin : FnScope ["x", "low", "high"] ["x", "low", "high"] (defScope s__law_in) := ⟨rfl, rfl, rfl, by decide +kernel, rfl, by decide +kernel, by decide +kernel⟩
theorem ok_lin {f : Addr} {fd : FuncData} (F : Fun K "_law_in" "_law_in" s__law_in f fd) (T : GT mg) : FnOk P w K mg base CX0 1 f fd ["x", "low", "high"] (spD S_is_within) := by
  refine fn_D F sc_lin T.b (fun ds q ⟨d, lo, hi, e, _⟩ => by rw [e]; rfl) ?_
  rintro cdv A outer s H E _ q hr ck ⟨d, lo, hi, rfl, h⟩
  refine bb_one (ss_ret (ee_and (ee_isInt ck (ee_var 0 rfl ⟨_, rfl, ite2 (fun c1 => ee_and (ee_not (ee_isBool ck (ee_var 0 rfl ⟨_, rfl, ⟨_, rfl, ite2 (fun c2 => ?_) (fun c2 => ?_)⟩⟩)))) (fun c1 => ?_)⟩))))
  · have hi2 : isW d = true := by cases d <;> first | rfl | exact absurd (show false = true from c1) Bool.false_ne_true | exact absurd (show false = true from c2) Bool.false_ne_true
    obtain ⟨i, rfl⟩ := isW_iff hi2
    refine ee_one (ee_chain (ee_var 1 rfl (ee_var 0 rfl (br_le (ite2 (fun c3 => ee_var 2 rfl (br_le ?_)) (fun c3 => ?_))))))
    · exact fin (q := q) h (by have c3 : decide (lo ≤ i) = true := c3; rw [isIn, c3, Bool.true_and])
    · exact fin (q := q) h (by have c3 : ¬ decide (lo ≤ i) = true := c3; rw [isIn, Bool.eq_false_iff.mpr c3, Bool.false_and])
  · exact fin (q := q) h (by cases d <;> first | rfl | exact absurd rfl c2)
  · exact fin (q := q) h (by cases d <;> first | rfl | exact absurd rfl c1)
/-- the numbers of a ferry, at their bounds -/
def badF (xs : List PyData) : PyData → Option PyData
  | .int k => if (!isIn 1 (([12, 20, 20, 9] : List Int).getD k.toNat 0) (xs.getD k.toNat .none)) = true then some (.int k) else none
  | _ => none
theorem sc_gf : FnScope ["x", "k"] ["x"] (defScope s__law_good_ferry) := ⟨rfl, rfl, rfl, by decide +kernel, rfl, by decide +kernel, by decide +kernel⟩
theorem shp_badF (xs : List PyData) : ∀ ds : List PyData, (∀ d ∈ ds, ∃ i, d = .int i) → Shp 1 (.list (ds.filterMap (badF xs))) := fun ds h => shp_list fun d hd => by
  obtain ⟨e, he, q⟩ := List.mem_filterMap.mp hd
  obtain ⟨i, rfl⟩ := h e he
  have q : (if (!isIn 1 (([12, 20, 20, 9] : List Int).getD i.toNat 0) (xs.getD i.toNat .none)) = true then some (PyData.int i) else none) = some d := q
  by_cases z : (!isIn 1 (([12, 20, 20, 9] : List Int).getD i.toNat 0) (xs.getD i.toNat .none)) = true
  · rw [if_pos z] at q; cases q; exact shp_int i
  · rw [if_neg z] at q; cases q
theorem eqv_nil (ds : List PyData) : PyData.eqv (.list ds) (.list []) = ds.isEmpty := by cases ds <;> rfl
theorem ok_gf {f : Addr} {fd : FuncData} {k : Nat} (F : Fun K "_law_good_ferry" "_law_good_ferry" s__law_good_ferry f fd) (T : GT mg) (g__law_in : Kn P w K mg base k "_law_in" ["x", "low", "high"] (spD S_is_within)) : FnOk P w K mg base CX0 (k + 1) f fd ["x"] (spD S_ferG) := by
  refine fn_D F sc_gf T.b (fun ds q ⟨d, e, _⟩ => by rw [e]; rfl) ?_
  rintro cdv A outer s H E _ q hr ck ⟨d, rfl, h⟩
  cases hd : isT d with
  | false =>
    exact bb_cons <| ss_if (et_M (t := true) (et_bool <| ew_orM (s := true) (t := true) (et_not <| et_val <| ee_isTup ck <| ee_var 0 rfl <| ⟨_, rfl, ⟨by rw [hd]; rfl, rfl⟩⟩) (fun z => nomatch z)) (ifT rfl <| bb_one <| ss_ret <| ee_bl <| fin (q := q) h (congrArg PyData.bool (ferryD_no hd).symm)))
  | true =>
    obtain ⟨xs, rfl⟩ := isT_iff hd
    by_cases hl : xs.length = 4
    · obtain ⟨a, b, c, e, rfl⟩ := len4 hl
      refine bb_cons <| ss_if (et_M (et_bool <| ew_orM (et_not <| et_val <| ee_isTup ck <| ee_var 0 rfl <| ⟨_, rfl, ⟨rfl, rfl⟩⟩) (fun _ => ew_one <| et_cmp <| ee_len ck <| ea_cons <| ee_var 0 rfl <| ea_nil <| ee_int <| br_ne ck <| ⟨rfl, rfl⟩))
        (ifF rfl <| bb_nil <| bb_one <| ss_ret <| ee_cmp <| ee_lc [("k", 1)] ck (blkOk_by rfl) <| ii_range1 ck <| ea_cons <| ee_int <| ea_nil <| ⟨_, rfl, by decide, ⟨badF [a, b, c, e], (by decide), fun d hd => ?_, ee_lst <| ea_nil <| ⟨by decide, br_eq ck ⟨⟨(shp_badF _ _ fun d hd => ?_).ok, by decide +kernel⟩, ?_⟩⟩⟩⟩))
      · obtain ⟨i, hi⟩ := List.mem_iff_getElem?.mp hd
        obtain ⟨i4, rfl⟩ := rngD_get hi
        have i4 : i < 4 := i4
        obtain ⟨y, hy⟩ : ∃ y, ([a, b, c, e] : List PyData)[i]? = some y := ⟨_, List.getElem?_eq_getElem i4⟩
        obtain ⟨u, hu⟩ : ∃ u, ([12, 20, 20, 9] : List Int)[i]? = some u := ⟨_, List.getElem?_eq_getElem i4⟩
        have e0 : (0 + (i : Int)) = (i : Int) := Int.zero_add _
        have e1 : badF [a, b, c, e] (.int (0 + (i : Int))) = if (!isIn 1 u y) = true then some (.int (0 + (i : Int))) else none := by
          show (if (!isIn 1 (([12, 20, 20, 9] : List Int).getD (0 + (i : Int)).toNat 0) (([a, b, c, e] : List PyData).getD (0 + (i : Int)).toNat .none)) = true then some (PyData.int (0 + (i : Int))) else none) = _
          rw [e0, Int.toNat_natCast, List.getD_eq_getElem?_getD, List.getD_eq_getElem?_getD, hy, hu]
          rfl
        have a1 : atI ([a, b, c, e] : List PyData) (0 + (i : Int)) = some y := by rw [e0]; exact atI_nat (Int.natCast_nonneg i) (by rw [Int.toNat_natCast]; exact hy)
        have a2 : atI ([PyData.int 12, .int 20, .int 20, .int 9] : List PyData) (0 + (i : Int)) = some (.int u) := by
          rw [e0]
          refine atI_nat (Int.natCast_nonneg i) ?_
          rw [Int.toNat_natCast, show ([PyData.int 12, .int 20, .int 20, .int 9] : List PyData) = ([12, 20, 20, 9] : List Int).map PyData.int from rfl, List.getElem?_map, hu]
          rfl
        rw [e1]
        exact ⟨[1], (fun j hj => hj), fun _ _ _ _ _ => gg_name 1 ck.blk <| fun _ _ _ _ _ => et_not <| et_val <| ee_call ⟨_, hr, g__law_in⟩ <| ea_cons <| ee_ix <| ee_var 0 rfl <| ee_var 1 rfl <| ⟨_, a1, ea_cons <| ee_int <| ea_cons <| ee_ix <| ee_lst <| ea_cons <| ee_int <| ea_cons <| ee_int <| ea_cons <| ee_int <| ea_cons <| ee_int <| ea_nil <| ⟨(show 4 ≤ 1000000 by decide), ee_var 1 rfl <| ⟨_, a2, ea_nil <| ⟨_, _, _, rfl, ⟨_, rfl, ite2 (fun z _ _ _ _ _ => ee_var 1 rfl <| if_pos z) (fun z => if_neg z)⟩⟩⟩⟩⟩⟩
      · obtain ⟨i, hi⟩ := List.mem_iff_getElem?.mp hd
        obtain ⟨i4, rfl⟩ := rngD_get hi
        exact ⟨_, rfl⟩
      · rw [eqv_nil]
        refine fin (q := q) h (congrArg PyData.bool ?_)
        show (([PyData.int 0, .int 1, .int 2, .int 3] : List PyData).filterMap (badF [a, b, c, e])).isEmpty = (isIn 1 12 a && (isIn 1 20 b && (isIn 1 20 c && isIn 1 9 e)))
        have f0 : badF [a, b, c, e] (.int 0) = if (!isIn 1 12 a) = true then some (.int 0) else none := rfl
        have f1 : badF [a, b, c, e] (.int 1) = if (!isIn 1 20 b) = true then some (.int 1) else none := rfl
        have f2 : badF [a, b, c, e] (.int 2) = if (!isIn 1 20 c) = true then some (.int 2) else none := rfl
        have f3 : badF [a, b, c, e] (.int 3) = if (!isIn 1 9 e) = true then some (.int 3) else none := rfl
        rw [List.filterMap_cons, List.filterMap_cons, List.filterMap_cons, List.filterMap_cons, f0, f1, f2, f3]
        cases isIn 1 12 a <;> cases isIn 1 20 b <;> cases isIn 1 20 c <;> cases isIn 1 9 e <;> rfl
    · exact bb_cons <| ss_if (et_M (t := true) (et_bool <| ew_orM (s := false) (et_not <| et_val <| ee_isTup ck <| ee_var 0 rfl <| ⟨_, rfl, ⟨rfl, rfl⟩⟩) (fun _ => ew_one <| et_cmp <| ee_len ck <| ea_cons <| ee_var 0 rfl <| ea_nil <| ee_int <| br_ne ck <| ⟨neq_len (m := 4) hl, rfl⟩))
        (ifT rfl <| bb_one <| ss_ret <| ee_bl <| fin (q := q) h (congrArg PyData.bool (ferryD_len hl).symm)))
end
end FB

namespace FB
open PySem PySem.Spec PyProof.Rows L2 DL FM
section
variable {P : Program} {w : World} {K : PySem.W.Frag} {mg : Str → Option Value} {base : Heap}
def okOne (F : Fy) (X l : Int) : PyData → Bool
  | .tuple [a, b] => isIn (l + 1) X a && isIn 1 F.s b
  | _ => false
def tickD : PyData → Int
  | .tuple (.int t :: _) => t
  | _ => 0
def goodL (F : Fy) (X : Int) : Int → List PyData → Bool
  | _, [] => true
  | l, d :: r => okOne F X l d && goodL F X (tickD d) r
def firstOk (l : Int) : List PyData → Bool
  | [] => true
  | d :: _ => decide (l < tickD d)
theorem rise_nil : riseD [] = true := rfl
theorem cut1 (d : PyData) (r : List PyData) : DL.cutD (d :: r) (some 1) none = r := by rw [cutD_from (by decide)]; rfl
theorem rise_one (d : PyData) : riseD [d] = true := by unfold riseD; rw [cut1]; rfl
theorem rise_two (d e : PyData) (r : List PyData) : riseD (d :: e :: r) = (lessD (.tuple [d, e]) && riseD (e :: r)) := by
  unfold riseD
  rw [cut1, cut1]
  rfl
theorem okOne_no {F : Fy} {X l : Int} {d : PyData} (hl : -1 ≤ l) (h : leavD F X d = false) : okOne F X l d = false := by
  cases hd : isT d with
  | false => cases d <;> first | rfl | cases hd
  | true =>
    obtain ⟨xs, rfl⟩ := isT_iff hd
    by_cases h2 : xs.length = 2
    · obtain ⟨a, b, rfl⟩ := len2 h2
      have h : (isIn 0 X a && isIn 1 F.s b) = false := h
      show (isIn (l + 1) X a && isIn 1 F.s b) = false
      cases z : isIn (l + 1) X a with
      | false => rfl
      | true =>
        obtain ⟨i, rfl, h3, h4⟩ := isIn_all z
        rw [isIn_int (by omega) h4] at h
        exact h
    · match xs, h2 with
      | [], _ => rfl
      | [_], _ => rfl
      | [_, _], h => exact absurd rfl h
      | _ :: _ :: _ :: _, _ => rfl
theorem good_eq (F : Fy) (X : Int) : ∀ (xs : List PyData) (l : Int), -1 ≤ l → goodL F X l xs = (firstOk l xs && ((xs.map (leavD F X)).all id && riseD xs))
  | [], l, _ => rfl
  | d :: r, l, hl => by
    show (okOne F X l d && goodL F X (tickD d) r) = (decide (l < tickD d) && ((leavD F X d && (r.map (leavD F X)).all id) && riseD (d :: r)))
    cases z : leavD F X d with
    | false => rw [okOne_no hl z, Bool.false_and, Bool.false_and, Bool.false_and, Bool.and_false]
    | true =>
      obtain ⟨t, b, rfl⟩ := leavD_iff z
      have z : (isIn 0 X (.int t) && isIn 1 F.s b) = true := z
      rw [Bool.and_eq_true] at z
      obtain ⟨i, ei, t0, tX⟩ := isIn_all z.1
      cases ei
      have e1 : okOne F X l (.tuple [.int t, b]) = decide (l < t) := by
        show ((decide (l + 1 ≤ t) && decide (t ≤ X)) && isIn 1 F.s b) = _
        rw [z.2, decide_eq_true tX, Bool.and_true, Bool.and_true]
        exact decide_eq_decide.mpr (by omega)
      rw [e1, show tickD (.tuple [.int t, b]) = t from rfl, Bool.true_and, good_eq F X r t (by omega)]
      congr 1
      cases r with
      | nil => rw [rise_one]; rfl
      | cons e r' =>
        rw [rise_two]
        cases y : ((e :: r').map (leavD F X)).all id with
        | false => rw [Bool.false_and, Bool.false_and, Bool.and_false]
        | true =>
          rw [Bool.true_and, Bool.true_and]
          have ye : leavD F X e = true := List.all_eq_true.mp y _ (.head _)
          obtain ⟨t2, b2, rfl⟩ := leavD_iff ye
          rfl
theorem good_all (F : Fy) (X : Int) (xs : List PyData) : goodL F X (-1) xs = ((xs.map (leavD F X)).all id && riseD xs) := by
  rw [good_eq F X xs (-1) (by omega)]
  cases xs with
  | nil => rfl
  | cons d r =>
    cases z : leavD F X d with
    | false =>
      rw [List.map_cons, List.all_cons, z]
      show (_ && ((false && _) && _)) = ((false && _) && _)
      rw [Bool.false_and, Bool.false_and, Bool.and_false]
    | true =>
      obtain ⟨t, b, rfl⟩ := leavD_iff z
      have z2 : (isIn 0 X (.int t) && isIn 1 F.s b) = true := z
      rw [Bool.and_eq_true] at z2
      obtain ⟨i, ei, t0, tX⟩ := isIn_all z2.1
      cases ei
      rw [show firstOk (-1) (.tuple [.int t, b] :: r) = true from decide_eq_true (show (-1 : Int) < t by omega), Bool.true_and]
theorem sc_good : FnScope ["ferry1", "x", "last", "one"] ["ferry1", "x"] (defScope s__law_good) := ⟨rfl, rfl, rfl, by decide +kernel, rfl, by decide +kernel, by decide +kernel⟩
theorem drop_at {α : Type} {xs : List α} {i : Nat} {d : α} (h : xs[i]? = some d) : xs.drop i = d :: xs.drop (i + 1) := by
  obtain ⟨hi, e⟩ := List.getElem?_eq_some_iff.mp h
  rw [List.drop_eq_getElem_cons hi, e]
theorem ok_good {f : Addr} {fd : FuncData} {k : Nat} (F : Fun K "_law_good" "_law_good" s__law_good f fd) (T : GT mg) (g__law_in : Kn P w K mg base k "_law_in" ["x", "low", "high"] (spD S_is_within)) : FnOk P w K mg base CX0 (k + 1) f fd ["ferry1", "x"] (spD S_bookG) := by
  refine fn_D F sc_good T.b (fun ds q ⟨_, _, e, _⟩ => by rw [e]; rfl) ?_
  rintro cdv A outer s H E _ q hr ck ⟨Y, d, rfl, h⟩
  cases hd : isT d with
  | false =>
    exact bb_cons <| ss_if (et_M (t := true) (et_bool <| ew_orM (s := true) (t := true) (et_not <| et_val <| ee_isTup ck <| ee_var 1 rfl <| ⟨_, rfl, ⟨by rw [hd]; rfl, rfl⟩⟩) (fun z => nomatch z)) (ifT rfl <| bb_one <| ss_ret <| ee_bl <| fin (q := q) h (congrArg PyData.bool (bookD_no hd Y).symm)))
  | true =>
    obtain ⟨xs, rfl⟩ := isT_iff hd
    by_cases hl : xs.length = 2
    · obtain ⟨a, b, rfl⟩ := len2 hl
      cases ha : isIn 0 60 a with
      | false =>
        exact bb_cons <| ss_if (et_M (t := true) (et_bool <| ew_orM (s := false) (et_not <| et_val <| ee_isTup ck <| ee_var 1 rfl <| ⟨_, rfl, ⟨rfl, rfl⟩⟩) (fun _ => ew_orM (s := false) (et_cmp <| ee_len ck <| ea_cons <| ee_var 1 rfl <| ea_nil <| ee_int <| br_ne ck <| ⟨rfl, rfl⟩) (fun _ => ew_orM (s := true) (t := true) (et_not <| et_val <| ee_call ⟨_, hr, g__law_in⟩ <| ea_cons <| ee_ix <| ee_var 1 rfl <| ee_int <| ⟨_, rfl, ea_cons <| ee_int <| ea_cons <| ee_int <| ea_nil <| ⟨_, _, _, rfl, ⟨_, rfl, ⟨by rw [ha]; rfl, rfl⟩⟩⟩⟩) (fun z => nomatch z))))
          (ifT rfl <| bb_one <| ss_ret <| ee_bl <| fin (q := q) h (congrArg PyData.bool (bookL_l ha Y b).symm)))
      | true =>
        obtain ⟨X, rfl, X0, X1⟩ := isIn_all ha
        cases hb : isT b with
        | false =>
          exact bb_cons <| ss_if (et_M (t := true) (et_bool <| ew_orM (s := false) (et_not <| et_val <| ee_isTup ck <| ee_var 1 rfl <| ⟨_, rfl, ⟨rfl, rfl⟩⟩) (fun _ => ew_orM (s := false) (et_cmp <| ee_len ck <| ea_cons <| ee_var 1 rfl <| ea_nil <| ee_int <| br_ne ck <| ⟨rfl, rfl⟩) (fun _ => ew_orM (s := false) (et_not <| et_val <| ee_call ⟨_, hr, g__law_in⟩ <| ea_cons <| ee_ix <| ee_var 1 rfl <| ee_int <| ⟨_, rfl, ea_cons <| ee_int <| ea_cons <| ee_int <| ea_nil <| ⟨_, _, _, rfl, ⟨_, rfl, ⟨by rw [ha]; rfl, rfl⟩⟩⟩⟩) (fun _ => ew_one <| et_not <| et_val <| ee_isTup ck <| ee_ix <| ee_var 1 rfl <| ee_int <| ⟨_, rfl, ⟨_, rfl, ⟨by rw [hb]; rfl, rfl⟩⟩⟩))))
            (ifT rfl <| bb_one <| ss_ret <| ee_bl <| fin (q := q) h (congrArg PyData.bool (bookL_b hb Y _).symm)))
        | true =>
          obtain ⟨ys, rfl⟩ := isT_iff hb
          have hB : bookD Y (.tuple [.int X, .tuple ys]) = (decide (ys.length ≤ 10) && goodL Y X (-1) ys) := by
            show ((decide (0 ≤ X) && decide (X ≤ 60)) && _) = _
            rw [decide_eq_true X0, decide_eq_true X1, Bool.true_and, Bool.true_and, good_all]
          rw [hB] at h
          refine bb_cons <| ss_if (et_M (t := false) (et_bool <| ew_orM (s := false) (et_not <| et_val <| ee_isTup ck <| ee_var 1 rfl <| ⟨_, rfl, ⟨rfl, rfl⟩⟩) (fun _ => ew_orM (s := false) (et_cmp <| ee_len ck <| ea_cons <| ee_var 1 rfl <| ea_nil <| ee_int <| br_ne ck <| ⟨rfl, rfl⟩) (fun _ => ew_orM (s := false) (et_not <| et_val <| ee_call ⟨_, hr, g__law_in⟩ <| ea_cons <| ee_ix <| ee_var 1 rfl <| ee_int <| ⟨_, rfl, ea_cons <| ee_int <| ea_cons <| ee_int <| ea_nil <| ⟨_, _, _, rfl, ⟨_, rfl, ⟨by rw [ha]; rfl, rfl⟩⟩⟩⟩) (fun _ => ew_one <| et_not <| et_val <| ee_isTup ck <| ee_ix <| ee_var 1 rfl <| ee_int <| ⟨_, rfl, ⟨_, rfl, ⟨rfl, rfl⟩⟩⟩))))
            (ifF rfl <| bb_nil ?_))
          refine bb_cons <| ss_if (et_M (et_cmp <| ee_len ck <| ea_cons <| ee_ix <| ee_var 1 rfl <| ee_int <| ⟨_, rfl, ea_nil <| ee_int <| br_gt <| ⟨rfl, rfl⟩⟩)
            (ite2 (fun z2 => bb_one <| ss_ret <| ee_bl <| fin (q := q) h (congrArg PyData.bool ?_)) (fun z2 => bb_nil ?_)))
          · have z3 : (10 : Int) < (ys.length : Int) := of_decide_eq_true z2
            rw [decide_eq_false (show ¬ ys.length ≤ 10 by omega), Bool.false_and]
          · have z3 : ¬ (10 : Int) < (ys.length : Int) := fun z4 => z2 (decide_eq_true z4)
            rw [decide_eq_true (show ys.length ≤ 10 by omega), Bool.true_and] at h
            refine bb_cons <| ss_set 2 ck <| ee_neg <| ee_int <| ⟨_, rfl, bb_cons <| ss_for ck <| ii_tup <| ee_ix <| ee_var 1 rfl <| ee_int <| ⟨_, rfl, ⟨_, rfl, ⟨fun i ρ => ∃ (l : Int) (d3 : Sl), ρ = [.dat (dF Y), .dat (.tuple [.int X, .tuple ys]), .dat (.int l), d3] ∧ d3.ad = [] ∧ goodL Y X (-1) ys = goodL Y X l (ys.drop i), ⟨-1, .non, rfl, rfl, rfl⟩, fun i d ρ hd hI => ?_, fun ρ hI => ?_⟩⟩⟩⟩
            · obtain ⟨l, d3, rfl, a3, hg⟩ := hI
              rw [drop_at hd] at hg
              have hg : goodL Y X (-1) ys = (okOne Y X l d && goodL Y X (tickD d) (ys.drop (i + 1))) := hg
              refine ⟨_, gg_name 3 ck ?_⟩
              have stop : okOne Y X l d = false → q (.bool false) := fun z => fin (q := q) h (congrArg PyData.bool (by rw [hg, z, Bool.false_and]))
              cases hd2 : isT d with
              | false =>
                exact bb_cons <| ss_if (et_M (t := true) (et_bool <| ew_orM (s := true) (t := true) (et_not <| et_val <| ee_isTup ck <| ee_var 3 rfl <| ⟨_, rfl, ⟨by rw [hd2]; rfl, rfl⟩⟩) (fun z => nomatch z)) (ifT rfl <| bb_one <| ss_ret <| ee_bl <| stop (by cases d <;> first | rfl | cases hd2)))
              | true =>
                obtain ⟨zs, rfl⟩ := isT_iff hd2
                by_cases h2 : zs.length = 2
                · obtain ⟨a, b, rfl⟩ := len2 h2
                  refine bb_cons <| ss_if (et_M (et_bool <| ew_orM (et_not <| et_val <| ee_isTup ck <| ee_var 3 rfl <| ⟨_, rfl, ⟨rfl, rfl⟩⟩) (fun _ => ew_orM (et_cmp <| ee_len ck <| ea_cons <| ee_var 3 rfl <| ea_nil <| ee_int <| br_ne ck <| ⟨rfl, rfl⟩) (fun _ => ew_one <| et_not <| et_val <| ee_call ⟨_, hr, g__law_in⟩ <| ea_cons <| ee_ix <| ee_var 3 rfl <| ee_int <| ⟨_, rfl, ea_cons <| ee_add <| ee_var 2 rfl <| ee_int <| ea_cons <| ee_ix <| ee_var 1 rfl <| ee_int <| ⟨_, rfl, ea_nil <| ⟨_, _, _, rfl, ⟨_, rfl, ⟨rfl, rfl⟩⟩⟩⟩⟩)))
                    (ite2 (fun z => bb_one <| ss_ret <| ee_bl <| stop ?_) (fun z => bb_nil ?_)))
                  · show (isIn (l + 1) X a && isIn 1 Y.s b) = false
                    rw [not_yes z, Bool.false_and]
                  · have ia := not_no z
                    obtain ⟨t, rfl, t0, t1⟩ := isIn_all ia
                    refine bb_cons <| ss_if (et_M (et_not <| et_val <| ee_call ⟨_, hr, g__law_in⟩ <| ea_cons <| ee_ix <| ee_var 3 rfl <| ee_int <| ⟨_, rfl, ea_cons <| ee_int <| ea_cons <| ee_ix <| ee_var 0 rfl <| ee_int <| ⟨_, rfl, ea_nil <| ⟨_, _, _, rfl, ⟨_, rfl, ⟨rfl, rfl⟩⟩⟩⟩⟩)
                      (ite2 (fun z5 => bb_one <| ss_ret <| ee_bl <| stop ?_) (fun z5 => bb_nil <| bb_one <| ss_set 2 ck <| ee_ix <| ee_var 3 rfl <| ee_int <| ⟨_, rfl, ?_⟩)))
                    · show (isIn (l + 1) X (.int t) && isIn 1 Y.s b) = false
                      rw [not_yes z5, Bool.and_false]
                    · refine ⟨t, _, rfl, rfl, ?_⟩
                      rw [hg]
                      show ((isIn (l + 1) X (.int t) && isIn 1 Y.s b) && goodL Y X t _) = _
                      rw [ia, not_no z5, Bool.true_and, Bool.true_and]
                · refine bb_cons <| ss_if (et_M (t := true) (et_bool <| ew_orM (s := false) (et_not <| et_val <| ee_isTup ck <| ee_var 3 rfl <| ⟨_, rfl, ⟨rfl, rfl⟩⟩) (fun _ => ew_orM (s := true) (t := true) (et_cmp <| ee_len ck <| ea_cons <| ee_var 3 rfl <| ea_nil <| ee_int <| br_ne ck <| ⟨neq_len (m := 2) h2, rfl⟩) (fun z => nomatch z)))
                    (ifT rfl <| bb_one <| ss_ret <| ee_bl <| stop ?_))
                  match zs, h2 with
                  | [], _ => rfl
                  | [_], _ => rfl
                  | [_, _], h => exact absurd rfl h
                  | _ :: _ :: _ :: _, _ => rfl
            · obtain ⟨l, d3, rfl, a3, hg⟩ := hI
              rw [List.drop_length] at hg
              exact bb_one <| ss_ret <| ee_bl <| fin (q := q) h (congrArg PyData.bool (by rw [hg]; rfl))
    · exact bb_cons <| ss_if (et_M (t := true) (et_bool <| ew_orM (s := false) (et_not <| et_val <| ee_isTup ck <| ee_var 1 rfl <| ⟨_, rfl, ⟨rfl, rfl⟩⟩) (fun _ => ew_orM (s := true) (t := true) (et_cmp <| ee_len ck <| ea_cons <| ee_var 1 rfl <| ea_nil <| ee_int <| br_ne ck <| ⟨neq_len (m := 2) hl, rfl⟩) (fun z => nomatch z)))
        (ifT rfl <| bb_one <| ss_ret <| ee_bl <| fin (q := q) h (congrArg PyData.bool (bookD_len hl Y).symm)))
end
end FB

namespace FB
open PySem PySem.Spec PyProof.Rows L2 DL FM
/-! ### a thing with one place otherwise -/
section
variable {P : Program} {w : World} {K : PySem.W.Frag} {mg : Str → Option Value} {base : Heap}
/-- ints, and tuples of these, so deep -/
def OddD : Nat → PyData → Prop
  | 0, .int _ => True
  | _ + 1, .int _ => True
  | n + 1, .tuple xs => xs.length ≤ 100 ∧ ∀ x ∈ xs, OddD n x
  | _, _ => False
theorem oddD_shp : ∀ (n : Nat) (d : PyData), OddD n d → Shp n d
  | 0, .int i, _ => shp_int i
  | _ + 1, .int i, _ => shp_int i
  | n + 1, .tuple xs, h => shp_tup fun x hx => oddD_shp n x (h.2 x hx)
  | 0, .none, h => h.elim
  | 0, .bool _, h => h.elim
  | 0, .str _, h => h.elim
  | 0, .list _, h => h.elim
  | 0, .tuple _, h => h.elim
  | 0, .dict _, h => h.elim
  | _ + 1, .none, h => h.elim
  | _ + 1, .bool _, h => h.elim
  | _ + 1, .str _, h => h.elim
  | _ + 1, .list _, h => h.elim
  | _ + 1, .dict _, h => h.elim
theorem oddD_tup {n : Nat} {xs : List PyData} (h : OddD n (.tuple xs)) : ∃ m, n = m + 1 ∧ xs.length ≤ 100 ∧ ∀ x ∈ xs, OddD m x := by
  cases n with
  | zero => exact h.elim
  | succ m => exact ⟨m, rfl, h.1, h.2⟩
theorem eqv_tnil (ds : List PyData) : PyData.eqv (.tuple ds) (.tuple []) = ds.isEmpty := by cases ds <;> rfl
theorem eo_noX {X : Cx} {ρ : List Sl} {Θ : Option Int → List Sl → Prop} (h : Θ none ρ) : EO X ρ none Θ := h
def S_odd (n : Nat) : SpecB := fun ds m k => ∃ d, ds = [d] ∧ OddD n d ∧ n ≤ 20 ∧ 2 * n + 4 ≤ m ∧ ∀ d' m', m ≤ m' + (2 * n + 4) → k d' m'
theorem sc_odd : FnScope ["bag", "x", "odd", "k"] ["bag", "x"] (defScope s__law_odd) := ⟨rfl, rfl, rfl, by decide +kernel, rfl, by decide +kernel, by decide +kernel⟩
theorem ok_odd1 {f : Addr} {fd : FuncData} (F : Fun K "_law_odd" "_law_odd" s__law_odd f fd) (T : GT mg) (n : Nat) (g__law_take : Kn P w K mg base 1 "_law_take" ["bag", "many"] (spB S_take)) (g : ∀ m, n = m + 1 → Kn P w K mg base (n + 1) "_law_odd" ["bag", "x"] (spB (S_odd m))) :
    FnOk P w K mg base CX0 (n + 2) f fd ["bag", "x"] (spB (S_odd n)) := by
  refine fn_B F sc_odd T.b (fun ds m q ⟨_, e, _⟩ => by rw [e]; rfl) ?_
  rintro cdv A outer s H E b _ m0 q hr ck ⟨d, rfl, hO, hn, hm, h⟩
  have g1 : Kn P w K mg base (n + 1) "_law_take" ["bag", "many"] (spB S_take) := g__law_take.mono (by omega)
  -- the menu
  have menu : ∀ m1 : Nat, m0 ≤ m1 + 2 → BB (cxOf CX0 P w K mg base ["bag", "x", "odd", "k"] "_law_odd" (defScope s__law_odd) f cdv A outer s H E).nox [.bag b m1, .dat d, .non, .non] ((defBody s__law_odd).drop 1) { nx := fun _ => False, rt := fun d ρ => ∃ n', ρ[0]? = some (.bag b n') ∧ q d n' } := fun m1 hm1 => by
    refine bb_cons <| ss_set 2 ck <| ee_lst <| ea_cons <| ee_non <| ea_cons <| ee_bl <| ea_cons <| ee_bl <| ea_cons <| ee_neg <| ee_int <| ⟨_, rfl, ea_cons <| ee_int <| ea_cons <| ee_int <| ea_cons <| ee_int <| ea_cons <| ee_int <| ea_cons <| ee_int <| ea_cons <| ee_str <| ea_cons <| ee_tup <| ea_nil <| ⟨(by decide), ea_cons <| ee_tup <| ea_cons <| ee_int <| ea_cons <| ee_int <| ea_nil <| ⟨(by decide), ea_cons <| ee_tup <| ea_cons <| ee_int <| ea_cons <| ee_int <| ea_cons <| ee_int <| ea_cons <| ee_int <| ea_nil <| ⟨(by decide), ea_nil <| ⟨(by decide), ?_⟩⟩⟩⟩⟩
    have fin14 : ∀ (ds : List PyData) (e : PyData), ds.length = 13 → ∀ v : Int, 0 ≤ v → v < 14 → ∃ y, atI (ds ++ [e]) v = some y := fun ds e hl v h0 h1 => by
      have lt : v.toNat < (ds ++ [e]).length := by rw [List.length_append, hl]; show v.toNat < 14; omega
      exact ⟨_, atI_nat h0 (List.getElem?_eq_getElem lt)⟩
    refine bb_one <| ss_ret <| ee_ix <| ee_add <| ee_var 2 rfl <| ee_lst <| ea_cons <| ee_if (et_val <| ee_isTup ck <| ee_var 1 rfl <| ⟨_, rfl, ite2 (fun c => ?_) (fun c => ?_)⟩)
    · obtain ⟨xs, rfl⟩ := isT_iff c
      refine ee_list ck <| ea_cons <| ee_var 1 rfl <| ea_nil <| ea_nil <| ⟨(show 1 ≤ 1000000 by decide), ⟨(show 13 + 1 ≤ 1000000 by decide), ee_callG 0 ⟨_, hr, g1⟩ rfl <| ea_cons <| ee_int <| ea_nil <| ⟨_, rfl, 14, rfl, ⟨by decide, by decide⟩, by omega, fun v v0 v1 => ?_⟩⟩⟩
      obtain ⟨y, hy⟩ := fin14 [.none, .bool true, .bool false, .int (-1), .int 0, .int 1, .int 13, .int 21, .int 61, .str "1", .tuple [], .tuple [.int 0, .int 1], .tuple [.int 1, .int 1, .int 1, .int 1]] (.list xs) rfl v v0 v1
      exact ⟨y, hy, _, rfl, h y _ (by omega)⟩
    · refine ee_var 1 rfl <| ea_nil <| ⟨(show 1 ≤ 1000000 by decide), ⟨(show 13 + 1 ≤ 1000000 by decide), ee_callG 0 ⟨_, hr, g1⟩ rfl <| ea_cons <| ee_int <| ea_nil <| ⟨_, rfl, 14, rfl, ⟨by decide, by decide⟩, by omega, fun v v0 v1 => ?_⟩⟩⟩
      obtain ⟨y, hy⟩ := fin14 [.none, .bool true, .bool false, .int (-1), .int 0, .int 1, .int 13, .int 21, .int 61, .str "1", .tuple [], .tuple [.int 0, .int 1], .tuple [.int 1, .int 1, .int 1, .int 1]] d rfl v v0 v1
      exact ⟨y, hy, _, rfl, h y _ (by omega)⟩
  cases hd : isT d with
  | false =>
    exact bb_cons <| ss_if (et_M (t := false) (et_bool <| ew_andM (s := false) (t := false) (et_val <| ee_isTup ck <| ee_var 1 rfl <| ⟨_, rfl, ⟨hd, rfl⟩⟩) (fun z => nomatch z)) (ifF rfl <| bb_nil <| menu m0 (by omega)))
  | true =>
    obtain ⟨xs, rfl⟩ := isT_iff hd
    obtain ⟨m, rfl, hl, hx⟩ := oddD_tup hO
    have sh := oddD_shp _ _ hO
    cases he : xs.isEmpty with
    | true =>
      exact bb_cons <| ss_if (et_M (t := false) (et_bool <| ew_andM (s := true) (et_val <| ee_isTup ck <| ee_var 1 rfl <| ⟨_, rfl, ⟨rfl, rfl⟩⟩) (fun _ => ew_andM (s := false) (t := false) (et_cmp <| ee_var 1 rfl <| ee_tup <| ea_nil <| ⟨(show 0 ≤ 1000000 by decide), br_ne ck ⟨⟨sh.ok (by omega), by decide +kernel⟩, ⟨by rw [eqv_tnil, he]; rfl, rfl⟩⟩⟩) (fun z => nomatch z))) (ifF rfl <| bb_nil <| menu m0 (by omega)))
    | false =>
      have pos : 1 ≤ xs.length := by
        cases xs with
        | nil => cases he
        | cons _ _ => exact Nat.succ_le_succ (Nat.zero_le _)
      refine bb_cons <| ss_if (et_bool <| ew_and <| et_val <| ee_isTup ck <| ee_var 1 rfl <| ⟨_, rfl, ifT rfl <| ew_and <| et_cmp <| ee_var 1 rfl <| ee_tup <| ea_nil <| ⟨(show 0 ≤ 1000000 by decide), br_ne ck ⟨⟨sh.ok (by omega), by decide +kernel⟩, ifT (by rw [eqv_tnil, he]; rfl) <| ew_one <| et_cmp <| ee_callG 0 ⟨_, hr, g1⟩ rfl <| ea_cons <| ee_int <| ea_nil <| ⟨_, rfl, 5, rfl, ⟨by decide, by decide⟩, by omega, fun u u0 u1 => ee_int <| br_gt <| ite2 (fun _ => ?_) (fun _ => bb_nil <| menu (m0 - 1) (by omega))⟩⟩⟩⟩)
      refine bb_cons <| ss_set 3 ck <| ee_callG 0 ⟨_, hr, g1⟩ rfl <| ea_cons <| ee_len ck <| ea_cons <| ee_var 1 rfl <| ea_nil <| ea_nil <| ⟨_, rfl, (xs.length : Int), rfl, ⟨by omega, by omega⟩, by omega, fun v v0 v1 => ?_⟩
      have lt : v.toNat < xs.length := by omega
      have hy : atI xs v = some xs[v.toNat] := atI_nat v0 (List.getElem?_eq_getElem lt)
      have hm1 : xs[v.toNat] ∈ xs := List.getElem_mem lt
      have c1 : DL.cutD xs none (some v) = xs.take v.toNat := cutD_to v0
      have c2 : DL.cutD xs (some (v + 1)) none = xs.drop (v + 1).toNat := cutD_from (by omega)
      refine bb_one <| ss_ret <| ee_add <| ee_add <| ee_sl <| ee_var 1 rfl <| ee_var 3 rfl <| ⟨_, rfl, sl_tupE c1 <| ee_tup <| ea_cons <| ee_callG 0 ⟨_, hr, g m rfl⟩ rfl <| ea_cons <| ee_ix <| ee_var 1 rfl <| ee_var 3 rfl <| ⟨_, hy, ea_nil <| ⟨_, rfl, _, rfl, hx _ hm1, by omega, by omega, fun d' m' hm' => ea_nil <| ⟨(show 1 ≤ 1000000 by decide), ⟨?_, ee_sl <| ee_var 1 rfl <| ee_add <| ee_var 3 rfl <| ee_int <| ⟨_, rfl, eo_noX <| sl_tupE c2 <| ⟨?_, ?_⟩⟩⟩⟩⟩⟩⟩
      · rw [List.length_take]
        show min v.toNat xs.length + 1 ≤ 1000000
        omega
      · rw [List.length_append, List.length_take, List.length_drop]
        show min v.toNat xs.length + 1 + (xs.length - (v + 1).toNat) ≤ 1000000
        omega
      · exact ⟨m', rfl, h _ m' (by omega)⟩
theorem ok_odd {f : Addr} {fd : FuncData} (F : Fun K "_law_odd" "_law_odd" s__law_odd f fd) (T : GT mg) (hm : mg "_law_odd" = some (.ref f)) (hk : PySem.W.keepIn K (.ref f) = true) (hb : Binds K fd ["bag", "x"] []) (g__law_take : Kn P w K mg base 1 "_law_take" ["bag", "many"] (spB S_take)) : ∀ n, FnOk P w K mg base CX0 (n + 2) f fd ["bag", "x"] (spB (S_odd n))
  | 0 => ok_odd1 F T 0 g__law_take fun m e => by cases e
  | n + 1 => ok_odd1 F T (n + 1) g__law_take fun m e => by
    cases e
    exact ⟨f, fd, ok_odd F T hm hk hb g__law_take n, hm, hk, hb⟩
end
end FB

namespace FB
open PySem PySem.Spec PyProof.Rows L2 DL FM
/-! ### the law's calls of its own hands over doors -/
section
variable {X : Cx} {ρ : List Sl} {e a b : Expr} {pos : Pos} {Φ : PyData → List Sl → Prop} {Ψ : Kw → List Sl → Prop}
def DoorBy (P : Program) (w : World) (K : PySem.W.Frag) (mg : Str → Option Value) (base : Heap) (k : Nat) (caps : List (Str × Nat × Addr)) (ρ : List Sl) (C : Addr) (r : Kw) : Prop :=
  ∀ (G : Hp) (v : V), (∀ p ∈ caps, ∀ d, ρ[p.2.1]? = some (.dat d) → CellV G p.2.2 d) → r.R G v → DoorV P w K mg base k C G v
theorem ee_refused {k j : Nat} {cs : List (Addr × Str)} {C : Addr} {nm : Str} {px p2 : Pos} (caps : List (Str × Nat × Addr)) (cl : DL.Cal X "_law_refused" ["doors", "word"] (spRefused X.prog X.w X.K X.mg X.base k cs)) (hm : (C, nm) ∈ cs) (hcap : ∀ p ∈ caps, Cap X p) (h0 : ∀ p ∈ caps, ∃ d, ρ[p.2.1]? = some (.dat d))
    (h : EV X ρ e fun r ρ1 => ∃ rs, r = kwList rs ∧ rs.length ≤ 100 ∧ (∀ p ∈ caps, ∃ d, ρ1[p.2.1]? = some (.dat d)) ∧ (∀ kr ∈ rs, DoorBy X.prog X.w X.K X.mg X.base k caps ρ1 C kr) ∧ Φ (.bool true) ρ1) (hg : Gl X "_law_refused" := by rfl)
    (he : starEach [e, .Constant (.str nm) j p2] X.env = (false, eval e X.env) :: starEach [.Constant (.str nm) j p2] X.env := by rfl) (hpl : (backTo pos (starEach [.Constant (.str nm) j p2] X.env)).any (·.1) = false := by rfl) :
    EE X ρ (.Call (.Name "_law_refused" px) [e, .Constant (.str nm) j p2] [] pos) Φ := fun F σ H Q S kk => by
  obtain ⟨j', hr, f, fd, G, hmg, kp, bd⟩ := cl
  refine ofPE (pe_callC (caps := caps) G hr hg hmg kp bd hcap (pa_cons peW (pa_cons pe_str pa_nil) he) (by decide) he hpl) ⟨fun p hp => ?_, h F σ H _ S fun v H1 r ρ1 ⟨rs, er, hl, hc, hd, q⟩ S1 g1 rr H2 free same cells => ?_⟩
  · obtain ⟨d, hd⟩ := h0 p hp
    obtain ⟨y, e1, v, e2, _⟩ := S.sl.get hd
    exact ⟨v, by rw [e1, e2]⟩
  · subst er
    have s12 : Same H1 H2 := fun b o z => (same b fun m => by rw [free b m] at z; cases z).trans z
    have sG : Same (gh F ρ1 H1) H2 := mask_le.trans s12
    obtain ⟨a, vs, ea, ha, ks⟩ := (kwList rs).up _ _ _ sG rr
    refine ⟨v, C, nm, rfl, ⟨a, vs, ea, ha, by rw [ks.len]; exact hl, fun x hx => ?_⟩, hm, fun H' sm => ?_⟩
    · obtain ⟨kr, hkr, hx2⟩ := ks.mem x hx
      refine hd kr hkr H2 x (fun p hp d hpd => ?_) hx2
      obtain ⟨oc, u, v1, hs, hk, hdd, ru⟩ := cells p hp
      obtain ⟨y, e1, v2, e2, rp⟩ := S1.sl.get hpd
      subst e2
      rw [e1] at hs
      cases hs
      exact ⟨oc, u, v1, hk, hdd, ru, Rp.up sG _ _ rp⟩
    · have s13 : Same H1 (mask (caps.map (·.2.2)) H') := fun b o z => (mask_out fun m => by rw [free b m] at z; cases z).trans (sm b o (s12 b o z))
      exact kk (.bl true) _ (.bool true) ρ1 q (S1.ext s13) (g1.trans (S1.gext s13)) (.bl true)
/-- _law_doors(a, b): its table is in slot i -/
theorem ev_doors {k : Nat} {bad : PyData → PyData → Addr → Prop} {T : Addr} {q : Str} {px : Pos} (i : Nat) (cl : DL.Cal X "_law_doors" ["ferry1", "x"] (spDoors X.prog X.w X.K X.mg X.base k bad T q)) (h : EA X ρ [a, b] fun ds ρ1 => ∃ d0 d1, ds = [d0, d1] ∧ ρ1[i]? = some (.tb T q) ∧ Ψ (kwList (List.replicate 11 (kwDrs X.prog X.w X.K X.mg X.base k (bad d0 d1)))) ρ1) (hg : Gl X "_law_doors" := by rfl)
    (he : starEach [a, b] X.env = (false, eval a X.env) :: starEach [b] X.env := by rfl) (hpl : (backTo pos (starEach [b] X.env)).any (·.1) = false := by rfl) : EV X ρ (.Call (.Name "_law_doors" px) [a, b] [] pos) Ψ := fun F σ H Q S kk => by
  obtain ⟨j', hr, f, fd, G, hmg, kp, bd⟩ := cl
  refine ofPE (pe_call G hr hg hmg kp bd .nil pass0 paW (by decide) he hpl) (h F σ H _ S fun vs H1 ds ρ1 ⟨d0, d1, ed, hs, qq⟩ S1 g1 rr => ?_)
  subst ed
  cases rr with
  | @cons v0 _ _ _ r0 rr =>
    cases rr with
    | @cons v1 _ _ _ r1 rr =>
      cases rr
      obtain ⟨x3, e3, tb⟩ := S1.sl.get hs
      have mo : T ∈ os ρ1 := os_at hs (List.mem_singleton.mpr rfl)
      have sub : ∀ {H' : Hp}, Same (gh F ρ1 H') (mask (T :: (F.hd ++ os ρ1).filter fun a => decide (a ≠ T)) H') := fun {H'} => mask_sub fun a m => by
        rcases List.mem_cons.mp m with z | z
        · rw [z]; exact List.mem_append_right _ mo
        · exact (List.mem_filter.mp z).1
      have sup : ∀ {H' : Hp}, Same (mask (T :: (F.hd ++ os ρ1).filter fun a => decide (a ≠ T)) H') (gh F ρ1 H') := fun {H'} => mask_sub fun a m => by
        by_cases z : a = T
        · rw [z]; exact List.mem_cons_self
        · exact List.mem_cons_of_mem _ (List.mem_filter.mpr ⟨m, decide_eq_true z⟩)
      refine ⟨(F.hd ++ os ρ1).filter fun a => decide (a ≠ T), v0, v1, d0, d1, rfl, fun m => ?_, fun a m => S1.ad a (List.mem_filter.mp m).1, SlotOk.up (s := .tb T q) (x := x3) tb sub fun a _ o z => z, Rp.up sub _ _ r0, Rp.up sub _ _ r1, fun v H2 keep tb2 rv => ?_⟩
      · exact of_decide_eq_true (List.mem_filter.mp m).2 rfl
      · have hT2 : H2 T ≠ none := by
          obtain ⟨ps, z, _⟩ := tb2
          rw [z]
          exact fun z => nomatch z
        have e4 : ρ1.set i (.tb T q) = ρ1 := set_self hs
        obtain ⟨S2, g2⟩ := S1.chg (s := .tb T q) hs rfl rfl keep hT2 fun x _ => by
          rw [e4]
          exact SlotOk.up (s := .tb T q) (x := x) tb2 sup fun a _ o z => z
        rw [e4] at S2 g2
        exact kk v H2 _ ρ1 qq S2 (g1.trans g2) ((kwList _).up _ _ _ sup rv)
end
end FB

namespace FB
open PySem PySem.Spec PyProof.Rows L2 DL FM
/-! ### the law: its own lambdas -/
section
variable {P : Program} {w : World} {K : PySem.W.Frag} {mg : Str → Option Value} {base : Heap}
abbrev qL : Str := (("law" : Str) ++ ".<locals>.") ++ "<lambda>"
structure G1 (P : Program) (w : World) (K : PySem.W.Frag) (mg : Str → Option Value) (base : Heap) (k kd : Nat) (cs : List (Addr × Str)) (NF NB NR NC T1 : Addr) : Prop where
  bags : Kn P w K mg base k "_law_bags" ["script", "most"] (spBags K)
  fer : Kn P w K mg base k "_law_ferry" ["bag", "little"] (spB S_lferry)
  take : Kn P w K mg base k "_law_take" ["bag", "many"] (spB S_take)
  book : Kn P w K mg base k "_law_book" ["bag", "ferry1", "ticks1"] (spB S_book)
  gf : Kn P w K mg base k "_law_good_ferry" ["x"] (spD S_ferG)
  gb : Kn P w K mg base k "_law_good" ["ferry1", "x"] (spD S_bookG)
  isf : Kn P w K mg base k "is_ferry" ["thing"] (spD S_ferG)
  isb : Kn P w K mg base k "is_book" ["ferry", "thing"] (spD S_ibG)
  same : Kn P w K mg base k "_law_same" ["a", "b"] (spD (S_same 0))
  odd1 : Kn P w K mg base k "_law_odd" ["bag", "x"] (spB (S_odd 1))
  odd3 : Kn P w K mg base k "_law_odd" ["bag", "x"] (spB (S_odd 3))
  doors : Kn P w K mg base k "_law_doors" ["ferry1", "x"] (spDoors P w K mg base kd (BadFB NF NB) T1 qD)
  refused : Kn P w K mg base k "_law_refused" ["doors", "word"] (spRefused P w K mg base kd cs)
  xbk : KnX P w K mg base kd "is_book" ["ferry", "thing"] (spX (S_lf2X NF))
  xlv : KnX P w K mg base kd "leavings" ["ferry", "row"] (spX (S_lvX NF NR))
  xcm : KnX P w K mg base kd "came" ["ferry", "book", "comer"] (spX (S_cameX NF NB NC))
section
variable {kd j : Nat} {q : Str} {params : Arguments} {scope : Scope} {p1 p2 p3 p4 p5 : Pos} {NF NB NR NC : Addr}
theorem lok_bk {d : PyData} (T : GT mg) (g : KnX P w K mg base kd "is_book" ["ferry", "thing"] (spX (S_lf2X NF))) (L : LamT q params (.Call (.Name "is_book" p1) [.Name "x" p2, .Constant .none j p3] [] p4) scope ["x"]) (hd : ferryD d = false)
    (h1 : scope.names.lookup ("is_book" : Str) = some NameKind.globalImplicit) (h2 : scope.names.lookup ("x" : Str) = some NameKind.free) : LamOk P w K mg base kd q params (.Call (.Name "is_book" p1) [.Name "x" p2, .Constant .none j p3] [] p4) scope ["x"] [d] NF :=
  lamOk_of L T.b fun A outer s H E cl f c' F hr ck z => ef_call z ⟨_, hr, g⟩ (ea_cons <| ee_var 0 rfl (hv := Or.inr (Or.inr h2)) <| ea_cons <| ee_non <| ea_nil <| ⟨_, _, rfl, hd, rfl⟩) (hg := h1)
theorem lok_lv {d : PyData} (T : GT mg) (g : KnX P w K mg base kd "leavings" ["ferry", "row"] (spX (S_lvX NF NR))) (L : LamT q params (.Call (.Name "leavings" p1) [.Name "x" p2, .Constant .none j p3] [] p4) scope ["x"]) (hd : ferryD d = false)
    (h1 : scope.names.lookup ("leavings" : Str) = some NameKind.globalImplicit) (h2 : scope.names.lookup ("x" : Str) = some NameKind.free) : LamOk P w K mg base kd q params (.Call (.Name "leavings" p1) [.Name "x" p2, .Constant .none j p3] [] p4) scope ["x"] [d] NF :=
  lamOk_of L T.b fun A outer s H E cl f c' F hr ck z => ef_call z ⟨_, hr, g⟩ (ea_cons <| ee_var 0 rfl (hv := Or.inr (Or.inr h2)) <| ea_cons <| ee_non <| ea_nil <| ⟨_, _, rfl, .inl ⟨hd, rfl⟩⟩) (hg := h1)
theorem lok_row {d : PyData} {Y : Fy} (T : GT mg) (g : KnX P w K mg base kd "leavings" ["ferry", "row"] (spX (S_lvX NF NR))) (L : LamT q params (.Call (.Name "leavings" p1) [.Name "ferry1" p2, .Name "odd" p3] [] p4) scope ["odd", "ferry1"]) (hY : ferryD (dF Y) = true) (ld : lenOk d) (hd : rowB Y d = false)
    (h1 : scope.names.lookup ("leavings" : Str) = some NameKind.globalImplicit) (h2 : scope.names.lookup ("ferry1" : Str) = some NameKind.free) (h3 : scope.names.lookup ("odd" : Str) = some NameKind.free) : LamOk P w K mg base kd q params (.Call (.Name "leavings" p1) [.Name "ferry1" p2, .Name "odd" p3] [] p4) scope ["odd", "ferry1"] [d, dF Y] NR :=
  lamOk_of L T.b fun A outer s H E cl f c' F hr ck z => ef_call z ⟨_, hr, g⟩ (ea_cons <| ee_var 1 rfl (hv := Or.inr (Or.inr h2)) <| ea_cons <| ee_var 0 rfl (hv := Or.inr (Or.inr h3)) <| ea_nil <| ⟨_, _, rfl, .inr ⟨Y, rfl, hY, ld, hd, rfl⟩⟩) (hg := h1)
theorem lok_cm {d bk : PyData} {Y : Fy} (T : GT mg) (g : KnX P w K mg base kd "came" ["ferry", "book", "comer"] (spX (S_cameX NF NB NC))) (L : LamT q params (.Call (.Name "came" p1) [.Name "ferry1" p2, .Name "book1" p3, .Name "odd" p4] [] p5) scope ["odd", "ferry1", "book1"]) (hY : ferryD (dF Y) = true) (hb : bookD Y bk = true) (hd : comerD d = false)
    (h1 : scope.names.lookup ("came" : Str) = some NameKind.globalImplicit) (h2 : scope.names.lookup ("ferry1" : Str) = some NameKind.free) (h3 : scope.names.lookup ("odd" : Str) = some NameKind.free) (h4 : scope.names.lookup ("book1" : Str) = some NameKind.free) : LamOk P w K mg base kd q params (.Call (.Name "came" p1) [.Name "ferry1" p2, .Name "book1" p3, .Name "odd" p4] [] p5) scope ["odd", "ferry1", "book1"] [d, dF Y, bk] NC :=
  lamOk_of L T.b fun A outer s H E cl f c' F hr ck z => ef_call z ⟨_, hr, g⟩ (ea_cons <| ee_var 1 rfl (hv := Or.inr (Or.inr h2)) <| ea_cons <| ee_var 2 rfl (hv := Or.inr (Or.inr h4)) <| ea_cons <| ee_var 0 rfl (hv := Or.inr (Or.inr h3)) <| ea_nil <| ⟨_, _, _, rfl, .inr ⟨Y, rfl, hY, hb, hd, rfl⟩⟩) (hg := h1)
end
/-- a lambda over cells of the law's own -/
theorem by_lam {k : Nat} {C : Addr} {q : Str} {params : Arguments} {body : Expr} {scope : Scope} {cl : List (Str × Addr)} {caps : List (Str × Nat × Addr)} {ρ : List Sl} {ns : List Str} {ds : List PyData} (nd : (cl.map (·.2)).Nodup) (en : cl.map (·.1) = ns) (L : LamOk P w K mg base k q params body scope ns ds C)
    (hc : ∀ G : Hp, (∀ p ∈ caps, ∀ d, ρ[p.2.1]? = some (.dat d) → CellV G p.2.2 d) → CellsV G cl ds) : DoorBy P w K mg base k caps ρ C (kwLam q params body scope cl) := fun G v cells h => by
  subst en
  obtain ⟨f, c', pm, ctv, e, h1, h2⟩ := h
  exact ⟨f, c', q, params, body, scope, cl, pm, ctv, ds, e, h1, h2, nd, hc G cells, L⟩
theorem by_drs {k : Nat} {C : Addr} {bad : Addr → Prop} {caps : List (Str × Nat × Addr)} {ρ : List Sl} (h : bad C) : DoorBy P w K mg base k caps ρ C (kwDrs P w K mg base k bad) := fun G v _ r => r C h
theorem bb_drop {X : Cx} {ρ : List Sl} {r : List Stmt} {D : DE} (i : Nat) (h : BB X (ρ.set i .non) r D) : BB X ρ r D := fun F σ H E S k => h F σ H E (S.wk i rfl fun x _ => trivial) (k.to (S.gset i rfl))
theorem ferryD_ok {Y : Fy} (ok : Y.Ok) : ferryD (dF Y) = true := by
  show (isIn 1 12 (.int Y.s) && (isIn 1 20 (.int Y.w) && (isIn 1 20 (.int Y.a) && isIn 1 9 (.int Y.m)))) = true
  rw [isIn_int ok.s1 ok.s2, isIn_int ok.w1 ok.w2, isIn_int ok.a1 ok.a2, isIn_int ok.m1 ok.m2]
  rfl
theorem oddD_ferry (Y : Fy) : OddD 1 (dF Y) := ⟨(show 4 ≤ 100 by decide), fun x hx => by
  rcases List.mem_cons.mp hx with e | hx
  · rw [e]; exact trivial
  · rcases List.mem_cons.mp hx with e | hx
    · rw [e]; exact trivial
    · rcases List.mem_cons.mp hx with e | hx
      · rw [e]; exact trivial
      · rw [List.mem_singleton.mp hx]; exact trivial⟩
theorem oddD_pair (a b : Int) : OddD 1 (.tuple [.int a, .int b]) := ⟨(show 2 ≤ 100 by decide), fun x hx => by
  rcases List.mem_cons.mp hx with e | hx
  · rw [e]; exact trivial
  · rw [List.mem_singleton.mp hx]; exact trivial⟩
theorem oddD_book {l : Int} {ls : Lvs} (h : ls.length ≤ 10) : OddD 3 (dB l ls) := ⟨(show 2 ≤ 100 by decide), fun x hx => by
  rcases List.mem_cons.mp hx with e | hx
  · rw [e]; exact trivial
  · rw [List.mem_singleton.mp hx]
    refine ⟨by rw [List.length_map]; omega, fun y hy => ?_⟩
    obtain ⟨p, _, rfl⟩ := List.mem_map.mp hy
    exact oddD_pair _ _⟩
theorem riseD_ls : ∀ {ls : Lvs}, (ls.Pairwise fun p q => p.1 < q.1) → riseD (ls.map dLv) = true
  | [], _ => rfl
  | [p], _ => rise_one _
  | p :: p2 :: r, h => by
    rw [List.map_cons, List.map_cons, rise_two]
    have h1 := List.pairwise_cons.mp h
    have := riseD_ls h1.2
    rw [List.map_cons] at this
    rw [this, Bool.and_true]
    exact decide_eq_true (h1.1 p2 (.head _))
theorem bookD_ok {Y : Fy} {l : Int} {ls : Lvs} (ok : BkOk Y l ls) : bookD Y (dB l ls) = true := by
  show ((decide (0 ≤ l) && decide (l ≤ 60)) && (decide ((ls.map dLv).length ≤ 10) && (((ls.map dLv).map (leavD Y l)).all id && riseD (ls.map dLv)))) = true
  rw [decide_eq_true ok.l0, decide_eq_true ok.l1, List.length_map, decide_eq_true ok.n, riseD_ls ok.up]
  simp only [Bool.and_true, Bool.true_and]
  rw [List.all_eq_true]
  intro b hb
  obtain ⟨d, hd, rfl⟩ := List.mem_map.mp hb
  obtain ⟨p, hp, rfl⟩ := List.mem_map.mp hd
  show (isIn 0 l (.int p.1) && isIn 1 Y.s (.int p.2)) = true
  rw [isIn_int (ok.tk p hp).1 (ok.tk p hp).2, isIn_int (ok.ld p hp).1 (ok.ld p hp).2]
  rfl
end
end FB

namespace FB
open PySem PySem.Spec PyProof.Rows L2 DL FM
/-! ### the law: its loops -/
section
variable {P : Program} {w : World} {K : PySem.W.Frag} {mg : Str → Option Value} {base : Heap}
abbrev NL : List Str := ["script", "bag", "ferry1", "some", "x", "good", "doors", "k", "number", "book1", "row", "last", "left1", "odd", "turn", "#t1", "#t2"]
theorem sc_law1 : FnScope NL ["script"] (defScope s_law) := ⟨rfl, rfl, rfl, by decide +kernel, rfl, by decide +kernel, by decide +kernel⟩
abbrev lawX (P : Program) (w : World) (K : PySem.W.Frag) (mg : Str → Option Value) (base : Heap) (f c : Addr) (A : Around) (outer : List Env) (s : Shared) (H : Hp) (E : XK) : Cx := (cxOf CX0 P w K mg base NL "law" (defScope s_law) f (.ref c) A outer s H E).nox
def loopB : Stmt → List Stmt
  | .For _ _ b _ _ => b
  | _ => []
abbrev lawS (i : Nat) : Stmt := (loopB ((defBody s_law).getD 0 (.Pass ⟨0, 0, 0, 0⟩))).getD i (.Pass ⟨0, 0, 0, 0⟩)
abbrev RR (b m T1 T2 : Addr) (s2 s3 s4 s5 s6 s7 s8 s9 s10 s11 s12 s13 s14 : Sl) : List Sl := [.non, .bag b m, s2, s3, s4, s5, s6, s7, s8, s9, s10, s11, s12, s13, s14, .tb T1 qD, .tb T2 qL]
abbrev cBk (s : Shared) : Addr := s.heap.objs.size + 1 + 1
abbrev cFy (s : Shared) : Addr := s.heap.objs.size + 1 + 1 + 1
abbrev cOd (s : Shared) : Addr := s.heap.objs.size + 1 + 1 + 1 + 1
abbrev cX (s : Shared) : Addr := s.heap.objs.size + 1 + 1 + 1 + 1 + 1
section
variable {f c T1 T2 : Addr} {A : Around} {outer : List Env} {s : Shared} {H : Hp} {E : XK} {k kd : Nat} {NF NB NR NC : Addr} {cs : List (Addr × Str)} {Y : Fy} {b m : Nat} {s2 s3 s4 s5 s6 s7 s8 s9 s10 s11 s12 s13 s14 : Sl}
theorem law_A1 {d : PyData} (ck : CK (lawX P w K mg base f c A outer s H E)) (T : GT mg) (hr : Room k (lawX P w K mg base f c A outer s H E).A) (g : G1 P w K mg base k kd cs NF NB NR NC T1) (B : LamX.TabB base mg c T2) (hF : (NF, ("NoFerry" : Str)) ∈ cs) :
    BB (lawX P w K mg base f c A outer s H E) (RR b m T1 T2 s2 s3 (.dat d) s5 s6 s7 s8 s9 s10 s11 s12 s13 s14) (loopB (lawS 2)) { nx := fun ρ => ∃ d5 d6, ρ = RR b m T1 T2 s2 s3 (.dat d) d5 d6 s7 s8 s9 s10 s11 s12 s13 s14, rt := fun _ _ => False } := by
  refine bb_cons <| ss_set 5 ck <| ee_call ⟨_, hr, g.gf⟩ <| ea_cons <| ee_var 4 rfl <| ea_nil <| ⟨d, rfl, ?_⟩
  refine bb_cons <| ss_setV 6 ck <| ev_add <| ev_doors 15 ⟨_, hr, g.doors⟩ <| ea_cons <| ee_var 4 rfl <| ea_cons <| ee_non <| ea_nil <| ⟨d, .none, rfl, rfl, ev_lst <| evs_cons <| ev_lam 16 rfl B rfl rfl <| evs_cons <| ev_lam 16 rfl B rfl rfl <| evs_nil ?_⟩
  refine ⟨(show 2 ≤ 1000 by decide), _, _, rfl, rfl, (show 11 + 2 ≤ 1000 by decide), ?_⟩
  cases hd : ferryD d with
  | true =>
    exact bb_one <| ss_if (et_bool <| ew_or <| et_not <| et_val <| ee_call ⟨_, hr, g.same⟩ <| ea_cons <| ee_call ⟨_, hr, g.isf⟩ (ea_cons <| ee_var 4 rfl <| ea_nil <| ⟨d, rfl, ea_cons <| ee_var 5 rfl <| ea_nil <| ⟨_, _, rfl, trivial, trivial, ⟨_, rfl, ifF (by rw [hd, dEq_t rfl]; rfl) <| ew_one <| et_bool <| ew_and <| et_not <| et_val <| ee_var 5 rfl <| ⟨_, rfl, ifF rfl <| ifF rfl <| bb_nil ⟨_, _, rfl⟩⟩⟩⟩⟩))
  | false =>
    refine bb_one <| ss_if (et_bool <| ew_or <| et_not <| et_val <| ee_call ⟨_, hr, g.same⟩ <| ea_cons <| ee_call ⟨_, hr, g.isf⟩ (ea_cons <| ee_var 4 rfl <| ea_nil <| ⟨d, rfl, ea_cons <| ee_var 5 rfl <| ea_nil <| ⟨_, _, rfl, trivial, trivial, ⟨_, rfl, ifF (by rw [hd, dEq_t rfl]; rfl) <| ew_one <| et_bool <| ew_and <| et_not <| et_val <| ee_var 5 rfl <| ⟨_, rfl, ifT rfl <| ew_one <| et_not <| et_val <| ee_refused [("x", 4, cX s)] ⟨_, hr, g.refused⟩ hF (fun p hp => ?cap) (fun p hp => ?h0) (ev_var 6 rfl ⟨_, rfl, (show 13 ≤ 100 by decide), (fun p hp => ?h0'), (fun kr hk => ?doors), ⟨_, rfl, ifF rfl <| bb_nil ⟨_, _, rfl⟩⟩⟩)⟩⟩⟩⟩))
    case cap => rw [List.mem_singleton.mp hp]; exact ⟨rfl, rfl, rfl, rfl⟩
    case h0 => rw [List.mem_singleton.mp hp]; exact ⟨_, rfl⟩
    case h0' => rw [List.mem_singleton.mp hp]; exact ⟨_, rfl⟩
    case doors =>
      rcases List.mem_append.mp hk with hk | hk
      · rw [(List.mem_replicate.mp hk).2]
        exact by_drs (.inl ⟨hd, rfl⟩)
      · rcases List.mem_cons.mp hk with e | hk
        · rw [e]
          exact by_lam (ns := ["x"]) (ds := [d]) (by show [cX s].Nodup; simp) rfl (lok_bk T g.xbk ⟨rfl, rfl, rfl, by decide +kernel, by decide +kernel, by decide +kernel, fun _ _ _ _ => rfl⟩ hd rfl rfl) fun G h => ⟨h _ (.head _) d rfl, trivial⟩
        · rw [List.mem_singleton.mp hk]
          exact by_lam (ns := ["x"]) (ds := [d]) (by show [cX s].Nodup; simp) rfl (lok_lv T g.xlv ⟨rfl, rfl, rfl, by decide +kernel, by decide +kernel, by decide +kernel, fun _ _ _ _ => rfl⟩ hd rfl rfl) fun G h => ⟨h _ (.head _) d rfl, trivial⟩
theorem law_A {sm : List PyData} (ck : CK (lawX P w K mg base f c A outer s H E)) (T : GT mg) (hr : Room k (lawX P w K mg base f c A outer s H E).A) (g : G1 P w K mg base k kd cs NF NB NR NC T1) (B : LamX.TabB base mg c T2) (hF : (NF, ("NoFerry" : Str)) ∈ cs) (hl : sm.length ≤ 20) (hm : 100 ≤ m) :
    SS (lawX P w K mg base f c A outer s H E) (RR b m T1 T2 (.dat (dF Y)) (.dat (.list sm)) s4 s5 s6 s7 s8 s9 s10 s11 s12 s13 s14) (lawS 2) { nx := fun ρ => ∃ (m' : Nat) (d4 d5 d6 : Sl), m ≤ m' + 36 ∧ ρ = RR b m' T1 T2 (.dat (dF Y)) (.dat (.list sm)) d4 d5 d6 s7 s8 s9 s10 s11 s12 s13 s14, rt := fun _ _ => False } := by
  refine ss_for ck <| ii_list <| ee_add <| ee_var 3 rfl <| ee_lcB 1 [("k", 7)] ck (blkOk_by rfl) <| ii_range1 ck <| ea_cons <| ee_int <| ea_nil <| ⟨6, rfl, ⟨by decide, by decide⟩, _, rfl, by decide, by rw [rngD_len]; decide, fun k' acc m' => m ≤ m' + 6 * k', by omega, ?_, ?_⟩
  · rintro k' d acc m' hd la hI
    have hk : k' < 6 := (rngD_get hd).1
    refine ⟨[7], fun j hj => hj, fun _ _ _ _ _ => gg_name 7 ck.blk <| fun _ _ _ _ _ => ?_⟩
    have hs1 : (((hideAt (List.map (·.2) [("k", 7)]) 0 (RR b m T1 T2 (.dat (dF Y)) (.dat (.list sm)) s4 s5 s6 s7 s8 s9 s10 s11 s12 s13 s14)).set 1 (.bag b m')).set 7 (.dat d))[1]? = some (.bag b m') := rfl
    refine ee_callG 1 (n := m') (g := b) ⟨_, hr, g.odd1⟩ hs1 ?_
    exact ea_cons <| ee_var 2 rfl <| ea_nil <| ⟨m', hs1, _, rfl, oddD_ferry Y, by decide, by omega, fun d' m2 hm2 => ⟨m2, List.getElem?_set_self (by show 1 < 17; decide), by omega⟩⟩
  · rintro acc m2 la hI
    rw [rngD_len] at la hI
    have hI : m ≤ m2 + 6 * 6 := hI
    have la : acc.length = 6 := la
    refine ⟨by omega, _, rfl, fun i ρ => ∃ d4 d5 d6, ρ = RR b m2 T1 T2 (.dat (dF Y)) (.dat (.list sm)) d4 d5 d6 s7 s8 s9 s10 s11 s12 s13 s14, ⟨_, _, _, rfl⟩, ?_, ?_⟩
    · rintro i d ρ hd ⟨d4, d5, d6, rfl⟩
      exact ⟨_, gg_name 4 ck <| (law_A1 ck T hr g B hF).mono (fun ρ' ⟨e5, e6, e⟩ => ⟨_, e5, e6, e⟩) (fun _ _ z => z) (fun _ z => z.elim) (fun _ z => z.elim)⟩
    · rintro ρ ⟨d4, d5, d6, rfl⟩
      exact ⟨m2, d4, d5, d6, by omega, rfl⟩
theorem bad_ferry (Y : Fy) {i : Nat} {u : Int} {j : Nat} {d : PyData} (hi : i < 4) (hu : ([13, 21, 21, 10] : List Int)[i]? = some u) (hd : ([.int 0, .int u, .bool true] : List PyData)[j]? = some d) :
    ferryD (.tuple ((([.int Y.s, .int Y.w, .int Y.a, .int Y.m] : List PyData).take i ++ [d]) ++ ([.int Y.s, .int Y.w, .int Y.a, .int Y.m] : List PyData).drop (i + 1))) = false := by
  have hb : ∀ hi' : Int, hi' < u → u = hi' + 1 → isIn 1 hi' d = false := fun hi' h1 h2 => by
    match j, hd with
    | 0, hd => cases hd; rfl
    | 1, hd =>
      cases hd
      show (decide (1 ≤ u) && decide (u ≤ hi')) = false
      rw [decide_eq_false (show ¬ u ≤ hi' by omega), Bool.and_false]
    | 2, hd => cases hd; rfl
  match i, hi, hu with
  | 0, _, hu =>
    cases hu
    show (isIn 1 12 d && _) = false
    rw [hb 12 (by decide) (by decide), Bool.false_and]
  | 1, _, hu =>
    cases hu
    show (_ && (isIn 1 20 d && _)) = false
    rw [hb 20 (by decide) (by decide), Bool.false_and, Bool.and_false]
  | 2, _, hu =>
    cases hu
    show (_ && (_ && (isIn 1 20 d && _))) = false
    rw [hb 20 (by decide) (by decide), Bool.false_and, Bool.and_false, Bool.and_false]
  | 3, _, hu =>
    cases hu
    show (_ && (_ && (_ && isIn 1 9 d))) = false
    rw [hb 9 (by decide) (by decide), Bool.and_false, Bool.and_false, Bool.and_false]
theorem law_B (ck : CK (lawX P w K mg base f c A outer s H E)) (hr : Room k (lawX P w K mg base f c A outer s H E).A) (g : G1 P w K mg base k kd cs NF NB NR NC T1) :
    SS (lawX P w K mg base f c A outer s H E) (RR b m T1 T2 (.dat (dF Y)) s3 s4 s5 s6 s7 s8 s9 s10 s11 s12 s13 s14) (lawS 3) { nx := fun ρ => ∃ (d7 d8 : Sl), ρ = RR b m T1 T2 (.dat (dF Y)) s3 s4 s5 s6 d7 d8 s9 s10 s11 s12 s13 s14, rt := fun _ _ => False } := by
  refine ss_for ck <| ii_range1 ck <| ea_cons <| ee_int <| ea_nil <| ⟨4, rfl, by decide, fun i ρ => ∃ (d7 d8 : Sl), ρ = RR b m T1 T2 (.dat (dF Y)) s3 s4 s5 s6 d7 d8 s9 s10 s11 s12 s13 s14, ⟨_, _, rfl⟩, ?_, fun ρ h => h⟩
  rintro i d ρ hd ⟨d7, d8, rfl⟩
  obtain ⟨hi, rfl⟩ := rngD_get hd
  have hi : i < 4 := hi
  have e0 : (0 + (i : Int)) = (i : Int) := Int.zero_add _
  rw [e0]
  obtain ⟨u, hu⟩ : ∃ u, ([13, 21, 21, 10] : List Int)[i]? = some u := ⟨_, List.getElem?_eq_getElem hi⟩
  have a2 : atI ([PyData.int 13, .int 21, .int 21, .int 10] : List PyData) (i : Int) = some (.int u) := by
    refine atI_nat (Int.natCast_nonneg i) ?_
    rw [Int.toNat_natCast, show ([PyData.int 13, .int 21, .int 21, .int 10] : List PyData) = ([13, 21, 21, 10] : List Int).map PyData.int from rfl, List.getElem?_map, hu]
    rfl
  refine ⟨_, gg_name 7 ck <| bb_one <| ss_for ck <| ii_tup <| ee_tup <| ea_cons <| ee_int <| ea_cons <| ee_ix <| ee_lst <| ea_cons <| ee_int <| ea_cons <| ee_int <| ea_cons <| ee_int <| ea_cons <| ee_int <| ea_nil <| ⟨(show 4 ≤ 1000000 by decide), ee_var 7 rfl <| ⟨_, a2, ea_cons <| ee_bl <| ea_nil <| ⟨(show 3 ≤ 1000000 by decide), ⟨_, rfl, fun j ρ => ∃ (d8 : Sl), ρ = RR b m T1 T2 (.dat (dF Y)) s3 s4 s5 s6 (.dat (.int (i : Int))) d8 s9 s10 s11 s12 s13 s14, ⟨_, rfl⟩, ?_, fun ρ ⟨d8, e⟩ => ⟨_, d8, e⟩⟩⟩⟩⟩⟩
  rintro j d ρ hd2 ⟨d8, rfl⟩
  have bad := bad_ferry Y hi hu hd2
  have c1 : DL.cutD ([.int Y.s, .int Y.w, .int Y.a, .int Y.m] : List PyData) none (some (i : Int)) = ([.int Y.s, .int Y.w, .int Y.a, .int Y.m] : List PyData).take i := by rw [cutD_to (Int.natCast_nonneg i), Int.toNat_natCast]
  have c2 : DL.cutD ([.int Y.s, .int Y.w, .int Y.a, .int Y.m] : List PyData) (some ((i : Int) + 1)) none = ([.int Y.s, .int Y.w, .int Y.a, .int Y.m] : List PyData).drop (i + 1) := by
    rw [cutD_from (by omega)]
    congr 1
  refine ⟨_, gg_name 8 ck <| bb_one <| ss_if (et_cmp <| ee_call ⟨_, hr, g.isf⟩ (ea_cons <| ee_add <| ee_add <| ee_sl <| ee_var 2 rfl <| ee_var 7 rfl <| ⟨_, rfl, sl_tupE c1 <| ee_tup <| ea_cons <| ee_var 8 rfl <| ea_nil <| ⟨(show 1 ≤ 1000000 by decide), ⟨?_, ee_sl <| ee_var 2 rfl <| ee_add <| ee_var 7 rfl <| ee_int <| ⟨_, rfl, eo_noX <| sl_tupE c2 <| ⟨?_, ea_nil <| ⟨_, rfl, ee_bl <| br_notB <| ifF (by rw [bad]; rfl) <| bb_nil ⟨_, rfl⟩⟩⟩⟩⟩⟩⟩))⟩
  · rw [List.length_take]
    show min i 4 + 1 ≤ 1000000
    omega
  · rw [List.length_append, List.length_take, List.length_drop]
    show min i 4 + 1 + (4 - (i + 1)) ≤ 1000000
    omega
theorem law_D1 {d : PyData} (ck : CK (lawX P w K mg base f c A outer s H E)) (hr : Room k (lawX P w K mg base f c A outer s H E).A) (g : G1 P w K mg base k kd cs NF NB NR NC T1) (hB : (NB, ("NoBook" : Str)) ∈ cs) (okF : Y.Ok) :
    BB (lawX P w K mg base f c A outer s H E) (RR b m T1 T2 (.dat (dF Y)) s3 (.dat d) s5 s6 s7 s8 s9 s10 s11 s12 s13 s14) (loopB (lawS 9)) { nx := fun ρ => ∃ d5, ρ = RR b m T1 T2 (.dat (dF Y)) s3 (.dat d) d5 s6 s7 s8 s9 s10 s11 s12 s13 s14, rt := fun _ _ => False } := by
  refine bb_cons <| ss_set 5 ck <| ee_call ⟨_, hr, g.gb⟩ <| ea_cons <| ee_var 2 rfl <| ea_cons <| ee_var 4 rfl <| ea_nil <| ⟨Y, d, rfl, ?_⟩
  refine bb_cons <| ss_if (et_not <| et_val <| ee_call ⟨_, hr, g.same⟩ <| ea_cons <| ee_call ⟨_, hr, g.isb⟩ (ea_cons <| ee_var 2 rfl <| ea_cons <| ee_var 4 rfl <| ea_nil <| ⟨Y, d, rfl, ferryD_ok okF, ea_cons <| ee_var 5 rfl <| ea_nil <| ⟨_, _, rfl, trivial, trivial, ⟨_, rfl, ifF (by rw [dEq_t rfl]; rfl) <| bb_nil ?_⟩⟩⟩))
  cases hd : bookD Y d with
  | true => exact bb_one <| ss_if (et_bool <| ew_and <| et_not <| et_val <| ee_var 5 rfl <| ⟨_, rfl, ifF (by first | rfl | (rw [hd]; rfl)) <| ifF rfl <| bb_nil ⟨_, rfl⟩⟩)
  | false =>
    exact bb_one <| ss_if (et_bool <| ew_and <| et_not <| et_val <| ee_var 5 rfl <| ⟨_, rfl, ifT (by first | rfl | (rw [hd]; rfl)) <| ew_one <| et_not <| et_val <| ee_refused [] ⟨_, hr, g.refused⟩ hB (fun p hp => nomatch hp) (fun p hp => nomatch hp) (ev_doors 15 ⟨_, hr, g.doors⟩ <| ea_cons <| ee_var 2 rfl <| ea_cons <| ee_var 4 rfl <| ea_nil <| ⟨dF Y, d, rfl, rfl, ⟨_, rfl, by rw [List.length_replicate]; decide, (fun p hp => nomatch hp), (fun kr hk => by
      rw [(List.mem_replicate.mp hk).2]
      exact by_drs (.inr ⟨Y, rfl, ferryD_ok okF, hd, rfl⟩)), ⟨_, rfl, ifF rfl <| bb_nil ⟨_, rfl⟩⟩⟩⟩)⟩)
theorem law_D {sm : List PyData} {l : Int} {ls : Lvs} (ck : CK (lawX P w K mg base f c A outer s H E)) (hr : Room k (lawX P w K mg base f c A outer s H E).A) (g : G1 P w K mg base k kd cs NF NB NR NC T1) (hB : (NB, ("NoBook" : Str)) ∈ cs) (okF : Y.Ok) (hls : ls.length ≤ 10) (hl : sm.length ≤ 20) (hm : 200 ≤ m) :
    SS (lawX P w K mg base f c A outer s H E) (RR b m T1 T2 (.dat (dF Y)) (.dat (.list sm)) s4 s5 s6 s7 s8 (.dat (dB l ls)) s10 s11 s12 s13 s14) (lawS 9) { nx := fun ρ => ∃ (m' : Nat) (d4 d5 : Sl), ρ = RR b m' T1 T2 (.dat (dF Y)) (.dat (.list sm)) d4 d5 s6 s7 s8 (.dat (dB l ls)) s10 s11 s12 s13 s14, rt := fun _ _ => False } := by
  refine ss_for ck <| ii_list <| ee_add <| ee_var 3 rfl <| ee_lcB 1 [("turn", 14)] ck (blkOk_by rfl) <| ii_range1 ck <| ea_cons <| ee_int <| ea_nil <| ⟨10, rfl, ⟨by decide, by decide⟩, _, rfl, by decide, by rw [rngD_len]; decide, fun k' acc m' => m ≤ m' + 10 * k', by omega, ?_, ?_⟩
  · rintro k' d acc m' hd la hI
    have hk : k' < 10 := (rngD_get hd).1
    refine ⟨[14], fun j hj => hj, fun _ _ _ _ _ => gg_name 14 ck.blk <| fun _ _ _ _ _ => ?_⟩
    have hs1 : (((hideAt (List.map (·.2) [("turn", 14)]) 0 (RR b m T1 T2 (.dat (dF Y)) (.dat (.list sm)) s4 s5 s6 s7 s8 (.dat (dB l ls)) s10 s11 s12 s13 s14)).set 1 (.bag b m')).set 14 (.dat d))[1]? = some (.bag b m') := rfl
    refine ee_callG 1 (n := m') (g := b) ⟨_, hr, g.odd3⟩ hs1 ?_
    exact ea_cons <| ee_var 9 rfl <| ea_nil <| ⟨m', hs1, _, rfl, oddD_book hls, by decide, by omega, fun d' m2 hm2 => ⟨m2, List.getElem?_set_self (by show 1 < 17; decide), by omega⟩⟩
  · rintro acc m2 la hI
    rw [rngD_len] at la hI
    have la : acc.length = 10 := la
    refine ⟨by omega, _, rfl, fun i ρ => ∃ d4 d5, ρ = RR b m2 T1 T2 (.dat (dF Y)) (.dat (.list sm)) d4 d5 s6 s7 s8 (.dat (dB l ls)) s10 s11 s12 s13 s14, ⟨_, _, rfl⟩, ?_, ?_⟩
    · rintro i d ρ hd ⟨d4, d5, rfl⟩
      exact ⟨_, gg_name 4 ck <| (law_D1 ck hr g hB okF).mono (fun ρ' ⟨e5, e⟩ => ⟨_, e5, e⟩) (fun _ _ z => z) (fun _ z => z.elim) (fun _ z => z.elim)⟩
    · rintro ρ ⟨d4, d5, rfl⟩
      exact ⟨m2, d4, d5, rfl⟩
end
end
end FB

namespace FB
open PySem PySem.Spec PyProof.Rows L2 DL FM
section
variable {P : Program} {w : World} {K : PySem.W.Frag} {mg : Str → Option Value} {base : Heap}
section
variable {f c T1 T2 : Addr} {A : Around} {outer : List Env} {s : Shared} {H : Hp} {E : XK} {k kd : Nat} {NF NB NR NC : Addr} {cs : List (Addr × Str)} {Y : Fy} {b m : Nat} {s2 s3 s4 s5 s6 s7 s8 s9 s10 s11 s12 s13 s14 : Sl}
theorem rowB_tup (F : Fy) (xs : List PyData) : rowB F (.tuple xs) = ((decide (1 ≤ xs.length) && decide (xs.length ≤ 61)) && xs.all (isIn 0 F.m)) := rfl
theorem law_E1 {d : PyData} (ck : CK (lawX P w K mg base f c A outer s H E)) (T : GT mg) (hr : Room k (lawX P w K mg base f c A outer s H E).A) (g : G1 P w K mg base k kd cs NF NB NR NC T1) (B : LamX.TabB base mg c T2) (hR : (NR, ("NoRow" : Str)) ∈ cs) (okF : Y.Ok) (ld : lenOk d) (hd : rowB Y d = false) :
    BB (lawX P w K mg base f c A outer s H E) (RR b m T1 T2 (.dat (dF Y)) s3 s4 s5 s6 s7 s8 s9 s10 s11 s12 (.dat d) s14) (loopB (lawS 10)) { nx := fun ρ => ρ = RR b m T1 T2 (.dat (dF Y)) s3 s4 s5 s6 s7 s8 s9 s10 s11 s12 (.dat d) s14, rt := fun _ _ => False } := by
  refine bb_one <| ss_if (et_not <| et_val <| ee_refused [("odd", 13, cOd s), ("ferry1", 2, cFy s)] ⟨_, hr, g.refused⟩ hR (fun p hp => ?cap) (fun p hp => ?h0) (ev_lst <| evs_cons <| ev_lam 16 rfl B rfl rfl <| evs_nil ⟨(show 1 ≤ 1000 by decide), _, rfl, (show 1 ≤ 100 by decide), (fun p hp => ?h0'), (fun kr hk => ?doors), ⟨_, rfl, ifF rfl <| bb_nil rfl⟩⟩))
  case cap =>
    rcases List.mem_cons.mp hp with e | hp
    · rw [e]; exact ⟨rfl, rfl, rfl, rfl⟩
    · rw [List.mem_singleton.mp hp]; exact ⟨rfl, rfl, rfl, rfl⟩
  case h0 =>
    rcases List.mem_cons.mp hp with e | hp
    · rw [e]; exact ⟨_, rfl⟩
    · rw [List.mem_singleton.mp hp]; exact ⟨_, rfl⟩
  case h0' =>
    rcases List.mem_cons.mp hp with e | hp
    · rw [e]; exact ⟨_, rfl⟩
    · rw [List.mem_singleton.mp hp]; exact ⟨_, rfl⟩
  case doors =>
    rw [List.mem_singleton.mp hk]
    exact by_lam (ns := ["odd", "ferry1"]) (ds := [d, dF Y]) (by show [cOd s, cFy s].Nodup; exact List.nodup_cons.mpr ⟨fun z => absurd (List.mem_singleton.mp z) (Nat.succ_ne_self _), by simp⟩) rfl (lok_row T g.xlv ⟨rfl, rfl, rfl, by decide +kernel, by decide +kernel, by decide +kernel, fun _ _ _ _ => rfl⟩ (ferryD_ok okF) ld hd rfl rfl rfl) fun G h => ⟨h _ (.head _) d rfl, h _ (.tail _ (.head _)) (dF Y) rfl, trivial⟩
theorem law_E (ck : CK (lawX P w K mg base f c A outer s H E)) (T : GT mg) (hr : Room k (lawX P w K mg base f c A outer s H E).A) (g : G1 P w K mg base k kd cs NF NB NR NC T1) (B : LamX.TabB base mg c T2) (hR : (NR, ("NoRow" : Str)) ∈ cs) (okF : Y.Ok) :
    SS (lawX P w K mg base f c A outer s H E) (RR b m T1 T2 (.dat (dF Y)) s3 s4 s5 s6 s7 s8 s9 s10 s11 s12 s13 s14) (lawS 10) { nx := fun ρ => ∃ d13, ρ = RR b m T1 T2 (.dat (dF Y)) s3 s4 s5 s6 s7 s8 s9 s10 s11 s12 d13 s14, rt := fun _ _ => False } := by
  have m1 := okF.m1
  have m2 := okF.m2
  refine ss_for ck <| ii_list <| ee_lst <| ea_cons <| ee_non <| ea_cons <| ee_tup <| ea_nil <| ⟨(show 0 ≤ 1000000 by decide), ea_cons <| ee_lst <| ea_cons <| ee_int <| ea_nil <| ⟨(show 1 ≤ 1000000 by decide), ea_cons <| ee_tup <| ea_cons <| ee_add <| ee_ix <| ee_var 2 rfl <| ee_int <| ⟨_, rfl, ee_int <| ea_nil <| ⟨(show 1 ≤ 1000000 by decide), ea_cons <| ee_tup <| ea_cons <| ee_neg <| ee_int <| ⟨_, rfl, ea_nil <| ⟨(show 1 ≤ 1000000 by decide), ea_cons <| ee_tup <| ea_cons <| ee_bl <| ea_nil <| ⟨(show 1 ≤ 1000000 by decide), ea_cons <| ee_mul <| ee_tup <| ea_cons <| ee_int <| ea_nil <| ⟨(show 1 ≤ 1000000 by decide), ee_int <| ⟨⟨(fun z => nomatch z), by decide, by decide, (show 1 ≤ 1000 by decide)⟩, ea_nil <| ⟨(show 7 ≤ 1000000 by decide), ⟨_, rfl, ?_⟩⟩⟩⟩⟩⟩⟩⟩⟩⟩⟩
  refine ⟨fun i ρ => ∃ d13, ρ = RR b m T1 T2 (.dat (dF Y)) s3 s4 s5 s6 s7 s8 s9 s10 s11 s12 d13 s14, ⟨_, rfl⟩, ?_, fun ρ h => h⟩
  rintro i d ρ hd ⟨d13, rfl⟩
  have hm := List.mem_of_getElem? hd
  have key : lenOk d ∧ rowB Y d = false := by
    rcases List.mem_cons.mp hm with e | hm
    · rw [e]; exact ⟨trivial, rfl⟩
    · rcases List.mem_cons.mp hm with e | hm
      · rw [e]; exact ⟨(show 0 ≤ 1000 by decide), rfl⟩
      · rcases List.mem_cons.mp hm with e | hm
        · rw [e]; exact ⟨trivial, rfl⟩
        · rcases List.mem_cons.mp hm with e | hm
          · rw [e]
            refine ⟨(show 1 ≤ 1000 by decide), ?_⟩
            have z : isIn 0 Y.m (.int (Y.m + 1)) = false := by
              show (decide (0 ≤ Y.m + 1) && decide (Y.m + 1 ≤ Y.m)) = false
              rw [decide_eq_false (show ¬ Y.m + 1 ≤ Y.m by omega), Bool.and_false]
            rw [rowB_tup, List.all_cons, z, Bool.false_and, Bool.and_false]
          · rcases List.mem_cons.mp hm with e | hm
            · rw [e]
              refine ⟨(show 1 ≤ 1000 by decide), ?_⟩
              have z : isIn 0 Y.m (.int (-1)) = false := by
                show (decide ((0 : Int) ≤ -1) && decide (-1 ≤ Y.m)) = false
                rw [decide_eq_false (show ¬ (0 : Int) ≤ -1 by omega), Bool.false_and]
              rw [rowB_tup, List.all_cons, z, Bool.false_and, Bool.and_false]
            · rcases List.mem_cons.mp hm with e | hm
              · rw [e]; exact ⟨(show 1 ≤ 1000 by decide), rfl⟩
              · rw [List.mem_singleton.mp hm]
                have l62 : ((List.replicate (62 : Int).toNat [PyData.int 0]).flatten).length = 62 := by decide +kernel
                refine ⟨by show ((List.replicate (62 : Int).toNat [PyData.int 0]).flatten).length ≤ 1000; rw [l62]; decide, ?_⟩
                rw [rowB_tup, l62, decide_eq_false (show ¬ 62 ≤ 61 by decide), Bool.and_false, Bool.false_and]
  exact ⟨_, gg_name 13 ck <| (law_E1 ck T hr g B hR okF key.1 key.2).mono (fun ρ' e => ⟨_, e⟩) (fun _ _ z => z) (fun _ z => z.elim) (fun _ z => z.elim)⟩
theorem law_F1 {d bk : PyData} (ck : CK (lawX P w K mg base f c A outer s H E)) (T : GT mg) (hr : Room k (lawX P w K mg base f c A outer s H E).A) (g : G1 P w K mg base k kd cs NF NB NR NC T1) (B : LamX.TabB base mg c T2) (hC : (NC, ("NoComer" : Str)) ∈ cs) (okF : Y.Ok) (hb : bookD Y bk = true) (hd : comerD d = false) :
    BB (lawX P w K mg base f c A outer s H E) (RR b m T1 T2 (.dat (dF Y)) s3 s4 s5 s6 s7 s8 (.dat bk) s10 s11 s12 (.dat d) s14) (loopB (lawS 11)) { nx := fun ρ => ρ = RR b m T1 T2 (.dat (dF Y)) s3 s4 s5 s6 s7 s8 (.dat bk) s10 s11 s12 (.dat d) s14, rt := fun _ _ => False } := by
  refine bb_one <| ss_if (et_not <| et_val <| ee_refused [("odd", 13, cOd s), ("ferry1", 2, cFy s), ("book1", 9, cBk s)] ⟨_, hr, g.refused⟩ hC (fun p hp => ?cap) (fun p hp => ?h0) (ev_lst <| evs_cons <| ev_lam 16 rfl B rfl rfl <| evs_nil ⟨(show 1 ≤ 1000 by decide), _, rfl, (show 1 ≤ 100 by decide), (fun p hp => ?h0'), (fun kr hk => ?doors), ⟨_, rfl, ifF rfl <| bb_nil rfl⟩⟩))
  case cap =>
    rcases List.mem_cons.mp hp with e | hp
    · rw [e]; exact ⟨rfl, rfl, rfl, rfl⟩
    · rcases List.mem_cons.mp hp with e | hp
      · rw [e]; exact ⟨rfl, rfl, rfl, rfl⟩
      · rw [List.mem_singleton.mp hp]; exact ⟨rfl, rfl, rfl, rfl⟩
  case h0 =>
    rcases List.mem_cons.mp hp with e | hp
    · rw [e]; exact ⟨_, rfl⟩
    · rcases List.mem_cons.mp hp with e | hp
      · rw [e]; exact ⟨_, rfl⟩
      · rw [List.mem_singleton.mp hp]; exact ⟨_, rfl⟩
  case h0' =>
    rcases List.mem_cons.mp hp with e | hp
    · rw [e]; exact ⟨_, rfl⟩
    · rcases List.mem_cons.mp hp with e | hp
      · rw [e]; exact ⟨_, rfl⟩
      · rw [List.mem_singleton.mp hp]; exact ⟨_, rfl⟩
  case doors =>
    rw [List.mem_singleton.mp hk]
    refine by_lam (ns := ["odd", "ferry1", "book1"]) (ds := [d, dF Y, bk]) ?_ rfl (lok_cm T g.xcm ⟨rfl, rfl, rfl, by decide +kernel, by decide +kernel, by decide +kernel, fun _ _ _ _ => rfl⟩ (ferryD_ok okF) hb hd rfl rfl rfl rfl) fun G h => ⟨h _ (.head _) d rfl, h _ (.tail _ (.head _)) (dF Y) rfl, h _ (.tail _ (.tail _ (.head _))) bk rfl, trivial⟩
    show [cOd s, cFy s, cBk s].Nodup
    have n1 : (s.heap.objs.size + 1 + 1 + 1 + 1 : Nat) ≠ s.heap.objs.size + 1 + 1 + 1 := Nat.succ_ne_self _
    have n2 : (s.heap.objs.size + 1 + 1 + 1 : Nat) ≠ s.heap.objs.size + 1 + 1 := Nat.succ_ne_self _
    have n3 : (s.heap.objs.size + 1 + 1 + 1 + 1 : Nat) ≠ s.heap.objs.size + 1 + 1 := by omega
    refine List.nodup_cons.mpr ⟨fun z => ?_, List.nodup_cons.mpr ⟨fun z => absurd (List.mem_singleton.mp z) n2, by simp⟩⟩
    rcases List.mem_cons.mp z with e | z
    · exact n1 e
    · exact n3 (List.mem_singleton.mp z)
theorem law_F {bk : PyData} (ck : CK (lawX P w K mg base f c A outer s H E)) (T : GT mg) (hr : Room k (lawX P w K mg base f c A outer s H E).A) (g : G1 P w K mg base k kd cs NF NB NR NC T1) (B : LamX.TabB base mg c T2) (hC : (NC, ("NoComer" : Str)) ∈ cs) (okF : Y.Ok) (hb : bookD Y bk = true) :
    SS (lawX P w K mg base f c A outer s H E) (RR b m T1 T2 (.dat (dF Y)) s3 s4 s5 s6 s7 s8 (.dat bk) s10 s11 s12 s13 s14) (lawS 11) { nx := fun ρ => ∃ d13, ρ = RR b m T1 T2 (.dat (dF Y)) s3 s4 s5 s6 s7 s8 (.dat bk) s10 s11 s12 d13 s14, rt := fun _ _ => False } := by
  refine ss_for ck <| ii_list <| ee_lst <| ea_cons <| ee_non <| ea_cons <| ee_int <| ea_cons <| ee_neg <| ee_int <| ⟨_, rfl, ea_cons <| ee_bl <| ea_cons <| ee_str <| ea_nil <| ⟨(show 5 ≤ 1000000 by decide), ⟨_, rfl, ?_⟩⟩⟩
  refine ⟨fun i ρ => ∃ d13, ρ = RR b m T1 T2 (.dat (dF Y)) s3 s4 s5 s6 s7 s8 (.dat bk) s10 s11 s12 d13 s14, ⟨_, rfl⟩, ?_, fun ρ h => h⟩
  rintro i d ρ hd ⟨d13, rfl⟩
  have hm := List.mem_of_getElem? hd
  have key : comerD d = false := by
    rcases List.mem_cons.mp hm with e | hm
    · rw [e]; rfl
    · rcases List.mem_cons.mp hm with e | hm
      · rw [e]; rfl
      · rcases List.mem_cons.mp hm with e | hm
        · rw [e]; rfl
        · rcases List.mem_cons.mp hm with e | hm
          · rw [e]; rfl
          · rw [List.mem_singleton.mp hm]; rfl
  exact ⟨_, gg_name 13 ck <| (law_F1 ck T hr g B hC okF hb key).mono (fun ρ' e => ⟨_, e⟩) (fun _ _ z => z) (fun _ z => z.elim) (fun _ z => z.elim)⟩
end
end
end FB

namespace FB
open PySem PySem.Spec PyProof.Rows L2 DL FM
section
variable {P : Program} {w : World} {K : PySem.W.Frag} {mg : Str → Option Value} {base : Heap}
theorem ss_to {X : Cx} {ρ : List Sl} {st : Stmt} {N : List Sl → Prop} {D : DE} (h : SS X ρ st { nx := N, rt := fun _ _ => False }) (k : ∀ ρ', N ρ' → D.nx ρ') : SS X ρ st D := fun F σ H E S kd =>
  h F σ H E S ⟨fun σ' H' ρ' n S' g => kd.nx σ' H' ρ' (k ρ' n) S' g, fun _ _ _ _ _ z => z.elim, fun _ _ _ z => z.elim, fun _ _ _ z => z.elim⟩
section
variable {f c T1 T2 : Addr} {A : Around} {outer : List Env} {s : Shared} {H : Hp} {E : XK} {k kd : Nat} {NF NB NR NC : Addr} {cs : List (Addr × Str)} {b : Addr}
theorem law_turn (ck : CK (lawX P w K mg base f c A outer s H E)) (T : GT mg) (hr : Room k (lawX P w K mg base f c A outer s H E).A) (g : G1 P w K mg base k kd cs NF NB NR NC T1) (B : LamX.TabB base mg c T2) (hF : (NF, ("NoFerry" : Str)) ∈ cs) (hB : (NB, ("NoBook" : Str)) ∈ cs) (hR : (NR, ("NoRow" : Str)) ∈ cs) (hC : (NC, ("NoComer" : Str)) ∈ cs) :
    BB (lawX P w K mg base f c A outer s H E) (rhoT 17 1 15 16 b T1 T2 qD qL) (loopB ((defBody s_law).getD 0 (.Pass ⟨0, 0, 0, 0⟩))) { nx := fun ρ => ρ.length = 17 ∧ ρ[15]? = some (.tb T1 qD) ∧ ρ[16]? = some (.tb T2 qL), rt := fun _ _ => False } := by
  show BB _ (RR b bagN T1 T2 .non .non .non .non .non .non .non .non .non .non .non .non .non) _ _
  refine bb_cons <| ss_set 2 ck <| ee_callG 1 ⟨_, hr, g.fer⟩ rfl <| ea_cons <| ee_bl <| ea_nil <| ⟨_, rfl, false, rfl, by unfold bagN; decide, fun Y okF _ n1 hn1 => ?_⟩
  have big : 10 + 1000 ≤ bagN := by unfold bagN; decide
  refine bb_cons <| ss_set 3 ck <| ee_lst <| ea_cons <| ee_var 2 rfl <| ea_cons <| ee_list ck <| ea_cons <| ee_var 2 rfl <| ea_nil <| ea_cons <| ee_add <| ee_var 2 rfl <| ee_tup <| ea_cons <| ee_int <| ea_nil <| ⟨(show 1 ≤ 1000000 by decide), ⟨(show 4 + 1 ≤ 1000000 by decide), ea_cons <| ee_sl <| ee_var 2 rfl <| ee_int <| ⟨_, rfl, sl_tupE rfl <| ea_cons <| ee_non <| ea_cons <| ee_tup <| ea_cons <| ee_int <| ea_cons <| ee_int <| ea_cons <| ee_int <| ea_cons <| ee_int <| ea_nil <| ⟨(show 4 ≤ 1000000 by decide), ea_nil <| ⟨(show 6 ≤ 1000000 by decide), ?_⟩⟩⟩⟩⟩
  refine bb_cons <| ss_to (law_A ck T hr g B hF (show 6 ≤ 20 by decide) (by omega)) ?_
  rintro ρ ⟨n2, d4, d5, d6, hn2, rfl⟩
  refine bb_cons <| ss_to (law_B ck hr g) ?_
  rintro ρ ⟨d7, d8, rfl⟩
  refine bb_cons <| ss_asg (js := [9, 10]) <| ee_callG 1 ⟨_, hr, g.book⟩ rfl <| ea_cons <| ee_var 2 rfl <| ea_cons <| ee_add <| ee_int <| ee_callG 1 ⟨_, hr, g.take⟩ rfl <| ea_cons <| ee_int <| ea_nil <| ⟨_, rfl, 61, rfl, ⟨by decide, by decide⟩, by omega, fun v v0 v1 => ea_nil <| ⟨_, rfl, Y, 1 + v, rfl, okF, ⟨by omega, by omega⟩, by omega, fun row l1 l2 hx h10 n3 hn3 => ?_⟩⟩
  unfold dBk
  have l61 : row.length ≤ 61 := by omega
  have bk := left_bk l1 l61 h10
  generalize hls : leftOf Y row = ls at *
  generalize ((row.length : Int) - 1) = l at *
  have hll : (ls.map dLv).length ≤ 10 := by rw [List.length_map]; exact h10
  refine gg_tup ck <| ggs_cons (js := [9]) (ks := [10]) <| gg_name 9 ck <| ggs_cons (js := [10]) (ks := []) <| gg_name 10 ck <| ggs_nil ?_
  refine bb_cons <| ss_asg (js := [11, 12]) <| ee_var 9 rfl <| gg_tup ck <| ggs_cons (js := [11]) (ks := [12]) <| gg_name 11 ck <| ggs_cons (js := [12]) (ks := []) <| gg_name 12 ck <| ggs_nil ?_
  show BB _ (RR b n3 T1 T2 (.dat (dF Y)) _ d4 d5 d6 d7 d8 (.dat (dB l ls)) (.dat (.tuple (iL row))) (.dat (.int l)) (.dat (dLs ls)) .non .non) _ _
  refine bb_cons <| ss_set 3 ck <| ee_lst <| ea_cons <| ee_var 9 rfl <| ea_cons <| ee_list ck <| ea_cons <| ee_var 9 rfl <| ea_nil <| ea_cons <| ee_tup <| ea_cons <| ee_int <| ea_cons <| ee_tup <| ea_nil <| ⟨(show 0 ≤ 1000000 by decide), ea_nil <| ⟨(show 2 ≤ 1000000 by decide), ea_cons <| ee_tup <| ea_cons <| ee_int <| ea_cons <| ee_tup <| ea_nil <| ⟨(show 0 ≤ 1000000 by decide), ea_nil <| ⟨(show 2 ≤ 1000000 by decide), ea_cons <| ee_tup <| ea_cons <| ee_neg <| ee_int <| ⟨_, rfl, ea_cons <| ee_tup <| ea_nil <| ⟨(show 0 ≤ 1000000 by decide), ea_nil <| ⟨(show 2 ≤ 1000000 by decide), ea_cons <| ee_tup <| ea_cons <| ee_var 11 rfl <| ea_cons <| ee_list ck <| ea_cons <| ee_var 12 rfl <| ea_nil <| ea_nil <| ⟨(show 2 ≤ 1000000 by decide), ea_cons <| ee_tup <| ea_cons <| ee_var 11 rfl <| ea_cons <| ee_back <| ee_var 12 rfl <| ⟨_, rfl, ea_nil <| ⟨(show 2 ≤ 1000000 by decide), ea_nil <| ⟨(show 7 ≤ 1000000 by decide), ?_⟩⟩⟩⟩⟩⟩⟩⟩⟩⟩⟩
  refine bb_cons <| ss_set 3 ck <| ee_add <| ee_var 3 rfl <| ee_lst <| ea_cons <| ee_tup <| ea_cons <| ee_var 11 rfl <| ea_cons <| ee_add <| ee_var 12 rfl <| ee_tup <| ea_cons <| ee_tup <| ea_cons <| ee_add <| ee_var 11 rfl <| ee_int <| ea_cons <| ee_int <| ea_nil <| ⟨(show 2 ≤ 1000000 by decide), ea_nil <| ⟨(show 1 ≤ 1000000 by decide), ⟨?sz, ea_nil <| ⟨(show 2 ≤ 1000000 by decide), ea_cons <| ee_tup <| ea_cons <| ee_int <| ea_cons <| ee_tuple ck <| ea_cons <| ee_lc [("k", 7)] ck (blkOk_by rfl) <| ii_range1 ck <| ea_cons <| ee_int <| ea_nil <| ⟨11, rfl, by decide, lcK_map (fun d => .tuple [d, .int 1]) (by rw [rngD_len]; decide) [7] (fun j hj => hj) (fun d hd _ _ _ _ _ => gg_name 7 ck.blk <| fun _ _ _ _ _ => ee_tup <| ea_cons <| ee_var 7 rfl <| ea_cons <| ee_int <| ea_nil <| ⟨(show 2 ≤ 1000000 by decide), rfl⟩) <| ea_nil <| ea_nil <| ⟨(show 2 ≤ 1000000 by decide), ea_nil <| ⟨(show 2 ≤ 1000000 by decide), ⟨(show 7 + 2 ≤ 1000000 by decide), ?_⟩⟩⟩⟩⟩⟩⟩⟩
  case sz => show (ls.map dLv).length + 1 ≤ 1000000; omega
  refine bb_cons <| ss_set 3 ck <| ee_add <| ee_var 3 rfl <| ee_lst <| ea_cons <| ee_tup <| ea_cons <| ee_int <| ea_cons <| ee_tup <| ea_cons <| ee_tup <| ea_cons <| ee_int <| ea_cons <| ee_add <| ee_ix <| ee_var 2 rfl <| ee_int <| ⟨_, rfl, ee_int <| ea_nil <| ⟨(show 2 ≤ 1000000 by decide), ea_nil <| ⟨(show 1 ≤ 1000000 by decide), ea_nil <| ⟨(show 2 ≤ 1000000 by decide), ea_cons <| ee_tup <| ea_cons <| ee_int <| ea_cons <| ee_tup <| ea_cons <| ee_tup <| ea_cons <| ee_int <| ea_cons <| ee_int <| ea_nil <| ⟨(show 2 ≤ 1000000 by decide), ea_nil <| ⟨(show 1 ≤ 1000000 by decide), ea_nil <| ⟨(show 2 ≤ 1000000 by decide), ea_nil <| ⟨(show 2 ≤ 1000000 by decide), ⟨(show 9 + 2 ≤ 1000000 by decide), ?_⟩⟩⟩⟩⟩⟩⟩⟩⟩
  refine bb_cons <| ss_to (law_D ck hr g hB okF (by rw [List.length_map] at hll; exact hll) (show 11 ≤ 20 by decide) (by omega)) ?_
  rintro ρ ⟨n4, e4, e5, rfl⟩
  refine bb_cons <| ss_to (law_E ck T hr g B hR okF) ?_
  rintro ρ ⟨d13, rfl⟩
  refine bb_one <| ss_to (law_F ck T hr g B hC okF (bookD_ok bk)) ?_
  rintro ρ ⟨d13, rfl⟩
  exact ⟨rfl, rfl, rfl⟩
end
end
end FB

namespace FB
open PySem PySem.Spec PyProof.Rows L2 DL FM
section
variable {P : Program} {w : World} {K : PySem.W.Frag} {mg : Str → Option Value} {base : Heap}
/-- the law's promise: the two tables of code objects are empty at first -/
def spLaw1 (K : PySem.W.Frag) (T1 T2 : Addr) : Sp := fun vs H Q _ => ∃ (a : Addr) (ns : List Int), vs = [.ref a] ∧ SqL K H a (ns.map V.int) ∧ ns.length ≤ 63 ∧ H T1 = some (.tbl #[]) ∧ H T2 = some (.tbl #[]) ∧ ∀ H', Q (.bl true) H'
theorem ok_law {f : Addr} {fd : FuncData} {k kd : Nat} {NF NB NR NC c T1 T2 : Addr} {cs : List (Addr × Str)} (F : Fun K "law" "law" s_law f fd) (T : GT mg) (g : G1 P w K mg base k kd cs NF NB NR NC T1) (hc : fd.code = .ref c) (B : LamX.TabB base mg c T2) (h12 : T1 ≠ T2)
    (hF : (NF, ("NoFerry" : Str)) ∈ cs) (hB : (NB, ("NoBook" : Str)) ∈ cs) (hR : (NR, ("NoRow" : Str)) ∈ cs) (hC : (NC, ("NoComer" : Str)) ∈ cs) : FnOk P w K mg base CX0 (k + 1) f fd ["script"] (spLaw1 K T1 T2) := by
  refine fn_raw F sc_law1 (fun vs H Q E h => ?_) (fun cdv A outer s H vs Q E hcd hr h s1 I => ?_)
  · obtain ⟨a, ns, rfl, _⟩ := h
    rfl
  obtain ⟨a, ns, rfl, hS, hn, t1, t2, hq⟩ := h
  obtain rfl : cdv = .ref c := hcd.symm.trans hc
  have ck : CK (lawX P w K mg base f c A outer s H E) := ⟨rfl, sc_law1.nd, by
    show (A.deeper (envOfC "law" (defScope s_law) s.heap.objs.size f (.ref c))).units + 100 < cLine
    have := hr.un
    omega, T.b⟩
  have key : DL.tB (lawX P w K mg base f c A outer s H E) (defBody s_law) { nx := fun _ _ => False, rt := Q } (L2.start NL [.ref a]) H :=
    law_loopT (i := 0) (j := 1) (t1 := 15) (t2 := 16) (q1 := qD) (q2 := qL) ck ⟨_, hr, g.bags⟩ hn (by decide) rfl hS (by show 1 < 17; decide) h12 ⟨by decide, by decide⟩ (tb_nil t1) (tb_nil t2)
      (fun b => law_turn ck T hr g B hF hB hR hC) (bb_one <| ss_ret <| ee_bl rfl) hq
  unfold DL.tB at key
  refine wpAny_mono (key [] s1 I) (fun fl s' hs => ?_) (fun e s' z => z)
  cases fl with
  | ret u =>
    obtain ⟨v, σ', H', J, r, q⟩ := hs
    exact ⟨v, H', J.os, J.bare, J.base, J.hok, r, q⟩
  | next => obtain ⟨_, _, _, z⟩ := hs; exact z.elim
  | brk => obtain ⟨_, _, _, z⟩ := hs; exact z.elim
  | cont => obtain ⟨_, _, _, z⟩ := hs; exact z.elim
end
end FB

namespace FB
open PySem PySem.Spec PyProof.Rows L2 DL FM
/-- the table of code objects of a def of the top -/
theorem tab_in {K : PySem.W.Frag} {x : Str} {f c P : Addr} {e1 e2 : Value} {d1 d2 : Option Addr} {fd : FuncData} {s1 s2 : Array (Option Value)} {vs : Array Value}
    (h1 : PySem.W.nsIn K mainGlobals x = some (some (.ref f))) (h2 : K.lookup f = some ⟨e1, d1, .func fd, s1⟩) (h3 : fd.code = .ref c) (h4 : K.lookup c = some ⟨e2, d2, .fields vs, s2⟩) (h5 : vs[11]? = some (.ref P)) : PySem.W.tabIn K x = some (c, P) := by
  unfold PySem.W.tabIn
  simp only [h1, h2, h3, h4, h5]
/-- what is told of the tables of prog's defs at h -/
def Tabs (prog : Program) (K : PySem.W.Frag) (h : Heap) : Prop := ∀ (r : DefRec) (x : Str) (c P : Addr), (recsOf prog).find? (fun e => e.name == x) = some r → PySem.W.tabIn K x = some (c, P) → PySem.W.CodeHd h c P ∧ h.get? P = some (PySem.W.tabObj #[])
/-- the end of a law whose defs make lambdas -/
theorem ends_by {prog : Program} {free : List Str} {X0 : (Str → Option Value) → Heap → Prop} {Y0 : World → Heap → Prop} {r : DefRec} {part : Params → PySem.W.Frag} {law : PySem.W.OpenLaw} {long lev : Nat} {CX : World → CXT} {arg : Str}
    (e1 : law.most = some long) (e2 : long ≤ sizeLine) (e3 : r.params.defaults = []) (room : Room lev callerA) (inK : ∀ (w : World) (h : Heap), Y0 w h → (part w.params).In h)
    (give : ∀ (w : World) (mg : Str → Option Value) (at1 : Addr) (h : Heap), (part w.params).In h → h.Ns mainGlobals mg → mg r.name = some (.ref at1) → Tabs prog (part w.params) h → LamX.LawAtS law w (part w.params) (CX w) lev long arg mg at1 h)
    (shut : ∀ (w : World) (H : Hp) (s : Shared) (e : Value) (s' : Shared), CX w [] H s (fun _ _ _ => False) e s' → False) :
    PySem.W.WalkO prog free X0 Y0 law.row.toRowW r [] (fun f vs => PySem.call f vs) := by
  refine Att.attach_callB e1 e3 fun w s0 s1 mg mb at1 obj pm cd doc scr vs ns Gr Yh got dat rec at2 lst nums few bits gens => ?_
  have Kh := inK w _ Yh
  obtain ⟨fd, cs, sp, t1, t2, t3, t4, t5, t6⟩ := give w mg at1 _ Kh Gr.T.g at2 fun r x c P q1 q2 => PySem.W.tab_of Gr.T Kh q1 q2
  have few2 := Nat.le_trans few e2
  refine LamX.law_callTs Kh Gr.T.g Gr.T.b Gr.T.builtins Gr.T.nolimit gens t1 t2 t3 Gr.T.bmain lst nums few2 room t6 t4 (fun H q1 q2 => ?_) (fun H e s' => ?_)
  · exact t5 H scr ns few bits q1 q2
  · exact shut w H s1 e s'
theorem kit_no {K : PySem.W.Frag} {A B : Addr} (h : A ≠ B) (d : PySem.W.hasDictIn K B = true) (t : PySem.W.typeIn K (.ref B) = some (.type "type")) (s : PySem.W.subIn K (.ref A) (.ref B) = some false) : PySem.W.kitOne K (.ref A) (.ref B) = some (decide (A = B)) := by
  obtain ⟨cd, hc, _⟩ := PySem.W.any_some d
  have e2 : ((PySem.W.clsIn K B).isSome && PySem.W.typeIn K (.ref B) == some (.type "type")) = true := by rw [hc, t] <;> rfl
  have e1 : ¬ ((Value.ref A == Value.ref B) = true) := fun z => h (Value.ref.inj (beq_iff_eq.mp z))
  rw [decide_eq_false h]
  unfold PySem.W.kitOne
  rw [if_neg e1]
  show (if ((PySem.W.clsIn K B).isSome && PySem.W.typeIn K (.ref B) == some (.type "type")) = true then PySem.W.subIn K (.ref A) (.ref B) else none) = some false
  rw [if_pos e2]
  exact s
theorem kit_same {K : PySem.W.Frag} {A : Addr} : PySem.W.kitOne K (.ref A) (.ref A) = some (decide (A = A)) := by
  rw [decide_eq_true rfl]
  unfold PySem.W.kitOne
  exact if_pos (beq_self_eq_true _)
theorem all_mk {l : PySem.W.OpenLaw} {w : World} {K : PySem.W.Frag} {h : Heap} {mg : Str → Option Value} {prog : Program} {fa c1 c2 T1 T2 FE NF NB NR NC : Addr} {r1 r2 : DefRec} {f1 f2 f3 f4 f5 f6 f7 f8 f9 f10 f11 f12 f13 f14 f15 f16 f17 f18 f19 f20 f21 f22 f23 f24 f25 f26 f27 f28 f29 f30 f31 f32 f33 f34 f35 f36 f37 : Addr} (X : K.In h) (G : h.Ns mainGlobals mg) (hfa : mg "law" = some (.ref fa)) (TB : Tabs prog K h)
    {od1 an1 od2 an2 od3 an3 od4 an4 od5 an5 od6 an6 od7 an7 od8 an8 od9 an9 od10 an10 od11 an11 od12 an12 od13 an13 od14 an14 od15 an15 od16 an16 od17 an17 od18 an18 od19 an19 od20 an20 od21 an21 od22 an22 od23 an23 od24 an24 od25 an25 od26 an26 od27 an27 od28 an28 od29 an29 od30 an30 od31 an31 od32 an32 od33 an33 od34 an34 od35 an35 od36 an36 od37 an37 : Option Addr} {sl1 sl2 sl3 sl4 sl5 sl6 sl7 sl8 sl9 sl10 sl11 sl12 sl13 sl14 sl15 sl16 sl17 sl18 sl19 sl20 sl21 sl22 sl23 sl24 sl25 sl26 sl27 sl28 sl29 sl30 sl31 sl32 sl33 sl34 sl35 sl36 sl37 : Array (Option Value)} {oc1 kV1 dc1 pm1 ct1 oc2 kV2 dc2 pm2 ct2 oc3 kV3 dc3 pm3 ct3 oc4 kV4 dc4 pm4 ct4 oc5 kV5 dc5 pm5 ct5 oc6 kV6 dc6 pm6 ct6 oc7 kV7 dc7 pm7 ct7 oc8 kV8 dc8 pm8 ct8 oc9 kV9 dc9 pm9 ct9 oc10 kV10 dc10 pm10 ct10 oc11 kV11 dc11 pm11 ct11 oc12 kV12 dc12 pm12 ct12 oc13 kV13 dc13 pm13 ct13 oc14 kV14 dc14 pm14 ct14 oc15 kV15 dc15 pm15 ct15 oc16 kV16 dc16 pm16 ct16 oc17 kV17 dc17 pm17 ct17 oc18 kV18 dc18 pm18 ct18 oc19 kV19 dc19 pm19 ct19 oc20 kV20 dc20 pm20 ct20 oc21 kV21 dc21 pm21 ct21 oc22 kV22 dc22 pm22 ct22 oc23 kV23 dc23 pm23 ct23 oc24 kV24 dc24 pm24 ct24 oc25 kV25 dc25 pm25 ct25 oc26 kV26 dc26 pm26 ct26 oc27 kV27 dc27 pm27 ct27 oc28 kV28 dc28 pm28 ct28 oc29 kV29 dc29 pm29 ct29 oc30 kV30 dc30 pm30 ct30 oc31 kV31 dc31 pm31 ct31 oc32 kV32 dc32 pm32 ct32 oc33 kV33 dc33 pm33 ct33 oc34 kV34 dc34 pm34 ct34 oc35 kV35 dc35 pm35 ct35 oc36 kV36 dc36 pm36 ct36 oc37 kV37 dc37 pm37 ct37 : Value} {cd1 cd2 cd3 cd4 cd5 cd6 cd7 cd8 cd9 cd10 cd11 cd12 cd13 cd14 cd15 cd16 cd17 cd18 cd19 cd20 cd21 cd22 cd23 cd24 cd25 cd26 cd27 cd28 cd29 cd30 cd31 cd32 cd33 cd35 cd36 : Value} {tML tMV tEN : Tok}
    {te1 te2 : Value} {td1 td2 : Option Addr} {tv1 tv2 : Array Value} {ts1 ts2 : Array (Option Value)}
    (a1 : PySem.W.nsIn K mainGlobals "is_whole" = some (some (.ref f1))) (l1 : K.lookup f1 = some ⟨oc1, od1, .func (PySem.W.fnOf "is_whole" "is_whole" (defArgs s_is_whole) (defBody s_is_whole) (defScope s_is_whole) .none kV1 dc1 pm1 an1 (cd1) ct1), sl1⟩) (c101 : PySem.W.codeIn K (cd1) "is_whole" = true) (k1 : PySem.W.keepIn K (.ref f1) = true)
    (a2 : PySem.W.nsIn K mainGlobals "is_within" = some (some (.ref f2))) (l2 : K.lookup f2 = some ⟨oc2, od2, .func (PySem.W.fnOf "is_within" "is_within" (defArgs s_is_within) (defBody s_is_within) (defScope s_is_within) .none kV2 dc2 pm2 an2 (cd2) ct2), sl2⟩) (c102 : PySem.W.codeIn K (cd2) "is_within" = true) (k2 : PySem.W.keepIn K (.ref f2) = true)
    (a3 : PySem.W.nsIn K mainGlobals "is_ferry" = some (some (.ref f3))) (l3 : K.lookup f3 = some ⟨oc3, od3, .func (PySem.W.fnOf "is_ferry" "is_ferry" (defArgs s_is_ferry) (defBody s_is_ferry) (defScope s_is_ferry) .none kV3 dc3 pm3 an3 (cd3) ct3), sl3⟩) (c103 : PySem.W.codeIn K (cd3) "is_ferry" = true) (k3 : PySem.W.keepIn K (.ref f3) = true)
    (a4 : PySem.W.nsIn K mainGlobals "look_at_ferry" = some (some (.ref f4))) (l4 : K.lookup f4 = some ⟨oc4, od4, .func (PySem.W.fnOf "look_at_ferry" "look_at_ferry" (defArgs s_look_at_ferry) (defBody s_look_at_ferry) (defScope s_look_at_ferry) .none kV4 dc4 pm4 an4 (cd4) ct4), sl4⟩) (c104 : PySem.W.codeIn K (cd4) "look_at_ferry" = true) (k4 : PySem.W.keepIn K (.ref f4) = true)
    (a5 : PySem.W.nsIn K mainGlobals "is_leaving" = some (some (.ref f5))) (l5 : K.lookup f5 = some ⟨oc5, od5, .func (PySem.W.fnOf "is_leaving" "is_leaving" (defArgs s_is_leaving) (defBody s_is_leaving) (defScope s_is_leaving) .none kV5 dc5 pm5 an5 (cd5) ct5), sl5⟩) (c105 : PySem.W.codeIn K (cd5) "is_leaving" = true) (k5 : PySem.W.keepIn K (.ref f5) = true)
    (a6 : PySem.W.nsIn K mainGlobals "is_book_of" = some (some (.ref f6))) (l6 : K.lookup f6 = some ⟨oc6, od6, .func (PySem.W.fnOf "is_book_of" "is_book_of" (defArgs s_is_book_of) (defBody s_is_book_of) (defScope s_is_book_of) .none kV6 dc6 pm6 an6 (cd6) ct6), sl6⟩) (c106 : PySem.W.codeIn K (cd6) "is_book_of" = true) (k6 : PySem.W.keepIn K (.ref f6) = true)
    (a7 : PySem.W.nsIn K mainGlobals "is_book" = some (some (.ref f7))) (l7 : K.lookup f7 = some ⟨oc7, od7, .func (PySem.W.fnOf "is_book" "is_book" (defArgs s_is_book) (defBody s_is_book) (defScope s_is_book) .none kV7 dc7 pm7 an7 (cd7) ct7), sl7⟩) (c107 : PySem.W.codeIn K (cd7) "is_book" = true) (k7 : PySem.W.keepIn K (.ref f7) = true)
    (a8 : PySem.W.nsIn K mainGlobals "look_at" = some (some (.ref f8))) (l8 : K.lookup f8 = some ⟨oc8, od8, .func (PySem.W.fnOf "look_at" "look_at" (defArgs s_look_at) (defBody s_look_at) (defScope s_look_at) .none kV8 dc8 pm8 an8 (cd8) ct8), sl8⟩) (c108 : PySem.W.codeIn K (cd8) "look_at" = true) (k8 : PySem.W.keepIn K (.ref f8) = true)
    (a9 : PySem.W.nsIn K mainGlobals "is_row" = some (some (.ref f9))) (l9 : K.lookup f9 = some ⟨oc9, od9, .func (PySem.W.fnOf "is_row" "is_row" (defArgs s_is_row) (defBody s_is_row) (defScope s_is_row) .none kV9 dc9 pm9 an9 (cd9) ct9), sl9⟩) (c109 : PySem.W.codeIn K (cd9) "is_row" = true) (k9 : PySem.W.keepIn K (.ref f9) = true)
    (a10 : PySem.W.nsIn K mainGlobals "leavings" = some (some (.ref f10))) (l10 : K.lookup f10 = some ⟨oc10, od10, .func (PySem.W.fnOf "leavings" "leavings" (defArgs s_leavings) (defBody s_leavings) (defScope s_leavings) .none kV10 dc10 pm10 an10 (cd10) ct10), sl10⟩) (c110 : PySem.W.codeIn K (cd10) "leavings" = true) (k10 : PySem.W.keepIn K (.ref f10) = true)
    (a11 : PySem.W.nsIn K mainGlobals "is_story" = some (some (.ref f11))) (l11 : K.lookup f11 = some ⟨oc11, od11, .func (PySem.W.fnOf "is_story" "is_story" (defArgs s_is_story) (defBody s_is_story) (defScope s_is_story) .none kV11 dc11 pm11 an11 (cd11) ct11), sl11⟩) (c111 : PySem.W.codeIn K (cd11) "is_story" = true) (k11 : PySem.W.keepIn K (.ref f11) = true)
    (a12 : PySem.W.nsIn K mainGlobals "stairs" = some (some (.ref f12))) (l12 : K.lookup f12 = some ⟨oc12, od12, .func (PySem.W.fnOf "stairs" "stairs" (defArgs s_stairs) (defBody s_stairs) (defScope s_stairs) .none kV12 dc12 pm12 an12 (cd12) ct12), sl12⟩) (c112 : PySem.W.codeIn K (cd12) "stairs" = true) (k12 : PySem.W.keepIn K (.ref f12) = true)
    (a13 : PySem.W.nsIn K mainGlobals "can_be" = some (some (.ref f13))) (l13 : K.lookup f13 = some ⟨oc13, od13, .func (PySem.W.fnOf "can_be" "can_be" (defArgs s_can_be) (defBody s_can_be) (defScope s_can_be) .none kV13 dc13 pm13 an13 (cd13) ct13), sl13⟩) (c113 : PySem.W.codeIn K (cd13) "can_be" = true) (k13 : PySem.W.keepIn K (.ref f13) = true)
    (a14 : PySem.W.nsIn K mainGlobals "first_bar" = some (some (.ref f14))) (l14 : K.lookup f14 = some ⟨oc14, od14, .func (PySem.W.fnOf "first_bar" "first_bar" (defArgs s_first_bar) (defBody s_first_bar) (defScope s_first_bar) .none kV14 dc14 pm14 an14 (cd14) ct14), sl14⟩) (c114 : PySem.W.codeIn K (cd14) "first_bar" = true) (k14 : PySem.W.keepIn K (.ref f14) = true)
    (a15 : PySem.W.nsIn K mainGlobals "how_many" = some (some (.ref f15))) (l15 : K.lookup f15 = some ⟨oc15, od15, .func (PySem.W.fnOf "how_many" "how_many" (defArgs s_how_many) (defBody s_how_many) (defScope s_how_many) .none kV15 dc15 pm15 an15 (cd15) ct15), sl15⟩) (c115 : PySem.W.codeIn K (cd15) "how_many" = true) (k15 : PySem.W.keepIn K (.ref f15) = true)
    (a16 : PySem.W.nsIn K mainGlobals "fewest_row" = some (some (.ref f16))) (l16 : K.lookup f16 = some ⟨oc16, od16, .func (PySem.W.fnOf "fewest_row" "fewest_row" (defArgs s_fewest_row) (defBody s_fewest_row) (defScope s_fewest_row) .none kV16 dc16 pm16 an16 (cd16) ct16), sl16⟩) (c116 : PySem.W.codeIn K (cd16) "fewest_row" = true) (k16 : PySem.W.keepIn K (.ref f16) = true)
    (a17 : PySem.W.nsIn K mainGlobals "most_row" = some (some (.ref f17))) (l17 : K.lookup f17 = some ⟨oc17, od17, .func (PySem.W.fnOf "most_row" "most_row" (defArgs s_most_row) (defBody s_most_row) (defScope s_most_row) .none kV17 dc17 pm17 an17 (cd17) ct17), sl17⟩) (c117 : PySem.W.codeIn K (cd17) "most_row" = true) (k17 : PySem.W.keepIn K (.ref f17) = true)
    (a18 : PySem.W.nsIn K mainGlobals "waits" = some (some (.ref f18))) (l18 : K.lookup f18 = some ⟨oc18, od18, .func (PySem.W.fnOf "waits" "waits" (defArgs s_waits) (defBody s_waits) (defScope s_waits) .none kV18 dc18 pm18 an18 (cd18) ct18), sl18⟩) (c118 : PySem.W.codeIn K (cd18) "waits" = true) (k18 : PySem.W.keepIn K (.ref f18) = true)
    (a19 : PySem.W.nsIn K mainGlobals "there" = some (some (.ref f19))) (l19 : K.lookup f19 = some ⟨oc19, od19, .func (PySem.W.fnOf "there" "there" (defArgs s_there) (defBody s_there) (defScope s_there) .none kV19 dc19 pm19 an19 (cd19) ct19), sl19⟩) (c119 : PySem.W.codeIn K (cd19) "there" = true) (k19 : PySem.W.keepIn K (.ref f19) = true)
    (a20 : PySem.W.nsIn K mainGlobals "mends" = some (some (.ref f20))) (l20 : K.lookup f20 = some ⟨oc20, od20, .func (PySem.W.fnOf "mends" "mends" (defArgs s_mends) (defBody s_mends) (defScope s_mends) .none kV20 dc20 pm20 an20 (cd20) ct20), sl20⟩) (c120 : PySem.W.codeIn K (cd20) "mends" = true) (k20 : PySem.W.keepIn K (.ref f20) = true)
    (a21 : PySem.W.nsIn K mainGlobals "came" = some (some (.ref f21))) (l21 : K.lookup f21 = some ⟨oc21, od21, .func (PySem.W.fnOf "came" "came" (defArgs s_came) (defBody s_came) (defScope s_came) .none kV21 dc21 pm21 an21 (cd21) ct21), sl21⟩) (c121 : PySem.W.codeIn K (cd21) "came" = true) (k21 : PySem.W.keepIn K (.ref f21) = true)
    (a22 : PySem.W.nsIn K mainGlobals "_law_well" = some (some (.ref f22))) (l22 : K.lookup f22 = some ⟨oc22, od22, .func (PySem.W.fnOf "_law_well" "_law_well" (defArgs s__law_well) (defBody s__law_well) (defScope s__law_well) .none kV22 dc22 pm22 an22 (cd22) ct22), sl22⟩) (c122 : PySem.W.codeIn K (cd22) "_law_well" = true) (k22 : PySem.W.keepIn K (.ref f22) = true)
    (a23 : PySem.W.nsIn K mainGlobals "_law_take" = some (some (.ref f23))) (l23 : K.lookup f23 = some ⟨oc23, od23, .func (PySem.W.fnOf "_law_take" "_law_take" (defArgs s__law_take) (defBody s__law_take) (defScope s__law_take) .none kV23 dc23 pm23 an23 (cd23) ct23), sl23⟩) (c123 : PySem.W.codeIn K (cd23) "_law_take" = true) (k23 : PySem.W.keepIn K (.ref f23) = true)
    (a24 : PySem.W.nsIn K mainGlobals "_law_bags" = some (some (.ref f24))) (l24 : K.lookup f24 = some ⟨oc24, od24, .func (PySem.W.fnOf "_law_bags" "_law_bags" (defArgs s__law_bags) (defBody s__law_bags) (defScope s__law_bags) .none kV24 dc24 pm24 an24 (cd24) ct24), sl24⟩) (c124 : PySem.W.codeIn K (cd24) "_law_bags" = true) (k24 : PySem.W.keepIn K (.ref f24) = true)
    (a25 : PySem.W.nsIn K mainGlobals "_law_ferry" = some (some (.ref f25))) (l25 : K.lookup f25 = some ⟨oc25, od25, .func (PySem.W.fnOf "_law_ferry" "_law_ferry" (defArgs s__law_ferry) (defBody s__law_ferry) (defScope s__law_ferry) .none kV25 dc25 pm25 an25 (cd25) ct25), sl25⟩) (c125 : PySem.W.codeIn K (cd25) "_law_ferry" = true) (k25 : PySem.W.keepIn K (.ref f25) = true)
    (a26 : PySem.W.nsIn K mainGlobals "_law_row" = some (some (.ref f26))) (l26 : K.lookup f26 = some ⟨oc26, od26, .func (PySem.W.fnOf "_law_row" "_law_row" (defArgs s__law_row) (defBody s__law_row) (defScope s__law_row) .none kV26 dc26 pm26 an26 (cd26) ct26), sl26⟩) (c126 : PySem.W.codeIn K (cd26) "_law_row" = true) (k26 : PySem.W.keepIn K (.ref f26) = true)
    (a27 : PySem.W.nsIn K mainGlobals "_law_left" = some (some (.ref f27))) (l27 : K.lookup f27 = some ⟨oc27, od27, .func (PySem.W.fnOf "_law_left" "_law_left" (defArgs s__law_left) (defBody s__law_left) (defScope s__law_left) .none kV27 dc27 pm27 an27 (cd27) ct27), sl27⟩) (c127 : PySem.W.codeIn K (cd27) "_law_left" = true) (k27 : PySem.W.keepIn K (.ref f27) = true)
    (a28 : PySem.W.nsIn K mainGlobals "_law_book" = some (some (.ref f28))) (l28 : K.lookup f28 = some ⟨oc28, od28, .func (PySem.W.fnOf "_law_book" "_law_book" (defArgs s__law_book) (defBody s__law_book) (defScope s__law_book) .none kV28 dc28 pm28 an28 (cd28) ct28), sl28⟩) (c128 : PySem.W.codeIn K (cd28) "_law_book" = true) (k28 : PySem.W.keepIn K (.ref f28) = true)
    (a29 : PySem.W.nsIn K mainGlobals "_law_in" = some (some (.ref f29))) (l29 : K.lookup f29 = some ⟨oc29, od29, .func (PySem.W.fnOf "_law_in" "_law_in" (defArgs s__law_in) (defBody s__law_in) (defScope s__law_in) .none kV29 dc29 pm29 an29 (cd29) ct29), sl29⟩) (c129 : PySem.W.codeIn K (cd29) "_law_in" = true) (k29 : PySem.W.keepIn K (.ref f29) = true)
    (a30 : PySem.W.nsIn K mainGlobals "_law_good_ferry" = some (some (.ref f30))) (l30 : K.lookup f30 = some ⟨oc30, od30, .func (PySem.W.fnOf "_law_good_ferry" "_law_good_ferry" (defArgs s__law_good_ferry) (defBody s__law_good_ferry) (defScope s__law_good_ferry) .none kV30 dc30 pm30 an30 (cd30) ct30), sl30⟩) (c130 : PySem.W.codeIn K (cd30) "_law_good_ferry" = true) (k30 : PySem.W.keepIn K (.ref f30) = true)
    (a31 : PySem.W.nsIn K mainGlobals "_law_good" = some (some (.ref f31))) (l31 : K.lookup f31 = some ⟨oc31, od31, .func (PySem.W.fnOf "_law_good" "_law_good" (defArgs s__law_good) (defBody s__law_good) (defScope s__law_good) .none kV31 dc31 pm31 an31 (cd31) ct31), sl31⟩) (c131 : PySem.W.codeIn K (cd31) "_law_good" = true) (k31 : PySem.W.keepIn K (.ref f31) = true)
    (a32 : PySem.W.nsIn K mainGlobals "_law_odd" = some (some (.ref f32))) (l32 : K.lookup f32 = some ⟨oc32, od32, .func (PySem.W.fnOf "_law_odd" "_law_odd" (defArgs s__law_odd) (defBody s__law_odd) (defScope s__law_odd) .none kV32 dc32 pm32 an32 (cd32) ct32), sl32⟩) (c132 : PySem.W.codeIn K (cd32) "_law_odd" = true) (k32 : PySem.W.keepIn K (.ref f32) = true)
    (a33 : PySem.W.nsIn K mainGlobals "_law_same" = some (some (.ref f33))) (l33 : K.lookup f33 = some ⟨oc33, od33, .func (PySem.W.fnOf "_law_same" "_law_same" (defArgs s__law_same) (defBody s__law_same) (defScope s__law_same) .none kV33 dc33 pm33 an33 (cd33) ct33), sl33⟩) (c133 : PySem.W.codeIn K (cd33) "_law_same" = true) (k33 : PySem.W.keepIn K (.ref f33) = true)
    (a34 : PySem.W.nsIn K mainGlobals "_law_doors" = some (some (.ref f34))) (l34 : K.lookup f34 = some ⟨oc34, od34, .func (PySem.W.fnOf "_law_doors" "_law_doors" (defArgs s__law_doors) (defBody s__law_doors) (defScope s__law_doors) .none kV34 dc34 pm34 an34 (.ref c1) ct34), sl34⟩) (c134 : PySem.W.codeIn K (.ref c1) "_law_doors" = true) (k34 : PySem.W.keepIn K (.ref f34) = true)
    (a35 : PySem.W.nsIn K mainGlobals "_law_tried" = some (some (.ref f35))) (l35 : K.lookup f35 = some ⟨oc35, od35, .func (PySem.W.fnOf "_law_tried" "_law_tried" (defArgs s__law_tried) (defBody s__law_tried) (defScope s__law_tried) .none kV35 dc35 pm35 an35 (cd35) ct35), sl35⟩) (c135 : PySem.W.codeIn K (cd35) "_law_tried" = true) (k35 : PySem.W.keepIn K (.ref f35) = true)
    (a36 : PySem.W.nsIn K mainGlobals "_law_refused" = some (some (.ref f36))) (l36 : K.lookup f36 = some ⟨oc36, od36, .func (PySem.W.fnOf "_law_refused" "_law_refused" (defArgs s__law_refused) (defBody s__law_refused) (defScope s__law_refused) .none kV36 dc36 pm36 an36 (cd36) ct36), sl36⟩) (c136 : PySem.W.codeIn K (cd36) "_law_refused" = true) (k36 : PySem.W.keepIn K (.ref f36) = true)
    (a37 : PySem.W.nsIn K mainGlobals "law" = some (some (.ref f37))) (l37 : K.lookup f37 = some ⟨oc37, od37, .func (PySem.W.fnOf "law" "law" (defArgs s_law) (defBody s_law) (defScope s_law) .none kV37 dc37 pm37 an37 (.ref c2) ct37), sl37⟩) (c137 : PySem.W.codeIn K (.ref c2) "law" = true) (k37 : PySem.W.keepIn K (.ref f37) = true)
    (u1 : K.lookup c1 = some ⟨te1, td1, .fields tv1, ts1⟩) (v1 : tv1[11]? = some (.ref T1)) (w1 : K.lookup T1 = none) (y1 : (recsOf prog).find? (fun e => e.name == ("_law_doors" : Str)) = some r1)
    (u2 : K.lookup c2 = some ⟨te2, td2, .fields tv2, ts2⟩) (v2 : tv2[11]? = some (.ref T2)) (w2 : K.lookup T2 = none) (y2 : (recsOf prog).find? (fun e => e.name == ("law" : Str)) = some r2)
    (h12 : T1 ≠ T2)
    (gE : PySem.W.nsIn K mainGlobals "FerryError" = some (some (.ref FE))) (bE : PySem.W.subIn K (.ref FE) (.type "BaseException") = some true) (dE : PySem.W.hasDictIn K FE = true) (tE : PySem.W.typeIn K (.ref FE) = some (.type "type"))
    (gNF : PySem.W.nsIn K mainGlobals "NoFerry" = some (some (.ref NF))) (xNF : PySem.W.excIn K NF [.type "ValueError", .type "Exception", .type "BaseException", .type "object"] "ValueError.__new__" = true) (kNF : PySem.W.keepIn K (.ref NF) = true) (bNF : PySem.W.subIn K (.ref NF) (.type "BaseException") = some true) (tNF : PySem.W.typeIn K (.ref NF) = some (.type "type"))
    (eNF : PySem.W.subIn K (.ref NF) (.ref FE) = some true) (gaNF : PySem.W.findIn K (.ref NF) "__getattribute__" = some (some (.builtin "BaseException.__getattribute__"))) (gbNF : PySem.W.findIn K (.ref NF) "__getattr__" = some none) (hdNF : PySem.W.hasDictIn K NF = true) (clNF : PySem.W.findIn K (.ref NF) "__class__" = some (some (.builtin "object.__class__"))) (obNF : PySem.W.mroIn K NF (.type "object") = some true)
    (gNB : PySem.W.nsIn K mainGlobals "NoBook" = some (some (.ref NB))) (xNB : PySem.W.excIn K NB [.type "ValueError", .type "Exception", .type "BaseException", .type "object"] "ValueError.__new__" = true) (kNB : PySem.W.keepIn K (.ref NB) = true) (bNB : PySem.W.subIn K (.ref NB) (.type "BaseException") = some true) (tNB : PySem.W.typeIn K (.ref NB) = some (.type "type"))
    (eNB : PySem.W.subIn K (.ref NB) (.ref FE) = some true) (gaNB : PySem.W.findIn K (.ref NB) "__getattribute__" = some (some (.builtin "BaseException.__getattribute__"))) (gbNB : PySem.W.findIn K (.ref NB) "__getattr__" = some none) (hdNB : PySem.W.hasDictIn K NB = true) (clNB : PySem.W.findIn K (.ref NB) "__class__" = some (some (.builtin "object.__class__"))) (obNB : PySem.W.mroIn K NB (.type "object") = some true)
    (gNR : PySem.W.nsIn K mainGlobals "NoRow" = some (some (.ref NR))) (xNR : PySem.W.excIn K NR [.type "ValueError", .type "Exception", .type "BaseException", .type "object"] "ValueError.__new__" = true) (kNR : PySem.W.keepIn K (.ref NR) = true) (bNR : PySem.W.subIn K (.ref NR) (.type "BaseException") = some true) (tNR : PySem.W.typeIn K (.ref NR) = some (.type "type"))
    (eNR : PySem.W.subIn K (.ref NR) (.ref FE) = some true) (gaNR : PySem.W.findIn K (.ref NR) "__getattribute__" = some (some (.builtin "BaseException.__getattribute__"))) (gbNR : PySem.W.findIn K (.ref NR) "__getattr__" = some none) (hdNR : PySem.W.hasDictIn K NR = true) (clNR : PySem.W.findIn K (.ref NR) "__class__" = some (some (.builtin "object.__class__"))) (obNR : PySem.W.mroIn K NR (.type "object") = some true)
    (gNC : PySem.W.nsIn K mainGlobals "NoComer" = some (some (.ref NC))) (xNC : PySem.W.excIn K NC [.type "ValueError", .type "Exception", .type "BaseException", .type "object"] "ValueError.__new__" = true) (kNC : PySem.W.keepIn K (.ref NC) = true) (bNC : PySem.W.subIn K (.ref NC) (.type "BaseException") = some true) (tNC : PySem.W.typeIn K (.ref NC) = some (.type "type"))
    (eNC : PySem.W.subIn K (.ref NC) (.ref FE) = some true) (gaNC : PySem.W.findIn K (.ref NC) "__getattribute__" = some (some (.builtin "BaseException.__getattribute__"))) (gbNC : PySem.W.findIn K (.ref NC) "__getattr__" = some none) (hdNC : PySem.W.hasDictIn K NC = true) (clNC : PySem.W.findIn K (.ref NC) "__class__" = some (some (.builtin "object.__class__"))) (obNC : PySem.W.mroIn K NC (.type "object") = some true)
    (sp0 : PySem.W.specialIn K (.builtin "object.__class__") "__get__" = some (some (.builtin "getset_descriptor.__get__"))) (tk0 : PySem.W.takesIn K (.builtin "object.__class__") = some true)
    (sNFNB : PySem.W.subIn K (.ref NF) (.ref NB) = some false)
    (sNFNR : PySem.W.subIn K (.ref NF) (.ref NR) = some false)
    (sNFNC : PySem.W.subIn K (.ref NF) (.ref NC) = some false)
    (sNBNF : PySem.W.subIn K (.ref NB) (.ref NF) = some false)
    (sNBNR : PySem.W.subIn K (.ref NB) (.ref NR) = some false)
    (sNBNC : PySem.W.subIn K (.ref NB) (.ref NC) = some false)
    (sNRNF : PySem.W.subIn K (.ref NR) (.ref NF) = some false)
    (sNRNB : PySem.W.subIn K (.ref NR) (.ref NB) = some false)
    (sNRNC : PySem.W.subIn K (.ref NR) (.ref NC) = some false)
    (sNCNF : PySem.W.subIn K (.ref NC) (.ref NF) = some false)
    (sNCNB : PySem.W.subIn K (.ref NC) (.ref NB) = some false)
    (sNCNR : PySem.W.subIn K (.ref NC) (.ref NR) = some false)
    (dis : [NF, NB, NR, NC].Nodup)
    (z0 : PySem.W.nsIn K mainGlobals "len" = some none) (z1 : PySem.W.nsIn K mainGlobals "range" = some none) (z2 : PySem.W.nsIn K mainGlobals "zip" = some none) (z3 : PySem.W.nsIn K mainGlobals "enumerate" = some none) (z4 : PySem.W.nsIn K mainGlobals "sum" = some none) (z5 : PySem.W.nsIn K mainGlobals "min" = some none) (z6 : PySem.W.nsIn K mainGlobals "max" = some none) (z7 : PySem.W.nsIn K mainGlobals "all" = some none) (z8 : PySem.W.nsIn K mainGlobals "isinstance" = some none) (z9 : PySem.W.nsIn K mainGlobals "tuple" = some none) (z10 : PySem.W.nsIn K mainGlobals "list" = some none) (z11 : PySem.W.nsIn K mainGlobals "dict" = some none) (z12 : PySem.W.nsIn K mainGlobals "sorted" = some none) (z13 : PySem.W.nsIn K mainGlobals "int" = some none) (z14 : PySem.W.nsIn K mainGlobals "bool" = some none) (z15 : PySem.W.nsIn K mainGlobals "str" = some none)
    (vML : PySem.W.nsIn K mainGlobals "MOST_LAST" = some (some (.int 60 tML))) (vMV : PySem.W.nsIn K mainGlobals "MOST_LEAVINGS" = some (some (.int 10 tMV))) (vEN : PySem.W.nsIn K mainGlobals "ENDLESS" = some (some (.int 1000000 tEN))) :
    LamX.LawAtS l w K CX0 10 63 "script" mg fa h := by
  have e := hfa.symm.trans (PySem.W.mg_of X G a37)
  cases e
  have T : GT mg := ⟨fun x hx => by
    simp only [bNames, List.mem_cons, List.not_mem_nil, or_false] at hx
    rcases hx with rfl | rfl | rfl | rfl | rfl | rfl | rfl | rfl | rfl | rfl | rfl | rfl | rfl | rfl | rfl | rfl
    · exact PySem.W.mg_none_of X G z0
    · exact PySem.W.mg_none_of X G z1
    · exact PySem.W.mg_none_of X G z2
    · exact PySem.W.mg_none_of X G z3
    · exact PySem.W.mg_none_of X G z4
    · exact PySem.W.mg_none_of X G z5
    · exact PySem.W.mg_none_of X G z6
    · exact PySem.W.mg_none_of X G z7
    · exact PySem.W.mg_none_of X G z8
    · exact PySem.W.mg_none_of X G z9
    · exact PySem.W.mg_none_of X G z10
    · exact PySem.W.mg_none_of X G z11
    · exact PySem.W.mg_none_of X G z12
    · exact PySem.W.mg_none_of X G z13
    · exact PySem.W.mg_none_of X G z14
    · exact PySem.W.mg_none_of X G z15, ⟨_, PySem.W.mg_of X G vML⟩, ⟨_, PySem.W.mg_of X G vMV⟩, ⟨_, PySem.W.mg_of X G vEN⟩⟩
  have xF : ExT K mg "NoFerry" NF := ⟨PySem.W.mg_of X G gNF, xNF, kNF, bNF, tNF⟩
  have oF : ExcC K NF := ⟨gaNF, gbNF, bNF, hdNF, clNF, sp0, tk0, obNF⟩
  have xB : ExT K mg "NoBook" NB := ⟨PySem.W.mg_of X G gNB, xNB, kNB, bNB, tNB⟩
  have oB : ExcC K NB := ⟨gaNB, gbNB, bNB, hdNB, clNB, sp0, tk0, obNB⟩
  have xR : ExT K mg "NoRow" NR := ⟨PySem.W.mg_of X G gNR, xNR, kNR, bNR, tNR⟩
  have oR : ExcC K NR := ⟨gaNR, gbNR, bNR, hdNR, clNR, sp0, tk0, obNR⟩
  have xC : ExT K mg "NoComer" NC := ⟨PySem.W.mg_of X G gNC, xNC, kNC, bNC, tNC⟩
  have oC : ExcC K NC := ⟨gaNC, gbNC, bNC, hdNC, clNC, sp0, tk0, obNC⟩
  have j1 : ∀ p ∈ ([(NF, "NoFerry"), (NB, "NoBook"), (NR, "NoRow"), (NC, "NoComer")] : List (Addr × Str)), ExT K mg p.2 p.1 := fun p hp => by
    rcases List.mem_cons.mp hp with e | hp
    · rw [e]; exact xF
    · rcases List.mem_cons.mp hp with e | hp
      · rw [e]; exact xB
      · rcases List.mem_cons.mp hp with e | hp
        · rw [e]; exact xR
        · rw [List.mem_singleton.mp hp]; exact xC
  have j2 : ∀ p ∈ ([(NF, "NoFerry"), (NB, "NoBook"), (NR, "NoRow"), (NC, "NoComer")] : List (Addr × Str)), PySem.W.exmOne K (.ref p.1) (.ref FE) = some true := fun p hp => by
    rcases List.mem_cons.mp hp with e | hp
    · rw [e]; exact PySem.W.exm_ref bE dE tE eNF
    · rcases List.mem_cons.mp hp with e | hp
      · rw [e]; exact PySem.W.exm_ref bE dE tE eNB
      · rcases List.mem_cons.mp hp with e | hp
        · rw [e]; exact PySem.W.exm_ref bE dE tE eNR
        · rw [List.mem_singleton.mp hp]; exact PySem.W.exm_ref bE dE tE eNC
  have j3 : ∀ p ∈ ([(NF, "NoFerry"), (NB, "NoBook"), (NR, "NoRow"), (NC, "NoComer")] : List (Addr × Str)), ExcC K p.1 := fun p hp => by
    rcases List.mem_cons.mp hp with e | hp
    · rw [e]; exact oF
    · rcases List.mem_cons.mp hp with e | hp
      · rw [e]; exact oB
      · rcases List.mem_cons.mp hp with e | hp
        · rw [e]; exact oR
        · rw [List.mem_singleton.mp hp]; exact oC
  have shp : ∀ p ∈ ([(NF, "NoFerry"), (NB, "NoBook"), (NR, "NoRow"), (NC, "NoComer")] : List (Addr × Str)), Shp 1 (.tuple [.str p.2]) := fun p hp => by
    rcases List.mem_cons.mp hp with e | hp
    · rw [e]; exact (show Shp 1 (.tuple [.str "NoFerry"]) from ⟨by decide +kernel, by decide +kernel⟩)
    · rcases List.mem_cons.mp hp with e | hp
      · rw [e]; exact (show Shp 1 (.tuple [.str "NoBook"]) from ⟨by decide +kernel, by decide +kernel⟩)
      · rcases List.mem_cons.mp hp with e | hp
        · rw [e]; exact (show Shp 1 (.tuple [.str "NoRow"]) from ⟨by decide +kernel, by decide +kernel⟩)
        · rw [List.mem_singleton.mp hp]; exact (show Shp 1 (.tuple [.str "NoComer"]) from ⟨by decide +kernel, by decide +kernel⟩)
  have df : ∀ A B : Addr, A = B ∨ A ≠ B := fun A B => Decidable.em _
  obtain ⟨m1, m2⟩ := List.nodup_cons.mp dis
  obtain ⟨m3, m4⟩ := List.nodup_cons.mp m2
  obtain ⟨m5, m6⟩ := List.nodup_cons.mp m4
  have nFB : NF ≠ NB := fun z => m1 (z ▸ .head _)
  have nFR : NF ≠ NR := fun z => m1 (z ▸ .tail _ (.head _))
  have nFC : NF ≠ NC := fun z => m1 (z ▸ .tail _ (.tail _ (.head _)))
  have nBR : NB ≠ NR := fun z => m3 (z ▸ .head _)
  have nBC : NB ≠ NC := fun z => m3 (z ▸ .tail _ (.head _))
  have nRC : NR ≠ NC := fun z => m5 (z ▸ .head _)
  have qF : ∀ p ∈ ([(NF, "NoFerry"), (NB, "NoBook"), (NR, "NoRow"), (NC, "NoComer")] : List (Addr × Str)), PySem.W.kitOne K (.ref NF) (.ref p.1) = some (decide (NF = p.1)) := fun p hp => by
    rcases List.mem_cons.mp hp with e | hp
    · rw [e]; exact kit_same
    · rcases List.mem_cons.mp hp with e | hp
      · rw [e]; exact kit_no nFB hdNB tNB sNFNB
      · rcases List.mem_cons.mp hp with e | hp
        · rw [e]; exact kit_no nFR hdNR tNR sNFNR
        · rw [List.mem_singleton.mp hp]; exact kit_no nFC hdNC tNC sNFNC
  have qB : ∀ p ∈ ([(NF, "NoFerry"), (NB, "NoBook"), (NR, "NoRow"), (NC, "NoComer")] : List (Addr × Str)), PySem.W.kitOne K (.ref NB) (.ref p.1) = some (decide (NB = p.1)) := fun p hp => by
    rcases List.mem_cons.mp hp with e | hp
    · rw [e]; exact kit_no nFB.symm hdNF tNF sNBNF
    · rcases List.mem_cons.mp hp with e | hp
      · rw [e]; exact kit_same
      · rcases List.mem_cons.mp hp with e | hp
        · rw [e]; exact kit_no nBR hdNR tNR sNBNR
        · rw [List.mem_singleton.mp hp]; exact kit_no nBC hdNC tNC sNBNC
  have qR : ∀ p ∈ ([(NF, "NoFerry"), (NB, "NoBook"), (NR, "NoRow"), (NC, "NoComer")] : List (Addr × Str)), PySem.W.kitOne K (.ref NR) (.ref p.1) = some (decide (NR = p.1)) := fun p hp => by
    rcases List.mem_cons.mp hp with e | hp
    · rw [e]; exact kit_no nFR.symm hdNF tNF sNRNF
    · rcases List.mem_cons.mp hp with e | hp
      · rw [e]; exact kit_no nBR.symm hdNB tNB sNRNB
      · rcases List.mem_cons.mp hp with e | hp
        · rw [e]; exact kit_same
        · rw [List.mem_singleton.mp hp]; exact kit_no nRC hdNC tNC sNRNC
  have qC : ∀ p ∈ ([(NF, "NoFerry"), (NB, "NoBook"), (NR, "NoRow"), (NC, "NoComer")] : List (Addr × Str)), PySem.W.kitOne K (.ref NC) (.ref p.1) = some (decide (NC = p.1)) := fun p hp => by
    rcases List.mem_cons.mp hp with e | hp
    · rw [e]; exact kit_no nFC.symm hdNF tNF sNCNF
    · rcases List.mem_cons.mp hp with e | hp
      · rw [e]; exact kit_no nBC.symm hdNB tNB sNCNB
      · rcases List.mem_cons.mp hp with e | hp
        · rw [e]; exact kit_no nRC.symm hdNR tNR sNCNR
        · rw [List.mem_singleton.mp hp]; exact kit_same
  have j4 : ∀ p ∈ ([(NF, "NoFerry"), (NB, "NoBook"), (NR, "NoRow"), (NC, "NoComer")] : List (Addr × Str)), ∀ q ∈ ([(NF, "NoFerry"), (NB, "NoBook"), (NR, "NoRow"), (NC, "NoComer")] : List (Addr × Str)), PySem.W.kitOne K (.ref p.1) (.ref q.1) = some (decide (p.1 = q.1)) := fun p hp => by
    rcases List.mem_cons.mp hp with e | hp
    · rw [e]; exact qF
    · rcases List.mem_cons.mp hp with e | hp
      · rw [e]; exact qB
      · rcases List.mem_cons.mp hp with e | hp
        · rw [e]; exact qR
        · rw [List.mem_singleton.mp hp]; exact qC
  have xT : XcT K mg FE [(NF, "NoFerry"), (NB, "NoBook"), (NR, "NoRow"), (NC, "NoComer")] := ⟨PySem.W.mg_of X G gE, j1, j2, j3, j4⟩
  obtain ⟨H1, E1⟩ := TB r1 "_law_doors" c1 T1 y1 (tab_in a34 l34 rfl u1 v1)
  obtain ⟨H2, E2⟩ := TB r2 "law" c2 T2 y2 (tab_in a37 l37 rfl u2 v2)
  have two : ∀ {Φ : Addr × Addr → Prop}, Φ (c1, T1) → Φ (c2, T2) → ∀ p ∈ [(c1, T1), (c2, T2)], Φ p := fun {Φ} a b p hp => by
    rcases List.mem_cons.mp hp with e | hp
    · rw [e]; exact a
    · rw [List.mem_singleton.mp hp]; exact b
  refine ⟨PySem.W.fnOf "law" "law" (defArgs s_law) (defBody s_law) (defScope s_law) .none kV37 dc37 pm37 an37 (.ref c2) ct37, [(c1, T1), (c2, T2)], spLaw1 K T1 T2, two E1 E2, two w1 w2, two H1 H2, fun s v => .of_eq rfl, fun H a ns hn _ ht hS => ⟨a, ns, rfl, hS, hn, ht _ (.head _), ht _ (.tail _ (.head _)), fun _ => rfl⟩, fun base _ _ hB => ?_⟩
  have B1 : LamX.TabB base mg c1 T1 := hB _ (.head _)
  have B2 : LamX.TabB base mg c2 T2 := hB _ (.tail _ (.head _))
  have F := fun_mk (st := s_is_whole) l1 c101 k1
  have b := F.binds (ps := ["thing"]) fun _ _ _ _ _ _ us hl => match us, hl with | [_], _ => rfl
  have n_is_whole : Kn l.prog w K mg base 1 "is_whole" ["thing"] (spD S_is_whole) := ⟨_, _, ok_is_whole F T, PySem.W.mg_of X G a1, k1, b⟩
  clear F b
  have F := fun_mk (st := s_is_within) l2 c102 k2
  have b := F.binds (ps := ["thing", "low", "high"]) fun _ _ _ _ _ _ us hl => match us, hl with | [_, _, _], _ => rfl
  have n_is_within : Kn l.prog w K mg base 2 "is_within" ["thing", "low", "high"] (spD S_is_within) := ⟨_, _, ok_is_within F T (n_is_whole.mono (by decide)), PySem.W.mg_of X G a2, k2, b⟩
  clear F b
  have F := fun_mk (st := s_is_ferry) l3 c103 k3
  have b := F.binds (ps := ["thing"]) fun _ _ _ _ _ _ us hl => match us, hl with | [_], _ => rfl
  have n_is_ferry : Kn l.prog w K mg base 3 "is_ferry" ["thing"] (spD S_ferG) := ⟨_, _, ok_is_ferryG F T n_is_within, PySem.W.mg_of X G a3, k3, b⟩
  clear F b
  have F := fun_mk (st := s_look_at_ferry) l4 c104 k4
  have b := F.binds (ps := ["ferry"]) fun _ _ _ _ _ _ us hl => match us, hl with | [_], _ => rfl
  have n_look_at_ferry : Kn l.prog w K mg base 4 "look_at_ferry" ["ferry"] (spD S_lafG) := ⟨_, _, ok_look_at_ferryG F T n_is_ferry, PySem.W.mg_of X G a4, k4, b⟩
  have x_look_at_ferry : KnX l.prog w K mg base 4 "look_at_ferry" ["ferry"] (spX (S_lafX NF)) := ⟨_, _, ok_look_at_ferryX F T xF n_is_ferry, PySem.W.mg_of X G a4, k4, b⟩
  clear F b
  have F := fun_mk (st := s_is_leaving) l5 c105 k5
  have b := F.binds (ps := ["ferry", "last", "thing"]) fun _ _ _ _ _ _ us hl => match us, hl with | [_, _, _], _ => rfl
  have n_is_leaving : Kn l.prog w K mg base 3 "is_leaving" ["ferry", "last", "thing"] (spD S_leaG) := ⟨_, _, ok_is_leavingG F T n_is_within, PySem.W.mg_of X G a5, k5, b⟩
  clear F b
  have F := fun_mk (st := s_is_book_of) l6 c106 k6
  have b := F.binds (ps := ["ferry", "thing"]) fun _ _ _ _ _ _ us hl => match us, hl with | [_, _], _ => rfl
  have n_is_book_of : Kn l.prog w K mg base 4 "is_book_of" ["ferry", "thing"] (spD S_bookG) := ⟨_, _, ok_is_book_ofG F T (n_is_within.mono (by decide)) n_is_leaving, PySem.W.mg_of X G a6, k6, b⟩
  clear F b
  have F := fun_mk (st := s_is_book) l7 c107 k7
  have b := F.binds (ps := ["ferry", "thing"]) fun _ _ _ _ _ _ us hl => match us, hl with | [_, _], _ => rfl
  have n_is_book : Kn l.prog w K mg base 5 "is_book" ["ferry", "thing"] (spD S_ibG) := ⟨_, _, ok_is_bookG F T n_look_at_ferry n_is_book_of, PySem.W.mg_of X G a7, k7, b⟩
  have x_is_book : KnX l.prog w K mg base 5 "is_book" ["ferry", "thing"] (spX (S_lf2X NF)) := ⟨_, _, okX_is_book F T x_look_at_ferry, PySem.W.mg_of X G a7, k7, b⟩
  clear F b
  have F := fun_mk (st := s_look_at) l8 c108 k8
  have b := F.binds (ps := ["ferry", "book"]) fun _ _ _ _ _ _ us hl => match us, hl with | [_, _], _ => rfl
  have n_look_at : Kn l.prog w K mg base 5 "look_at" ["ferry", "book"] (spD S_laG) := ⟨_, _, ok_look_atG F T n_look_at_ferry n_is_book_of, PySem.W.mg_of X G a8, k8, b⟩
  have x_look_at : KnX l.prog w K mg base 5 "look_at" ["ferry", "book"] (spX (S_laX NF NB)) := ⟨_, _, ok_look_atX F T xB n_look_at_ferry x_look_at_ferry n_is_book_of, PySem.W.mg_of X G a8, k8, b⟩
  clear F b
  have F := fun_mk (st := s_is_row) l9 c109 k9
  have b := F.binds (ps := ["ferry", "thing"]) fun _ _ _ _ _ _ us hl => match us, hl with | [_, _], _ => rfl
  have n_is_row : Kn l.prog w K mg base 3 "is_row" ["ferry", "thing"] (spD S_is_row) := ⟨_, _, ok_is_row F T n_is_within, PySem.W.mg_of X G a9, k9, b⟩
  clear F b
  have F := fun_mk (st := s_leavings) l10 c110 k10
  have b := F.binds (ps := ["ferry", "row"]) fun _ _ _ _ _ _ us hl => match us, hl with | [_, _], _ => rfl
  have x_leavings : KnX l.prog w K mg base 5 "leavings" ["ferry", "row"] (spX (S_lvX NF NR)) := ⟨_, _, okX_leavings F T xR x_look_at_ferry n_look_at_ferry (n_is_row.mono (by decide)), PySem.W.mg_of X G a10, k10, b⟩
  clear F b
  have F := fun_mk (st := s_is_story) l11 c111 k11
  have b := F.binds (ps := ["ferry", "book", "thing"]) fun _ _ _ _ _ _ us hl => match us, hl with | [_, _, _], _ => rfl
  have x_is_story : KnX l.prog w K mg base 6 "is_story" ["ferry", "book", "thing"] (spX (S_la3X NF NB)) := ⟨_, _, okX_is_story F T x_look_at, PySem.W.mg_of X G a11, k11, b⟩
  clear F b
  have F := fun_mk (st := s_stairs) l12 c112 k12
  have b := F.binds (ps := ["ferry", "book"]) fun _ _ _ _ _ _ us hl => match us, hl with | [_, _], _ => rfl
  have x_stairs : KnX l.prog w K mg base 6 "stairs" ["ferry", "book"] (spX (S_laX NF NB)) := ⟨_, _, okX_stairs F T x_look_at, PySem.W.mg_of X G a12, k12, b⟩
  clear F b
  have F := fun_mk (st := s_can_be) l13 c113 k13
  have b := F.binds (ps := ["ferry", "book"]) fun _ _ _ _ _ _ us hl => match us, hl with | [_, _], _ => rfl
  have x_can_be : KnX l.prog w K mg base 6 "can_be" ["ferry", "book"] (spX (S_laX NF NB)) := ⟨_, _, okX_can_be F T x_look_at, PySem.W.mg_of X G a13, k13, b⟩
  clear F b
  have F := fun_mk (st := s_first_bar) l14 c114 k14
  have b := F.binds (ps := ["ferry", "book"]) fun _ _ _ _ _ _ us hl => match us, hl with | [_, _], _ => rfl
  have x_first_bar : KnX l.prog w K mg base 6 "first_bar" ["ferry", "book"] (spX (S_laX NF NB)) := ⟨_, _, okX_first_bar F T x_look_at, PySem.W.mg_of X G a14, k14, b⟩
  clear F b
  have F := fun_mk (st := s_how_many) l15 c115 k15
  have b := F.binds (ps := ["ferry", "book"]) fun _ _ _ _ _ _ us hl => match us, hl with | [_, _], _ => rfl
  have x_how_many : KnX l.prog w K mg base 6 "how_many" ["ferry", "book"] (spX (S_laX NF NB)) := ⟨_, _, okX_how_many F T x_look_at, PySem.W.mg_of X G a15, k15, b⟩
  clear F b
  have F := fun_mk (st := s_fewest_row) l16 c116 k16
  have b := F.binds (ps := ["ferry", "book"]) fun _ _ _ _ _ _ us hl => match us, hl with | [_, _], _ => rfl
  have x_fewest_row : KnX l.prog w K mg base 6 "fewest_row" ["ferry", "book"] (spX (S_laX NF NB)) := ⟨_, _, okX_fewest_row F T x_look_at, PySem.W.mg_of X G a16, k16, b⟩
  clear F b
  have F := fun_mk (st := s_most_row) l17 c117 k17
  have b := F.binds (ps := ["ferry", "book"]) fun _ _ _ _ _ _ us hl => match us, hl with | [_, _], _ => rfl
  have x_most_row : KnX l.prog w K mg base 6 "most_row" ["ferry", "book"] (spX (S_laX NF NB)) := ⟨_, _, okX_most_row F T x_look_at, PySem.W.mg_of X G a17, k17, b⟩
  clear F b
  have F := fun_mk (st := s_waits) l18 c118 k18
  have b := F.binds (ps := ["ferry", "book"]) fun _ _ _ _ _ _ us hl => match us, hl with | [_, _], _ => rfl
  have x_waits : KnX l.prog w K mg base 6 "waits" ["ferry", "book"] (spX (S_laX NF NB)) := ⟨_, _, okX_waits F T x_look_at, PySem.W.mg_of X G a18, k18, b⟩
  clear F b
  have F := fun_mk (st := s_there) l19 c119 k19
  have b := F.binds (ps := ["ferry", "book"]) fun _ _ _ _ _ _ us hl => match us, hl with | [_, _], _ => rfl
  have x_there : KnX l.prog w K mg base 6 "there" ["ferry", "book"] (spX (S_laX NF NB)) := ⟨_, _, okX_there F T x_look_at, PySem.W.mg_of X G a19, k19, b⟩
  clear F b
  have F := fun_mk (st := s_mends) l20 c120 k20
  have b := F.binds (ps := ["ferry", "book"]) fun _ _ _ _ _ _ us hl => match us, hl with | [_, _], _ => rfl
  have x_mends : KnX l.prog w K mg base 6 "mends" ["ferry", "book"] (spX (S_laX NF NB)) := ⟨_, _, okX_mends F T x_look_at, PySem.W.mg_of X G a20, k20, b⟩
  clear F b
  have F := fun_mk (st := s_came) l21 c121 k21
  have b := F.binds (ps := ["ferry", "book", "comer"]) fun _ _ _ _ _ _ us hl => match us, hl with | [_, _, _], _ => rfl
  have x_came : KnX l.prog w K mg base 6 "came" ["ferry", "book", "comer"] (spX (S_cameX NF NB NC)) := ⟨_, _, okX_came F T xC x_look_at n_look_at (n_is_whole.mono (by decide)), PySem.W.mg_of X G a21, k21, b⟩
  clear F b
  have F := fun_mk (st := s__law_well) l22 c122 k22
  have b := F.binds (ps := ["cell", "turn"]) fun _ _ _ _ _ _ us hl => match us, hl with | [_, _], _ => rfl
  have n__law_well : Kn l.prog w K mg base 1 "_law_well" ["cell", "turn"] (spW) := ⟨_, _, ok_well F T, PySem.W.mg_of X G a22, k22, b⟩
  clear F b
  have F := fun_mk (st := s__law_take) l23 c123 k23
  have b := F.binds (ps := ["bag", "many"]) fun _ _ _ _ _ _ us hl => match us, hl with | [_, _], _ => rfl
  have n__law_take : Kn l.prog w K mg base 1 "_law_take" ["bag", "many"] (spB S_take) := ⟨_, _, ok_take F T, PySem.W.mg_of X G a23, k23, b⟩
  clear F b
  have F := fun_mk (st := s__law_bags) l24 c124 k24
  have b := F.binds (ps := ["script", "most"]) fun _ _ _ _ _ _ us hl => match us, hl with | [_, _], _ => rfl
  have n__law_bags : Kn l.prog w K mg base 2 "_law_bags" ["script", "most"] (spBags K) := ⟨_, _, ok_bags F T n__law_well, PySem.W.mg_of X G a24, k24, b⟩
  clear F b
  have F := fun_mk (st := s__law_ferry) l25 c125 k25
  have b := F.binds (ps := ["bag", "little"]) fun _ _ _ _ _ _ us hl => match us, hl with | [_, _], _ => rfl
  have n__law_ferry : Kn l.prog w K mg base 2 "_law_ferry" ["bag", "little"] (spB S_lferry) := ⟨_, _, ok_lferry F T n__law_take, PySem.W.mg_of X G a25, k25, b⟩
  clear F b
  have F := fun_mk (st := s__law_row) l26 c126 k26
  have b := F.binds (ps := ["bag", "ferry1", "ticks1"]) fun _ _ _ _ _ _ us hl => match us, hl with | [_, _, _], _ => rfl
  have n__law_row : Kn l.prog w K mg base 2 "_law_row" ["bag", "ferry1", "ticks1"] (spB S_row) := ⟨_, _, ok_row F T n__law_take, PySem.W.mg_of X G a26, k26, b⟩
  clear F b
  have F := fun_mk (st := s__law_left) l27 c127 k27
  have b := F.binds (ps := ["ferry1", "row"]) fun _ _ _ _ _ _ us hl => match us, hl with | [_, _], _ => rfl
  have n__law_left : Kn l.prog w K mg base 1 "_law_left" ["ferry1", "row"] (spD S_left) := ⟨_, _, ok_left F T, PySem.W.mg_of X G a27, k27, b⟩
  clear F b
  have F := fun_mk (st := s__law_book) l28 c128 k28
  have b := F.binds (ps := ["bag", "ferry1", "ticks1"]) fun _ _ _ _ _ _ us hl => match us, hl with | [_, _, _], _ => rfl
  have n__law_book : Kn l.prog w K mg base 3 "_law_book" ["bag", "ferry1", "ticks1"] (spB S_book) := ⟨_, _, ok_book F T n__law_row (n__law_left.mono (by decide)), PySem.W.mg_of X G a28, k28, b⟩
  clear F b
  have F := fun_mk (st := s__law_in) l29 c129 k29
  have b := F.binds (ps := ["x", "low", "high"]) fun _ _ _ _ _ _ us hl => match us, hl with | [_, _, _], _ => rfl
  have n__law_in : Kn l.prog w K mg base 1 "_law_in" ["x", "low", "high"] (spD S_is_within) := ⟨_, _, ok_lin F T, PySem.W.mg_of X G a29, k29, b⟩
  clear F b
  have F := fun_mk (st := s__law_good_ferry) l30 c130 k30
  have b := F.binds (ps := ["x"]) fun _ _ _ _ _ _ us hl => match us, hl with | [_], _ => rfl
  have n__law_good_ferry : Kn l.prog w K mg base 2 "_law_good_ferry" ["x"] (spD S_ferG) := ⟨_, _, ok_gf F T n__law_in, PySem.W.mg_of X G a30, k30, b⟩
  clear F b
  have F := fun_mk (st := s__law_good) l31 c131 k31
  have b := F.binds (ps := ["ferry1", "x"]) fun _ _ _ _ _ _ us hl => match us, hl with | [_, _], _ => rfl
  have n__law_good : Kn l.prog w K mg base 2 "_law_good" ["ferry1", "x"] (spD S_bookG) := ⟨_, _, ok_good F T n__law_in, PySem.W.mg_of X G a31, k31, b⟩
  clear F b
  have F := fun_mk (st := s__law_odd) l32 c132 k32
  have b := F.binds (ps := ["bag", "x"]) fun _ _ _ _ _ _ us hl => match us, hl with | [_, _], _ => rfl
  have n1__law_odd : Kn l.prog w K mg base 3 "_law_odd" ["bag", "x"] (spB (S_odd 1)) := ⟨_, _, ok_odd F T (PySem.W.mg_of X G a32) k32 b n__law_take 1, PySem.W.mg_of X G a32, k32, b⟩
  have n3__law_odd : Kn l.prog w K mg base 5 "_law_odd" ["bag", "x"] (spB (S_odd 3)) := ⟨_, _, ok_odd F T (PySem.W.mg_of X G a32) k32 b n__law_take 3, PySem.W.mg_of X G a32, k32, b⟩
  clear F b
  have F := fun_mk (st := s__law_same) l33 c133 k33
  have b := F.binds (ps := ["a", "b"]) fun _ _ _ _ _ _ us hl => match us, hl with | [_, _], _ => rfl
  have n__law_same : Kn l.prog w K mg base 1 "_law_same" ["a", "b"] (spD (S_same 0)) := ⟨_, _, ok_same F T (PySem.W.mg_of X G a33) k33 b 0, PySem.W.mg_of X G a33, k33, b⟩
  clear F b
  have gx : GX l.prog w K mg base 6 NF NB NC := ⟨x_is_story, x_can_be, x_first_bar, x_stairs, x_fewest_row, x_most_row, x_how_many, x_came, x_waits, x_there, x_mends⟩
  have F := fun_mk (st := s__law_doors) l34 c134 k34
  have b := F.binds (ps := ["ferry1", "x"]) fun _ _ _ _ _ _ us hl => match us, hl with | [_, _], _ => rfl
  have n__law_doors : Kn l.prog w K mg base 1 "_law_doors" ["ferry1", "x"] (spDoors l.prog w K mg base 6 (BadFB NF NB) T1 qD) := ⟨_, _, ok_doors F T gx rfl B1, PySem.W.mg_of X G a34, k34, b⟩
  clear F b
  have F := fun_mk (st := s__law_tried) l35 c135 k35
  have b := F.binds (ps := ["deed"]) fun _ _ _ _ _ _ us hl => match us, hl with | [_], _ => rfl
  have n__law_tried : Kn l.prog w K mg base 8 "_law_tried" ["deed"] (spTried l.prog w K mg base 6 [(NF, "NoFerry"), (NB, "NoBook"), (NR, "NoRow"), (NC, "NoComer")]) := ⟨_, _, ok_tried F T xT dis, PySem.W.mg_of X G a35, k35, b⟩
  clear F b
  have F := fun_mk (st := s__law_refused) l36 c136 k36
  have b := F.binds (ps := ["doors", "word"]) fun _ _ _ _ _ _ us hl => match us, hl with | [_, _], _ => rfl
  have n__law_refused : Kn l.prog w K mg base 9 "_law_refused" ["doors", "word"] (spRefused l.prog w K mg base 6 [(NF, "NoFerry"), (NB, "NoBook"), (NR, "NoRow"), (NC, "NoComer")]) := ⟨_, _, ok_refused F T shp n__law_tried, PySem.W.mg_of X G a36, k36, b⟩
  clear F b
  have F := fun_mk (st := s_law) l37 c137 k37
  have g : G1 l.prog w K mg base 9 6 [(NF, "NoFerry"), (NB, "NoBook"), (NR, "NoRow"), (NC, "NoComer")] NF NB NR NC T1 := ⟨n__law_bags.mono (by decide), n__law_ferry.mono (by decide), n__law_take.mono (by decide), n__law_book.mono (by decide), n__law_good_ferry.mono (by decide), n__law_good.mono (by decide), n_is_ferry.mono (by decide), n_is_book.mono (by decide), n__law_same.mono (by decide), n1__law_odd.mono (by decide), n3__law_odd.mono (by decide), n__law_doors.mono (by decide), n__law_refused, x_is_book.mono (by decide), x_leavings.mono (by decide), x_came⟩
  exact ok_law F T g rfl B2 h12 (.head _) (.tail _ (.head _)) (.tail _ (.tail _ (.head _))) (.tail _ (.tail _ (.tail _ (.head _))))
end FB
open PySem PySem.W PyProof.Rows
set_option maxHeartbeats 0 in
theorem PySem.Challenge.cw_ferryback_k01_what_are_books_and_who_is_holds : PySem.Challenge.rw_ferryback_k01_what_are_books_and_who_is.Holds := by
  w_on; o_law; k_head; (case hw => w_witness2)
  k_fill
  refine FB.ends_by (law := PySem.Challenge.rw_ferryback_k01_what_are_books_and_who_is) (long := 63) (lev := 10) (arg := "script") (CX := fun _ => L2.CX0) rfl (by decide) rfl ⟨rfl, by decide, by decide⟩ (fun w h Y => PySem.W.km_in_of Y) ?F (fun _ _ _ _ _ h => h)
  case F =>
    intro w mg fa h KX G hmg TB
    refine' FB.all_mk KX G hmg TB ?a1 ?l1 ?c101 ?k1 ?a2 ?l2 ?c102 ?k2 ?a3 ?l3 ?c103 ?k3 ?a4 ?l4 ?c104 ?k4 ?a5 ?l5 ?c105 ?k5 ?a6 ?l6 ?c106 ?k6 ?a7 ?l7 ?c107 ?k7 ?a8 ?l8 ?c108 ?k8 ?a9 ?l9 ?c109 ?k9 ?a10 ?l10 ?c110 ?k10 ?a11 ?l11 ?c111 ?k11 ?a12 ?l12 ?c112 ?k12 ?a13 ?l13 ?c113 ?k13 ?a14 ?l14 ?c114 ?k14 ?a15 ?l15 ?c115 ?k15 ?a16 ?l16 ?c116 ?k16 ?a17 ?l17 ?c117 ?k17 ?a18 ?l18 ?c118 ?k18 ?a19 ?l19 ?c119 ?k19 ?a20 ?l20 ?c120 ?k20 ?a21 ?l21 ?c121 ?k21 ?a22 ?l22 ?c122 ?k22 ?a23 ?l23 ?c123 ?k23 ?a24 ?l24 ?c124 ?k24 ?a25 ?l25 ?c125 ?k25 ?a26 ?l26 ?c126 ?k26 ?a27 ?l27 ?c127 ?k27 ?a28 ?l28 ?c128 ?k28 ?a29 ?l29 ?c129 ?k29 ?a30 ?l30 ?c130 ?k30 ?a31 ?l31 ?c131 ?k31 ?a32 ?l32 ?c132 ?k32 ?a33 ?l33 ?c133 ?k33 ?a34 ?l34 ?c134 ?k34 ?a35 ?l35 ?c135 ?k35 ?a36 ?l36 ?c136 ?k36 ?a37 ?l37 ?c137 ?k37 ?u1 ?v1 ?w1 ?y1 ?u2 ?v2 ?w2 ?y2 ?h12 ?gE ?bE ?dE ?tE ?gNF ?xNF ?kNF ?bNF ?tNF ?eNF ?gaNF ?gbNF ?hdNF ?clNF ?obNF ?gNB ?xNB ?kNB ?bNB ?tNB ?eNB ?gaNB ?gbNB ?hdNB ?clNB ?obNB ?gNR ?xNR ?kNR ?bNR ?tNR ?eNR ?gaNR ?gbNR ?hdNR ?clNR ?obNR ?gNC ?xNC ?kNC ?bNC ?tNC ?eNC ?gaNC ?gbNC ?hdNC ?clNC ?obNC ?sp0 ?tk0 ?sNFNB ?sNFNR ?sNFNC ?sNBNF ?sNBNR ?sNBNC ?sNRNF ?sNRNB ?sNRNC ?sNCNF ?sNCNB ?sNCNR ?dis ?z0 ?z1 ?z2 ?z3 ?z4 ?z5 ?z6 ?z7 ?z8 ?z9 ?z10 ?z11 ?z12 ?z13 ?z14 ?z15 ?vML ?vMV ?vEN
    (case a1 => k_is)
    (case l1 => k_is)
    (case c101 => k_is)
    (case k1 => k_is)
    (case a2 => k_is)
    (case l2 => k_is)
    (case c102 => k_is)
    (case k2 => k_is)
    (case a3 => k_is)
    (case l3 => k_is)
    (case c103 => k_is)
    (case k3 => k_is)
    (case a4 => k_is)
    (case l4 => k_is)
    (case c104 => k_is)
    (case k4 => k_is)
    (case a5 => k_is)
    (case l5 => k_is)
    (case c105 => k_is)
    (case k5 => k_is)
    (case a6 => k_is)
    (case l6 => k_is)
    (case c106 => k_is)
    (case k6 => k_is)
    (case a7 => k_is)
    (case l7 => k_is)
    (case c107 => k_is)
    (case k7 => k_is)
    (case a8 => k_is)
    (case l8 => k_is)
    (case c108 => k_is)
    (case k8 => k_is)
    (case a9 => k_is)
    (case l9 => k_is)
    (case c109 => k_is)
    (case k9 => k_is)
    (case a10 => k_is)
    (case l10 => k_is)
    (case c110 => k_is)
    (case k10 => k_is)
    (case a11 => k_is)
    (case l11 => k_is)
    (case c111 => k_is)
    (case k11 => k_is)
    (case a12 => k_is)
    (case l12 => k_is)
    (case c112 => k_is)
    (case k12 => k_is)
    (case a13 => k_is)
    (case l13 => k_is)
    (case c113 => k_is)
    (case k13 => k_is)
    (case a14 => k_is)
    (case l14 => k_is)
    (case c114 => k_is)
    (case k14 => k_is)
    (case a15 => k_is)
    (case l15 => k_is)
    (case c115 => k_is)
    (case k15 => k_is)
    (case a16 => k_is)
    (case l16 => k_is)
    (case c116 => k_is)
    (case k16 => k_is)
    (case a17 => k_is)
    (case l17 => k_is)
    (case c117 => k_is)
    (case k17 => k_is)
    (case a18 => k_is)
    (case l18 => k_is)
    (case c118 => k_is)
    (case k18 => k_is)
    (case a19 => k_is)
    (case l19 => k_is)
    (case c119 => k_is)
    (case k19 => k_is)
    (case a20 => k_is)
    (case l20 => k_is)
    (case c120 => k_is)
    (case k20 => k_is)
    (case a21 => k_is)
    (case l21 => k_is)
    (case c121 => k_is)
    (case k21 => k_is)
    (case a22 => k_is)
    (case l22 => k_is)
    (case c122 => k_is)
    (case k22 => k_is)
    (case a23 => k_is)
    (case l23 => k_is)
    (case c123 => k_is)
    (case k23 => k_is)
    (case a24 => k_is)
    (case l24 => k_is)
    (case c124 => k_is)
    (case k24 => k_is)
    (case a25 => k_is)
    (case l25 => k_is)
    (case c125 => k_is)
    (case k25 => k_is)
    (case a26 => k_is)
    (case l26 => k_is)
    (case c126 => k_is)
    (case k26 => k_is)
    (case a27 => k_is)
    (case l27 => k_is)
    (case c127 => k_is)
    (case k27 => k_is)
    (case a28 => k_is)
    (case l28 => k_is)
    (case c128 => k_is)
    (case k28 => k_is)
    (case a29 => k_is)
    (case l29 => k_is)
    (case c129 => k_is)
    (case k29 => k_is)
    (case a30 => k_is)
    (case l30 => k_is)
    (case c130 => k_is)
    (case k30 => k_is)
    (case a31 => k_is)
    (case l31 => k_is)
    (case c131 => k_is)
    (case k31 => k_is)
    (case a32 => k_is)
    (case l32 => k_is)
    (case c132 => k_is)
    (case k32 => k_is)
    (case a33 => k_is)
    (case l33 => k_is)
    (case c133 => k_is)
    (case k33 => k_is)
    (case a34 => k_is)
    (case l34 => k_is)
    (case c134 => k_is)
    (case k34 => k_is)
    (case a35 => k_is)
    (case l35 => k_is)
    (case c135 => k_is)
    (case k35 => k_is)
    (case a36 => k_is)
    (case l36 => k_is)
    (case c136 => k_is)
    (case k36 => k_is)
    (case a37 => k_is)
    (case l37 => k_is)
    (case c137 => k_is)
    (case k37 => k_is)
    (case u1 => k_is)
    (case v1 => rfl)
    (case w1 => kernel_rfl)
    (case y1 => rfl)
    (case u2 => k_is)
    (case v2 => rfl)
    (case w2 => kernel_rfl)
    (case y2 => rfl)
    (case h12 => decide)
    (case gE => k_is)
    (case bE => k_is)
    (case dE => k_is)
    (case tE => k_is)
    (case gNF => k_is)
    (case xNF => k_exc)
    (case kNF => k_is)
    (case bNF => k_is)
    (case tNF => k_is)
    (case eNF => k_is)
    (case gaNF => k_is)
    (case gbNF => k_is)
    (case hdNF => k_is)
    (case clNF => k_is)
    (case obNF => k_is)
    (case gNB => k_is)
    (case xNB => k_exc)
    (case kNB => k_is)
    (case bNB => k_is)
    (case tNB => k_is)
    (case eNB => k_is)
    (case gaNB => k_is)
    (case gbNB => k_is)
    (case hdNB => k_is)
    (case clNB => k_is)
    (case obNB => k_is)
    (case gNR => k_is)
    (case xNR => k_exc)
    (case kNR => k_is)
    (case bNR => k_is)
    (case tNR => k_is)
    (case eNR => k_is)
    (case gaNR => k_is)
    (case gbNR => k_is)
    (case hdNR => k_is)
    (case clNR => k_is)
    (case obNR => k_is)
    (case gNC => k_is)
    (case xNC => k_exc)
    (case kNC => k_is)
    (case bNC => k_is)
    (case tNC => k_is)
    (case eNC => k_is)
    (case gaNC => k_is)
    (case gbNC => k_is)
    (case hdNC => k_is)
    (case clNC => k_is)
    (case obNC => k_is)
    (case sp0 => k_is)
    (case tk0 => k_is)
    (case sNFNB => k_is)
    (case sNFNR => k_is)
    (case sNFNC => k_is)
    (case sNBNF => k_is)
    (case sNBNR => k_is)
    (case sNBNC => k_is)
    (case sNRNF => k_is)
    (case sNRNB => k_is)
    (case sNRNC => k_is)
    (case sNCNF => k_is)
    (case sNCNB => k_is)
    (case sNCNR => k_is)
    (case dis => decide)
    (case z0 => k_is)
    (case z1 => k_is)
    (case z2 => k_is)
    (case z3 => k_is)
    (case z4 => k_is)
    (case z5 => k_is)
    (case z6 => k_is)
    (case z7 => k_is)
    (case z8 => k_is)
    (case z9 => k_is)
    (case z10 => k_is)
    (case z11 => k_is)
    (case z12 => k_is)
    (case z13 => k_is)
    (case z14 => k_is)
    (case z15 => k_is)
    (case vML => k_is)
    (case vMV => k_is)
    (case vEN => k_is)

