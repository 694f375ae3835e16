import PyProof.Rows.All
import Wide.All
import OpenK.AllK
import Wide.FinOn
import HandS.TupAny
import HandS.TupMul
import HandS.ForMost
import HandS.IsInst
import HandS.DictComp
import HandS.Zip
import HandS.NoneIn
import HandS.FStr
import HandS.RaiseMore
import KE.DataEq
import KE.DataIsa
import KE.DataCmp
import KE.DataMinMax
import KE.SortData
import HandS.ListItems
import HandS.SetKeys
import HandS.SetFor
import HandS.Style
import KE.KDictPairs
import PyProof.Rows.RowBridgeK
import KE.KRevSl
import HandS.Wide
import KE.KDictList
import HandS.Conv
import KE.GoesMore
import PyProof.EnumMake
import HandS.ExcCtx
import HandS.HotCalls
import HandS.ExcIs
import HandS.CallLocal
import HandS.WordsExc
import HandS.Comp
import HandS.Hot
import HandS.Flow
import PySem.Challenge.RW_newsloft_k06_whole_leads
set_option Elab.async false
set_option linter.all false
set_option maxRecDepth 100000
set_option maxHeartbeats 4000000
/-! N0: new tuples, their whole object known (no dict of their own). -/
namespace N
open PySem PySem.Spec L2 PyProof.Rows
/-- a new tuple's end -/
def QT (H : Hp) (Q : VK) (vs : List V) : Prop := ∀ (p : Addr) (o : Obj), H p = none → o.dict = none → Q (.ref p) (upd H p (.frz o (.tup vs)))
section
variable {X : Cx} {e : Expr} {es : List Expr} {te : TE} {t : TA} {pos : Pos}
theorem laidT {pins : List (Addr × Obj)} {σ : L2.St} {H : Hp} {s : Shared} {vs : List V} {its : List Value} {Q : VK} (I : Inv X pins σ H s) (hz : vs.length ≤ sizeLine) (r : Vals vs its) (q : QT H Q vs) :
    EP X pins σ Q (.ref s.heap.objs.size) { s with heap := s.heap.push { cls := .type "tuple", data := .seq its.toArray } } :=
  ⟨.ref s.heap.objs.size, _, I.laid (t' := s.toks) (o := .frz { cls := .type "tuple", data := .seq its.toArray } (.tup vs)) (fun b ob q => Heap.get?_push_of_some _ q) (Nat.le_refl _) ⟨Heap.get?_push_size _ rfl, hz, its, r, IsTup.new _ _⟩, rfl, q _ _ (I.hok.fresh (Nat.le_refl _)) rfl⟩
def tTupF (t : TA) : TE := fun σ H Q => t σ H fun xs H1 => xs.length ≤ sizeLine ∧ QT H1 Q xs
theorem pe_tupF {x1} (h : PA X es t) : PE X (.Tuple es x1 pos) (tTupF t) := by
  refine ⟨fun pins s σ H Q I hq => ?_⟩
  exact wpAny_Tuple_spliced (thn (h.run pos pins s σ H _ I hq) fun us s1 ⟨xs, H1, I1, r, z, q⟩ => ⟨by rw [← r.length]; exact z, laidT I1 z r q⟩)
theorem call_tuple_ofF : CallR X (.type "tuple") (fun xs H Q => ∃ p ys, xs = [.ref p] ∧ ((SqL X.K H p ys ∧ QT H Q ys) ∨ (SqT X.K H p ys ∧ Q (.ref p) H))) := by
  intro pins s σ H xs us Q I r h
  obtain ⟨p, ys, rfl, h⟩ := h
  obtain ⟨u, rfl, rx⟩ := vals1 r
  cases rx
  rcases h with ⟨hq, q⟩ | ⟨hq, q⟩
  · obtain ⟨its, r', pl, hz⟩ := I.list hq
    have hlen := r'.length
    refine call_tuple_list pl.isList (fun h' kp => ?_) (by simp only [List.size_toArray] <;> omega)
    exact laidT (I.kept (t' := s.toks) kp) hz r' q
  · obtain ⟨its, r', pl, hz⟩ := I.tuple hq
    exact call_tuple_same pl ⟨.ref p, H, I, rfl, q⟩
def rCatF (K : PySem.W.Frag) : R2 := fun x y H Q => ∃ a b xs ys, x = .ref a ∧ y = .ref b ∧ SqT K H a xs ∧ SqT K H b ys ∧ xs.length + ys.length ≤ sizeLine ∧
  (xs = [] → Q (.ref b) H) ∧ (xs ≠ [] → ys = [] → Q (.ref a) H) ∧ (xs ≠ [] → ys ≠ [] → QT H Q (xs ++ ys))
theorem op_catF : OpR X (binaryOp .Add) (rCatF X.K) := by
  intro pins s σ H x y v u Q I rx ry h
  obtain ⟨a, b, xs, ys, rfl, rfl, ha, hb, hz, q0, q1, q2⟩ := h
  cases rx
  cases ry
  obtain ⟨its, r1, p1, _⟩ := I.tuple ha
  obtain ⟨its2, r2, p2, _⟩ := I.tuple hb
  by_cases hx : xs = []
  · subst hx
    cases r1
    exact cat_tup0 p1 p2 ⟨.ref b, H, I, rfl, q0 rfl⟩
  · refine HT.cat_tup p1 p2 (fun z => hx (r1.nil_iff.mp z)) (fun z => ⟨.ref a, H, I, rfl, q1 hx (r2.nil_iff.mp z)⟩) (fun z => ?_) (by rw [← r1.length, ← r2.length]; exact hz)
    exact laidT I (by rw [List.length_append]; exact hz) (r1.append r2) (q2 hx fun w => z (r2.nil_iff.mpr w))
def rSlF (K : PySem.W.Frag) : V → Option Int → Option Int → Hp → VK → Prop := fun x lo hi H Q => ∃ a xs, x = .ref a ∧ SqT K H a xs ∧
  (HT.sIx xs.length 0 lo = 0 ∧ HT.sIx xs.length xs.length hi = xs.length → Q (.ref a) H) ∧ (¬ (HT.sIx xs.length 0 lo = 0 ∧ HT.sIx xs.length xs.length hi = xs.length) → QT H Q (cutV xs lo hi))
theorem sl_tupF : SlR X (rSlF X.K) := by
  intro pins s σ H x v vl vu lo hi sl Q I rx hs pl pu h
  obtain ⟨a, xs, rfl, hx, q1, q2⟩ := h
  cases rx
  obtain ⟨its, r, ht, hz⟩ := I.tuple hx
  have hlen : its.toArray.size = xs.length := by rw [List.size_toArray]; exact r.length.symm
  refine ⟨"tuple", _, PyProof.Rows.slot_tuple_getitem.lookup, ht.typeIs, ?_⟩
  by_cases hw : HT.sIx xs.length 0 lo = 0 ∧ HT.sIx xs.length xs.length hi = xs.length
  · exact getItem_tuple_whole ht hs pl pu (by rw [hlen]; exact hw) ⟨.ref a, H, I, rfl, q1 hw⟩
  · refine HT.getItem_tuple_cut ht hs pl pu (by rw [hlen]; exact hw) ?_ (by rw [hlen]; exact hz)
    rw [hlen]
    exact laidT I (Nat.le_trans (cutV_length xs lo hi) hz) ((r.drop (HT.sIx xs.length 0 lo)).take (HT.sIx xs.length xs.length hi - HT.sIx xs.length 0 lo)) (q2 hw)
end
end N

/-! N1: data, results, the relation between a denotation's state and the hand layer's heap. -/
namespace N
open PySem PySem.Spec L2

abbrev D := PyData
/-- the n-th object of the store, as a datum -/
def rf (n : Nat) : D := .dict [(.none, .int n)]
/-- a def of the text, as a datum -/
def fnD (x : Str) : D := .dict [(.none, .str x)]
def kD : Key → D
  | .inl i => .int i
  | .inr x => .str x
theorem kD_ne (k : Key) : kD k ≠ .none := by cases k <;> simp [kD]

/-- ghost state: the frozen heap, the places of the store's objects -/
structure Gh where
  G : Hp
  ι : Nat → Addr
  L : Nat
  /-- the store is out of sight (its size) -/
  cl : Option Nat

/-- the first item is no tuple -/
def headW : List D → Bool
  | .tuple _ :: _ => false
  | _ => true
/-- the tuple at a has no dict of its own, or is told by its items to be of small account -/
def BT (G : Hp) (a : Addr) (ds : List D) : Prop := (∃ o x, G a = some (.frz o x) ∧ o.dict = none) ∨ headW ds = true
theorem BT.imp {G G' : Hp} {a : Addr} {ds : List D} (h : BT G a ds) (e : ∀ a o, G a = some o → G' a = some o) : BT G' a ds := Or.imp (fun ⟨o, x, h1, h2⟩ => ⟨o, x, e _ _ h1, h2⟩) id h
mutual
/-- v stands for the datum d, by frozen things alone -/
inductive Df (K : PySem.W.Frag) (g : Gh) : V → D → Prop
  | non : Df K g .non .none
  | bl (b : Bool) : Df K g (.bl b) (.bool b)
  | int (i : Int) : Df K g (.int i) (.int i)
  | str (x : Str) : Df K g (.str x) (.str x)
  | lst {a : Addr} {xs : List V} {ds : List D} : SqL K g.G a xs → DfA K g xs ds → Df K g (.ref a) (.list ds)
  | tup {a : Addr} {xs : List V} {ds : List D} : SqT K g.G a xs → BT g.G a ds → DfA K g xs ds → Df K g (.ref a) (.tuple ds)
  | dct {a : Addr} {vs : List (Key × V)} {ds : List (Key × D)} : g.G a = some (.dK vs) → DfK K g vs ds → Df K g (.ref a) (.dict (ds.map fun p => (kD p.1, p.2)))
  | dctF {a : Addr} {o : Obj} {vs : List (Key × V)} {ds : List (Key × D)} : g.G a = some (.frz o (.dK vs)) → DfK K g vs ds → Df K g (.ref a) (.dict ((.none, .bool true) :: ds.map fun p => (kD p.1, p.2)))
  | rf (n : Nat) : n < g.L → Df K g (.ref (g.ι n)) (rf n)
  | fn (x : Str) {f : Addr} : PySem.W.nsIn K mainGlobals x = some (some (.ref f)) → Df K g (.ref f) (fnD x)
inductive DfA (K : PySem.W.Frag) (g : Gh) : List V → List D → Prop
  | nil : DfA K g [] []
  | cons {v : V} {vs : List V} {d : D} {ds : List D} : Df K g v d → DfA K g vs ds → DfA K g (v :: vs) (d :: ds)
inductive DfK (K : PySem.W.Frag) (g : Gh) : List (Key × V) → List (Key × D) → Prop
  | nil : DfK K g [] []
  | cons {k : Key} {v : V} {vs : List (Key × V)} {d : D} {ds : List (Key × D)} : Df K g v d → DfK K g vs ds → DfK K g ((k, v) :: vs) ((k, d) :: ds)
end

/-! ### extension -/
structure Le (g g' : Gh) : Prop where
  G : ∀ a o, g.G a = some o → g'.G a = some o
  L : g.L ≤ g'.L
  ι : ∀ n, n < g.L → g'.ι n = g.ι n
  cl : g'.cl = g.cl
theorem Le.refl (g : Gh) : Le g g := ⟨fun _ _ h => h, Nat.le_refl _, fun _ _ => rfl, rfl⟩
theorem Le.trans {a b c : Gh} (h : Le a b) (k : Le b c) : Le a c :=
  ⟨fun x o e => k.G x o (h.G x o e), Nat.le_trans h.L k.L, fun n hn => (k.ι n (Nat.lt_of_lt_of_le hn h.L)).trans (h.ι n hn), k.cl.trans h.cl⟩
theorem sql_le {K : PySem.W.Frag} {g g' : Gh} (e : Le g g') {a : Addr} {xs : List V} (h : SqL K g.G a xs) : SqL K g'.G a xs := by
  rcases h with (h | ⟨o, h⟩) | h
  · exact .inl (.inl (e.G _ _ h))
  · exact .inl (.inr ⟨o, e.G _ _ h⟩)
  · exact .inr h
theorem sqt_le {K : PySem.W.Frag} {g g' : Gh} (e : Le g g') {a : Addr} {xs : List V} (h : SqT K g.G a xs) : SqT K g'.G a xs := by
  rcases h with (h | ⟨o, h⟩) | h
  · exact .inl (.inl (e.G _ _ h))
  · exact .inl (.inr ⟨o, e.G _ _ h⟩)
  · exact .inr h
mutual
theorem Df.le {K : PySem.W.Frag} {g g' : Gh} (e : Le g g') : ∀ {v : V} {d : D}, Df K g v d → Df K g' v d
  | _, _, .non => .non
  | _, _, .bl b => .bl b
  | _, _, .int i => .int i
  | _, _, .str x => .str x
  | _, _, .lst h1 h2 => .lst (sql_le e h1) (DfA.le e h2)
  | _, _, .tup h1 hb h2 => .tup (sqt_le e h1) (hb.imp e.G) (DfA.le e h2)
  | _, _, .dct h1 h2 => .dct (e.G _ _ h1) (DfK.le e h2)
  | _, _, .dctF h1 h2 => .dctF (e.G _ _ h1) (DfK.le e h2)
  | _, _, .rf n h => by
    rw [← e.ι n h]
    exact .rf n (Nat.lt_of_lt_of_le h e.L)
  | _, _, .fn x h => .fn x h
theorem DfA.le {K : PySem.W.Frag} {g g' : Gh} (e : Le g g') : ∀ {v : List V} {d : List D}, DfA K g v d → DfA K g' v d
  | _, _, .nil => .nil
  | _, _, .cons a b => .cons (Df.le e a) (DfA.le e b)
theorem DfK.le {K : PySem.W.Frag} {g g' : Gh} (e : Le g g') : ∀ {v : List (Key × V)} {d : List (Key × D)}, DfK K g v d → DfK K g' v d
  | _, _, .nil => .nil
  | _, _, .cons a b => .cons (Df.le e a) (DfK.le e b)
end
theorem DfA.length {K : PySem.W.Frag} {g : Gh} : ∀ {vs : List V} {ds : List D}, DfA K g vs ds → vs.length = ds.length
  | _, _, .nil => rfl
  | _, _, .cons _ t => by simp [DfA.length t]
theorem DfA.get {K : PySem.W.Frag} {g : Gh} : ∀ {vs : List V} {ds : List D} {i : Nat} {d : D}, DfA K g vs ds → ds[i]? = some d → ∃ v, vs[i]? = some v ∧ Df K g v d
  | _, _, _, _, .nil, e => by simp at e
  | _, _, 0, _, .cons r _, e => by simp at e; subst e; exact ⟨_, rfl, r⟩
  | _, _, i + 1, d, .cons _ t, e => by
    obtain ⟨u, h1, h2⟩ := DfA.get (i := i) (d := d) t (by simpa using e)
    exact ⟨u, by simpa using h1, h2⟩
theorem DfA.append {K : PySem.W.Frag} {g : Gh} : ∀ {vs ws : List V} {ds es : List D}, DfA K g vs ds → DfA K g ws es → DfA K g (vs ++ ws) (ds ++ es)
  | _, _, _, _, .nil, s => s
  | _, _, _, _, .cons r t, s => .cons r (DfA.append t s)
theorem DfA.take {K : PySem.W.Frag} {g : Gh} : ∀ {vs : List V} {ds : List D} (n : Nat), DfA K g vs ds → DfA K g (vs.take n) (ds.take n)
  | _, _, 0, _ => .nil
  | _, _, _ + 1, .nil => .nil
  | _, _, n + 1, .cons r t => .cons r (DfA.take n t)
theorem DfA.drop {K : PySem.W.Frag} {g : Gh} : ∀ {vs : List V} {ds : List D} (n : Nat), DfA K g vs ds → DfA K g (vs.drop n) (ds.drop n)
  | _, _, 0, r => r
  | _, _, _ + 1, .nil => .nil
  | _, _, n + 1, .cons _ t => DfA.drop n t
theorem DfA.set {K : PySem.W.Frag} {g : Gh} {v : V} {d : D} (r : Df K g v d) : ∀ {vs : List V} {ds : List D} (i : Nat), DfA K g vs ds → DfA K g (vs.set i v) (ds.set i d)
  | _, _, _, .nil => .nil
  | _, _, 0, .cons _ t => .cons r t
  | _, _, i + 1, .cons q t => .cons q (DfA.set r i t)
theorem DfA.flatRep {K : PySem.W.Frag} {g : Gh} {vs : List V} {ds : List D} (h : DfA K g vs ds) : ∀ n : Nat, DfA K g (List.replicate n vs).flatten (List.replicate n ds).flatten
  | 0 => by simpa using DfA.nil
  | n + 1 => by
    rw [List.replicate_succ, List.replicate_succ, List.flatten_cons, List.flatten_cons]
    exact h.append (DfA.flatRep h n)
theorem DfA.mem {K : PySem.W.Frag} {g : Gh} : ∀ {vs : List V} {ds : List D} {v : V}, DfA K g vs ds → v ∈ vs → ∃ d, d ∈ ds ∧ Df K g v d
  | _, _, _, .nil, e => by simp at e
  | _, _, v, .cons (v := w) (d := d) r t, e => by
    rcases List.mem_cons.mp e with rfl | e
    · exact ⟨d, List.mem_cons_self, r⟩
    · obtain ⟨d', h1, h2⟩ := DfA.mem t e
      exact ⟨d', List.mem_cons_of_mem _ h1, h2⟩

/-! ### the frozen heap within the heap -/
/-- what is frozen stands (a dict may be under a loop's lock) -/
def Sub (G H : Hp) : Prop := ∀ a o, G a = some o → H a = some o ∨ ∃ kvs ob, o = .dK kvs ∧ H a = some (.frz ob (.dK kvs))
theorem Sub.sql {K : PySem.W.Frag} {G H : Hp} (s : Sub G H) {a : Addr} {xs : List V} (h : SqL K G a xs) : SqL K H a xs := by
  rcases h with (h | ⟨o, h⟩) | h
  · rcases s _ _ h with e | ⟨_, _, e, _⟩
    · exact .inl (.inl e)
    · cases e
  · rcases s _ _ h with e | ⟨_, _, e, _⟩
    · exact .inl (.inr ⟨o, e⟩)
    · cases e
  · exact .inr h
theorem Sub.sqt {K : PySem.W.Frag} {G H : Hp} (s : Sub G H) {a : Addr} {xs : List V} (h : SqT K G a xs) : SqT K H a xs := by
  rcases h with (h | ⟨o, h⟩) | h
  · rcases s _ _ h with e | ⟨_, _, e, _⟩
    · exact .inl (.inl e)
    · cases e
  · rcases s _ _ h with e | ⟨_, _, e, _⟩
    · exact .inl (.inr ⟨o, e⟩)
    · cases e
  · exact .inr h
theorem Sub.rdk {G H : Hp} (s : Sub G H) {a : Addr} {kvs : List (Key × V)} (h : G a = some (.dK kvs)) : Rd H a (.dK kvs) := by
  rcases s _ _ h with e | ⟨_, ob, e, z⟩
  · exact .inl e
  · cases e
    exact .inr ⟨ob, z⟩
theorem Sub.there {G H : Hp} (s : Sub G H) {a : Addr} (h : G a ≠ none) : H a ≠ none := by
  cases e : G a with
  | none => exact absurd e h
  | some o =>
    rcases s _ _ e with e | ⟨_, _, _, e⟩ <;> rw [e] <;> simp

/-! ### data without dicts read as the library's data -/
mutual
theorem Df.dp {K : PySem.W.Frag} {g : Gh} {H : Hp} (s : Sub g.G H) : ∀ (d : D) {v : V}, Df K g v d → d.plain = true → Dp K H v d
  | .none, _, h, _ => by cases h; exact .non
  | .bool b, _, h, _ => by cases h; exact .bl b
  | .int i, _, h, _ => by cases h; exact .int i
  | .str x, _, h, _ => by cases h; exact .str x
  | .list ds, _, h, p => by
    cases h with
    | lst h1 h2 => exact .lst (s.sql h1) (DfA.dp s ds h2 (by simpa [PyData.plain] using p))
  | .tuple ds, _, h, p => by
    cases h with
    | tup h1 _ h2 => exact .tup (s.sqt h1) (DfA.dp s ds h2 (by simpa [PyData.plain] using p))
  | .dict _, _, _, p => by simp [PyData.plain] at p
theorem DfA.dp {K : PySem.W.Frag} {g : Gh} {H : Hp} (s : Sub g.G H) : ∀ (ds : List D) {vs : List V}, DfA K g vs ds → PyData.plainAll ds = true → DpAll K H vs ds
  | [], _, h, _ => by cases h; exact .nil
  | d :: ds, _, h, p => by
    cases h with
    | cons h1 h2 =>
      have p' : d.plain = true ∧ PyData.plainAll ds = true := by simpa [PyData.plainAll] using p
      exact .cons (Df.dp s d h1 p'.1) (DfA.dp s ds h2 p'.2)
end

/-! ### results, the store -/
inductive R where
  /-- a datum, frozen -/
  | d (x : D)
  /-- a list, a dict: new (nobody else holds it), or that of a slot, looked at -/
  | l (fr : Bool) (xs : List D)
  | k (fr : Bool) (kvs : List (Key × D))
def R.own : R → Bool
  | .d _ => false
  | _ => true
def R.fr : R → Bool
  | .d _ => false
  | .l f _ => f
  | .k f _ => f
/-- an object of the store -/
inductive Ob where
  | l (xs : List D) | k (kvs : List (Key × D)) | z (x : D)
  /-- the mark of a store out of sight -/
  | c
def Ob.live : Ob → Bool
  | .c => false
  | _ => true
abbrev Sto := List Ob
abbrev En := List (Option R)
/-- how a run ends: with a value, by an exception (its class's name), not at all (nothing is said) -/
inductive Res (α : Type) where
  | ok (a : α) (st : Sto) | ex (e : String) (st : Sto) | no
abbrev M (α : Type) := Sto → Res α
def M.bnd {α β : Type} (m : M α) (f : α → M β) : M β := fun st => match m st with
  | .ok a st' => f a st'
  | .ex e st' => .ex e st'
  | .no => .no
def M.ret {α : Type} (a : α) : M α := fun st => .ok a st
def M.no {α : Type} : M α := fun _ => .no
instance : Monad M where
  pure := M.ret
  bind := M.bnd
@[simp] theorem M.pure_ap {α : Type} (a : α) (st : Sto) : (pure a : M α) st = .ok a st := rfl
@[simp] theorem M.ret_ap {α : Type} (a : α) (st : Sto) : (M.ret a : M α) st = .ok a st := rfl
@[simp] theorem M.no_ap {α : Type} (st : Sto) : (M.no : M α) st = .no := rfl
theorem M.bind_ap {α β : Type} (m : M α) (f : α → M β) (st : Sto) : (m >>= f) st = (match m st with
  | .ok a st' => f a st'
  | .ex e st' => .ex e st'
  | .no => .no) := rfl
@[simp] theorem M.bind_ok {α β : Type} {m : M α} {f : α → M β} {st st' : Sto} {a : α} (h : m st = .ok a st') : (m >>= f) st = f a st' := by rw [M.bind_ap, h]

def ObOk (K : PySem.W.Frag) (g : Gh) (H : Hp) (a : Addr) : Ob → Prop
  | .l ds => ∃ vs, H a = some (.lst vs) ∧ g.G a = none ∧ DfA K g vs ds
  | .k ds => ∃ vs, H a = some (.dK vs) ∧ g.G a = none ∧ DfK K g vs ds
  | .z d => Df K g (.ref a) d ∧ H a ≠ none
  | .c => True
/-- the ghost state's size is the store's -/
def Lb (g : Gh) (st : Sto) : Prop := match g.cl with
  | some n => g.L = n ∧ st = [.c]
  | none => g.L = st.length ∧ st ≠ [.c]
def Rv (K : PySem.W.Frag) (g : Gh) (H : Hp) (v : V) : R → Prop
  | .d x => Df K g v x
  | .l _ ds => ∃ a vs, v = .ref a ∧ H a = some (.lst vs) ∧ g.G a = none ∧ (∀ n, n < g.L → g.ι n ≠ a) ∧ DfA K g vs ds
  | .k _ ds => ∃ a vs, v = .ref a ∧ H a = some (.dK vs) ∧ g.G a = none ∧ (∀ n, n < g.L → g.ι n ≠ a) ∧ DfK K g vs ds
/-- a new one stands where nothing stood -/
def Fr (H : Hp) (v : V) (r : R) : Prop := r.fr = true → ∀ a, v = .ref a → H a = none

structure Rel (K : PySem.W.Frag) (g : Gh) (env : En) (st : Sto) (σ : L2.St) (H : Hp) : Prop where
  sub : Sub g.G H
  slot : ∀ (i : Nat) (r : R), env[i]? = some (some r) → ∃ v : V, σ[i]? = some (some v) ∧ Rv K g H v r
  own : ∀ (i j : Nat) (r r' : R) (a : Addr), env[i]? = some (some r) → env[j]? = some (some r') → r.own = true → r'.own = true → σ[i]? = some (some (V.ref a)) → σ[j]? = some (some (V.ref a)) → i = j
  obj : ∀ (n : Nat) (ob : Ob), st[n]? = some ob → ob.live = true → n < g.L ∧ ObOk K g H (g.ι n) ob
  lb : Lb g st
  inj : ∀ m n, m < g.L → n < g.L → g.ι m = g.ι n → m = n
  refs : ∀ n, n < g.L → H (g.ι n) ≠ none
  len : env.length = σ.length

structure Ext (H : Hp) (g : Gh) (H' : Hp) (g' : Gh) : Prop where
  le : Le g g'
  keep : ∀ a o, H a = some o → (g.cl = none → ∀ n, n < g.L → g.ι n ≠ a) → H' a = some o
  stay : ∀ a, H a ≠ none → H' a ≠ none
  gnew : ∀ a, g'.G a ≠ none → g.G a ≠ none ∨ H a = none
  inew : ∀ n, g.L ≤ n → n < g'.L → H (g'.ι n) = none
theorem Ext.refl (H : Hp) (g : Gh) : Ext H g H g :=
  ⟨.refl g, fun _ _ h _ => h, fun _ h => h, fun _ h => .inl h, fun n h1 h2 => absurd h2 (Nat.not_lt.mpr h1)⟩
theorem Ext.trans {H H1 H2 : Hp} {g g1 g2 : Gh} (a : Ext H g H1 g1) (b : Ext H1 g1 H2 g2) : Ext H g H2 g2 := by
  have nin : ∀ x o, H x = some o → (g.cl = none → ∀ n, n < g.L → g.ι n ≠ x) → g1.cl = none → ∀ n, n < g1.L → g1.ι n ≠ x := fun x o e hn hc n hl z => by
    rcases Nat.lt_or_ge n g.L with h | h
    · exact hn (a.le.cl ▸ hc) n h (by rw [← a.le.ι n h]; exact z)
    · have := a.inew n h hl
      rw [z, e] at this
      cases this
  refine ⟨a.le.trans b.le, fun x o e hn => b.keep x o (a.keep x o e hn) (nin x o e hn), fun x h => b.stay x (a.stay x h), fun x h => ?_, fun n h1 h2 => ?_⟩
  · rcases b.gnew x h with h | h
    · exact a.gnew x h
    · refine .inr ?_
      cases e : H x with
      | none => rfl
      | some o => exact absurd h (a.stay x (by rw [e]; simp))
  · rcases Nat.lt_or_ge n g1.L with h' | h'
    · rw [b.le.ι n h']
      exact a.inew n h1 h'
    · cases e : H (g2.ι n) with
      | none => rfl
      | some o =>
        have := b.inew n h' h2
        exact absurd this (a.stay _ (by rw [e]; simp))
theorem Ext.nothing {H H' : Hp} {g g' : Gh} (x : Ext H g H' g') {a : Addr} (h : H' a = none) : H a = none := by
  cases e : H a with
  | none => rfl
  | some o => exact absurd h (x.stay a (by rw [e]; simp))

/-- what stands at a place of its own goes on -/
theorem Ext.ownKeep {H H' : Hp} {g g' : Gh} (x : Ext H g H' g') {a : Addr} {o : HO} (h : H a = some o) (hg : g.G a = Option.none) (hn : ∀ n, n < g.L → g.ι n ≠ a) :
    H' a = some o ∧ g'.G a = Option.none ∧ ∀ n, n < g'.L → g'.ι n ≠ a := by
  refine ⟨x.keep a o h fun _ => hn, ?_, fun n hl z => ?_⟩
  · cases e : g'.G a with
    | none => rfl
    | some u =>
      rcases x.gnew a (by rw [e]; simp) with q | q
      · exact absurd hg q
      · rw [h] at q; cases q
  · rcases Nat.lt_or_ge n g.L with q | q
    · exact hn n q (by rw [← x.le.ι n q]; exact z)
    · have := x.inew n q hl
      rw [z, h] at this
      cases this
theorem Rv.ext {K : PySem.W.Frag} {H H' : Hp} {g g' : Gh} {v : V} {r : R} (x : Ext H g H' g') (h : Rv K g H v r) : Rv K g' H' v r := by
  cases r with
  | d y => exact Df.le x.le h
  | l f ds =>
    obtain ⟨a, vs, e, h1, h2, h3, h4⟩ := h
    obtain ⟨k1, k2, k3⟩ := x.ownKeep h1 h2 h3
    exact ⟨a, vs, e, k1, k2, k3, DfA.le x.le h4⟩
  | k f ds =>
    obtain ⟨a, vs, e, h1, h2, h3, h4⟩ := h
    obtain ⟨k1, k2, k3⟩ := x.ownKeep h1 h2 h3
    exact ⟨a, vs, e, k1, k2, k3, DfK.le x.le h4⟩
theorem Fr.ext {H H' : Hp} {g g' : Gh} {v : V} {r : R} (x : Ext H g H' g') (h : Fr H' v r) : Fr H v r := fun e a z => x.nothing (h e a z)
theorem Rv.there {K : PySem.W.Frag} {H : Hp} {g : Gh} {r : R} {a : Addr} (h : Rv K g H (.ref a) r) (o : r.fr = true) : H a ≠ none := by
  cases r with
  | d _ => cases o
  | l f ds =>
    obtain ⟨a', vs, e, h1, _⟩ := h
    cases e; rw [h1]; simp
  | k f ds =>
    obtain ⟨a', vs, e, h1, _⟩ := h
    cases e; rw [h1]; simp

/-! ### what is wanted behind a run -/
structure Ct where
  K : PySem.W.Frag
  /-- wanted of an exception: its class's name, the slots, the heap -/
  W : String → L2.St → Hp → Prop
/-- relative to the state (H, g) from which the run began -/
def Post {α : Type} (c : Ct) (env : En) (σ : L2.St) (H : Hp) (g : Gh) (m : Res α) (Q : α → Gh → Hp → Prop) : Prop :=
  match m with
  | .ok a st => ∀ g' H', Ext H g H' g' → Rel c.K g' env st σ H' → Q a g' H'
  | .ex e st => ∀ g' H', Ext H g H' g' → Rel c.K g' env st σ H' → c.W e σ H'
  | .no => False
/-- the same, where the ghost state g1 is known to go on -/
def PostC {α : Type} (c : Ct) (env : En) (σ : L2.St) (H : Hp) (g g1 : Gh) (m : Res α) (Q : α → Gh → Hp → Prop) : Prop :=
  match m with
  | .ok a st => ∀ g' H', Ext H g H' g' → Le g1 g' → Rel c.K g' env st σ H' → Q a g' H'
  | .ex e st => ∀ g' H', Ext H g H' g' → Le g1 g' → Rel c.K g' env st σ H' → c.W e σ H'
  | .no => False
theorem Post.toC {α : Type} {c : Ct} {env : En} {σ : L2.St} {H : Hp} {g g1 : Gh} {m : Res α} {Q : α → Gh → Hp → Prop} (h : Post c env σ H g m Q) : PostC c env σ H g g1 m Q := by
  cases m with
  | ok a st => exact fun g2 H2 x _ r => h g2 H2 x r
  | ex n st => exact fun g2 H2 x _ r => h g2 H2 x r
  | no => exact h
def qE (c : Ct) (H : Hp) (Q : VK) : R → Gh → Hp → Prop := fun r g' H' => ∀ v, Rv c.K g' H' v r → Fr H v r → Q v H'
inductive RvL (K : PySem.W.Frag) (g : Gh) (H : Hp) : List V → List R → Prop
  | nil : RvL K g H [] []
  | cons {v : V} {vs : List V} {r : R} {rs : List R} : Rv K g H v r → RvL K g H vs rs → RvL K g H (v :: vs) (r :: rs)
/-- the new ones among them stand where nothing stood, apart from one another -/
def FrL (H : Hp) : List V → List R → Prop
  | v :: vs, r :: rs => Fr H v r ∧ FrL H vs rs ∧ (r.fr = true → ∀ (i : Nat) (r' : R), rs[i]? = some r' → r'.fr = true → vs[i]? ≠ some v)
  | _, _ => True
def qA (c : Ct) (H : Hp) (Q : List V → Hp → Prop) : List R → Gh → Hp → Prop := fun rs g' H' => ∀ vs, RvL c.K g' H' vs rs → FrL H vs rs → Q vs H'
def qT (Q : Bool → Hp → Prop) : Bool → Gh → Hp → Prop := fun b _ H' => Q b H'

/-- the readings of denotations -/
def tr (c : Ct) (f : En → M R) : TE := fun σ H Q => ∃ env st g, Rel c.K g env st σ H ∧ Post c env σ H g (f env st) (qE c H Q)
def trT (c : Ct) (f : En → M Bool) : TT := fun σ H Q => ∃ env st g, Rel c.K g env st σ H ∧ Post c env σ H g (f env st) (qT Q)
def trA (c : Ct) (f : En → M (List R)) : TA := fun σ H Q => ∃ env st g, Rel c.K g env st σ H ∧ Post c env σ H g (f env st) (qA c H Q)

theorem PE.imp {X : Cx} {e : Expr} {t t' : TE} (h : PE X e t) (k : ∀ σ H Q, t' σ H Q → t σ H Q) : PE X e t' := ⟨fun pins s σ H Q I q => h.run pins s σ H Q I (k σ H Q q)⟩
theorem PT.imp {X : Cx} {e : Expr} {t t' : TT} (h : PT X e t) (k : ∀ σ H Q, t' σ H Q → t σ H Q) : PT X e t' := ⟨fun pins s σ H Q I q => h.run pins s σ H Q I (k σ H Q q)⟩
theorem PW.imp {X : Cx} {e : Expr} {t t' : TT} (h : PW X e t) (k : ∀ σ H Q, t' σ H Q → t σ H Q) : PW X e t' := ⟨fun w pins s σ H Q I q => h.run w pins s σ H Q I (k σ H Q q)⟩
theorem PA.imp {X : Cx} {es : List Expr} {t t' : TA} (h : PA X es t) (k : ∀ σ H Q, t' σ H Q → t σ H Q) : PA X es t' := ⟨fun p pins s σ H Q I q => h.run p pins s σ H Q I (k σ H Q q)⟩
theorem PI.imp {X : Cx} {tg e : Expr} {t t' : TI} (h : PI X tg e t) (k : ∀ σ H Q, t' σ H Q → t σ H Q) : PI X tg e t' := ⟨fun pins s σ H Q I q => h.run pins s σ H Q I (k σ H Q q)⟩
theorem PS.imp {X : Cx} {e : Stmt} {t t' : TS} (h : PS X e t) (k : ∀ D σ H, t' D σ H → t D σ H) : PS X e t' := ⟨fun pins s σ H D I q => h.run pins s σ H D I (k D σ H q)⟩
theorem PSs.imp {X : Cx} {e : List Stmt} {t t' : TS} (h : PSs X e t) (k : ∀ D σ H, t' D σ H → t D σ H) : PSs X e t' := ⟨fun pins s σ H D I q => h.run pins s σ H D I (k D σ H q)⟩
theorem PG.imp {X : Cx} {e : Expr} {t t' : TG} (h : PG X e t) (k : ∀ v σ H Q, t' v σ H Q → t v σ H Q) : PG X e t' := ⟨fun pins s σ H v u Q I r q => h.run pins s σ H v u Q I r (k v σ H Q q)⟩

section
variable {c : Ct} {env : En} {σ : L2.St} {H H1 H2 H' : Hp} {g g1 g' : Gh} {st : Sto} {Q : VK} {α β : Type}
theorem Post.bind {m : M α} {f : α → M β} {P : β → Gh → Hp → Prop} (x : Ext H g H1 g1) (h : Post c env σ H g ((m >>= f) st) P) :
    Post c env σ H1 g1 (m st) fun a g2 H2 => ∃ st1, m st = .ok a st1 ∧ Rel c.K g2 env st1 σ H2 ∧ Ext H1 g1 H2 g2 ∧ Ext H g H2 g2 ∧ Post c env σ H g (f a st1) P := by
  rw [M.bind_ap] at h
  cases e : m st with
  | ok a st1 => rw [e] at h; exact fun g2 H2 y r => ⟨st1, rfl, r, y, x.trans y, h⟩
  | ex n st1 => rw [e] at h; exact fun g2 H2 y r => h g2 H2 (x.trans y) r
  | no => rw [e] at h; exact h
theorem Post.mono {m : Res α} {P P' : α → Gh → Hp → Prop} (h : Post c env σ H g m P) (k : ∀ a g' H', P a g' H' → P' a g' H') : Post c env σ H g m P' := by
  cases m with
  | ok a st => exact fun g1 H1 x r => k _ _ _ (h g1 H1 x r)
  | ex n st => exact h
  | no => exact h
/-- from a later state -/
theorem Post.later {m : Res α} {P : α → Gh → Hp → Prop} (x : Ext H g H1 g1) (h : Post c env σ H g m P) : Post c env σ H1 g1 m P := by
  cases m with
  | ok a st => exact fun g2 H2 y r => h g2 H2 (x.trans y) r
  | ex n st => exact fun g2 H2 y r => h g2 H2 (x.trans y) r
  | no => exact h
/-- the end of a run that has a value -/
theorem Post.use {a : α} {st' : Sto} {P : α → Gh → Hp → Prop} (h : Post c env σ H g (.ok a st') P) (x : Ext H g H1 g1) (r : Rel c.K g1 env st' σ H1) : P a g1 H1 := h g1 H1 x r

/-- what stands at an operator: the base (H0, g0), the state -/
structure Bs (c : Ct) (H : Hp) (env : En) (σ : L2.St) (st : Sto) (g : Gh) (H0 : Hp) (g0 : Gh) : Prop where
  e : Ext H0 g0 H g
  rel : Rel c.K g env st σ H
  /-- a slot's own thing stood at the base -/
  sl : ∀ (i : Nat) (r : R) (a : Addr), env[i]? = some (some r) → r.own = true → σ[i]? = some (some (V.ref a)) → H0 a ≠ none
structure At1 (c : Ct) (H : Hp) (Q : VK) (x : V) (op : R → M R) (env : En) (σ : L2.St) (st : Sto) (g : Gh) (H0 : Hp) (g0 : Gh) (r : R) : Prop where
  b : Bs c H env σ st g H0 g0
  v1 : Rv c.K g H x r
  f1 : Fr H0 x r
  q : PostC c env σ H0 g0 g (op r st) (qE c H0 Q)
structure At2 (c : Ct) (H : Hp) (Q : VK) (x y : V) (op : R → R → M R) (env : En) (σ : L2.St) (st : Sto) (g : Gh) (H0 : Hp) (g0 : Gh) (r1 r2 : R) : Prop where
  b : Bs c H env σ st g H0 g0
  v1 : Rv c.K g H x r1
  f1 : Fr H0 x r1
  v2 : Rv c.K g H y r2
  f2 : Fr H0 y r2
  ap : r1.fr = true → r2.fr = true → x ≠ y
  q : PostC c env σ H0 g0 g (op r1 r2 st) (qE c H0 Q)
theorem Rel.sl {K : PySem.W.Frag} (R0 : Rel K g env st σ H) : ∀ (i : Nat) (r : R) (a : Addr), env[i]? = some (some r) → r.own = true → σ[i]? = some (some (V.ref a)) → H a ≠ none := fun i r a e o h => by
  obtain ⟨v, hv, rv⟩ := R0.slot i r e
  rw [h] at hv
  cases hv
  cases r with
  | d _ => cases o
  | l f ds => obtain ⟨a', vs, e1, k, _⟩ := rv; cases e1; rw [k]; simp
  | k f ds => obtain ⟨a', vs, e1, k, _⟩ := rv; cases e1; rw [k]; simp
theorem Bs.base (R0 : Rel c.K g env st σ H) : Bs c H env σ st g H g := ⟨.refl H g, R0, R0.sl⟩
def rr1 (c : Ct) (op : R → M R) : V → Hp → VK → Prop := fun x H Q => ∃ env σ st g H0 g0 r, At1 c H Q x op env σ st g H0 g0 r
def rr2 (c : Ct) (op : R → R → M R) : R2 := fun x y H Q => ∃ env σ st g H0 g0 r1 r2, At2 c H Q x y op env σ st g H0 g0 r1 r2
theorem Fr.ne {v w : V} {r r' : R} {K : PySem.W.Frag} (h1 : Rv K g H v r) (h2 : Fr H w r') (e1 : r.fr = true) (e2 : r'.fr = true) : v ≠ w := by
  intro e
  subst e
  cases r with
  | d _ => cases e1
  | l f ds =>
    obtain ⟨a, vs, rfl, k, _⟩ := h1
    rw [h2 e2 a rfl] at k
    cases k
  | k f ds =>
    obtain ⟨a, vs, rfl, k, _⟩ := h1
    rw [h2 e2 a rfl] at k
    cases k
/-- one part -/
theorem tr1 {fa : En → M R} {op : R → M R} (h : tr c (fun env => fa env >>= op) σ H Q) : tr c fa σ H fun x H1 => rr1 c op x H1 Q := by
  obtain ⟨env, st, g, R0, h⟩ := h
  refine ⟨env, st, g, R0, Post.mono (Post.bind (.refl H g) h) fun r g1 H1 ⟨st1, _, R1, x, _, q⟩ v rv fr => ?_⟩
  exact ⟨env, σ, st1, g1, H, g, r, ⟨x, R1, R0.sl⟩, rv, fr, q.toC⟩
/-- two parts -/
theorem tr2 {fa fb : En → M R} {op : R → R → M R} (h : tr c (fun env => fa env >>= fun a => fb env >>= fun b => op a b) σ H Q) :
    tr c fa σ H fun x H1 => tr c fb σ H1 fun y H2 => rr2 c op x y H2 Q := by
  obtain ⟨env, st, g, R0, h⟩ := h
  refine ⟨env, st, g, R0, Post.mono (Post.bind (.refl H g) h) fun r g1 H1 ⟨st1, _, R1, x1, _, q⟩ v rv fr => ?_⟩
  refine ⟨env, st1, g1, R1, Post.mono (Post.bind x1 q) fun r2 g2 H2 ⟨st2, _, R2, x12, x2, q2⟩ w rw' fw => ?_⟩
  exact ⟨env, σ, st2, g2, H, g, r, r2, ⟨x2, R2, R0.sl⟩, rv.ext x12, fr, rw', fw.ext x1, fun e1 e2 => Fr.ne rv fw e1 e2, q2.toC⟩

/-! ### steps -/
def Gh.put (g : Gh) (a : Addr) (o : HO) : Gh := { g with G := upd g.G a o }
theorem Rel.nog {K : PySem.W.Frag} (R0 : Rel K g env st σ H) {p : Addr} (hp : H p = none) : g.G p = none := by
  cases e : g.G p with
  | none => rfl
  | some o => exact absurd hp (R0.sub.there (by rw [e]; simp))
theorem Rel.noι {K : PySem.W.Frag} (R0 : Rel K g env st σ H) {p : Addr} (hp : H p = none) : ∀ n, n < g.L → g.ι n ≠ p := fun n hn e => R0.refs n hn (by rw [e]; exact hp)
theorem Sub.new {G : Hp} (s : Sub G H) {p : Addr} {o : HO} (hp : H p = none) : Sub G (upd H p o) := fun a u e => by
  have ne : a ≠ p := fun z => by
    subst z
    exact absurd hp (s.there (by rw [e]; simp))
  rw [upd_ne ne]
  exact s a u e
theorem Ext.new {p : Addr} {o : HO} (hp : H p = none) : Ext H g (upd H p o) g :=
  ⟨.refl g, fun a u e _ => by rw [upd_ne (ne_of_none e hp)]; exact e, fun a h => by
    by_cases z : a = p
    · subst z; rw [upd_same]; simp
    · rw [upd_ne z]; exact h, fun a h => .inl h, fun n h1 h2 => absurd h2 (Nat.not_lt.mpr h1)⟩
theorem ObOk.ext {K : PySem.W.Frag} {a : Addr} {ob : Ob} (h : ObOk K g H a ob) (le : Le g g') (hk : ∀ o, H a = some o → H' a = some o) (hs : H a ≠ none → H' a ≠ none) (hg : g.G a = none → g'.G a = none) : ObOk K g' H' a ob := by
  cases ob with
  | l ds => obtain ⟨vs, h1, h2, h3⟩ := h; exact ⟨vs, hk _ h1, hg h2, DfA.le le h3⟩
  | k ds => obtain ⟨vs, h1, h2, h3⟩ := h; exact ⟨vs, hk _ h1, hg h2, DfK.le le h3⟩
  | z d => exact ⟨Df.le le h.1, hs h.2⟩
  | c => trivial
/-- the heap grows: one new thing at p -/
theorem Rel.new {K : PySem.W.Frag} (R0 : Rel K g env st σ H) {p : Addr} {o : HO} (hp : H p = none) : Rel K g env st σ (upd H p o) where
  sub := R0.sub.new hp
  slot := fun i r e => by
    obtain ⟨v, h1, h2⟩ := R0.slot i r e
    exact ⟨v, h1, h2.ext (Ext.new hp)⟩
  own := R0.own
  lb := R0.lb
  obj := fun n ob e lv => by
    obtain ⟨h1, h2⟩ := R0.obj n ob e lv
    have ne : g.ι n ≠ p := R0.noι hp n h1
    exact ⟨h1, h2.ext (.refl g) (fun o e => by rw [upd_ne ne]; exact e) (fun h => by rw [upd_ne ne]; exact h) fun h => h⟩
  inj := R0.inj
  refs := fun n hn => by rw [upd_ne (R0.noι hp n hn)]; exact R0.refs n hn
  len := R0.len
theorem Bs.new {H0 : Hp} {g0 : Gh} (b : Bs c H env σ st g H0 g0) {p : Addr} {o : HO} (hp : H p = none) : Bs c (upd H p o) env σ st g H0 g0 :=
  ⟨b.e.trans (Ext.new hp), b.rel.new hp, b.sl⟩
theorem Le.put {a : Addr} {o : HO} (h : g.G a = none) : Le g (g.put a o) :=
  ⟨fun x u e => by
    show upd g.G a o x = some u
    rw [upd_ne (ne_of_none e h)]; exact e, Nat.le_refl _, fun _ _ => rfl, rfl⟩
/-- a thing that is new since the base is frozen -/
theorem Bs.frz {H0 : Hp} {g0 : Gh} (b : Bs c H env σ st g H0 g0) {a : Addr} {o : HO} (ha : H a = some o) (h0 : H0 a = none) (hg : g.G a = none) (hn : ∀ n, n < g.L → g.ι n ≠ a) : Bs c H env σ st (g.put a o) H0 g0 where
  e := ⟨b.e.le.trans (Le.put hg), b.e.keep, b.e.stay, fun x h => by
      by_cases z : x = a
      · subst z; exact .inr h0
      · refine b.e.gnew x ?_
        have : (g.put a o).G x = g.G x := upd_ne z
        rw [← this]; exact h, b.e.inew⟩
  rel :=
    { sub := fun x u e => by
        by_cases z : x = a
        · subst z
          have : (g.put x o).G x = some o := upd_same
          rw [this] at e; cases e
          exact .inl ha
        · have : (g.put a o).G x = g.G x := upd_ne z
          rw [this] at e
          exact b.rel.sub x u e
      slot := fun i r e => by
        obtain ⟨v, h1, h2⟩ := b.rel.slot i r e
        refine ⟨v, h1, ?_⟩
        cases r with
        | d y => exact Df.le (Le.put hg) h2
        | l f ds =>
          obtain ⟨a', vs, rfl, k1, k2, k3, k4⟩ := h2
          have ne : a' ≠ a := fun z => by subst z; exact b.sl i _ _ e rfl h1 h0
          exact ⟨a', vs, rfl, k1, (upd_ne ne).trans k2, k3, DfA.le (Le.put hg) k4⟩
        | k f ds =>
          obtain ⟨a', vs, rfl, k1, k2, k3, k4⟩ := h2
          have ne : a' ≠ a := fun z => by subst z; exact b.sl i _ _ e rfl h1 h0
          exact ⟨a', vs, rfl, k1, (upd_ne ne).trans k2, k3, DfK.le (Le.put hg) k4⟩
      own := b.rel.own
      lb := b.rel.lb
      obj := fun n ob e lv => by
        obtain ⟨h1, h2⟩ := b.rel.obj n ob e lv
        exact ⟨h1, h2.ext (Le.put hg) (fun _ e => e) (fun h => h) fun h => (upd_ne (hn n h1)).trans h⟩
      inj := b.rel.inj
      refs := b.rel.refs
      len := b.rel.len }
  sl := b.sl
/-- a new thing is laid and frozen -/
theorem Bs.newF {H0 : Hp} {g0 : Gh} (b : Bs c H env σ st g H0 g0) {p : Addr} {o : HO} (hp : H p = none) : Bs c (upd H p o) env σ st (g.put p o) H0 g0 :=
  (b.new hp).frz upd_same (b.e.nothing hp) (b.rel.nog hp) (b.rel.noι hp)
/-- the ends -/
theorem Bs.fin_d {H0 : Hp} {g0 : Gh} {z : D} {v : V} (b : Bs c H env σ st g H0 g0) (q : PostC c env σ H0 g0 g1 (.ok (.d z) st) (qE c H0 Q)) (h : Df c.K g v z) (le : Le g1 g := by exact Le.refl _) : Q v H :=
  q g H b.e le b.rel v h fun e => nomatch e
theorem Bs.fin_l {H0 : Hp} {g0 : Gh} {ds : List D} {vs : List V} {p : Addr} (b : Bs c H env σ st g H0 g0) (q : PostC c env σ H0 g0 g1 (.ok (.l true ds) st) (qE c H0 Q)) (hp : H p = none) (h : DfA c.K g vs ds) (le : Le g1 g := by exact Le.refl _) : Q (.ref p) (upd H p (.lst vs)) :=
  q g _ (b.new hp).e le (b.new hp).rel _ ⟨p, vs, rfl, upd_same, b.rel.nog hp, b.rel.noι hp, h⟩ fun _ a e => by cases e; exact b.e.nothing hp
theorem Bs.fin_k {H0 : Hp} {g0 : Gh} {ds : List (Key × D)} {vs : List (Key × V)} {p : Addr} (b : Bs c H env σ st g H0 g0) (q : PostC c env σ H0 g0 g1 (.ok (.k true ds) st) (qE c H0 Q)) (hp : H p = none) (h : DfK c.K g vs ds) (le : Le g1 g := by exact Le.refl _) : Q (.ref p) (upd H p (.dK vs)) :=
  q g _ (b.new hp).e le (b.new hp).rel _ ⟨p, vs, rfl, upd_same, b.rel.nog hp, b.rel.noι hp, h⟩ fun _ a e => by cases e; exact b.e.nothing hp
theorem sqt_put {K : PySem.W.Frag} {p : Addr} {vs : List V} : SqT K (g.put p (.tup vs)).G p vs := .inl (.inl upd_same)
theorem sqt_putF {K : PySem.W.Frag} {p : Addr} {o : Obj} {vs : List V} : SqT K (g.put p (.frz o (.tup vs))).G p vs := .inl (.inr ⟨o, upd_same⟩)
theorem sql_put {K : PySem.W.Frag} {p : Addr} {vs : List V} : SqL K (g.put p (.lst vs)).G p vs := .inl (.inl upd_same)
theorem Bs.fin_t {H0 : Hp} {g0 : Gh} {ds : List D} {vs : List V} (b : Bs c H env σ st g H0 g0) (q : PostC c env σ H0 g0 g1 (.ok (.d (.tuple ds)) st) (qE c H0 Q)) (h : DfA c.K g vs ds) (le : Le g1 g := by exact Le.refl _) : QT H Q vs := fun p o hp ho =>
  (b.newF hp).fin_d q (.tup sqt_putF (.inl ⟨o, _, upd_same, ho⟩) (DfA.le (Le.put (b.rel.nog hp)) h)) (le.trans (Le.put (b.rel.nog hp)))
theorem Bs.fin_tw {H0 : Hp} {g0 : Gh} {ds : List D} {vs : List V} {p : Addr} (b : Bs c H env σ st g H0 g0) (q : PostC c env σ H0 g0 g1 (.ok (.d (.tuple ds)) st) (qE c H0 Q)) (hw : headW ds = true) (hp : H p = none) (h : DfA c.K g vs ds) (le : Le g1 g := by exact Le.refl _) : Q (.ref p) (upd H p (.tup vs)) :=
  (b.newF hp).fin_d q (.tup sqt_put (.inr hw) (DfA.le (Le.put (b.rel.nog hp)) h)) (le.trans (Le.put (b.rel.nog hp)))
end
end N

/-! N2: expressions: names, constants, operators, comparisons, indices. -/
namespace N
open PySem PySem.Spec L2

/-! ### looking at a result -/
def refOf : D → Option Nat
  | .dict [(.none, .int n)] => some n.toNat
  | _ => none
@[simp] theorem refOf_rf (n : Nat) : refOf (rf n) = some n := by simp [refOf, rf]
theorem refOf_some {K : PySem.W.Frag} {g : Gh} {v : V} {x : D} {n : Nat} (h : Df K g v x) (e : refOf x = some n) : n < g.L ∧ v = .ref (g.ι n) := by
  unfold refOf at e
  split at e
  · rename_i m
    cases e
    generalize hx : PyData.dict [(.none, .int m)] = x at h
    cases h with
    | dct h1 h2 =>
      rename_i vs ds
      have hx' : [(PyData.none, PyData.int m)] = ds.map fun p => (kD p.1, p.2) := by simpa using hx
      cases ds with
      | nil => cases hx'
      | cons p t =>
        simp only [List.map_cons, List.cons.injEq, Prod.mk.injEq] at hx'
        exact absurd hx'.1.1.symm (kD_ne _)
    | rf k hk =>
      simp [rf] at hx
      subst hx
      exact ⟨by simpa using hk, by simp⟩
    | _ => cases hx
  · cases e
def unKeys : List (D × D) → Option (List (Key × D))
  | [] => some []
  | (.int i, d) :: t => (unKeys t).map fun r => (Sum.inl i, d) :: r
  | (.str x, d) :: t => (unKeys t).map fun r => (Sum.inr x, d) :: r
  | (.none, .bool true) :: t => unKeys t
  | _ => none
@[simp] theorem unKeys_map (ds : List (Key × D)) : unKeys (ds.map fun p => (kD p.1, p.2)) = some ds := by
  induction ds with
  | nil => rfl
  | cons p t ih =>
    obtain ⟨k, d⟩ := p
    cases k with
    | inl i =>
      show (unKeys (t.map fun p => (kD p.1, p.2))).map (fun r => (Sum.inl i, d) :: r) = _
      rw [ih]; rfl
    | inr i =>
      show (unKeys (t.map fun p => (kD p.1, p.2))).map (fun r => (Sum.inr i, d) :: r) = _
      rw [ih]; rfl
theorem Df.list_inv {K : PySem.W.Frag} {g : Gh} {v : V} {ds : List D} (h : Df K g v (.list ds)) : ∃ a vs, v = .ref a ∧ SqL K g.G a vs ∧ DfA K g vs ds := by
  cases h with
  | lst h1 h2 => exact ⟨_, _, rfl, h1, h2⟩
theorem Df.tup_inv {K : PySem.W.Frag} {g : Gh} {v : V} {ds : List D} (h : Df K g v (.tuple ds)) : ∃ a vs, v = .ref a ∧ SqT K g.G a vs ∧ DfA K g vs ds := by
  cases h with
  | tup h1 _ h2 => exact ⟨_, _, rfl, h1, h2⟩
theorem Df.tup_invB {K : PySem.W.Frag} {g : Gh} {v : V} {ds : List D} (h : Df K g v (.tuple ds)) : ∃ a vs, v = .ref a ∧ SqT K g.G a vs ∧ BT g.G a ds ∧ DfA K g vs ds := by
  cases h with
  | tup h1 hb h2 => exact ⟨_, _, rfl, h1, hb, h2⟩
theorem Df.int_inv {K : PySem.W.Frag} {g : Gh} {v : V} {i : Int} (h : Df K g v (.int i)) : v = .int i := by cases h; rfl
theorem Df.str_inv {K : PySem.W.Frag} {g : Gh} {v : V} {i : Str} (h : Df K g v (.str i)) : v = .str i := by cases h; rfl
theorem Df.bl_inv {K : PySem.W.Frag} {g : Gh} {v : V} {i : Bool} (h : Df K g v (.bool i)) : v = .bl i := by cases h; rfl
theorem Df.non_inv {K : PySem.W.Frag} {g : Gh} {v : V} (h : Df K g v .none) : v = .non := by cases h; rfl
def R.lst? (r : R) (st : Sto) : Option (List D) :=
  match r with
  | .l _ xs => some xs
  | .k _ _ => none
  | .d x => match x with
    | .list xs => some xs
    | x => match refOf x with
      | some n => match st[n]? with
        | some (.l xs) => some xs
        | some (.z (.list xs)) => some xs
        | _ => none
      | none => none
def R.tup? : R → Option (List D)
  | .d (.tuple xs) => some xs
  | _ => none
def R.dct? (r : R) (st : Sto) : Option (List (Key × D)) :=
  match r with
  | .k _ kvs => some kvs
  | .l _ _ => none
  | .d x => match refOf x with
    | some n => match st[n]? with
      | some (.k kvs) => some kvs
      | some (.z (.dict kvs)) => unKeys kvs
      | _ => none
    | none => match x with
      | .dict kvs => unKeys kvs
      | _ => none
/-- as a tree -/
def R.pk (r : R) (st : Sto) : Option D :=
  match r with
  | .l _ xs => some (.list xs)
  | .k _ kvs => some (.dict (kvs.map fun p => (kD p.1, p.2)))
  | .d x => match refOf x with
    | some n => match st[n]? with
      | some (.l xs) => some (.list xs)
      | some (.k kvs) => some (.dict (kvs.map fun p => (kD p.1, p.2)))
      | some (.z y) => some y
      | some .c => none
      | none => none
    | none => some x
def M.lift {α : Type} : Option α → M α
  | some a => M.ret a
  | none => M.no

section
variable {K : PySem.W.Frag} {g : Gh} {H : Hp} {env : En} {st : Sto} {σ : L2.St} {v : V} {r : R}
theorem lst_ok (R0 : Rel K g env st σ H) (h : Rv K g H v r) {ds : List D} (e : r.lst? st = some ds) : ∃ a vs, v = .ref a ∧ SqL K H a vs ∧ DfA K g vs ds := by
  cases r with
  | l f xs =>
    cases e
    obtain ⟨a, vs, rfl, h1, _, _, h4⟩ := h
    exact ⟨a, vs, rfl, .inl (.inl h1), h4⟩
  | k f xs => cases e
  | d x =>
    have h' : Df K g v x := h
    have viaRef : ∀ n, refOf x = some n → (match st[n]? with | some (.l xs) => some xs | some (.z (.list xs)) => some xs | _ => none) = some ds → ∃ a vs, v = .ref a ∧ SqL K H a vs ∧ DfA K g vs ds := by
      intro n hn e
      obtain ⟨hl, rfl⟩ := refOf_some h' hn
      split at e
      · rename_i hs
        cases e
        obtain ⟨_, vs, h1, _, h3⟩ := R0.obj n _ hs rfl
        exact ⟨_, vs, rfl, .inl (.inl h1), h3⟩
      · rename_i hs
        cases e
        obtain ⟨_, h1, _⟩ := R0.obj n _ hs rfl
        obtain ⟨a, vs, e, h1, h2⟩ := Df.list_inv h1
        exact ⟨a, vs, e, R0.sub.sql h1, h2⟩
      · cases e
    unfold R.lst? at e
    cases x with
    | list xs =>
      cases e
      cases h' with
      | lst h1 h2 => exact ⟨_, _, rfl, R0.sub.sql h1, h2⟩
    | dict kvs =>
      simp only at e
      split at e
      · rename_i n hn
        exact viaRef n hn e
      · cases e
    | _ => simp [refOf] at e
theorem tup_ok (R0 : Rel K g env st σ H) (h : Rv K g H v r) {ds : List D} (e : r.tup? = some ds) : ∃ a vs, v = .ref a ∧ SqT K H a vs ∧ SqT K g.G a vs ∧ DfA K g vs ds ∧ BT g.G a ds := by
  unfold R.tup? at e
  split at e
  · cases e
    have h' : Df K g v (.tuple ds) := h
    cases h' with
    | tup h1 hb h2 => exact ⟨_, _, rfl, R0.sub.sqt h1, h1, h2, hb⟩
  · cases e
theorem dct_ok' (R0 : Rel K g env st σ H) {x : D} (h : Df K g v x) {kvs : List (D × D)} {ds : List (Key × D)} (ex : x = .dict kvs) (hr : refOf x = none) (e : unKeys kvs = some ds) : ∃ a vs, v = .ref a ∧ Rd H a (.dK vs) ∧ DfK K g vs ds := by
  cases h with
  | dct h1 h2 =>
    cases ex
    rw [unKeys_map] at e
    cases e
    exact ⟨_, _, rfl, R0.sub.rdk h1, h2⟩
  | dctF h1 h2 =>
    cases ex
    rw [show ∀ t, unKeys ((.none, .bool true) :: t) = unKeys t from fun _ => rfl, unKeys_map] at e
    cases e
    rcases R0.sub _ _ h1 with z | ⟨_, _, z, _⟩
    · exact ⟨_, _, rfl, .inr ⟨_, z⟩, h2⟩
    · cases z
  | rf n hn => simp at hr
  | fn x hx =>
    cases ex
    simp [unKeys] at e
  | _ => cases ex
theorem dct_ok (R0 : Rel K g env st σ H) (h : Rv K g H v r) {ds : List (Key × D)} (e : r.dct? st = some ds) : ∃ a vs, v = .ref a ∧ Rd H a (.dK vs) ∧ DfK K g vs ds := by
  cases r with
  | k f xs =>
    cases e
    obtain ⟨a, vs, rfl, h1, _, _, h4⟩ := h
    exact ⟨a, vs, rfl, .inl h1, h4⟩
  | l f xs => cases e
  | d x =>
    have h' : Df K g v x := h
    unfold R.dct? at e
    simp only at e
    split at e
    · rename_i n hn
      obtain ⟨hl, rfl⟩ := refOf_some h' hn
      split at e
      · rename_i hs
        cases e
        obtain ⟨_, vs, h1, _, h3⟩ := R0.obj n _ hs rfl
        exact ⟨_, vs, rfl, .inl h1, h3⟩
      · rename_i kvs hs
        obtain ⟨_, h1, _⟩ := R0.obj n _ hs rfl
        refine dct_ok' R0 h1 rfl ?_ e
        cases q : refOf (PyData.dict kvs) with
        | none => rfl
        | some m =>
          unfold refOf at q
          split at q
          · rename_i z
            cases z
            simp [unKeys] at e
          · cases q
      · cases e
    · rename_i hr
      split at e
      · rename_i kvs
        exact dct_ok' R0 h' rfl hr e
      · cases e
/-- the tree stands, by the frozen heap with one thing more at most -/
theorem pk_ok (R0 : Rel K g env st σ H) (h : Rv K g H v r) {x : D} (e : r.pk st = some x) : ∃ g2, Le g g2 ∧ Sub g2.G H ∧ Df K g2 v x := by
  have put : ∀ {a : Addr} {o : HO}, H a = some o → g.G a = none → Sub (g.put a o).G H := fun {a o} h1 h2 y u e => by
    by_cases z : y = a
    · subst z
      have : (g.put y o).G y = some o := upd_same
      rw [this] at e; cases e
      exact .inl h1
    · have : (g.put a o).G y = g.G y := upd_ne z
      rw [this] at e
      exact R0.sub y u e
  cases r with
  | l f xs =>
    cases e
    obtain ⟨a, vs, rfl, h1, h2, _, h4⟩ := h
    exact ⟨g.put a (.lst vs), Le.put h2, put h1 h2, .lst sql_put (DfA.le (Le.put h2) h4)⟩
  | k f xs =>
    cases e
    obtain ⟨a, vs, rfl, h1, h2, _, h4⟩ := h
    exact ⟨g.put a (.dK vs), Le.put h2, put h1 h2, .dct upd_same (DfK.le (Le.put h2) h4)⟩
  | d y =>
    have h' : Df K g v y := h
    unfold R.pk at e
    simp only at e
    split at e
    · rename_i n hn
      obtain ⟨hl, rfl⟩ := refOf_some h' hn
      split at e
      · rename_i hs
        cases e
        obtain ⟨_, vs, h1, h2, h4⟩ := R0.obj n _ hs rfl
        exact ⟨g.put _ (.lst vs), Le.put h2, put h1 h2, .lst sql_put (DfA.le (Le.put h2) h4)⟩
      · rename_i hs
        cases e
        obtain ⟨_, vs, h1, h2, h4⟩ := R0.obj n _ hs rfl
        exact ⟨g.put _ (.dK vs), Le.put h2, put h1 h2, .dct upd_same (DfK.le (Le.put h2) h4)⟩
      · rename_i hs
        cases e
        exact ⟨g, .refl g, R0.sub, (R0.obj n _ hs rfl).2.1⟩
      · cases e
      · cases e
    · cases e
      exact ⟨g, .refl g, R0.sub, h'⟩
end

/-- data without dicts, of no great depth -/
def okD (x : D) : Bool := x.plain && decide (x.depth ≤ 60)
theorem okD_plain {x : D} (h : okD x = true) : x.plain = true := (Bool.and_eq_true_iff.mp h).1
theorem okD_depth {x : D} (h : okD x = true) : x.depth ≤ 60 := of_decide_eq_true (Bool.and_eq_true_iff.mp h).2

/-! ### names, constants -/
def eVar (i : Nat) : En → M R := fun env st => match env[i]? with
  | some (some (.d x)) => .ok (.d x) st
  | some (some (.l _ xs)) => .ok (.l false xs) st
  | some (some (.k _ xs)) => .ok (.k false xs) st
  | _ => .no
def eC (x : D) : En → M R := fun _ => M.ret (.d x)
abbrev cx (X : Cx) (W : String → L2.St → Hp → Prop) : Ct := ⟨X.K, W⟩
section
variable {X : Cx} {W : String → L2.St → Hp → Prop} {pos : Pos}
theorem e_var (i : Nat) {x : Str} (hN : X.N[i]? = some x := by rfl) (hv : Vis X.env.scope x := by first | exact Or.inl rfl | exact Or.inr (Or.inl rfl) | exact Or.inr (Or.inr rfl)) (hd : (x == ("__debug__" : Str)) = false := by decide)
    (hcd : (x == ("__classdict__" : Str)) = false := by decide) : PE X (.Name x pos) (tr (cx X W) (eVar i)) := by
  refine PE.imp (pe_var hN hv hd hcd) fun σ H Q h => ?_
  obtain ⟨env, st, g, R0, q⟩ := h
  unfold eVar at q
  split at q
  · rename_i y e
    obtain ⟨v, h1, h2⟩ := R0.slot _ _ e
    exact ⟨v, h1, q g H (.refl _ _) R0 v h2 fun e => nomatch e⟩
  · rename_i f y e
    obtain ⟨v, h1, h2⟩ := R0.slot _ _ e
    exact ⟨v, h1, q g H (.refl _ _) R0 v h2 fun e => nomatch e⟩
  · rename_i f y e
    obtain ⟨v, h1, h2⟩ := R0.slot _ _ e
    exact ⟨v, h1, q g H (.refl _ _) R0 v h2 fun e => nomatch e⟩
  · exact q.elim
theorem tr_c {x : D} {v : V} (h : ∀ g : Gh, Df X.K g v x) : ∀ σ H Q, tr (cx X W) (eC x) σ H Q → tC v σ H Q := fun σ H Q ⟨env, st, g, R0, q⟩ => q g H (.refl _ _) R0 v (h g) fun e => nomatch e
theorem e_int {i j} : PE X (.Constant (.int i) j pos) (tr (cx X W) (eC (.int i))) := PE.imp pe_int (tr_c fun _ => .int i)
theorem e_bl {i j} : PE X (.Constant (.bool i) j pos) (tr (cx X W) (eC (.bool i))) := PE.imp pe_bl (tr_c fun _ => .bl i)
theorem e_str {i j} : PE X (.Constant (.str i) j pos) (tr (cx X W) (eC (.str i))) := PE.imp pe_str (tr_c fun _ => .str i)
theorem e_non {j} : PE X (.Constant .none j pos) (tr (cx X W) (eC .none)) := PE.imp pe_non (tr_c fun _ => .non)
theorem e_globI {x : Str} {i : Int} {t : Tok} (hg : Gl X x) (hm : X.mg x = some (.int i t)) (hd : (x == ("__debug__" : Str)) = false := by decide) : PE X (.Name x pos) (tr (cx X W) (eC (.int i))) :=
  PE.imp (pe_glob hg hm (v := .int i) ⟨t, rfl⟩ hd) (tr_c fun _ => .int i)
theorem e_globS {x : Str} {i : Str} {t : Tok} (hg : Gl X x) (hm : X.mg x = some (.str i t)) (hd : (x == ("__debug__" : Str)) = false := by decide) : PE X (.Name x pos) (tr (cx X W) (eC (.str i))) :=
  PE.imp (pe_glob hg hm (v := .str i) ⟨t, rfl⟩ hd) (tr_c fun _ => .str i)

/-! ### operators -/
def dBin (op : R → R → M R) (fa fb : En → M R) : En → M R := fun env => fa env >>= fun a => fb env >>= fun b => op a b
def dUn (op : R → M R) (fa : En → M R) : En → M R := fun env => fa env >>= op
variable {a b : Expr} {fa fb fc : En → M R} {op : R → R → M R}
theorem e_bin {o : Operator} (h : OpR X (binaryOp o) (rr2 (cx X W) op)) (ha : PE X a (tr (cx X W) fa)) (hb : PE X b (tr (cx X W) fb)) : PE X (.BinOp a o b pos) (tr (cx X W) (dBin op fa fb)) :=
  PE.imp (pe_op h ha hb) fun _ _ _ h => tr2 h
theorem e_cmp {o : CmpOp} (h : OpR X (compareOp o) (rr2 (cx X W) op)) (ha : PE X a (tr (cx X W) fa)) (hb : PE X b (tr (cx X W) fb)) (hn : behindInMarks o b = false := by first | exact nobehind _ (by decide) (by decide) | rfl) : PE X (.Compare a [o] [b] pos) (tr (cx X W) (dBin op fa fb)) :=
  PE.imp (pe_cmpR h ha hb hn) fun _ _ _ h => tr2 h
theorem e_ix (h : IxR X (rr2 (cx X W) op)) (ha : PE X a (tr (cx X W) fa)) (hb : PE X b (tr (cx X W) fb)) (hs : PlainIx b := by intro _ _; rfl) : PE X (.Subscript a b pos) (tr (cx X W) (dBin op fa fb)) :=
  PE.imp (pe_ix h ha hb hs) fun _ _ _ h => tr2 h

def oI (f : Int → Int → D) (ok : Int → Int → Bool) : R → R → M R
  | .d (.int i), .d (.int j) => if ok i j then M.ret (.d (f i j)) else M.no
  | _, _ => M.no
theorem oI_ok {F : Value → Value → Sem Value} {C : Int → Int → Prop} {f : Int → Int → Int} {ok : Int → Int → Bool} (h : OpR X F (rI C fun i j => .int (f i j))) (hc : ∀ i j, ok i j = true → C i j) :
    OpR X F (rr2 (cx X W) (oI (fun i j => .int (f i j)) ok)) := by
  intro pins s σ H x y v u Q I rx ry ⟨env, σ', st, g, H0, g0, r1, r2, A⟩
  obtain ⟨B, v1, -, v2, -, -, q⟩ := A
  unfold oI at q
  split at q
  · rename_i i j
    split at q
    · rename_i ho
      have e1 : x = .int i := Df.int_inv v1
      have e2 : y = .int j := Df.int_inv v2
      subst e1; subst e2
      exact h pins s σ H _ _ v u Q I rx ry ⟨i, j, rfl, rfl, hc i j ho, B.fin_d q (.int _)⟩
    · exact q.elim
  · exact q.elim
theorem oI_bl {F : Value → Value → Sem Value} {f : Int → Int → Bool} (h : OpR X F (rI0 fun i j => .bl (f i j))) :
    OpR X F (rr2 (cx X W) (oI (fun i j => .bool (f i j)) fun _ _ => true)) := by
  intro pins s σ H x y v u Q I rx ry ⟨env, σ', st, g, H0, g0, r1, r2, A⟩
  obtain ⟨B, v1, -, v2, -, -, q⟩ := A
  unfold oI at q
  split at q
  · rename_i i j
    rw [if_pos rfl] at q
    have e1 : x = .int i := Df.int_inv v1
    have e2 : y = .int j := Df.int_inv v2
    subst e1; subst e2
    exact h pins s σ H _ _ v u Q I rx ry ⟨i, j, rfl, rfl, B.fin_d q (.bl _)⟩
  · exact q.elim
end
end N

/-! N3: what operators do, by results. -/
namespace N
open PySem PySem.Spec L2
section
variable {X : Cx} {W : String → L2.St → Hp → Prop} {pins : List (Addr × Obj)} {σ σ' : L2.St} {H H0 : Hp} {g g0 : Gh} {s : Shared} {env : En} {st : Sto} {v w : V} {u : Value} {r : R} {Q : VK}

/-- a looked-at tree reads -/
theorem reads_pk (I : L2.Inv X pins σ H s) (R0 : Rel X.K g env st σ' H) (h : Rv X.K g H v r) {x : D} (e : r.pk st = some x) (hp : x.plain = true) (ru : RelV v u) : ∃ as, Reads s.heap u x as := by
  obtain ⟨g2, _, hs, hd⟩ := pk_ok R0 h e
  exact Dp.reads I x v u (Df.dp hs x hd hp) ru
theorem pk_plain_d {x y : D} (e : (R.d x).pk st = some y) (hr : refOf x = none) : y = x := by
  unfold R.pk at e
  simp only [hr] at e
  exact (Option.some.inj e).symm

def oB (b : Bool) : M R := M.ret (.d (.bool b))
/-- == and != -/
def oEq (neg : Bool) (a b : R) : M R := fun st => match a.pk st, b.pk st with
  | some x, some y => if okD x = true ∧ okD y = true then .ok (.d (.bool (neg ^^ PyData.eqv x y))) st else .no
  | _, _ => .no
theorem or_eq (hu : X.A.units + 64 < cLine) : OpR X (compareOp .Eq) (rr2 (cx X W) (oEq false)) := by
  intro pins s σ H x y v u Q I rx ry ⟨env, σ', st, g, H0, g0, r1, r2, A⟩
  obtain ⟨B, v1, -, v2, -, -, q⟩ := A
  unfold oEq at q
  split at q
  · rename_i a b e1 e2
    split at q
    · rename_i ho
      obtain ⟨as, h1⟩ := reads_pk I B.rel v1 e1 (okD_plain ho.1) rx
      obtain ⟨bs, h2⟩ := reads_pk I B.rel v2 e2 (okD_plain ho.2) ry
      have k1 := okD_depth ho.1
      refine SeqAt.eq_plain h1 h2 (okD_plain ho.1) (okD_plain ho.2) (by have := Nat.min_le_left a.depth b.depth; omega) ?_
      exact ⟨.bl _, H, I, rfl, by have := B.fin_d (v := .bl (PyData.eqv a b)) q (by rw [Bool.false_xor]; exact .bl _); exact this⟩
    · exact q.elim
  · exact q.elim
theorem or_ne (hu : X.A.units + 64 < cLine) : OpR X (compareOp .NotEq) (rr2 (cx X W) (oEq true)) := by
  intro pins s σ H x y v u Q I rx ry ⟨env, σ', st, g, H0, g0, r1, r2, A⟩
  obtain ⟨B, v1, -, v2, -, -, q⟩ := A
  unfold oEq at q
  split at q
  · rename_i a b e1 e2
    split at q
    · rename_i ho
      obtain ⟨as, h1⟩ := reads_pk I B.rel v1 e1 (okD_plain ho.1) rx
      obtain ⟨bs, h2⟩ := reads_pk I B.rel v2 e2 (okD_plain ho.2) ry
      have k1 := okD_depth ho.1
      refine SeqAt.ne_plain h1 h2 (okD_plain ho.1) (okD_plain ho.2) (by have := Nat.min_le_left a.depth b.depth; omega) ?_
      exact ⟨.bl _, H, I, rfl, by have := B.fin_d (v := .bl (!PyData.eqv a b)) q (by rw [Bool.true_xor]; exact .bl _); exact this⟩
    · exact q.elim
  · exact q.elim
/-- <, <=, >, >= of alike data: lt x y as asked -/
def notNone : D → Bool
  | .none => false
  | _ => true
def oCmp (f : D → D → Bool) (a b : R) : M R := fun st => match a.pk st, b.pk st with
  | some x, some y => if PySem.W.alike x y = true ∧ okD x = true ∧ okD y = true ∧ notNone x = true then .ok (.d (.bool (f x y))) st else .no
  | _, _ => .no
theorem or_cmp {o : CmpOp} {f : D → D → Bool} (hu : X.A.units + 64 < cLine)
    (rule : ∀ {E : Value → Shared → Prop} {s : Shared} {a b : Value} {da db : PyData} {as bs : List Addr} {Q : Value → Shared → Prop}, Reads s.heap a da as → Reads s.heap b db bs → PySem.W.alike da db = true → da ≠ .none → X.A.units + min da.depth db.depth < cLine →
      Q (.bool (f da db)) s → wpAny (model X.prog X.w) X.A (compareOp o a b) Q E s) : OpR X (compareOp o) (rr2 (cx X W) (oCmp f)) := by
  intro pins s σ H x y v u Q I rx ry ⟨env, σ', st, g, H0, g0, r1, r2, A⟩
  obtain ⟨B, v1, -, v2, -, -, q⟩ := A
  unfold oCmp at q
  split at q
  · rename_i a b e1 e2
    split at q
    · rename_i ho
      have ha := ho.1
      have o1 := ho.2.1
      have o2 := ho.2.2.1
      have hn := ho.2.2.2
      obtain ⟨as, h1⟩ := reads_pk I B.rel v1 e1 (okD_plain o1) rx
      obtain ⟨bs, h2⟩ := reads_pk I B.rel v2 e2 (okD_plain o2) ry
      have k1 := okD_depth o1
      refine rule h1 h2 ha (fun z => by subst z; cases hn) (by have := Nat.min_le_left a.depth b.depth; omega) ?_
      exact ⟨.bl _, H, I, rfl, B.fin_d q (.bl _)⟩
    · exact q.elim
  · exact q.elim
def fLt (x y : D) : Bool := PySem.W.dataLt x y
def fGt (x y : D) : Bool := PySem.W.dataLt y x
def fLe (x y : D) : Bool := !PySem.W.dataLt y x
def fGe (x y : D) : Bool := !PySem.W.dataLt x y
theorem or_lt (hu : X.A.units + 64 < cLine) : OpR X (compareOp .Lt) (rr2 (cx X W) (oCmp fLt)) := or_cmp hu fun a b c d e f => PySem.W.lt_data a b c d e f
theorem or_gt (hu : X.A.units + 64 < cLine) : OpR X (compareOp .Gt) (rr2 (cx X W) (oCmp fGt)) := or_cmp hu fun a b c d e f => PySem.W.gt_data a b c d e f
theorem or_le (hu : X.A.units + 64 < cLine) : OpR X (compareOp .LtE) (rr2 (cx X W) (oCmp fLe)) := or_cmp hu fun a b c d e f => PySem.W.le_data a b c d e f
theorem or_ge (hu : X.A.units + 64 < cLine) : OpR X (compareOp .GtE) (rr2 (cx X W) (oCmp fGe)) := or_cmp hu fun a b c d e f => PySem.W.ge_data a b c d e f

/-! ### dicts -/
def valD (kvs : List (Key × D)) (k : Key) : Option D := (kvs.find? fun kv => decide (kv.1 = k)).map (·.2)
theorem valD_ok {K : PySem.W.Frag} : ∀ {vs : List (Key × V)} {ds : List (Key × D)} (k : Key), DfK K g vs ds → (∀ d, valD ds k = some d → ∃ v, valV vs k = some v ∧ Df K g v d) ∧ (valD ds k = none → valV vs k = none)
  | _, _, k, .nil => ⟨fun _ e => by simp [valD] at e, fun _ => rfl⟩
  | _, _, k, .cons (k := k') (v := v) (vs := vs) (d := d) (ds := ds) r t => by
    obtain ⟨h1, h2⟩ := valD_ok k t
    by_cases e : k' = k
    · have e1 : valD ((k', d) :: ds) k = some d := by simp [valD, e]
      have e2 : valV ((k', v) :: vs) k = some v := by simp [valV, e]
      rw [e1, e2]
      exact ⟨fun d' z => by cases z; exact ⟨v, rfl, r⟩, fun z => by cases z⟩
    · have e1 : valD ((k', d) :: ds) k = valD ds k := by simp [valD, e]
      have e2 : valV ((k', v) :: vs) k = valV vs k := by simp [valV, e]
      rw [e1, e2]
      exact ⟨h1, h2⟩
theorem valD_some {K : PySem.W.Frag} {vs : List (Key × V)} {ds : List (Key × D)} (k : Key) (h : DfK K g vs ds) : (valV vs k).isSome = (valD ds k).isSome := by
  obtain ⟨h1, h2⟩ := valD_ok k h
  cases e : valD ds k with
  | none => rw [h2 e]; rfl
  | some d =>
    obtain ⟨v, e', _⟩ := h1 d e
    rw [e']; rfl
/-- a datum as a key -/
def keyOf : D → Option Key
  | .int i => some (.inl i)
  | .str x => some (.inr x)
  | _ => none
theorem keyOf_ok {K : PySem.W.Frag} {x : D} {k : Key} (h : Df K g v x) (e : keyOf x = some k) : v = kV k := by
  unfold keyOf at e
  split at e
  · cases e; exact Df.int_inv h
  · cases e; exact Df.str_inv h
  · cases e

/-! ### in -/
def oIn (neg : Bool) (a b : R) : M R := fun st => match a with
  | .d x => match b.dct? st with
    | some kvs => match keyOf x with
      | some k => .ok (.d (.bool (neg ^^ (valD kvs k).isSome))) st
      | none => .no
    | none => match b.pk st with
      | some (.list ys) => if okD x = true ∧ okD (.list ys) = true then .ok (.d (.bool (neg ^^ ys.any fun y => PyData.eqv y x))) st else .no
      | some (.tuple ys) => if okD x = true ∧ okD (.tuple ys) = true then .ok (.d (.bool (neg ^^ ys.any fun y => PyData.eqv y x))) st else .no
      | some (.str j) => match x with
        | .str i => .ok (.d (.bool (neg ^^ !(Builtin.Str.occurrences j i 0 j.length 1).isEmpty))) st
        | _ => .no
      | _ => .no
  | _ => .no
theorem depth_items {ys : List D} (h : okD (.list ys) = true) : PyData.plainAll ys = true ∧ PyData.depthAll ys ≤ 59 := by
  have h1 := okD_plain h
  have h2 := okD_depth h
  simp only [PyData.plain] at h1
  simp only [PyData.depth] at h2
  exact ⟨h1, by omega⟩
theorem depth_itemsT {ys : List D} (h : okD (.tuple ys) = true) : PyData.plainAll ys = true ∧ PyData.depthAll ys ≤ 59 := by
  have h1 := okD_plain h
  have h2 := okD_depth h
  simp only [PyData.plain] at h1
  simp only [PyData.depth] at h2
  exact ⟨h1, by omega⟩
theorem not_ref_plain {x : D} (h : x.plain = true) : refOf x = none := by
  cases x with
  | dict _ => simp [PyData.plain] at h
  | _ => rfl
theorem reads_d (I : L2.Inv X pins σ H s) (hs : Sub g.G H) {x : D} (h : Df X.K g v x) (hp : x.plain = true) (ru : RelV v u) : ∃ as, Reads s.heap u x as :=
  Dp.reads I x v u (Df.dp hs x h hp) ru
theorem pk_str (R0 : Rel X.K g env st σ' H) (h : Rv X.K g H v r) {j : Str} (e : r.pk st = some (.str j)) : v = .str j := by
  obtain ⟨g2, _, _, hd⟩ := pk_ok R0 h e
  exact Df.str_inv hd
theorem or_in (hu : X.A.units + 64 < cLine) : OpR X (compareOp .In) (rr2 (cx X W) (oIn false)) := by
  intro pins s σ H x y v u Q I rx ry ⟨env, σ', st, g, H0, g0, r1, r2, A⟩
  obtain ⟨B, v1, -, v2, -, -, q⟩ := A
  unfold oIn at q
  split at q
  · rename_i d
    have v1' : Df X.K g x d := v1
    split at q
    · rename_i kvs ek
      split at q
      · rename_i k hk
        obtain ⟨a, vs, rfl, h1, h2⟩ := dct_ok B.rel v2 ek
        obtain rfl := keyOf_ok v1' hk
        cases ry
        refine d_in (by omega) I (y := kV k) (.inl ⟨vs, k, h1, rfl, rfl⟩) rx fun s' I' => ⟨.bl _, H, I', rfl, ?_⟩
        have := B.fin_d (v := .bl (valD kvs k).isSome) q (by rw [Bool.false_xor]; exact .bl _)
        rw [valD_some k h2]; exact this
      · exact q.elim
    · split at q
      · rename_i ys e
        split at q
        · rename_i ho
          obtain ⟨hp, hd⟩ := depth_items ho.2
          obtain ⟨as, h1⟩ := reads_d I B.rel.sub v1' (okD_plain ho.1) rx
          obtain ⟨bs, h2⟩ := reads_pk I B.rel v2 e (okD_plain ho.2) ry
          refine PySem.SeqAt.in_list_data h2 h1 hp (okD_plain ho.1) (by have := Nat.min_le_left (PyData.depthAll ys) d.depth; omega) ?_
          exact ⟨.bl _, H, I, rfl, by have := B.fin_d (v := .bl (ys.any fun y => PyData.eqv y d)) q (by rw [Bool.false_xor]; exact .bl _); exact this⟩
        · exact q.elim
      · rename_i ys e
        split at q
        · rename_i ho
          obtain ⟨hp, hd⟩ := depth_itemsT ho.2
          obtain ⟨as, h1⟩ := reads_d I B.rel.sub v1' (okD_plain ho.1) rx
          obtain ⟨bs, h2⟩ := reads_pk I B.rel v2 e (okD_plain ho.2) ry
          refine PySem.SeqAt.in_tuple_data h2 h1 hp (okD_plain ho.1) (by have := Nat.min_le_left (PyData.depthAll ys) d.depth; omega) ?_
          exact ⟨.bl _, H, I, rfl, by have := B.fin_d (v := .bl (ys.any fun y => PyData.eqv y d)) q (by rw [Bool.false_xor]; exact .bl _); exact this⟩
        · exact q.elim
      · rename_i j e
        split at q
        · rename_i i
          obtain rfl := pk_str B.rel v2 e
          obtain rfl := Df.str_inv v1'
          exact op_in_str pins s σ H _ _ v u Q I rx ry ⟨i, j, rfl, rfl, B.fin_d q (by rw [Bool.false_xor]; exact .bl _)⟩
        · exact q.elim
      · exact q.elim
  · exact q.elim
theorem or_notin (hu : X.A.units + 64 < cLine) : OpR X (compareOp .NotIn) (rr2 (cx X W) (oIn true)) := by
  intro pins s σ H x y v u Q I rx ry ⟨env, σ', st, g, H0, g0, r1, r2, A⟩
  obtain ⟨B, v1, -, v2, -, -, q⟩ := A
  unfold oIn at q
  split at q
  · rename_i d
    have v1' : Df X.K g x d := v1
    split at q
    · rename_i kvs ek
      split at q
      · rename_i k hk
        obtain ⟨a, vs, rfl, h1, h2⟩ := dct_ok B.rel v2 ek
        obtain rfl := keyOf_ok v1' hk
        cases ry
        refine d_notIn (by omega) I (y := kV k) (.inl ⟨vs, k, h1, rfl, rfl⟩) rx fun s' I' => ⟨.bl _, H, I', rfl, ?_⟩
        have := B.fin_d (v := .bl (!(valD kvs k).isSome)) q (by rw [Bool.true_xor]; exact .bl _)
        rw [valD_some k h2]; exact this
      · exact q.elim
    · split at q
      · rename_i ys e
        split at q
        · rename_i ho
          obtain ⟨hp, hd⟩ := depth_items ho.2
          obtain ⟨as, h1⟩ := reads_d I B.rel.sub v1' (okD_plain ho.1) rx
          obtain ⟨bs, h2⟩ := reads_pk I B.rel v2 e (okD_plain ho.2) ry
          refine PySem.SeqAt.notIn_list_data h2 h1 hp (okD_plain ho.1) (by have := Nat.min_le_left (PyData.depthAll ys) d.depth; omega) ?_
          exact ⟨.bl _, H, I, rfl, by have := B.fin_d (v := .bl (!ys.any fun y => PyData.eqv y d)) q (by rw [Bool.true_xor]; exact .bl _); exact this⟩
        · exact q.elim
      · rename_i ys e
        split at q
        · rename_i ho
          obtain ⟨hp, hd⟩ := depth_itemsT ho.2
          obtain ⟨as, h1⟩ := reads_d I B.rel.sub v1' (okD_plain ho.1) rx
          obtain ⟨bs, h2⟩ := reads_pk I B.rel v2 e (okD_plain ho.2) ry
          refine PySem.SeqAt.notIn_tuple_data h2 h1 hp (okD_plain ho.1) (by have := Nat.min_le_left (PyData.depthAll ys) d.depth; omega) ?_
          exact ⟨.bl _, H, I, rfl, by have := B.fin_d (v := .bl (!ys.any fun y => PyData.eqv y d)) q (by rw [Bool.true_xor]; exact .bl _); exact this⟩
        · exact q.elim
      · rename_i j e
        split at q
        · rename_i i
          obtain rfl := pk_str B.rel v2 e
          obtain rfl := Df.str_inv v1'
          exact op_notin_str pins s σ H _ _ v u Q I rx ry ⟨i, j, rfl, rfl, B.fin_d q (by rw [Bool.true_xor]; exact .bl _)⟩
        · exact q.elim
      · exact q.elim
  · exact q.elim

/-! ### is None -/
def isNoneD : D → Bool
  | .none => true
  | _ => false
def oIsN (neg : Bool) (a b : R) : M R := match a, b with
  | .d x, .d .none => M.ret (.d (.bool (neg ^^ isNoneD x)))
  | _, _ => M.no
theorem df_none {K : PySem.W.Frag} {x : D} (h : Df K g v x) : decide (v = .non) = isNoneD x := by
  cases h <;> rfl
theorem or_isN : OpR X (compareOp .Is) (rr2 (cx X W) (oIsN false)) := by
  intro pins s σ H x y v u Q I rx ry ⟨env, σ', st, g, H0, g0, r1, r2, A⟩
  obtain ⟨B, v1, -, v2, -, -, q⟩ := A
  unfold oIsN at q
  split at q
  · rename_i d
    have v1' : Df X.K g x d := v1
    exact op_isN pins s σ H _ _ v u Q I rx ry ⟨Df.non_inv v2, by rw [df_none v1']; exact B.fin_d q (by rw [Bool.false_xor]; exact .bl _)⟩
  · exact q.elim
theorem or_notN : OpR X (compareOp .IsNot) (rr2 (cx X W) (oIsN true)) := by
  intro pins s σ H x y v u Q I rx ry ⟨env, σ', st, g, H0, g0, r1, r2, A⟩
  obtain ⟨B, v1, -, v2, -, -, q⟩ := A
  unfold oIsN at q
  split at q
  · rename_i d
    have v1' : Df X.K g x d := v1
    exact op_notN pins s σ H _ _ v u Q I rx ry ⟨Df.non_inv v2, by rw [df_none v1']; exact B.fin_d q (by rw [Bool.true_xor]; exact .bl _)⟩
  · exact q.elim

/-! ### + - * // % ** -/
theorem cat_sql : OpR X (binaryOp .Add) (fun x y H Q => ∃ l b xs zs, x = .ref l ∧ y = .ref b ∧ SqL X.K H l xs ∧ SqL X.K H b zs ∧ xs.length + zs.length ≤ sizeLine ∧ ∀ p, H p = none → Q (.ref p) (upd H p (.lst (xs ++ zs)))) := by
  intro pins s σ H x y v u Q I rx ry h
  obtain ⟨l, b, xs, zs, rfl, rfl, hH, hB, hz, q⟩ := h
  cases rx
  cases ry
  obtain ⟨its, r, ⟨⟨cls, dd, data, sl⟩, n, ho, hc, hd, hs⟩, z⟩ := I.list hH
  obtain ⟨its2, r2, ⟨⟨cls2, dd2, data2, sl2⟩, n2, ho2, hc2, hd2, hs2⟩, z2⟩ := I.list hB
  simp only at hc hd hs hc2 hd2 hs2
  subst hc hd hs hc2 hd2 hs2
  have l1 := r.length
  have l2 := r2.length
  have e : its.toArray ++ its2.toArray = (its ++ its2).toArray := by simp
  refine PySem.concat_meets ⟨_, ho, rfl⟩ ⟨_, ho2, rfl⟩ PySem.noFill_list_add PySem.seq_list_add PySem.F.slot_list_add PySem.F.entry_list_add (PySem.F.args_list_add_2 _ _) (PyProof.Rows.list_addW l b its.toArray its2.toArray n n2 none none sl sl2 (by simp; omega)) ⟨ho, ho2, ?_⟩
  rw [e]
  exact ⟨.ref _, _, I.lnew (t' := s.toks) (r.append r2) (by rw [List.length_append]; omega), rfl, q _ I.fresh⟩
def oAdd : R → R → M R
  | .d (.int i), .d (.int j) => M.ret (.d (.int (i + j)))
  | .d (.str x), .d (.str y) => if x.length + y.length ≤ sizeLine then M.ret (.d (.str (x ++ y))) else M.no
  | .d (.tuple xs), .d (.tuple ys) => if xs.length + ys.length ≤ sizeLine then M.ret (.d (.tuple (xs ++ ys))) else M.no
  | a, b => fun st => match a.lst? st, b.lst? st with
    | some xs, some ys => if xs.length + ys.length ≤ sizeLine then .ok (.l true (xs ++ ys)) st else .no
    | _, _ => .no
theorem or_add : OpR X (binaryOp .Add) (rr2 (cx X W) oAdd) := by
  intro pins s σ H x y v u Q I rx ry ⟨env, σ', st, g, H0, g0, r1, r2, A⟩
  obtain ⟨B, v1, -, v2, -, -, q⟩ := A
  unfold oAdd at q
  split at q
  · obtain rfl := Df.int_inv v1
    obtain rfl := Df.int_inv v2
    exact op_add pins s σ H _ _ v u Q I rx ry ⟨_, _, rfl, rfl, B.fin_d q (.int _)⟩
  · split at q
    · rename_i ho
      obtain rfl := Df.str_inv v1
      obtain rfl := Df.str_inv v2
      exact op_add_str pins s σ H _ _ v u Q I rx ry ⟨_, _, rfl, rfl, ho, B.fin_d q (.str _)⟩
    · exact q.elim
  · split at q
    · rename_i xs ys ho
      obtain ⟨a, vs, rfl, h1, hb1, h2⟩ := Df.tup_invB v1
      obtain ⟨b, ws, rfl, k1, hb2, k2⟩ := Df.tup_invB v2
      have l1 := h2.length
      have l2 := k2.length
      refine op_catF pins s σ H _ _ v u Q I rx ry ⟨a, b, vs, ws, rfl, rfl, B.rel.sub.sqt h1, B.rel.sub.sqt k1, by omega, fun e => ?_, fun _ e => ?_, fun _ _ => ?_⟩
      · have e' : xs = [] := by subst e; exact List.eq_nil_of_length_eq_zero (by simpa using l1.symm)
        subst e'
        exact B.fin_d q (.tup k1 (by simpa using hb2) (by simpa using k2))
      · have e' : ys = [] := by subst e; exact List.eq_nil_of_length_eq_zero (by simpa using l2.symm)
        subst e'
        exact B.fin_d q (.tup h1 (by simpa using hb1) (by simpa using h2))
      · exact B.fin_t q (h2.append k2)
    · exact q.elim
  · dsimp only at q
    split at q
    · rename_i xs ys e1 e2
      split at q
      · rename_i ho
        obtain ⟨a, vs, rfl, h1, h2⟩ := lst_ok B.rel v1 e1
        obtain ⟨b, ws, rfl, k1, k2⟩ := lst_ok B.rel v2 e2
        have l1 := h2.length
        have l2 := k2.length
        exact cat_sql pins s σ H _ _ v u Q I rx ry ⟨a, b, vs, ws, rfl, rfl, h1, k1, by omega, fun p hp => B.fin_l q hp (h2.append k2)⟩
      · exact q.elim
    · exact q.elim
def oSub : R → R → M R := oI (fun i j => .int (i - j)) fun _ _ => true
theorem or_sub : OpR X (binaryOp .Sub) (rr2 (cx X W) oSub) := by
  intro pins s σ H x y v u Q I rx ry ⟨env, σ', st, g, H0, g0, r1, r2, A⟩
  obtain ⟨B, v1, -, v2, -, -, q⟩ := A
  unfold oSub oI at q
  split at q
  · rw [if_pos rfl] at q
    obtain rfl := Df.int_inv v1
    obtain rfl := Df.int_inv v2
    exact op_sub pins s σ H _ _ v u Q I rx ry ⟨_, _, rfl, rfl, B.fin_d q (.int _)⟩
  · exact q.elim
def okMul (i j : Int) : Bool := (decide (-18446744073709551616 < i) && decide (i < 18446744073709551616)) || (decide (-18446744073709551616 < j) && decide (j < 18446744073709551616))
def oMul : R → R → M R
  | .d (.int i), .d (.int j) => if okMul i j = true then M.ret (.d (.int (i * j))) else M.no
  | .d (.tuple xs), .d (.int k) => if xs ≠ [] ∧ 2 ≤ k ∧ k ≤ 1000 ∧ xs.length ≤ 1000 ∧ headW (List.replicate k.toNat xs).flatten = true then M.ret (.d (.tuple (List.replicate k.toNat xs).flatten)) else M.no
  | _, _ => M.no
theorem or_mul : OpR X (binaryOp .Mult) (rr2 (cx X W) oMul) := by
  intro pins s σ H x y v u Q I rx ry ⟨env, σ', st, g, H0, g0, r1, r2, A⟩
  obtain ⟨B, v1, -, v2, -, -, q⟩ := A
  unfold oMul at q
  split at q
  · split at q
    · rename_i i j ho
      obtain rfl := Df.int_inv v1
      obtain rfl := Df.int_inv v2
      refine op_mul pins s σ H _ _ v u Q I rx ry ⟨_, _, rfl, rfl, ?_, B.fin_d q (.int _)⟩
      simp only [okMul, Bool.or_eq_true, Bool.and_eq_true, decide_eq_true_eq] at ho
      show (-(2 ^ 64) < i ∧ i < 2 ^ 64) ∨ (-(2 ^ 64) < j ∧ j < 2 ^ 64)
      omega
    · exact q.elim
  · split at q
    · rename_i xs k ho
      obtain ⟨a, vs, rfl, h1, h2⟩ := Df.tup_inv v1
      obtain rfl := Df.int_inv v2
      have l1 := h2.length
      refine op_repT pins s σ H _ _ v u Q I rx ry ⟨a, k, vs, rfl, rfl, B.rel.sub.sqt h1, fun e => ho.1 ?_, ho.2.1, ho.2.2.1, by omega, fun p hp => B.fin_tw q ho.2.2.2.2 hp (h2.flatRep _)⟩
      subst e
      exact List.eq_nil_of_length_eq_zero (by simpa using l1.symm)
    · exact q.elim
  · exact q.elim
def oFdiv : R → R → M R := oI (fun i j => .int (i / j)) fun _ j => decide (0 < j) && decide (j < 1073741824)
theorem or_fdiv : OpR X (binaryOp .FloorDiv) (rr2 (cx X W) oFdiv) := oI_ok op_fdiv fun i j h => by
  simp only [Bool.and_eq_true, decide_eq_true_eq] at h; exact h
def oMod : R → R → M R := oI (fun i j => .int (i % j)) fun _ j => decide (0 < j)
theorem or_mod : OpR X (binaryOp .Mod) (rr2 (cx X W) oMod) := oI_ok op_mod fun i j h => by simpa using h
def oPow : R → R → M R := oI (fun i j => .int (i ^ j.toNat)) fun i j => decide (0 ≤ j) && decide (j ≤ 1000) && decide (i.natAbs < 18446744073709551616)
theorem or_pow : OpR X (binaryOp .Pow) (rr2 (cx X W) oPow) := oI_ok op_pow fun i j h => by
  simp only [Bool.and_eq_true, decide_eq_true_eq] at h
  exact ⟨h.1.1, by omega, h.2⟩

/-! ### indices -/
def oIx (a b : R) : M R := fun st => match b with
  | .d (.int i) => match a.tup? with
    | some xs => match atI xs i with
      | some x => .ok (.d x) st
      | none => .no
    | none => match a.lst? st with
      | some xs => match atI xs i with
        | some x => .ok (.d x) st
        | none => .no
      | none => match a with
        | .d (.str z) => if z.length ≤ sizeLine then match atI z.cps.toList i with
          | some k => .ok (.d (.str ⟨#[k]⟩)) st
          | none => .no
          else .no
        | _ => .no
  | .d (.str k) => match a.dct? st with
    | some kvs => match valD kvs (.inr k) with
      | some x => .ok (.d x) st
      | none => .no
    | none => .no
  | _ => .no
theorem atI_df {K : PySem.W.Frag} {vs : List V} {ds : List D} {i : Int} {d : D} (h : DfA K g vs ds) (e : atI ds i = some d) : ∃ v, atI vs i = some v ∧ Df K g v d := by
  unfold atI at e ⊢
  rw [h.length]
  cases q : ixN ds.length i with
  | none => rw [q] at e; cases e
  | some j =>
    rw [q] at e
    exact h.get e
theorem ixr_dict (hu : X.A.units + 64 < cLine) : IxR X (fun x y H Q => ∃ a v, x = .ref a ∧ DGet H a y (some v) ∧ Q v H) := by
  intro value slice pins s σ H x y v u Q I rx ry ⟨a, z, e, g, q⟩ hs
  subst e
  obtain rfl : v = Value.ref a := rx
  have hT := dict_typeIs I g
  have h₂ : wpAny (model X.prog X.w) X.A (getItem (Value.ref a) u) (EP X pins σ Q) X.xe s := d_getItem (by omega) I g ry fun w' s3 I3 rw' => ⟨z, H, I3, rw', q⟩
  unfold PyProof.Rows.subscriptTail
  refine wpAny_bind ?_
  rw [getitemInPython_of_ne hT.not_modules]
  refine wpAny_bind (wpAny_specialOf hT PySem.F.slot_dict_getitem.lookup ?_)
  have fin : wpAny (model X.prog X.w) X.A (subscripted slice false (Value.ref a) u) (fun r s₃ => wpAny (model X.prog X.w) X.A (letTemporaryGo value (Value.ref a) r >>= fun _ => pure r) (EP X pins σ Q) X.xe s₃) X.xe s := by
    rw [hs]
    exact wpAny_operating (wpAny_mono h₂ (fun r s₃ h₃ => wpAny_bind (wpAny_letTemporaryGo (wpAny_pure h₃))) fun _ _ x => x)
  first
    | exact wpAny_pure (wpAny_bind fin)
    | exact wpAny_bind fin
theorem or_ix (hu : X.A.units + 64 < cLine) : IxR X (rr2 (cx X W) oIx) := by
  intro value slice pins s σ H x y v u Q I rx ry ⟨env, σ', st, g, H0, g0, r1, r2, A⟩ hs
  obtain ⟨B, v1, -, v2, -, -, q⟩ := A
  unfold oIx at q
  split at q
  · rename_i i
    obtain rfl := Df.int_inv v2
    split at q
    · rename_i xs e
      obtain ⟨a, vs, rfl, h1, h0, h2, hb⟩ := tup_ok B.rel v1 e
      split at q
      · rename_i d ed
        obtain ⟨z, k1, k2⟩ := atI_df h2 ed
        exact ix_tup value slice pins s σ H _ _ v u Q I rx ry ⟨a, vs, i, z, rfl, rfl, h1, k1, B.fin_d q k2⟩ hs
      · exact q.elim
    · split at q
      · rename_i xs e
        obtain ⟨a, vs, rfl, h1, h2⟩ := lst_ok B.rel v1 e
        split at q
        · rename_i d ed
          obtain ⟨z, k1, k2⟩ := atI_df h2 ed
          exact ix_list value slice pins s σ H _ _ v u Q I rx ry ⟨a, vs, i, z, rfl, rfl, h1, k1, B.fin_d q k2⟩ hs
        · exact q.elim
      · split at q
        · rename_i z _ _
          obtain rfl := Df.str_inv v1
          split at q
          · rename_i ho
            split at q
            · rename_i k ek
              exact ix_str value slice pins s σ H _ _ v u Q I rx ry ⟨z, i, k, rfl, rfl, ho, ek, B.fin_d q (.str _)⟩ hs
            · exact q.elim
          · exact q.elim
        · exact q.elim
  · rename_i k
    obtain rfl := Df.str_inv v2
    split at q
    · rename_i kvs e
      obtain ⟨a, vs, rfl, h1, h2⟩ := dct_ok B.rel v1 e
      split at q
      · rename_i d ed
        obtain ⟨z, k1, k2⟩ := (valD_ok (.inr k) h2).1 d ed
        exact ixr_dict hu value slice pins s σ H _ _ v u Q I rx ry ⟨a, z, rfl, .inl ⟨vs, .inr k, h1, rfl, k1.symm⟩, B.fin_d q k2⟩ hs
      · exact q.elim
    · exact q.elim
  · exact q.elim
end
end N

/-! N4: tests, choices, slices, displays, calls of built-ins. -/
namespace N
open PySem PySem.Spec L2
section
variable {c : Ct} {env : En} {σ : L2.St} {H H1 H0 : Hp} {g g0 g1 : Gh} {st : Sto} {Q : VK}
theorem Bs.tr {f : En → M R} (b : Bs c H env σ st g H0 g0) (q : Post c env σ H0 g0 (f env st) (qE c H0 Q)) : tr c f σ H Q :=
  ⟨env, st, g, b.rel, Post.mono (Post.later b.e q) fun _ _ _ h v rv fr => h v rv (fr.ext b.e)⟩
theorem Bs.trT {f : En → M Bool} {Q : Bool → Hp → Prop} (b : Bs c H env σ st g H0 g0) (q : Post c env σ H0 g0 (f env st) (qT Q)) : trT c f σ H Q :=
  ⟨env, st, g, b.rel, Post.later b.e q⟩
end

def toB : R → M Bool
  | .d (.bool b) => M.ret b
  | _ => M.no
def dTst (f : En → M R) : En → M Bool := fun env => f env >>= toB
def dNot (f : En → M Bool) : En → M Bool := fun env => f env >>= fun b => M.ret (!b)
def dAnd (f k : En → M Bool) : En → M Bool := fun env => f env >>= fun b => if b = true then k env else M.ret false
def dOr (f k : En → M Bool) : En → M Bool := fun env => f env >>= fun b => if b = true then M.ret true else k env
def dNotV (f : En → M R) : En → M R := fun env => f env >>= fun r => toB r >>= fun b => oB (!b)
def dAndV (f k : En → M R) : En → M R := fun env => f env >>= fun r => toB r >>= fun b => if b = true then k env else oB false
def dOrV (f k : En → M R) : En → M R := fun env => f env >>= fun r => toB r >>= fun b => if b = true then oB true else k env
def dIf (f : En → M Bool) (a b : En → M R) : En → M R := fun env => f env >>= fun t => if t = true then a env else b env
def dChain (op op' : R → R → M R) (fa fb fc : En → M R) : En → M R := fun env => fa env >>= fun a => fb env >>= fun b => op a b >>= fun r => toB r >>= fun t => if t = true then fc env >>= fun w => op' b w else oB false

section
variable {X : Cx} {W : String → L2.St → Hp → Prop} {pos : Pos} {a b d : Expr} {fa fb fc : En → M R} {ta tb : En → M Bool} {op op' : R → R → M R} {rest : List Expr}
theorem toB_post {c : Ct} {env : En} {σ : L2.St} {H : Hp} {g : Gh} {st : Sto} {α : Type} {r : R} {f : Bool → M α} {P : α → Gh → Hp → Prop} (h : Post c env σ H g ((toB r >>= f) st) P) : ∃ t, r = .d (.bool t) ∧ Post c env σ H g (f t st) P := by
  cases r with
  | d x => cases x with
    | bool b => exact ⟨b, rfl, h⟩
    | _ => exact h.elim
  | _ => exact h.elim
theorem tr_tst {c : Ct} {f : En → M R} {σ : L2.St} {H : Hp} {Q : Bool → Hp → Prop} (h : trT c (dTst f) σ H Q) : tr c f σ H fun x H1 => ∃ k, x = .bl k ∧ Q k H1 := by
  obtain ⟨env, st, g, R0, h⟩ := h
  refine ⟨env, st, g, R0, Post.mono (Post.bind (.refl H g) h) fun r g1 H1 ⟨st1, _, R1, x, _, q⟩ v rv fr => ?_⟩
  have q' : Post c env σ H g ((toB r >>= fun b => M.ret b) st1) (qT Q) := by
    rw [M.bind_ap]
    cases e : toB r st1 with
    | ok a s => rw [e] at q; exact q
    | ex a s => rw [e] at q; exact q
    | no => rw [e] at q; exact q
  obtain ⟨t, rfl, q⟩ := toB_post q'
  exact ⟨t, Df.bl_inv rv, q g1 H1 x R1⟩
theorem t_val (h : PE X a (tr (cx X W) fa)) (he : ∀ whole, PySem.isTrue a X.env whole = (do let v ← whole; standAt a.pos; holding [v] (truthy v)) := by intro _; rfl) : PT X a (trT (cx X W) (dTst fa)) :=
  PT.imp (pt_val h he) fun _ _ _ h => tr_tst h
theorem t_cmp {o : CmpOp} (h : OpR X (compareOp o) (rr2 (cx X W) op)) (ha : PE X a (tr (cx X W) fa)) (hb : PE X b (tr (cx X W) fb)) (hn : behindInMarks o b = false := by first | exact nobehind _ (by decide) (by decide) | rfl) : PT X (.Compare a [o] [b] pos) (trT (cx X W) (dTst (dBin op fa fb))) :=
  PT.imp (pt_cmpR h ha hb hn) fun _ _ _ h => tr2 (tr_tst h)
theorem t_not (h : PT X a (trT (cx X W) ta)) : PT X (.UnaryOp .Not a pos) (trT (cx X W) (dNot ta)) :=
  PT.imp (pt_not h) fun σ H Q ⟨env, st, g, R0, h⟩ => ⟨env, st, g, R0, Post.mono (Post.bind (.refl H g) h) fun r g1 H1 ⟨st1, _, R1, x, _, q⟩ => q g1 H1 x R1⟩
theorem w_and1 (h : PT X a (trT (cx X W) ta)) : PW X (.BoolOp .And [a] pos) (trT (cx X W) ta) := pw_and1 h
theorem w_or1 (h : PT X a (trT (cx X W) ta)) : PW X (.BoolOp .Or [a] pos) (trT (cx X W) ta) := pw_or1 h
theorem w_and (h : PT X a (trT (cx X W) ta)) (h2 : PW X (.BoolOp .And (b :: rest) pos) (trT (cx X W) tb)) : PW X (.BoolOp .And (a :: b :: rest) pos) (trT (cx X W) (dAnd ta tb)) :=
  PW.imp (pw_and h h2) fun σ H Q ⟨env, st, g, R0, h⟩ => ⟨env, st, g, R0, Post.mono (Post.bind (.refl H g) h) fun r g1 H1 ⟨st1, _, R1, x, _, q⟩ => by
    cases r with
    | true => exact iteT (B := Q false H1) (Bs.trT ⟨x, R1, R0.sl⟩ q)
    | false => exact iteF (A := trT (cx X W) tb σ H1 Q) (q g1 H1 x R1)⟩
theorem w_or (h : PT X a (trT (cx X W) ta)) (h2 : PW X (.BoolOp .Or (b :: rest) pos) (trT (cx X W) tb)) : PW X (.BoolOp .Or (a :: b :: rest) pos) (trT (cx X W) (dOr ta tb)) :=
  PW.imp (pw_or h h2) fun σ H Q ⟨env, st, g, R0, h⟩ => ⟨env, st, g, R0, Post.mono (Post.bind (.refl H g) h) fun r g1 H1 ⟨st1, _, R1, x, _, q⟩ => by
    cases r with
    | true => exact iteT (B := trT (cx X W) tb σ H1 Q) (q g1 H1 x R1)
    | false => exact iteF (A := Q true H1) (Bs.trT ⟨x, R1, R0.sl⟩ q)⟩
theorem Bs.fin_b {c : Ct} {env : En} {σ : L2.St} {H H0 : Hp} {g g0 : Gh} {st : Sto} {Q : VK} {t : Bool} (b : Bs c H env σ st g H0 g0) (q : Post c env σ H0 g0 (oB t st) (qE c H0 Q)) : Q (.bl t) H := b.fin_d (g1 := g) (Post.toC q) (.bl t)
theorem e_not (h : PE X a (tr (cx X W) fa)) : PE X (.UnaryOp .Not a pos) (tr (cx X W) (dNotV fa)) :=
  PE.imp (pe_not h) fun σ H Q ⟨env, st, g, R0, h⟩ => ⟨env, st, g, R0, Post.mono (Post.bind (.refl H g) h) fun r g1 H1 ⟨st1, _, R1, x, _, q⟩ v rv fr => by
    obtain ⟨t, rfl, q⟩ := toB_post q
    exact ⟨t, Df.bl_inv rv, Bs.fin_b ⟨x, R1, R0.sl⟩ q⟩⟩
theorem e_one {o : BoolOp} (h : PE X a (tr (cx X W) fa)) : PE X (.BoolOp o [a] pos) (tr (cx X W) fa) := pe_one h
theorem e_and (h : PE X a (tr (cx X W) fa)) (h2 : PE X (.BoolOp .And (b :: rest) pos) (tr (cx X W) fb)) : PE X (.BoolOp .And (a :: b :: rest) pos) (tr (cx X W) (dAndV fa fb)) :=
  PE.imp (pe_and h h2) fun σ H Q ⟨env, st, g, R0, h⟩ => ⟨env, st, g, R0, Post.mono (Post.bind (.refl H g) h) fun r g1 H1 ⟨st1, _, R1, x, _, q⟩ v rv fr => by
    obtain ⟨t, rfl, q⟩ := toB_post q
    refine ⟨t, Df.bl_inv rv, ?_⟩
    cases t with
    | true => exact iteT (Bs.tr ⟨x, R1, R0.sl⟩ q)
    | false => exact iteF (Bs.fin_b ⟨x, R1, R0.sl⟩ q)⟩
theorem e_or (h : PE X a (tr (cx X W) fa)) (h2 : PE X (.BoolOp .Or (b :: rest) pos) (tr (cx X W) fb)) : PE X (.BoolOp .Or (a :: b :: rest) pos) (tr (cx X W) (dOrV fa fb)) :=
  PE.imp (pe_or h h2) fun σ H Q ⟨env, st, g, R0, h⟩ => ⟨env, st, g, R0, Post.mono (Post.bind (.refl H g) h) fun r g1 H1 ⟨st1, _, R1, x, _, q⟩ v rv fr => by
    obtain ⟨t, rfl, q⟩ := toB_post q
    refine ⟨t, Df.bl_inv rv, ?_⟩
    cases t with
    | true => exact iteT (Bs.fin_b ⟨x, R1, R0.sl⟩ q)
    | false => exact iteF (Bs.tr ⟨x, R1, R0.sl⟩ q)⟩
theorem e_if (h : PT X d (trT (cx X W) ta)) (ha : PE X a (tr (cx X W) fa)) (hb : PE X b (tr (cx X W) fb)) : PE X (.IfExp d a b pos) (tr (cx X W) (dIf ta fa fb)) :=
  PE.imp (pe_ifExp h ha hb) fun σ H Q ⟨env, st, g, R0, h⟩ => ⟨env, st, g, R0, Post.mono (Post.bind (.refl H g) h) fun r g1 H1 ⟨st1, _, R1, x, _, q⟩ => by
    cases r with
    | true => exact iteT (B := tr (cx X W) fb σ H1 Q) (Bs.tr ⟨x, R1, R0.sl⟩ q)
    | false => exact iteF (A := tr (cx X W) fa σ H1 Q) (Bs.tr ⟨x, R1, R0.sl⟩ q)⟩
def dOnly (op : R → R → M R) : R → R → M R
  | a, .d b => op a (.d b)
  | _, _ => M.no
theorem dOnly_ok {F : Value → Value → Sem Value} {c : Ct} (h : OpR X F (rr2 c op)) : OpR X F (rr2 c (dOnly op)) := by
  intro pins s σ H x y v u Q I rx ry ⟨env, σ', st, g, H0, g0, r1, r2, A⟩
  cases r2 with
  | d b => exact h pins s σ H x y v u Q I rx ry ⟨env, σ', st, g, H0, g0, r1, .d b, A.b, A.v1, A.f1, A.v2, A.f2, A.ap, A.q⟩
  | _ => exact A.q.elim
theorem tr_chain {c : Ct} {σ : L2.St} {H : Hp} {Q : VK} (h : tr c (dChain (dOnly op) op' fa fb fc) σ H Q) : tChain (rr2 c (dOnly op)) (rr2 c op') (tr c fa) (tr c fb) (tr c fc) σ H Q := by
  obtain ⟨env, st, g, R0, h⟩ := h
  refine ⟨env, st, g, R0, Post.mono (Post.bind (.refl H g) h) fun r g1 H1 ⟨st1, _, R1, x1, _, q⟩ v rv fr => ?_⟩
  refine ⟨env, st1, g1, R1, Post.mono (Post.bind x1 q) fun r2 g2 H2 ⟨st2, _, R2, x12, x2, q2⟩ w rw' fw => ?_⟩
  refine ⟨env, σ, st2, g2, H, g, r, r2, ⟨x2, R2, R0.sl⟩, rv.ext x12, fr, rw', fw.ext x1, fun e1 e2 => Fr.ne rv fw e1 e2, ?_⟩
  cases e : dOnly op r r2 st2 with
  | no => rw [M.bind_ap, e] at q2; exact q2
  | ex n s =>
    rw [M.bind_ap, e] at q2
    exact fun g' H' x _ R => q2 g' H' x R
  | ok a s =>
    rw [M.bind_ap, e] at q2
    intro g3 H3 x3 le3 R3 z rz fz
    obtain ⟨t, rfl, q3⟩ := toB_post q2
    refine ⟨t, Df.bl_inv rz, ?_⟩
    cases t with
    | false => exact iteF (Bs.fin_b ⟨x3, R3, R0.sl⟩ q3)
    | true =>
      refine iteT ⟨env, s, g3, R3, Post.mono (Post.bind x3 q3) fun r4 g4 H4 ⟨st4, _, R4, x34, x4, q4⟩ u ru fu => ?_⟩
      cases r2 with
      | d y => exact ⟨env, σ, st4, g4, H, g, .d y, r4, ⟨x4, R4, R0.sl⟩, Df.le (le3.trans x34.le) rw', (fun e => nomatch e), ru, fu.ext x3, (fun e => nomatch e), q4.toC⟩
      | l f ds => exact absurd e (by simp [dOnly])
      | k f ds => exact absurd e (by simp [dOnly])
theorem e_chain {o o' : CmpOp} (h : OpR X (compareOp o) (rr2 (cx X W) op)) (h' : OpR X (compareOp o') (rr2 (cx X W) op')) (ha : PE X a (tr (cx X W) fa)) (hb : PE X b (tr (cx X W) fb)) (hc : PE X d (tr (cx X W) fc)) (hl : lastMarks [o, o'] [b, d] = false := by rfl) :
    PE X (.Compare a [o, o'] [b, d] pos) (tr (cx X W) (dChain (dOnly op) op' fa fb fc)) := PE.imp (pe_chain (dOnly_ok h) h' ha hb hc hl) fun _ _ _ h => tr_chain h
theorem t_chain {o o' : CmpOp} (h : OpR X (compareOp o) (rr2 (cx X W) op)) (h' : OpR X (compareOp o') (rr2 (cx X W) op')) (ha : PE X a (tr (cx X W) fa)) (hb : PE X b (tr (cx X W) fb)) (hc : PE X d (tr (cx X W) fc)) (hl : lastMarks [o, o'] [b, d] = false := by rfl) :
    PT X (.Compare a [o, o'] [b, d] pos) (trT (cx X W) (dTst (dChain (dOnly op) op' fa fb fc))) := PT.imp (pt_chain (dOnly_ok h) h' ha hb hc hl) fun _ _ _ h => tr_chain (tr_tst h)
end
end N

/-! N5: argument lists, slices, displays. -/
namespace N
open PySem PySem.Spec L2

/-! ### arguments -/
def dNil : En → M (List R) := fun _ => M.ret []
def dCons (f : En → M R) (fs : En → M (List R)) : En → M (List R) := fun env => f env >>= fun r => fs env >>= fun rs => M.ret (r :: rs)
structure AtL (c : Ct) (H : Hp) (Q : VK) (vs : List V) (op : List R → M R) (env : En) (σ : L2.St) (st : Sto) (g : Gh) (H0 : Hp) (g0 : Gh) (rs : List R) : Prop where
  b : Bs c H env σ st g H0 g0
  v : RvL c.K g H vs rs
  f : FrL H0 vs rs
  q : PostC c env σ H0 g0 g (op rs st) (qE c H0 Q)
def rrL (c : Ct) (op : List R → M R) : List V → Hp → VK → Prop := fun vs H Q => ∃ env σ st g H0 g0 rs, AtL c H Q vs op env σ st g H0 g0 rs
def dCall (op : List R → M R) (fs : En → M (List R)) : En → M R := fun env => fs env >>= op
section
variable {c : Ct} {env : En} {σ : L2.St} {H H1 H0 : Hp} {g g0 g1 : Gh} {st : Sto} {Q : VK} {K : PySem.W.Frag}
theorem RvL.ext {H' : Hp} {g' : Gh} (x : Ext H g H' g') : ∀ {vs : List V} {rs : List R}, RvL K g H vs rs → RvL K g' H' vs rs
  | _, _, .nil => .nil
  | _, _, .cons a t => .cons (a.ext x) (RvL.ext x t)
theorem FrL.ext {H' : Hp} {g' : Gh} (x : Ext H g H' g') : ∀ {vs : List V} {rs : List R}, FrL H' vs rs → FrL H vs rs
  | [], _, _ => by unfold FrL; trivial
  | _ :: _, [], _ => trivial
  | v :: vs, r :: rs, ⟨h1, h2, h3⟩ => ⟨h1.ext x, FrL.ext x h2, h3⟩
theorem FrL.get : ∀ {vs : List V} {rs : List R} {i : Nat} {r : R} {v : V}, FrL H vs rs → rs[i]? = some r → vs[i]? = some v → Fr H v r
  | v :: vs, r :: rs, 0, _, _, h, e1, e2 => by cases e1; cases e2; exact h.1
  | v :: vs, r :: rs, i + 1, _, _, h, e1, e2 => FrL.get h.2.1 (by simpa using e1) (by simpa using e2)
theorem RvL.length : ∀ {vs : List V} {rs : List R}, RvL K g H vs rs → vs.length = rs.length
  | _, _, .nil => rfl
  | _, _, .cons _ t => by simp [RvL.length t]
theorem trL {fs : En → M (List R)} {op : List R → M R} (h : tr c (dCall op fs) σ H Q) : trA c fs σ H fun vs H1 => rrL c op vs H1 Q := by
  obtain ⟨env, st, g, R0, h⟩ := h
  refine ⟨env, st, g, R0, Post.mono (Post.bind (.refl H g) h) fun rs g1 H1 ⟨st1, _, R1, x, _, q⟩ vs rv fr => ?_⟩
  exact ⟨env, σ, st1, g1, H, g, rs, ⟨x, R1, R0.sl⟩, rv, fr, q.toC⟩
theorem trA_cons {f : En → M R} {fs : En → M (List R)} {Q : List V → Hp → Prop} (h : trA c (dCons f fs) σ H Q) : tCons (tr c f) (trA c fs) σ H Q := by
  obtain ⟨env, st, g, R0, h⟩ := h
  refine ⟨env, st, g, R0, Post.mono (Post.bind (.refl H g) h) fun r g1 H1 ⟨st1, _, R1, x, _, q⟩ v rv fr => ?_⟩
  refine ⟨env, st1, g1, R1, Post.mono (Post.bind x q) fun rs g2 H2 ⟨st2, _, R2, x12, x2, q2⟩ vs rw' fw => ?_⟩
  refine q2 g2 H2 x2 R2 (v :: vs) (.cons (rv.ext x12) rw') ⟨fr, fw.ext x, fun e i r' e1 e2 e3 => ?_⟩
  exact Fr.ne rv (FrL.get fw e1 e3) e e2 rfl

/-! ### what a display holds -/
def kp : R → Option D
  | .d x => some x
  | .l true xs => some (.list xs)
  | .k true kvs => some (.dict (kvs.map fun p => (kD p.1, p.2)))
  | _ => none
def kpAll : List R → Option (List D)
  | [] => some []
  | r :: rs => match kp r, kpAll rs with
    | some x, some xs => some (x :: xs)
    | _, _ => none
theorem Rv.put {a : Addr} {o : HO} {v : V} {r : R} {x : D} (hg : g.G a = none) (e1 : kp r = some x) (h0 : r.fr = true → v ≠ V.ref a) (rv : Rv K g H v r) : Rv K (g.put a o) H v r := by
  cases r with
  | d y => exact Df.le (Le.put hg) rv
  | l f ds =>
    cases f with
    | false => cases e1
    | true =>
      obtain ⟨a', vs', rfl, k1, k2, k3, k4⟩ := rv
      have ne : a' ≠ a := fun z => by subst z; exact h0 rfl rfl
      exact ⟨a', vs', rfl, k1, (upd_ne ne).trans k2, k3, DfA.le (Le.put hg) k4⟩
  | k f ds =>
    cases f with
    | false => cases e1
    | true =>
      obtain ⟨a', vs', rfl, k1, k2, k3, k4⟩ := rv
      have ne : a' ≠ a := fun z => by subst z; exact h0 rfl rfl
      exact ⟨a', vs', rfl, k1, (upd_ne ne).trans k2, k3, DfK.le (Le.put hg) k4⟩
theorem RvL.put {a : Addr} {o : HO} (hg : g.G a = none) {vs : List V} {rs : List R} (h : RvL K g H vs rs) : ∀ {ds : List D}, kpAll rs = some ds → (∀ (i : Nat) (r' : R), rs[i]? = some r' → r'.fr = true → vs[i]? ≠ some (V.ref a)) → RvL K (g.put a o) H vs rs := by
  induction h with
  | nil => exact fun _ _ => .nil
  | cons rv t ih =>
    intro ds e hne
    unfold kpAll at e
    split at e
    · rename_i x xs e1 e2
      refine .cons (rv.put hg e1 fun hf z => hne 0 _ rfl hf (by rw [z]; rfl)) (ih e2 fun i r' h1 h2 => by simpa using hne (i + 1) r' (by simpa using h1) h2)
    · cases e
/-- one result is frozen -/
theorem Bs.frz1 {v : V} {r : R} {d : D} (b : Bs c H env σ st g H0 g0) (rv : Rv c.K g H v r) (fr : Fr H0 v r) (e : kp r = some d) :
    ∃ g', Le g g' ∧ Bs c H env σ st g' H0 g0 ∧ Df c.K g' v d ∧ (g' = g ∨ ∃ a o, g' = g.put a o ∧ v = .ref a ∧ r.fr = true ∧ g.G a = none) := by
  cases r with
  | d y => cases e; exact ⟨g, .refl g, b, rv, .inl rfl⟩
  | l f ds =>
    cases f with
    | false => cases e
    | true =>
      cases e
      obtain ⟨a, vs', rfl, k1, k2, k3, k4⟩ := rv
      exact ⟨g.put a (.lst vs'), Le.put k2, b.frz k1 (fr rfl a rfl) k2 k3, .lst sql_put (DfA.le (Le.put k2) k4), .inr ⟨a, _, rfl, rfl, rfl, k2⟩⟩
  | k f ds =>
    cases f with
    | false => cases e
    | true =>
      cases e
      obtain ⟨a, vs', rfl, k1, k2, k3, k4⟩ := rv
      exact ⟨g.put a (.dK vs'), Le.put k2, b.frz k1 (fr rfl a rfl) k2 k3, .dct upd_same (DfK.le (Le.put k2) k4), .inr ⟨a, _, rfl, rfl, rfl, k2⟩⟩
theorem Bs.frzL : ∀ {rs : List R} {vs : List V} {ds : List D} {g : Gh}, Bs c H env σ st g H0 g0 → RvL c.K g H vs rs → FrL H0 vs rs → kpAll rs = some ds → ∃ g', Le g g' ∧ Bs c H env σ st g' H0 g0 ∧ DfA c.K g' vs ds
  | [], vs, ds, g, b, rv, fr, e => by
    cases e
    cases rv
    exact ⟨g, .refl g, b, .nil⟩
  | r :: rs, vs, ds, g, b, rv, fr, e => by
    cases rv with
    | cons r1 rt =>
      rename_i v vs
      obtain ⟨f1, f2, f3⟩ := fr
      unfold kpAll at e
      split at e
      · rename_i x xs e1 e2
        cases e
        obtain ⟨g1, le1, b1, d1, hg⟩ := b.frz1 r1 f1 e1
        have rt1 : RvL c.K g1 H vs rs := by
          rcases hg with rfl | ⟨a, o, rfl, rfl, hf, hn⟩
          · exact rt
          · exact rt.put hn e2 (f3 hf)
        obtain ⟨g2, le2, b2, d2⟩ := Bs.frzL b1 rt1 f2 e2
        exact ⟨g2, le1.trans le2, b2, .cons (Df.le le2 d1) d2⟩
      · cases e
end

def oTup (rs : List R) : M R := fun st => match kpAll rs with
  | some ds => if ds.length ≤ sizeLine then .ok (.d (.tuple ds)) st else .no
  | none => .no
def oLst (rs : List R) : M R := fun st => match kpAll rs with
  | some ds => if ds.length ≤ sizeLine then .ok (.l true ds) st else .no
  | none => .no
section
variable {X : Cx} {W : String → L2.St → Hp → Prop} {pos : Pos} {e : Expr} {es : List Expr} {f : En → M R} {fs : En → M (List R)} {op : List R → M R}
theorem a_nil : PA X [] (trA (cx X W) dNil) := PA.imp pa_nil fun σ H Q ⟨env, st, g, R0, q⟩ => q g H (.refl _ _) R0 [] .nil (by unfold FrL; trivial)
theorem a_cons (h : PE X e (tr (cx X W) f)) (h2 : PA X es (trA (cx X W) fs)) (hs : starEach (e :: es) X.env = (false, eval e X.env) :: starEach es X.env := by rfl) : PA X (e :: es) (trA (cx X W) (dCons f fs)) :=
  PA.imp (pa_cons h h2 hs) fun _ _ _ h => trA_cons h
theorem e_tup {x1} (h : PA X es (trA (cx X W) fs)) : PE X (.Tuple es x1 pos) (tr (cx X W) (dCall oTup fs)) := by
  refine PE.imp (pe_tupF h) fun σ H Q h => ?_
  obtain ⟨env, st, g, R0, q⟩ := trL h
  refine ⟨env, st, g, R0, Post.mono q fun rs g1 H1 q1 vs rv fr => ?_⟩
  obtain ⟨env, σ', st', g', H0, g0, rs', A⟩ := q1 vs rv fr
  obtain ⟨b, v, f, q⟩ := A
  unfold oTup at q
  split at q
  · split at q
    · rename_i ds ek hl
      obtain ⟨g2, le, b2, hd⟩ := b.frzL v f ek
      exact ⟨by rw [hd.length]; exact hl, b2.fin_t q hd le⟩
    · exact q.elim
  · exact q.elim
theorem e_lst (h : PA X es (trA (cx X W) fs)) : PE X (.List es pos) (tr (cx X W) (dCall oLst fs)) := by
  refine PE.imp (pe_lst h) fun σ H Q h => ?_
  obtain ⟨env, st, g, R0, q⟩ := trL h
  refine ⟨env, st, g, R0, Post.mono q fun rs g1 H1 q1 vs rv fr => ?_⟩
  obtain ⟨env, σ', st', g', H0, g0, rs', A⟩ := q1 vs rv fr
  obtain ⟨b, v, f, q⟩ := A
  unfold oLst at q
  split at q
  · split at q
    · rename_i ds ek hl
      obtain ⟨g2, le, b2, hd⟩ := b.frzL v f ek
      exact ⟨by rw [hd.length]; exact hl, fun p hp => b2.fin_l q hp hd le⟩
    · exact q.elim
  · exact q.elim
theorem e_callB {x : Str} {p : Pos} {id : String} (h : CallR X (.builtin id) (rrL (cx X W) op)) (hg : Gl X x) (hm : X.mg x = none) (hv : bootBuiltins x = some (.builtin id)) (ha : PA X (e :: es) (trA (cx X W) fs))
    (h1 : x ≠ "__name__" := by decide) (h2 : (x == ("__debug__" : Str)) = false := by decide) (h3 : starEach (e :: es) X.env = (false, eval e X.env) :: starEach es X.env := by rfl) (h4 : (backTo pos (starEach es X.env)).any (·.1) = false := by rfl) :
    PE X (.Call (.Name x p) (e :: es) [] pos) (tr (cx X W) (dCall op fs)) := PE.imp (pe_callB h hg hm hv ha h1 h2 h3 h4) fun _ _ _ h => trL h
theorem e_callTy {x : Str} {p : Pos} {T : String} (h : CallR X (.type T) (rrL (cx X W) op)) (hg : Gl X x) (hm : X.mg x = none) (hv : bootBuiltins x = some (.type T)) (ha : PA X (e :: es) (trA (cx X W) fs))
    (h1 : x ≠ "__name__" := by decide) (h2 : (x == ("__debug__" : Str)) = false := by decide) (h3 : starEach (e :: es) X.env = (false, eval e X.env) :: starEach es X.env := by rfl) (h4 : (backTo pos (starEach es X.env)).any (·.1) = false := by rfl) :
    PE X (.Call (.Name x p) (e :: es) [] pos) (tr (cx X W) (dCall op fs)) := PE.imp (pe_callTy h hg hm hv ha h1 h2 h3 h4) fun _ _ _ h => trL h
end

/-! ### slices -/
def toI : R → M (Option Int)
  | .d (.int i) => M.ret (some i)
  | _ => M.no
def dPart : Option (En → M R) → En → M (Option Int)
  | none => fun _ => M.ret none
  | some f => fun env => f env >>= toI
def trO (c : Ct) (f : En → M (Option Int)) : TO := fun σ H Q => ∃ env st g, Rel c.K g env st σ H ∧ Post c env σ H g (f env st) (fun o _ H' => Q o H')
structure AtS (c : Ct) (H : Hp) (Q : VK) (x : V) (l u : Option Int) (op : R → Option Int → Option Int → M R) (env : En) (σ : L2.St) (st : Sto) (g : Gh) (H0 : Hp) (g0 : Gh) (r : R) : Prop where
  b : Bs c H env σ st g H0 g0
  v1 : Rv c.K g H x r
  f1 : Fr H0 x r
  q : PostC c env σ H0 g0 g (op r l u st) (qE c H0 Q)
def rrS (c : Ct) (op : R → Option Int → Option Int → M R) : V → Option Int → Option Int → Hp → VK → Prop := fun x l u H Q => ∃ env σ st g H0 g0 r, AtS c H Q x l u op env σ st g H0 g0 r
def dSl (op : R → Option Int → Option Int → M R) (f : En → M R) (lo hi : Option (En → M R)) : En → M R := fun env => f env >>= fun a => dPart lo env >>= fun l => dPart hi env >>= fun u => op a l u
def cutD (xs : List D) (lo hi : Option Int) : List D := (xs.drop (HT.sIx xs.length 0 lo)).take (HT.sIx xs.length xs.length hi - HT.sIx xs.length 0 lo)
def oSl (a : R) (lo hi : Option Int) : M R := fun st => match a.tup? with
  | some xs => .ok (.d (.tuple (cutD xs lo hi))) st
  | none => match a.lst? st with
    | some xs => .ok (.l true (cutD xs lo hi)) st
    | none => match a with
      | .d (.str z) => if z.length ≤ sizeLine then .ok (.d (.str (cutS z lo hi))) st else .no
      | _ => .no
section
variable {X : Cx} {W : String → L2.St → Hp → Prop} {pos p2 : Pos} {e a b : Expr} {f fa fb : En → M R} {op : R → Option Int → Option Int → M R}
theorem toI_post {c : Ct} {env : En} {σ : L2.St} {H : Hp} {g : Gh} {st : Sto} {r : R} {P : Option Int → Gh → Hp → Prop} (h : Post c env σ H g (toI r st) P) : ∃ i, r = .d (.int i) ∧ Post c env σ H g (.ok (some i) st) P := by
  cases r with
  | d x => cases x with
    | int b => exact ⟨b, rfl, h⟩
    | _ => exact h.elim
  | _ => exact h.elim
theorem p_some (h : PE X a (tr (cx X W) f)) : PO X (some a) (trO (cx X W) (dPart (some f))) := by
  refine ⟨fun pins s σ H Q I q => (po_some h).run pins s σ H Q I ?_⟩
  obtain ⟨env, st, g, R0, q⟩ := q
  refine ⟨env, st, g, R0, Post.mono (Post.bind (.refl H g) q) fun r g1 H1 ⟨st1, _, R1, x, _, q1⟩ v rv fr => ?_⟩
  obtain ⟨i, rfl, q2⟩ := toI_post q1
  exact ⟨i, Df.int_inv rv, q2 g1 H1 x R1⟩
theorem p_none : PO X none (trO (cx X W) (dPart none)) := by
  refine ⟨fun pins s σ H Q I q => (po_none).run pins s σ H Q I ?_⟩
  obtain ⟨env, st, g, R0, q⟩ := q
  exact q g H (.refl _ _) R0
theorem e_slice {lo hi : Option Expr} {l u : Option (En → M R)} (h : SlR X (rrS (cx X W) op)) (he : PE X e (tr (cx X W) f)) (hl : PO X lo (trO (cx X W) (dPart l))) (hh : PO X hi (trO (cx X W) (dPart u))) :
    PE X (.Subscript e (.Slice lo hi none p2) pos) (tr (cx X W) (dSl op f l u)) := by
  refine PE.imp (pe_slice h he hl hh) fun σ H Q h => ?_
  obtain ⟨env, st, g, R0, h⟩ := h
  refine ⟨env, st, g, R0, Post.mono (Post.bind (.refl H g) h) fun r g1 H1 ⟨st1, _, R1, x1, _, q⟩ v rv fr => ?_⟩
  refine ⟨env, st1, g1, R1, Post.mono (Post.bind x1 q) fun lv g2 H2 ⟨st2, _, R2, x12, x2, q2⟩ => ?_⟩
  refine ⟨env, st2, g2, R2, Post.mono (Post.bind x2 q2) fun uv g3 H3 ⟨st3, _, R3, x23, x3, q3⟩ => ?_⟩
  exact ⟨env, σ, st3, g3, H, g, r, ⟨x3, R3, R0.sl⟩, (rv.ext x12).ext x23, fr, q3.toC⟩
theorem cut_df {K : PySem.W.Frag} {g : Gh} {vs : List V} {ds : List D} (h : DfA K g vs ds) (lo hi : Option Int) : DfA K g (cutV vs lo hi) (cutD ds lo hi) := by
  unfold cutV cutD
  rw [h.length]
  exact (h.drop _).take _
theorem sr_sl : SlR X (rrS (cx X W) oSl) := by
  intro pins s σ H x v vl vu lo hi sl Q I rx hs pl pu ⟨env, σ', st, g, H0, g0, r, A⟩
  obtain ⟨B, v1, -, q⟩ := A
  unfold oSl at q
  split at q
  · rename_i xs e1
    obtain ⟨a, vs, rfl, h1, h0, h2, hb⟩ := tup_ok B.rel v1 e1
    refine sl_tupF pins s σ H _ v vl vu lo hi sl Q I rx hs pl pu ⟨a, vs, rfl, h1, fun hf => ?_, fun _ => B.fin_t q (cut_df h2 lo hi)⟩
    have e : cutD xs lo hi = xs := by
      have l := h2.length
      unfold cutD
      rw [← l, hf.1, hf.2, List.drop_zero, Nat.sub_zero, l, List.take_length]
    rw [e] at q
    exact B.fin_d q (.tup h0 hb h2)
  · split at q
    · rename_i xs e1
      obtain ⟨a, vs, rfl, h1, h2⟩ := lst_ok B.rel v1 e1
      exact sl_list pins s σ H _ v vl vu lo hi sl Q I rx hs pl pu ⟨a, vs, rfl, h1, fun p hp => B.fin_l q hp (cut_df h2 lo hi)⟩
    · split at q
      · split at q
        · rename_i z _ _ ho
          obtain rfl := Df.str_inv v1
          exact sl_str pins s σ H _ v vl vu lo hi sl Q I rx hs pl pu ⟨z, rfl, ho, B.fin_d q (.str _)⟩
        · exact q.elim
      · exact q.elim
/-- -x -/
def oNeg : R → M R
  | .d (.int i) => M.ret (.d (.int (-i)))
  | _ => M.no
theorem e_neg (h : PE X a (tr (cx X W) f)) : PE X (.UnaryOp .USub a pos) (tr (cx X W) (dUn oNeg f)) := by
  refine PE.imp (pe_un un_neg h) fun σ H Q h => ?_
  obtain ⟨env, st, g, R0, q⟩ := tr1 h
  refine ⟨env, st, g, R0, Post.mono q fun r g1 H1 q1 v rv fr => ?_⟩
  obtain ⟨env, σ', st', g', H0, g0, r', A⟩ := q1 v rv fr
  obtain ⟨B, v1, -, q⟩ := A
  unfold oNeg at q
  split at q
  · obtain rfl := Df.int_inv v1
    exact ⟨_, rfl, B.fin_d q (.int _)⟩
  · exact q.elim
end
end N

/-! N6: calls of built-ins. -/
namespace N
open PySem PySem.Spec L2
section
variable {X : Cx} {W : String → L2.St → Hp → Prop} {pins : List (Addr × Obj)} {σ σ' : L2.St} {H H0 : Hp} {g g0 : Gh} {s : Shared} {env : En} {st : Sto} {v w : V} {u : Value} {r : R} {Q : VK} {K : PySem.W.Frag}
theorem rvl1 {vs : List V} {r : R} (h : RvL K g H vs [r]) : ∃ v, vs = [v] ∧ Rv K g H v r := by
  cases h with
  | cons a t => cases t; exact ⟨_, rfl, a⟩
theorem rvl2 {vs : List V} {r r' : R} (h : RvL K g H vs [r, r']) : ∃ v v', vs = [v, v'] ∧ Rv K g H v r ∧ Rv K g H v' r' := by
  cases h with
  | cons a t =>
    obtain ⟨v', rfl, b⟩ := rvl1 t
    exact ⟨_, _, rfl, a, b⟩
/-- a call of one argument, by what it does -/
theorem cr1 {f : Value} {op : R → M R} (h : ∀ (pins : List (Addr × Obj)) (s : Shared) (σ : L2.St) (H : Hp) (x : V) (u : Value) (Q : VK), L2.Inv X pins σ H s → RelV x u → rr1 (cx X W) op x H Q → wpAny (model X.prog X.w) X.A (call f [u]) (EP X pins σ Q) X.xe s) :
    CallR X f (rrL (cx X W) fun rs => match rs with
      | [r] => op r
      | _ => M.no) := by
  intro pins s σ H xs us Q I r ⟨env, σ', st, g, H0, g0, rs, A⟩
  obtain ⟨B, v1, f1, q⟩ := A
  split at q
  · obtain ⟨x, rfl, rx⟩ := rvl1 v1
    obtain ⟨u, rfl, ru⟩ := vals1 r
    exact h pins s σ H x u Q I ru ⟨env, σ', st, g, H0, g0, _, B, rx, f1.1, q⟩
  · exact q.elim
def op1 (op : R → M R) : List R → M R := fun rs => match rs with
  | [r] => op r
  | _ => M.no
def op2 (op : R → R → M R) : List R → M R := fun rs => match rs with
  | [r, r'] => op r r'
  | _ => M.no
@[simp] theorem op1_ap (op : R → M R) (r : R) : op1 op [r] = op r := rfl
@[simp] theorem op2_ap (op : R → R → M R) (r r' : R) : op2 op [r, r'] = op r r' := rfl

/-! ### len -/
def oLen (r : R) : M R := fun st => match r.tup? with
  | some xs => .ok (.d (.int xs.length)) st
  | none => match r.lst? st with
    | some xs => .ok (.d (.int xs.length)) st
    | none => match r with
      | .d (.str z) => if z.length ≤ sizeLine then .ok (.d (.int z.length)) st else .no
      | .k _ kvs => .ok (.d (.int kvs.length)) st
      | _ => .no
theorem DfK.length : ∀ {vs : List (Key × V)} {ds : List (Key × D)}, DfK K g vs ds → vs.length = ds.length
  | _, _, .nil => rfl
  | _, _, .cons _ t => by simp [DfK.length t]
theorem cr_len : CallR X (.builtin "len") (rrL (cx X W) (op1 oLen)) := by
  refine cr1 fun pins s σ H x u Q I ru ⟨env, σ', st, g, H0, g0, r, A⟩ => ?_
  obtain ⟨B, v1, -, q⟩ := A
  unfold oLen at q
  split at q
  · rename_i xs e
    obtain ⟨a, vs, rfl, h1, _, h2, _⟩ := tup_ok B.rel v1 e
    exact call_len pins s σ H [_] _ Q I (.cons ru .nil) ⟨_, vs.length, rfl, .inr ⟨vs, h1, rfl⟩, by rw [h2.length]; exact B.fin_d q (.int _)⟩
  · split at q
    · rename_i xs e
      obtain ⟨a, vs, rfl, h1, h2⟩ := lst_ok B.rel v1 e
      exact call_len pins s σ H [_] _ Q I (.cons ru .nil) ⟨_, vs.length, rfl, .inl ⟨vs, h1, rfl⟩, by rw [h2.length]; exact B.fin_d q (.int _)⟩
    · split at q
      · split at q
        · rename_i z _ _ ho
          obtain rfl := Df.str_inv v1
          exact call_len pins s σ H [_] _ Q I (.cons ru .nil) ⟨_, z.length, rfl, ⟨ho, rfl⟩, B.fin_d q (.int _)⟩
        · exact q.elim
      · obtain ⟨a, vs, rfl, h1, h2, h3, h4⟩ := v1
        exact call_lenD pins s σ H [_] _ Q I (.cons ru .nil) ⟨a, vs, rfl, h1, by rw [h4.length]; exact B.fin_d q (.int _)⟩
      · exact q.elim

/-! ### list, tuple -/
def oList (r : R) : M R := fun st => match r.tup? with
  | some xs => .ok (.l true xs) st
  | none => match r.lst? st with
    | some xs => .ok (.l true xs) st
    | none => .no
theorem cr_list : CallR X (.type "list") (rrL (cx X W) (op1 oList)) := by
  refine cr1 fun pins s σ H x u Q I ru ⟨env, σ', st, g, H0, g0, r, A⟩ => ?_
  obtain ⟨B, v1, -, q⟩ := A
  unfold oList at q
  split at q
  · rename_i xs e
    obtain ⟨a, vs, rfl, h1, _, h2, _⟩ := tup_ok B.rel v1 e
    exact call_list_of pins s σ H [_] _ Q I (.cons ru .nil) ⟨a, vs, rfl, .inr h1, fun p hp => B.fin_l q hp h2⟩
  · split at q
    · rename_i xs e
      obtain ⟨a, vs, rfl, h1, h2⟩ := lst_ok B.rel v1 e
      exact call_list_of pins s σ H [_] _ Q I (.cons ru .nil) ⟨a, vs, rfl, .inl h1, fun p hp => B.fin_l q hp h2⟩
    · exact q.elim
def oTuple (r : R) : M R := fun st => match r.tup? with
  | some xs => .ok (.d (.tuple xs)) st
  | none => match r.lst? st with
    | some xs => .ok (.d (.tuple xs)) st
    | none => .no
theorem cr_tuple : CallR X (.type "tuple") (rrL (cx X W) (op1 oTuple)) := by
  refine cr1 fun pins s σ H x u Q I ru ⟨env, σ', st, g, H0, g0, r, A⟩ => ?_
  obtain ⟨B, v1, -, q⟩ := A
  unfold oTuple at q
  split at q
  · rename_i xs e
    obtain ⟨a, vs, rfl, h1, h0, h2, hb⟩ := tup_ok B.rel v1 e
    exact call_tuple_ofF pins s σ H [_] _ Q I (.cons ru .nil) ⟨a, vs, rfl, .inr ⟨h1, B.fin_d q (.tup h0 hb h2)⟩⟩
  · split at q
    · rename_i xs e
      obtain ⟨a, vs, rfl, h1, h2⟩ := lst_ok B.rel v1 e
      exact call_tuple_ofF pins s σ H [_] _ Q I (.cons ru .nil) ⟨a, vs, rfl, .inl ⟨h1, B.fin_t q h2⟩⟩
    · exact q.elim

/-! ### int, min, max of two, all, any, sum -/
def oInt : R → M R
  | .d (.int i) => M.ret (.d (.int i))
  | .d (.bool b) => M.ret (.d (.int (if b then 1 else 0)))
  | _ => M.no
theorem cr_int : CallR X (.type "int") (rrL (cx X W) (op1 oInt)) := by
  refine cr1 fun pins s σ H x u Q I ru ⟨env, σ', st, g, H0, g0, r, A⟩ => ?_
  obtain ⟨B, v1, -, q⟩ := A
  unfold oInt at q
  split at q
  · obtain rfl := Df.int_inv v1
    exact call_int1 pins s σ H [_] _ Q I (.cons ru .nil) (.inl ⟨_, rfl, B.fin_d q (.int _)⟩)
  · obtain rfl := Df.bl_inv v1
    exact call_int1 pins s σ H [_] _ Q I (.cons ru .nil) (.inr ⟨_, rfl, B.fin_d q (.int _)⟩)
  · exact q.elim
def oMax2 : R → R → M R
  | .d (.int i), .d (.int j) => M.ret (.d (.int (if j > i then j else i)))
  | _, _ => M.no
def oMin2 : R → R → M R
  | .d (.int i), .d (.int j) => M.ret (.d (.int (if j < i then j else i)))
  | _, _ => M.no
theorem cr_max2 (hc : X.calm = true) : CallR X (.builtin "max") (rrL (cx X W) (op2 oMax2)) := by
  intro pins s σ H xs us Q I r ⟨env, σ', st, g, H0, g0, rs, A⟩
  obtain ⟨B, v1, -, q⟩ := A
  unfold op2 at q
  split at q
  · obtain ⟨x, y, rfl, h1, h2⟩ := rvl2 v1
    unfold oMax2 at q
    split at q
    · obtain rfl := Df.int_inv h1
      obtain rfl := Df.int_inv h2
      exact call_max2 hc pins s σ H _ _ Q I r ⟨_, _, rfl, B.fin_d q (.int _)⟩
    · exact q.elim
  · exact q.elim
theorem cr_min2 (hc : X.calm = true) : CallR X (.builtin "min") (rrL (cx X W) (op2 oMin2)) := by
  intro pins s σ H xs us Q I r ⟨env, σ', st, g, H0, g0, rs, A⟩
  obtain ⟨B, v1, -, q⟩ := A
  unfold op2 at q
  split at q
  · obtain ⟨x, y, rfl, h1, h2⟩ := rvl2 v1
    unfold oMin2 at q
    split at q
    · obtain rfl := Df.int_inv h1
      obtain rfl := Df.int_inv h2
      exact call_min2 hc pins s σ H _ _ Q I r ⟨_, _, rfl, B.fin_d q (.int _)⟩
    · exact q.elim
  · exact q.elim
def boolsOf : List D → Option (List Bool)
  | [] => some []
  | .bool b :: t => (boolsOf t).map (b :: ·)
  | _ => none
@[simp] theorem boolsOf_map {α : Type} (p : α → Bool) (xs : List α) : boolsOf (xs.map fun x => .bool (p x)) = some (xs.map p) := by
  induction xs with
  | nil => rfl
  | cons x t ih => simp [boolsOf, ih]
theorem bools_ok : ∀ {vs : List V} {ds : List D} {bs : List Bool}, DfA K g vs ds → boolsOf ds = some bs → vs = bs.map V.bl
  | _, [], bs, h, e => by cases h; cases e; rfl
  | _, d :: ds, bs, h, e => by
    cases h with
    | cons h1 h2 =>
      cases d with
      | bool b =>
        simp only [boolsOf, Option.map_eq_some_iff] at e
        obtain ⟨r, e1, rfl⟩ := e
        rw [bools_ok h2 e1, Df.bl_inv h1]
        rfl
      | _ => cases e
def intsOf : List D → Option (List Int)
  | [] => some []
  | .int b :: t => (intsOf t).map (b :: ·)
  | _ => none
@[simp] theorem intsOf_map {α : Type} (p : α → Int) (xs : List α) : intsOf (xs.map fun x => .int (p x)) = some (xs.map p) := by
  induction xs with
  | nil => rfl
  | cons x t ih => simp [intsOf, ih]
theorem ints_ok : ∀ {vs : List V} {ds : List D} {bs : List Int}, DfA K g vs ds → intsOf ds = some bs → vs = bs.map V.int
  | _, [], bs, h, e => by cases h; cases e; rfl
  | _, d :: ds, bs, h, e => by
    cases h with
    | cons h1 h2 =>
      cases d with
      | int b =>
        simp only [intsOf, Option.map_eq_some_iff] at e
        obtain ⟨r, e1, rfl⟩ := e
        rw [ints_ok h2 e1, Df.int_inv h1]
        rfl
      | _ => cases e
def oBools (f : List Bool → Bool) (r : R) : M R := fun st => match r.lst? st with
  | some xs => match boolsOf xs with
    | some bs => .ok (.d (.bool (f bs))) st
    | none => .no
  | none => .no
def oAll : R → M R := oBools fun bs => bs.all id
def oAny : R → M R := oBools fun bs => bs.any id
theorem cr_bools {id : String} {f : List Bool → Bool} (h : CallR X (.builtin id) fun vs H Q => ∃ a bs, vs = [V.ref a] ∧ SqL X.K H a (bs.map V.bl) ∧ Q (V.bl (f bs)) H) : CallR X (.builtin id) (rrL (cx X W) (op1 (oBools f))) := by
  refine cr1 fun pins s σ H x u Q I ru ⟨env, σ', st, g, H0, g0, r, A⟩ => ?_
  obtain ⟨B, v1, -, q⟩ := A
  unfold oBools at q
  split at q
  · rename_i xs e
    split at q
    · rename_i bs eb
      obtain ⟨a, vs, rfl, h1, h2⟩ := lst_ok B.rel v1 e
      rw [bools_ok h2 eb] at h1
      exact h pins s σ H [_] _ Q I (.cons ru .nil) ⟨a, bs, rfl, h1, B.fin_d q (.bl _)⟩
    · exact q.elim
  · exact q.elim
theorem cr_all' (hc : X.calm = true) : CallR X (.builtin "all") (rrL (cx X W) (op1 oAll)) := cr_bools (cr_all hc)
theorem cr_any' (hc : X.calm = true) : CallR X (.builtin "any") (rrL (cx X W) (op1 oAny)) := cr_bools (cr_any hc)
def oSum (r : R) : M R := fun st => match r.lst? st with
  | some xs => match intsOf xs with
    | some bs => .ok (.d (.int bs.sum)) st
    | none => .no
  | none => .no
theorem cr_sum' (hc : X.calm = true) : CallR X (.builtin "sum") (rrL (cx X W) (op1 oSum)) := by
  refine cr1 fun pins s σ H x u Q I ru ⟨env, σ', st, g, H0, g0, r, A⟩ => ?_
  obtain ⟨B, v1, -, q⟩ := A
  unfold oSum at q
  split at q
  · rename_i xs e
    split at q
    · rename_i bs eb
      obtain ⟨a, vs, rfl, h1, h2⟩ := lst_ok B.rel v1 e
      rw [ints_ok h2 eb] at h1
      exact cr_sum hc pins s σ H [_] _ Q I (.cons ru .nil) ⟨a, bs, rfl, h1, B.fin_d q (.int _)⟩
    · exact q.elim
  · exact q.elim

/-! ### isinstance -/
def oIsi (f : D → Bool) (r : R) : M R := fun st => match r.pk st with
  | some x => if x.plain = true then .ok (.d (.bool (f x))) st else .no
  | none => .no
theorem cr_isi {T : String} {f : D → Bool}
    (rule : ∀ {E : Value → Shared → Prop} {s : Shared} {v : Value} {d : PyData} {as : List Addr} {Q : Value → Shared → Prop}, Reads s.heap v d as → (∀ (tk : Nat), s.toks ≤ tk → Q (Value.bool (f d)) { s with toks := tk }) → wpAny (model X.prog X.w) X.A (call (.builtin "isinstance") [v, .type T]) Q E s) :
    CallR X (.builtin "isinstance") (fun xs H Q => ∃ x, xs = [x, .ty T] ∧ rr1 (cx X W) (oIsi f) x H Q) := by
  intro pins s σ H xs us Q I r ⟨x, ex, env, σ', st, g, H0, g0, r1, A⟩
  subst ex
  obtain ⟨B, v1, -, q⟩ := A
  cases r with
  | cons ru rt =>
    cases rt with
    | cons rt rn =>
      cases rn
      cases rt
      unfold oIsi at q
      split at q
      · rename_i d e
        split at q
        · rename_i hp
          obtain ⟨as, h1⟩ := reads_pk I B.rel v1 e hp ru
          exact rule h1 fun tk _ => ⟨.bl _, H, I.tok _, rfl, B.fin_d q (.bl _)⟩
        · exact q.elim
      · exact q.elim
theorem e_isi {T : String} {f : D → Bool} {a : Expr} {fa : En → M R} {p p2 pos : Pos} {x : Str} (h : CallR X (.builtin "isinstance") (fun xs H Q => ∃ x, xs = [x, .ty T] ∧ rr1 (cx X W) (oIsi f) x H Q)) (hg : Gl X "isinstance") (hm : X.mg "isinstance" = none)
    (hgT : Gl X x) (hmT : X.mg x = none) (hvT : bootBuiltins x = some (.type T)) (ha : PE X a (tr (cx X W) fa)) (hn : x ≠ "__name__" := by decide) (hd : (x == ("__debug__" : Str)) = false := by decide)
    (hs : starEach [a, .Name x p2] X.env = (false, eval a X.env) :: starEach [.Name x p2] X.env := by rfl) (hs2 : starEach [.Name x p2] X.env = (false, eval (.Name x p2) X.env) :: starEach [] X.env := by rfl) (h4 : (backTo pos (starEach [.Name x p2] X.env)).any (·.1) = false := by rfl) :
    PE X (.Call (.Name "isinstance" p) [a, .Name x p2] [] pos) (tr (cx X W) (dUn (oIsi f) fa)) := by
  refine PE.imp (pe_callB h hg hm (by decide +kernel) (pa_cons ha (pa_cons (pe_bltn (v := .ty T) hgT hmT hvT rfl hn hd) pa_nil hs2) hs) (by decide) (by decide) hs h4) fun σ H Q h => ?_
  have := tr1 h
  obtain ⟨env, st, g, R0, q⟩ := this
  exact ⟨env, st, g, R0, Post.mono q fun r g1 H1 q1 v rv fr => ⟨v, rfl, q1 v rv fr⟩⟩
theorem isi_str : CallR X (.builtin "isinstance") (fun xs H Q => ∃ x, xs = [x, .ty "str"] ∧ rr1 (cx X W) (oIsi PyData.isStr) x H Q) := cr_isi fun h1 h2 => PySem.W.isinstance_str_data h1 h2
theorem isi_int : CallR X (.builtin "isinstance") (fun xs H Q => ∃ x, xs = [x, .ty "int"] ∧ rr1 (cx X W) (oIsi PyData.isInt) x H Q) := cr_isi fun h1 h2 => PySem.W.isinstance_int_data h1 h2
theorem isi_bool : CallR X (.builtin "isinstance") (fun xs H Q => ∃ x, xs = [x, .ty "bool"] ∧ rr1 (cx X W) (oIsi PyData.isBool) x H Q) := cr_isi fun h1 h2 => PySem.W.isinstance_bool_data h1 h2
theorem isi_list : CallR X (.builtin "isinstance") (fun xs H Q => ∃ x, xs = [x, .ty "list"] ∧ rr1 (cx X W) (oIsi PyData.isList) x H Q) := cr_isi fun h1 h2 => PySem.W.isinstance_list_data h1 h2
theorem isi_tuple : CallR X (.builtin "isinstance") (fun xs H Q => ∃ x, xs = [x, .ty "tuple"] ∧ rr1 (cx X W) (oIsi PyData.isTuple) x H Q) := cr_isi fun h1 h2 => PySem.W.isinstance_tuple_data h1 h2

/-! ### sorted -/
def srtKinds (xs : List D) : Bool := (xs.all fun x => match x with
    | .tuple (_ :: _) => true
    | _ => false) || (xs.all fun x => match x with
    | .tuple _ => false
    | .none => false
    | _ => true)
def srtOk (xs : List D) : Bool := (xs.all fun x => xs.all fun y => PySem.W.alike x y) && srtKinds xs && xs.all okD && decide (xs.length ≤ sizeLine)
def srt (xs : List D) : List D := xs.mergeSort (PySem.W.dataLe false fun x => x)
theorem srtOk_alike {xs : List D} (h : srtOk xs = true) : PySem.W.AllAlike xs := fun d hd d' hd' => by
  simp only [srtOk, Bool.and_eq_true, List.all_eq_true] at h
  exact h.1.1.1 d hd d' hd'
theorem srtOk_kinds {xs : List D} (h : srtOk xs = true) : PySem.W.Sortable xs := by
  simp only [srtOk, srtKinds, Bool.and_eq_true, Bool.or_eq_true, List.all_eq_true] at h
  rcases h.1.1.2 with k | k
  · refine .inl fun d hd => ?_
    have := k d hd
    split at this
    · exact ⟨_, _, rfl⟩
    · cases this
  · refine .inr fun d hd => ?_
    have := k d hd
    split at this
    · cases this
    · cases this
    · rename_i h1 h2
      exact ⟨fun e => h2 e, fun xs e => h1 xs e⟩
theorem srtOk_ok {xs : List D} (h : srtOk xs = true) : ∀ d ∈ xs, okD d = true := by
  simp only [srtOk, Bool.and_eq_true, List.all_eq_true] at h
  exact h.1.2
theorem srtOk_len {xs : List D} (h : srtOk xs = true) : xs.length ≤ sizeLine := by
  simp only [srtOk, Bool.and_eq_true, decide_eq_true_eq] at h
  exact h.2
theorem each_of {P : Value → D → Prop} : ∀ {vs : List V} {us : List Value} {ds : List D}, Vals vs us → DfA K g vs ds → (∀ v u d, RelV v u → Df K g v d → d ∈ ds → P u d) → PySem.W.EachIs P us ds
  | _, _, _, .nil, .nil, _ => .nil
  | _, _, _, .cons a t, .cons b r, h => .cons (h _ _ _ a b List.mem_cons_self) (each_of t r fun v u d x y z => h v u d x y (List.mem_cons_of_mem _ z))
theorem each_back : ∀ {us : List Value} {ds : List D}, PySem.W.EachIs (fun u d => ∃ v, RelV v u ∧ Df K g v d) us ds → ∃ vs, Vals vs us ∧ DfA K g vs ds
  | _, _, .nil => ⟨[], .nil, .nil⟩
  | _, _, .cons a t => by
    obtain ⟨v, h1, h2⟩ := a
    obtain ⟨vs, k1, k2⟩ := each_back t
    exact ⟨v :: vs, .cons h1 k1, .cons h2 k2⟩
/-- sorted(x), where x's items are gathered as us -/
theorem sorted_inv {x : Value} {E : Value → Shared → Prop} (hu : X.A.units + 64 < cLine)
    (hc : ∀ E', wpAny (model X.prog X.w) X.A.in1 (collect x) (fun us s2 => ∃ vs ds g H2, L2.Inv X pins σ H2 s2 ∧ Sub g.G H2 ∧ Vals vs us ∧ DfA X.K g vs ds ∧ srtOk ds = true ∧
      ∀ p ws, H2 p = none → DfA X.K g ws (srt ds) → Q (.ref p) (upd H2 p (.lst ws))) E' s) :
    wpAny (model X.prog X.w) X.A (call (.builtin "sorted") [x]) (EP X pins σ Q) E s := by
  refine Calls.call_function_entry PyProof.Rows.kind_sorted PyProof.Rows.plain_sorted PyProof.Rows.entry_sorted (PyProof.Rows.args_sorted1 _) ?_
  unfold Builtin.«sorted»
  refine wpAny_bind (m := checkCount "sorted" 1 1 _) (wpAny_pure ?_)
  refine wpAny_bind (wpAny_mono (hc _) (fun us s2 ⟨vs, ds, g, H2, I, hs, hv, hd, ho, q⟩ => ?_) fun _ _ z => z)
  have hlen : us.length = ds.length := by rw [← hv.length, hd.length]
  have hL : us.length ≤ sizeLine := by rw [hlen]; exact srtOk_len ho
  refine wpAny_bind (wpAny_newList ?_ hL)
  have hat : (s2.heap.push (PyProof.Rows.seqObj "list" us.toArray 0)).get? s2.heap.objs.size = some (PyProof.Rows.seqObj "list" us.toArray 0) := Heap.get?_push_size _ rfl
  have e1 : PySem.W.EachIs (fun u d => ∃ v, RelV v u ∧ Df X.K g v d) us ds := each_of hv hd fun v u d a b _ => ⟨v, a, b⟩
  have kk : ∀ b o, s2.heap.get? b = some o → (PySem.W.sortingHeap (s2.heap.push (PyProof.Rows.seqObj "list" us.toArray 0)) s2.heap.objs.size us).get? b = some o := fun b o e =>
    PySem.W.sortingHeap_old (Nat.ne_of_lt (Heap.lt_size e)) (Heap.get?_push_of_some _ e)
  have er : PySem.W.EachIs (fun u d => ∃ as, Reads (PySem.W.sortingHeap (s2.heap.push (PyProof.Rows.seqObj "list" us.toArray 0)) s2.heap.objs.size us) u d as) us ds := each_of hv hd fun v u d a b hm => by
    obtain ⟨as, h1⟩ := reads_d I hs b (okD_plain (srtOk_ok ho d hm)) a
    exact ⟨as, PyProof.Rows.Reads.keeps kk h1⟩
  have hal := srtOk_alike ho
  have hk := srtOk_kinds ho
  refine wpAny_bind (wpAny_holding (PyProof.Rows.wpAny_call_entry_kw PyProof.Rows.slot_list_sort ⟨_, hat, rfl⟩ PyProof.Rows.entry_list_sort ?body (PyProof.Rows.args_list_sort _)))
  case body =>
    show wpAny (model X.prog X.w) X.A.in1.in1 (Builtin.«list.sort» ⟨[.ref s2.heap.objs.size], []⟩) _ _ _
    refine PySem.W.list_sort_vals hat (PySem.W.SortsAt.data (s := { s2 with heap := PySem.W.sortingHeap (s2.heap.push (PyProof.Rows.seqObj "list" us.toArray 0)) s2.heap.objs.size us }) er hal hk fun d hm => ?_) hL ?_
    · have := okD_depth (srtOk_ok ho d hm)
      show X.A.units + 1 + 1 + d.depth < cLine
      omega
    · refine ⟨_, rfl, wpAny_pure ⟨_, rfl, ?_⟩⟩
      have map_id : ds.map (fun x => x) = ds := by simp
      have out := PySem.W.sortVals_data (enc := fun x => x) (h' := PySem.W.sortingHeap (s2.heap.push (PyProof.Rows.seqObj "list" us.toArray 0)) s2.heap.objs.size us) false e1 er (by rw [map_id]; exact hal)
      rw [map_id] at out
      obtain ⟨ws, k1, k2⟩ := each_back out
      obtain ⟨ep, he⟩ := PyProof.Rows.sortedHeap_at (vs := us) (out := (PySem.W.sortVals (PySem.W.dataKind (PySem.W.sortingHeap (s2.heap.push (PyProof.Rows.seqObj "list" us.toArray 0)) s2.heap.objs.size us) ds) false us us).toArray) hat
      have hz : ws.length ≤ sizeLine := by
        rw [k1.length, PySem.W.sortVals_length false rfl]; exact hL
      refine ⟨.ref _, upd H2 s2.heap.objs.size (.lst ws), I.laid (t' := s2.toks) (fun b o e => ?_) (Nat.le_refl _) ⟨hz, _, ep, k1, he⟩, rfl, q _ _ I.fresh k2⟩
      have hlt := Heap.lt_size e
      rw [PyProof.Rows.sortedHeap_old (Nat.ne_of_lt hlt) (by rw [PyProof.Rows.size_push']; exact Nat.lt_succ_of_lt hlt)]
      exact Heap.get?_push_of_some _ e
end
end N

/-! N7: sorted, least and greatest, repr. -/
namespace N
open PySem PySem.Spec L2
section
variable {X : Cx} {W : String → L2.St → Hp → Prop} {pins : List (Addr × Obj)} {σ σ' : L2.St} {H H0 : Hp} {g g0 : Gh} {s : Shared} {env : En} {st : Sto} {v w : V} {u : Value} {r : R} {Q : VK} {K : PySem.W.Frag}

/-- many new tuples are tracked at once -/
def layT (T : Addr → Option (List V)) (H : Hp) : Hp := fun b => match T b with
  | some xs => some (.tup xs)
  | none => H b
theorem lay_tuples {h' : Heap} {tk : Nat} (I : L2.Inv X pins σ H s) (hk : ∀ b o, s.heap.get? b = some o → h'.get? b = some o) (T : Addr → Option (List V))
    (new : ∀ b xs, T b = some xs → s.heap.objs.size ≤ b ∧ xs.length ≤ sizeLine ∧ ∃ its, Vals xs its ∧ PyProof.Rows.IsTup h' b its.toArray) : L2.Inv X pins σ (layT T H) { s with heap := h', toks := tk } := by
  have old : ∀ b o, s.heap.get? b = some o → T b = none := fun b o e => by
    cases q : T b with
    | none => rfl
    | some xs => exact absurd (Heap.lt_size e) (Nat.not_lt.mpr (new b xs q).1)
  have hnew : ∀ b xs, T b = some xs → H b = none := fun b xs q => I.hok.fresh (new b xs q).1
  have kp : ∀ b u, H b = some u → layT T H b = some u := fun b u e => by
    unfold layT
    cases q : T b with
    | none => exact e
    | some xs => rw [hnew b xs q] at e; cases e
  have off : ∀ b, T b = none → layT T H b = H b := fun b e => by unfold layT; rw [e]
  refine I.call' (ch := []) rfl ⟨fun b o q _ _ _ => hk b o q, fun b o q _ _ _ => ⟨o.slots, hk b o q⟩, fun b o q n _ => by rw [off b (old b o q)]; exact n, fun b o q _ => ⟨o, hk b o q⟩, fun b xs q => kp b _ q, fun b o u q => kp b _ q, fun b ps q => ⟨#[], by rw [kp b _ q]; simp⟩⟩ (fun b u q => ?_) I.bare fun b z => nomatch z
  cases e : T b with
  | some xs =>
    have : layT T H b = some (.tup xs) := by unfold layT; rw [e]
    rw [this] at q
    cases q
    obtain ⟨_, h2, its, h3, h4⟩ := new b xs e
    exact ⟨h2, its, h3, h4⟩
  | none =>
    rw [off b e] at q
    exact (I.hok b u q).stay (fun d v _ y => hk d v y) (fun d y => kp d _ y) fun d xs y => kp d _ y

def R.keys? (r : R) (st : Sto) : Option (List D) := (r.dct? st).map fun kvs => kvs.map fun p => kD p.1
def oSorted (r : R) : M R := fun st => match r.tup? with
  | some xs => if srtOk xs = true then .ok (.l true (srt xs)) st else .no
  | none => match r.lst? st with
    | some xs => if srtOk xs = true then .ok (.l true (srt xs)) st else .no
    | none => match r.keys? st with
      | some xs => if srtOk xs = true then .ok (.l true (srt xs)) st else .no
      | none => .no
theorem df_keys : ∀ {vs : List (Key × V)} {ds : List (Key × D)}, DfK K g vs ds → DfA K g (vs.map fun p => kV p.1) (ds.map fun p => kD p.1)
  | _, _, .nil => .nil
  | _, _, .cons (k := k) _ t => .cons (by cases k <;> constructor) (df_keys t)
theorem vals_at : ∀ {vs : List V} {us : List Value}, vs.length = us.length → (∀ (j : Nat) (u : Value), us[j]? = some u → ∃ v, vs[j]? = some v ∧ RelV v u) → Vals vs us
  | [], [], _, _ => .nil
  | v :: vs, u :: us, hl, h => by
    obtain ⟨v', e, r⟩ := h 0 u rfl
    cases e
    exact .cons r (vals_at (by simpa using hl) fun j u' e => by simpa using h (j + 1) u' (by simpa using e))
  | [], _ :: _, hl, _ => by cases hl
  | _ :: _, [], hl, _ => by cases hl
theorem cr_sorted (hcalm : X.calm = true) (hu : X.A.units + 64 < cLine) : CallR X (.builtin "sorted") (rrL (cx X W) (op1 oSorted)) := by
  refine cr1 fun pins s σ H x u Q I ru ⟨env, σ', st, g, H0, g0, r, A⟩ => ?_
  obtain ⟨B, v1, -, q⟩ := A
  unfold oSorted at q
  split at q
  · rename_i xs e
    split at q
    · rename_i ho
      obtain ⟨a, vs, rfl, h1, _, h2, _⟩ := tup_ok B.rel v1 e
      cases ru
      obtain ⟨its, rv, ⟨o, ho', hc, n, hd⟩, hz⟩ := I.tuple h1
      refine sorted_inv hu fun E' => wpAny_collect_seq a (.inr rfl) ho' hc hd (fun h' hk => ?_) (by have := rv.length; rw [List.size_toArray]; omega)
      exact ⟨vs, xs, g, H, I.kept (t' := s.toks) hk, B.rel.sub, by simpa using rv, h2, ho, fun p ws hp hw => B.fin_l q hp hw⟩
    · exact q.elim
  · split at q
    · rename_i xs e
      split at q
      · rename_i ho
        obtain ⟨a, vs, rfl, h1, h2⟩ := lst_ok B.rel v1 e
        cases ru
        obtain ⟨its, rv, ⟨o, n, ho', hc, _, hd⟩, hz⟩ := I.list h1
        refine sorted_inv hu fun E' => wpAny_collect_seq a (.inl rfl) ho' hc hd (fun h' hk => ?_) (by have := rv.length; rw [List.size_toArray]; omega)
        exact ⟨vs, xs, g, H, I.kept (t' := s.toks) hk, B.rel.sub, by simpa using rv, h2, ho, fun p ws hp hw => B.fin_l q hp hw⟩
      · exact q.elim
    · split at q
      · rename_i xs e
        split at q
        · rename_i ho
          unfold R.keys? at e
          rw [Option.map_eq_some_iff] at e
          obtain ⟨ds, e, rfl⟩ := e
          obtain ⟨a, kvs, rfl, h1, h2⟩ := dct_ok B.rel v1 e
          cases ru
          obtain ⟨z, lo, vs, rel, dd⟩ := dk_rd I.hok h1
          obtain ⟨ep, hat⟩ := dd.dictAt
          have hl : kvs.length = vs.length := Paired.length rel
          refine sorted_inv hu fun E' => PySem.W.kdu_collect (A := X.A.in1) (PySem.W.kdl_dict (knd := mixKind X.prog X.w) (kvs := vs) (ep := ep) lo) (I.ok.hd hcalm) hat (by omega) fun h' tk acc hk hacc => ?_
          refine ⟨kvs.map fun p => kV p.1, _, g, H, I.kept hk, B.rel.sub, ?_, df_keys h2, ho, fun p ws hp hw => B.fin_l q hp hw⟩
          refine vals_at (by have e5 := hacc.1; rw [← Array.length_toList] at e5; rw [List.length_map, hl]; exact e5.symm) fun j u hj => ?_
          obtain ⟨k, x, e1, e2⟩ := hacc.2 j u (by rw [← Array.getElem?_toList]; exact hj)
          have e3 : (kvs.map (·.1))[j]? = some k := by rw [rel.keys, List.getElem?_map, e1]; rfl
          rw [List.getElem?_map] at e3
          refine ⟨kV k, ?_, relV_key e2⟩
          rw [List.getElem?_map]
          cases e4 : kvs[j]? with
          | none => rw [e4] at e3; cases e3
          | some y => rw [e4] at e3; cases e3; rfl
        · exact q.elim
      · exact q.elim

/-- sorted(d.items()) -/
def oSortedItems (r : R) : M R := fun st => match r.dct? st with
  | some kvs => if srtOk (kvs.map fun p => .tuple [kD p.1, p.2]) = true then .ok (.l true (srt (kvs.map fun p => .tuple [kD p.1, p.2]))) st else .no
  | none => .no
theorem paired_at {P : Addr → Key × V → Prop} : ∀ {as : List Addr} {kvs : List (Key × V)}, as.length = kvs.length → (∀ (j : Nat) (a : Addr) (q : Key × V), as[j]? = some a → kvs[j]? = some q → P a q) → Paired P as kvs
  | [], [], _, _ => .nil
  | a :: as, q :: kvs, hl, h => .cons (h 0 a q rfl rfl) (paired_at (by simpa using hl) fun j b q' e1 e2 => h (j + 1) b q' (by simpa using e1) (by simpa using e2))
  | [], _ :: _, hl, _ => by cases hl
  | _ :: _, [], hl, _ => by cases hl
theorem df_items {g' : Gh} (le : Le g g') {as : List Addr} {kvs : List (Key × V)} (p : Paired (fun a (q : Key × V) => g'.G a = some (.tup [kV q.1, q.2])) as kvs) : ∀ {ds : List (Key × D)}, DfK K g kvs ds → DfA K g' (as.map V.ref) (ds.map fun p => .tuple [kD p.1, p.2]) := by
  induction p with
  | nil => intro ds h; cases h; exact .nil
  | cons a t ih =>
    intro ds h
    cases h with
    | cons b r =>
      rename_i k _ _ _
      exact .cons (.tup (.inl (.inl a)) (.inr (by cases k <;> rfl)) (.cons (by cases k <;> constructor) (.cons (Df.le le b) .nil))) (ih r)
theorem vals_ref (as : List Addr) : Vals (as.map V.ref) (as.map Value.ref) := by
  induction as with
  | nil => exact .nil
  | cons a t ih => exact .cons rfl ih
theorem e_sortedItems {e : Expr} {fa : En → M R} {p apos cpos pos : Pos} (hcalm : X.calm = true) (hu : X.A.units + 64 < cLine) (he : PE X e (tr (cx X W) fa)) (hg : Gl X "sorted") (hm : X.mg "sorted" = none)
    (hbase : attributeBase e "items" X.env (eval e X.env) = eval e X.env := by rfl) (hline : (apos.endLine == cpos.line) = true := by rfl)
    (hs : starEach [.Call (.Attribute e "items" apos) [] [] cpos] X.env = (false, eval (.Call (.Attribute e "items" apos) [] [] cpos) X.env) :: starEach [] X.env := by rfl) :
    PE X (.Call (.Name "sorted" p) [.Call (.Attribute e "items" apos) [] [] cpos] [] pos) (tr (cx X W) (dUn oSortedItems fa)) := by
  refine ⟨fun pins s σ H Q I hq => ?_⟩
  refine wpAny_Call_Name_kw (ld_blt I hg hm (by decide +kernel : bootBuiltins (Str.ofString "sorted") = some (.builtin "sorted")) ?_)
  refine PyProof.Rows.callWith_builtin1 ?_ hs rfl
  rw [hs]
  show wpAny _ _ (spliced ((false, eval (.Call (.Attribute e "items" apos) [] [] cpos) X.env) :: backTo pos (starEach [] X.env))) _ _ s
  refine Calls.spliced_cons ?_
  refine wpAny_Call_method (T := "dict") (id := "dict.items") hbase rfl hline PySem.F.plainAttrs_dict PySem.F.slot_dict_items PySem.F.type_dict_items (thn (he.run pins s σ H _ I (tr1 hq)) fun u s1 ⟨x, H1, I1, rx, env, σ', st, g, H0, g0, r, B, v1, _, q⟩ => ?_)
  unfold oSortedItems at q
  split at q
  · rename_i ds ed
    split at q
    · rename_i ho
      obtain ⟨d, kvs, rfl, h1, h2⟩ := dct_ok B.rel v1 ed
      obtain rfl : u = Value.ref d := rx
      obtain ⟨hz, hs0, vs, kv, hdo⟩ := dk_rd I1.hok h1
      obtain ⟨ep, hat⟩ := hdo.dictAt
      have lk : kvs.length = vs.length := Paired.length kv
      have I2 : L2.Inv X pins σ H1 { s1 with heap := s1.heap.push { cls := .type "dict_items", data := .fields #[.ref d] } } := I1.kept (t' := s1.toks) fun b ob q => Heap.get?_push_of_some _ q
      refine ⟨hdo.typeIs, hdo.mapOf.noDict, ?_⟩
      show wpAny _ _ (callWith cpos (.builtin "dict.items") [.ref d] [] []) _ X.xe s1
      refine method_meetsIn PySem.F.slot_dict_items PySem.F.entry_dict_items rfl (PySem.evalArgs_none ⟨rfl, hdo.typeIs, PySem.F.args_dict_items_1 _, _, meets_dict_items (mixKind X.prog X.w) d hs0, ⟨vs, hdo⟩, ?_⟩)
      refine Calls.spliced_nil ?_
      refine sorted_inv hu fun E' => PySem.W.kdx_collect (A := X.A.in1) (knd := mixKind X.prog X.w) (kvs := vs) (ep := ep) (I1.ok.hd hcalm) ⟨_, Heap.get?_push_size _ rfl, rfl, rfl⟩ (hat.push _) (by omega) fun h' tk as hk hl hG => ?_
      have rise := hG.rise
      -- the pairs, as the heap has them
      have at_ : ∀ (j : Nat) (a : Addr) (q : Key × V), as[j]? = some a → kvs[j]? = some q → ∃ its, Vals [kV q.1, q.2] its ∧ PyProof.Rows.IsTup h' a its.toArray := fun j a q e1 e2 => by
        obtain ⟨key, k, x, f1, f2, f3⟩ := hG.pairs j a e1
        obtain ⟨qv, k1, k2, k3⟩ := paired_get kv e2
        rw [f1] at k1
        cases k1
        refine ⟨[key, x], .cons ?_ (.cons k3 .nil), ⟨_, f3, rfl, _, rfl⟩⟩
        rw [k2]
        exact relV_key (show keyIs k key = true from f2)
      let T : Addr → Option (List V) := fun b => ((as.zip kvs).find? fun p => decide (p.1 = b)).map fun p => [kV p.2.1, p.2.2]
      have hT : ∀ b xs, T b = some xs → ∃ (j : Nat) (q : Key × V), as[j]? = some b ∧ kvs[j]? = some q ∧ xs = [kV q.1, q.2] := fun b xs e => by
        obtain ⟨p, e1, rfl⟩ := Option.map_eq_some_iff.mp e
        have e2 := List.find?_some e1
        have e3 := List.mem_of_find?_eq_some e1
        simp only [decide_eq_true_eq] at e2
        obtain ⟨j, hj⟩ := List.mem_iff_getElem?.mp e3
        rw [List.getElem?_zip_eq_some] at hj
        exact ⟨j, p.2, by rw [hj.1, e2], hj.2, rfl⟩
      have hT' : ∀ (j : Nat) (a : Addr) (q : Key × V), as[j]? = some a → kvs[j]? = some q → T a = some [kV q.1, q.2] := fun j a q e1 e2 => by
        have mem : (a, q) ∈ as.zip kvs := List.mem_iff_getElem?.mpr ⟨j, by rw [List.getElem?_zip_eq_some]; exact ⟨e1, e2⟩⟩
        have : ∃ p, (as.zip kvs).find? (fun p => decide (p.1 = a)) = some p := by
          cases z : (as.zip kvs).find? fun p => decide (p.1 = a) with
          | some p => exact ⟨p, rfl⟩
          | none =>
            have := List.find?_eq_none.mp z _ mem
            simp at this
        obtain ⟨p, ep⟩ := this
        have e5 : T a = some [kV p.2.1, p.2.2] := by show Option.map _ _ = _; rw [ep]; rfl
        obtain ⟨j', q', f1, f2, f3⟩ := hT a _ e5
        have : j' = j := by
          obtain ⟨b1, c1⟩ := List.getElem?_eq_some_iff.mp f1
          obtain ⟨b2, c2⟩ := List.getElem?_eq_some_iff.mp e1
          rcases Nat.lt_trichotomy j' j with l | l | l
          · have := List.pairwise_iff_getElem.mp rise j' j b1 b2 l
            rw [c1, c2] at this; exact absurd this (Nat.lt_irrefl _)
          · exact l
          · have := List.pairwise_iff_getElem.mp rise j j' b2 b1 l
            rw [c1, c2] at this; exact absurd this (Nat.lt_irrefl _)
        subst this
        rw [e2] at f2; cases f2
        rw [e5, f3]
      have I3 := lay_tuples (h' := h') (tk := tk) I2 hk T fun b xs e => by
        obtain ⟨j, q, e1, e2, rfl⟩ := hT b xs e
        exact ⟨Nat.le_of_lt (hG.above b (List.mem_of_getElem? e1)), (by show 2 ≤ sizeLine; decide), at_ j b q e1 e2⟩
      have new : ∀ b xs, T b = some xs → H1 b = none := fun b xs e => by
        obtain ⟨j, q, e1, e2, rfl⟩ := hT b xs e
        exact I2.hok.fresh (Nat.le_of_lt (hG.above b (List.mem_of_getElem? e1)))
      -- the ghost heap with the pairs
      have hgn : ∀ b xs, T b = some xs → g.G b = none := fun b xs e => B.rel.nog (new b xs e)
      have off : ∀ b, T b = none → layT T H1 b = H1 b := fun b e => by unfold layT; rw [e]
      have kp : ∀ b u, H1 b = some u → layT T H1 b = some u := fun b u e => by
        unfold layT
        cases z : T b with
        | none => exact e
        | some xs => rw [new b xs z] at e; cases e
      let g2 : Gh := { g with G := layT T g.G }
      have leG : ∀ b u, g.G b = some u → g2.G b = some u := fun b u e => by
        show layT T g.G b = some u
        unfold layT
        cases z : T b with
        | none => exact e
        | some xs => rw [hgn b xs z] at e; cases e
      have le2 : Le g g2 := ⟨leG, Nat.le_refl _, fun _ _ => rfl, rfl⟩
      have x2 : Ext H1 g (layT T H1) g2 := by
        refine ⟨le2, fun b u e _ => kp b u e, fun b h => ?_, fun b h => ?_, fun n a b => absurd b (Nat.not_lt.mpr a)⟩
        · cases z : H1 b with
          | none => exact absurd z h
          | some u => rw [kp b u z]; simp
        · have h' : layT T g.G b ≠ none := h
          unfold layT at h'
          cases z : T b with
          | none => rw [z] at h'; exact .inl h'
          | some xs => exact .inr (new b xs z)
      have sub2 : Sub g2.G (layT T H1) := fun b u e => by
        have e' : layT T g.G b = some u := e
        unfold layT at e'
        cases z : T b with
        | some xs =>
          rw [z] at e'
          refine .inl ?_
          unfold layT
          rw [z]; exact e'
        | none =>
          rw [z] at e'
          rw [off b z]
          exact B.rel.sub b u e'
      have R2 : Rel X.K g2 env st σ' (layT T H1) :=
        { sub := sub2
          slot := fun i r e => by
            obtain ⟨v, k1, k2⟩ := B.rel.slot i r e
            exact ⟨v, k1, k2.ext x2⟩
          own := B.rel.own
          lb := B.rel.lb
          obj := fun n ob e lv => by
            obtain ⟨k1, k2⟩ := B.rel.obj n ob e lv
            exact ⟨k1, k2.ext le2 (fun o e => kp _ o e) (fun h => x2.stay _ h) fun hn => by
              show layT T g.G _ = none
              unfold layT
              cases z : T (g.ι n) with
              | none => exact hn
              | some xs => exact absurd (new _ xs z) (B.rel.refs n k1)⟩
          inj := B.rel.inj
          refs := fun n hn => x2.stay _ (B.rel.refs n hn)
          len := B.rel.len }
      have B2 : Bs (cx X W) (layT T H1) env σ' st g2 H0 g0 := ⟨B.e.trans x2, R2, B.sl⟩
      have pr : Paired (fun a (q : Key × V) => g2.G a = some (.tup [kV q.1, q.2])) as kvs := paired_at (by omega) fun j a q e1 e2 => by
        show layT T g.G a = _
        unfold layT
        rw [hT' j a q e1 e2]
      exact ⟨as.map V.ref, _, g2, layT T H1, I3, sub2, vals_ref as, df_items le2 pr h2, ho, fun p ws hp hw => B2.fin_l q hp hw le2⟩
    · exact q.elim
  · exact q.elim

/-! ### repr of a truth -/
def oRepr : R → M R
  | .d (.bool b) => M.ret (.d (.str (if b = true then Str.ofString "True" else Str.ofString "False")))
  | _ => M.no
theorem cr_repr : CallR X (.builtin "repr") (rrL (cx X W) (op1 oRepr)) := by
  refine cr1 fun pins s σ H x u Q I ru ⟨env, σ', st, g, H0, g0, r, A⟩ => ?_
  obtain ⟨B, v1, -, q⟩ := A
  unfold oRepr at q
  split at q
  · obtain rfl := Df.bl_inv v1
    cases ru
    exact PySem.P.repr_of_bool ⟨.str _, H, I.tok _, ⟨_, rfl⟩, B.fin_d q (.str _)⟩
  · exact q.elim
end
end N

/-! N8: statements. -/
namespace N
open PySem PySem.Spec L2

/-- how a statement ends -/
inductive Fl where
  | nx | brk | ct | ret (r : R)
abbrev SM := En → M (Fl × En)
structure RelS (c : Ct) (H0 : Hp) (g0 lo : Gh) (env : En) (st : Sto) (σ : L2.St) (H : Hp) (g : Gh) : Prop where
  rel : Rel c.K g env st σ H
  e : Ext H0 g0 H g
  lo : Le lo g
  new : ∀ (i : Nat) (r : R) (a : Addr), env[i]? = some (some r) → r.own = true → σ[i]? = some (some (V.ref a)) → H0 a = none
def endS (c : Ct) (H0 : Hp) (D : Ends) (fl : Fl) (g : Gh) (σ : L2.St) (H : Hp) : Prop :=
  match fl with
  | .nx => D.nx σ H
  | .brk => D.bk σ H
  | .ct => D.ct σ H
  | .ret r => ∀ v, Rv c.K g H v r → Fr H0 v r → D.rt v H
def PostS (c : Ct) (H0 : Hp) (g0 lo : Gh) (m : Res (Fl × En)) (D : Ends) : Prop :=
  match m with
  | .ok (fl, env) st => ∀ σ H g, RelS c H0 g0 lo env st σ H g → endS c H0 D fl g σ H
  | .ex e st => ∀ env σ H g, RelS c H0 g0 lo env st σ H g → c.W e σ H
  | .no => False
/-- the reading of a statement, relative to the def's entry (H0, g0) -/
def trS (c : Ct) (H0 : Hp) (g0 : Gh) (S : SM) : TS := fun D σ H => ∃ env st g lo, RelS c H0 g0 lo env st σ H g ∧ PostS c H0 g0 lo (S env st) D

section
variable {c : Ct} {env : En} {σ : L2.St} {H H1 H0 : Hp} {g g0 g1 lo : Gh} {st st1 : Sto} {D : Ends} {K : PySem.W.Frag} {i : Nat}
theorem RelS.later (h : RelS c H0 g0 lo env st σ H g) (x : Ext H g H1 g1) (r : Rel c.K g1 env st1 σ H1) : RelS c H0 g0 lo env st1 σ H1 g1 := ⟨r, h.e.trans x, h.lo.trans x.le, h.new⟩
/-- an expression ahead of the rest -/
theorem RelS.part {α : Type} {f : M α} {k : α → M (Fl × En)} (h : RelS c H0 g0 lo env st σ H g) (q : PostS c H0 g0 lo ((f >>= k) st) D) :
    Post c env σ H g (f st) fun a g1 H1 => ∃ st1, Ext H g H1 g1 ∧ RelS c H0 g0 lo env st1 σ H1 g1 ∧ PostS c H0 g0 lo (k a st1) D := by
  rw [M.bind_ap] at q
  cases e : f st with
  | ok a st1 => rw [e] at q; exact fun g1 H1 x r => ⟨st1, x, h.later x r, q⟩
  | ex n st1 => rw [e] at q; exact fun g1 H1 x r => q env σ H1 g1 (h.later x r)
  | no => rw [e] at q; exact q
theorem RelS.ends {fl : Fl} (h : RelS c H0 g0 lo env st σ H g) (q : PostS c H0 g0 lo (.ok (fl, env) st) D) : endS c H0 D fl g σ H := q σ H g h

/-! ### slots stored -/
theorem set_get {α : Type} {l : List α} {i j : Nat} {a b : α} (h : (l.set i a)[j]? = some b) : (j = i ∧ b = a ∧ i < l.length) ∨ (j ≠ i ∧ l[j]? = some b) := by
  rw [List.getElem?_set] at h
  split at h
  · rename_i e
    split at h
    · cases h; exact .inl ⟨e.symm, rfl, by assumption⟩
    · cases h
  · rename_i e
    exact .inr ⟨fun z => e z.symm, h⟩
theorem RelS.setR {v : V} {r : R} (h : RelS c H0 g0 lo env st σ H g) (rv : Rv c.K g H v r) (hn : r.own = true → ∀ a, v = .ref a → H0 a = none) (ho : r.own = true → ∀ (j : Nat) (r' : R) (a : Addr), j ≠ i → env[j]? = some (some r') → r'.own = true → σ[j]? = some (some (V.ref a)) → v ≠ .ref a) :
    RelS c H0 g0 lo (env.set i (some r)) st (σ.set i (some v)) H g where
  rel :=
    { sub := h.rel.sub
      slot := fun j r' e => by
        rcases set_get e with ⟨rfl, e, hl⟩ | ⟨hj, e⟩
        · cases e
          exact ⟨v, by rw [List.getElem?_set_self (by rw [← h.rel.len]; exact hl)], rv⟩
        · obtain ⟨w, h1, h2⟩ := h.rel.slot j r' e
          exact ⟨w, by rw [List.getElem?_set_ne (Ne.symm hj)]; exact h1, h2⟩
      own := fun j k r1 r2 a e1 e2 o1 o2 s1 s2 => by
        rcases set_get e1 with ⟨rfl, q1, _⟩ | ⟨hj, q1⟩
        · rcases set_get e2 with ⟨rfl, q2, _⟩ | ⟨hk, q2⟩
          · rfl
          · cases q1
            rcases set_get s1 with ⟨_, z1, _⟩ | ⟨z, _⟩
            · rcases set_get s2 with ⟨z, _⟩ | ⟨_, z2⟩
              · exact absurd z hk
              · exact absurd (Option.some.inj z1).symm (ho o1 k r2 a hk q2 o2 z2)
            · exact absurd rfl z
        · rcases set_get e2 with ⟨rfl, q2, _⟩ | ⟨hk, q2⟩
          · cases q2
            rcases set_get s2 with ⟨_, z1, _⟩ | ⟨z, _⟩
            · rcases set_get s1 with ⟨z, _⟩ | ⟨_, z2⟩
              · exact absurd z hj
              · exact absurd (Option.some.inj z1).symm (ho o2 j r1 a hj q1 o1 z2)
            · exact absurd rfl z
          · rcases set_get s1 with ⟨z, _⟩ | ⟨_, z1⟩
            · exact absurd z hj
            · rcases set_get s2 with ⟨z, _⟩ | ⟨_, z2⟩
              · exact absurd z hk
              · exact h.rel.own j k r1 r2 a q1 q2 o1 o2 z1 z2
      lb := h.rel.lb
      obj := h.rel.obj
      inj := h.rel.inj
      refs := h.rel.refs
      len := by rw [List.length_set, List.length_set]; exact h.rel.len }
  e := h.e
  lo := h.lo
  new := fun j r' a e o s => by
    rcases set_get e with ⟨rfl, q, _⟩ | ⟨hj, q⟩
    · cases q
      rcases set_get s with ⟨_, z, _⟩ | ⟨z, _⟩
      · exact hn o a (Option.some.inj z).symm
      · exact absurd rfl z
    · rcases set_get s with ⟨z, _⟩ | ⟨_, z⟩
      · exact absurd z hj
      · exact h.new j r' a q o z
theorem RelS.setD {v : V} {x : PyData} (h : RelS c H0 g0 lo env st σ H g) (d : Df c.K g v x) : RelS c H0 g0 lo (env.set i (some (.d x))) st (σ.set i (some v)) H g :=
  h.setR (r := .d x) d (fun z => nomatch z) fun z => nomatch z
end

/-! ### what is put into a slot: F: frozen; O: it stays the slot's own -/
def slF (r : R) : M R := fun st => match kp r with
  | some x => .ok (.d x) st
  | none => .no
def slO (r : R) : M R := fun st => match r with
  | .l true xs => .ok (.l true xs) st
  | .k true kvs => .ok (.k true kvs) st
  | .d x => .ok (.d x) st
  | _ => .no
def dSet (i : Nat) (sl : R → M R) (f : En → M R) : SM := fun env => f env >>= fun r => sl r >>= fun r' => M.ret (.nx, env.set i (some r'))
/-- a way of putting a result into a slot -/
structure SlOk (sl : R → M R) : Prop where
  run : ∀ {c : Ct} {env : En} {st : Sto} {σ : L2.St} {H H0 Hq : Hp} {g g0 gp lo : Gh} {v : V} {r : R} {D : Ends} {k : R → M (Fl × En)}, RelS c H0 g0 lo env st σ H g → Ext Hq gp H g → Rel c.K gp env st σ Hq ∨ (∀ (i : Nat) (r : R) (a : Addr), env[i]? = some (some r) → r.own = true → σ[i]? = some (some (V.ref a)) → Hq a ≠ none) → Rv c.K g H v r → Fr Hq v r → Ext H0 g0 Hq gp → PostS c H0 g0 lo ((sl r >>= k) st) D →
    ∃ r' g', Ext Hq gp H g' ∧ Le g g' ∧ RelS c H0 g0 lo env st σ H g' ∧ Rv c.K g' H v r' ∧ (r'.own = true → r.fr = true ∧ ∀ a, v = .ref a → Hq a = none) ∧ PostS c H0 g0 lo (k r' st) D ∧ (g' = g ∨ ∃ a o, g' = g.put a o ∧ v = .ref a ∧ r.fr = true ∧ g.G a = none)
theorem slF_ok : SlOk slF where
  run := by
    intro c env st σ H H0 Hq g g0 gp lo v r D k h x hs rv fr x0 q
    have q' : ∃ d, kp r = some d ∧ PostS c H0 g0 lo (k (.d d) st) D := by
      rw [M.bind_ap] at q
      unfold slF at q
      cases e : kp r with
      | none => rw [e] at q; exact q.elim
      | some d => rw [e] at q; exact ⟨d, rfl, q⟩
    obtain ⟨d, e, q⟩ := q'
    have hsl : ∀ (i : Nat) (r : R) (a : Addr), env[i]? = some (some r) → r.own = true → σ[i]? = some (some (V.ref a)) → Hq a ≠ none := by
      rcases hs with hs | hs
      · exact hs.sl
      · exact hs
    have b : Bs c H env σ st g Hq gp := ⟨x, h.rel, hsl⟩
    obtain ⟨g', le, b', hd, hz⟩ := b.frz1 rv fr e
    exact ⟨.d d, g', b'.e, le, ⟨b'.rel, x0.trans b'.e, h.lo.trans le, h.new⟩, hd, (fun z => nomatch z), q, hz.imp id fun ⟨a, o, h1, h2, h3, h4⟩ => ⟨a, o, h1, h2, h3, h4⟩⟩
theorem slO_ok : SlOk slO where
  run := by
    intro c env st σ H H0 Hq g g0 gp lo v r D k h x hs rv fr x0 q
    cases r with
    | d y => exact ⟨.d y, g, x, .refl g, h, rv, (fun z => nomatch z), q, .inl rfl⟩
    | l f xs =>
      cases f with
      | true => exact ⟨.l true xs, g, x, .refl g, h, rv, fun _ => ⟨rfl, fun a e => fr rfl a e⟩, q, .inl rfl⟩
      | false => exact q.elim
    | k f xs =>
      cases f with
      | true => exact ⟨.k true xs, g, x, .refl g, h, rv, fun _ => ⟨rfl, fun a e => fr rfl a e⟩, q, .inl rfl⟩
      | false => exact q.elim

section
variable {X : Cx} {W : String → L2.St → Hp → Prop} {pos : Pos} {H0 : Hp} {g0 : Gh} {e : Expr} {f : En → M R}
/-- a value into slot i -/
theorem trS_set {sl : R → M R} (ok : SlOk sl) {i : Nat} {D : Ends} {σ : L2.St} {H : Hp} {c : Ct} (h : trS c H0 g0 (dSet i sl f) D σ H) : tAsg (tr c f) (gName i) D σ H := by
  obtain ⟨env, st, g, lo, R0, q⟩ := h
  refine ⟨env, st, g, R0.rel, Post.mono (R0.part q) fun r g1 H1 ⟨st1, x, R1, q1⟩ v rv fr => ?_⟩
  obtain ⟨r', g', x', le, R2, rv', hn, q2, _⟩ := ok.run R1 x (.inr R0.rel.sl) rv fr R0.e q1
  refine q2 _ _ g' (R2.setR rv' (fun o a ev => R0.e.nothing ((hn o).2 a ev)) fun o j r'' a hj ej oj sj ev => ?_)
  exact R0.rel.sl j r'' a ej oj sj ((hn o).2 a ev)
theorem s_set {sl : R → M R} (ok : SlOk sl) (i : Nat) {x : Str} {pos' : Pos} (hN : X.N.Nodup) (he : PE X e (tr (cx X W) f)) (hi : X.N[i]? = some x := by rfl) (hx : L2.Loc X.env.scope x := by first | exact .inl rfl | exact .inr rfl) (hs : swapsWith e (some (.Name x pos')) pos.line X.env = pure false := by rfl) (hf : X.fn x = true ∨ X.env.scope.names.lookup x = some .local := by first | exact .inl rfl | exact .inr rfl | assumption) :
    PS X (.Assign [.Name x pos'] e pos) (trS (cx X W) H0 g0 (dSet i sl f)) := PS.imp (ps_set hN hi hx he hs hf) fun _ _ _ h => trS_set ok h

/-! ### blocks, ends, choices -/
def dSeq (S T : SM) : SM := fun env => S env >>= fun p => match p.1 with
  | .nx => T p.2
  | fl => M.ret (fl, p.2)
def dSkip : SM := fun env => M.ret (.nx, env)
def dBrk : SM := fun env => M.ret (.brk, env)
def dCt : SM := fun env => M.ret (.ct, env)
def retR : R → M R := fun r => M.ret (match r with
  | .l _ xs => .l true xs
  | .k _ xs => .k true xs
  | .d x => .d x)
def dRet (f : En → M R) : SM := fun env => f env >>= fun r => M.ret (.ret r, env)
/-- return x, x a slot of one's own -/
def dRetVar (i : Nat) : SM := fun env st => match env[i]? with
  | some (some r) => .ok (.ret r, env) st
  | _ => .no
def dIfS (t : En → M Bool) (S T : SM) : SM := fun env => t env >>= fun b => if b = true then S env else T env
def dDrop (f : En → M R) : SM := fun env => f env >>= fun _ => M.ret (.nx, env)
variable {S T : SM} {st : Stmt} {rest sa sb : List Stmt} {t : En → M Bool} {ce : Expr}
theorem ss_nil : PSs X [] (trS (cx X W) H0 g0 dSkip) := PSs.imp pss_nil fun D σ H ⟨env, st, g, lo, R0, q⟩ => q σ H g R0
theorem ss_one (h : PS X st (trS (cx X W) H0 g0 S)) : PSs X [st] (trS (cx X W) H0 g0 S) := pss_one h
theorem ss_cons (h : PS X st (trS (cx X W) H0 g0 S)) (h2 : PSs X rest (trS (cx X W) H0 g0 T)) : PSs X (st :: rest) (trS (cx X W) H0 g0 (dSeq S T)) := by
  refine PSs.imp (pss_cons h h2) fun D σ H ⟨env, st, g, lo, R0, q⟩ => ⟨env, st, g, lo, R0, ?_⟩
  unfold dSeq at q
  rw [M.bind_ap] at q
  cases e : S env st with
  | no => rw [e] at q; exact q
  | ex n s => rw [e] at q; exact q
  | ok p s =>
    obtain ⟨fl, env'⟩ := p
    rw [e] at q
    intro σ' H' g' R'
    cases fl with
    | nx => exact ⟨env', s, g', lo, R', q⟩
    | brk => exact q σ' H' g' R'
    | ct => exact q σ' H' g' R'
    | ret r => exact q σ' H' g' R'
theorem s_pass : PS X (.Pass pos) (trS (cx X W) H0 g0 dSkip) := PS.imp ps_pass fun D σ H ⟨env, st, g, lo, R0, q⟩ => q σ H g R0
theorem s_break : PS X (.Break pos) (trS (cx X W) H0 g0 dBrk) := PS.imp ps_break fun D σ H ⟨env, st, g, lo, R0, q⟩ => q σ H g R0
theorem s_continue : PS X (.Continue pos) (trS (cx X W) H0 g0 dCt) := PS.imp ps_continue fun D σ H ⟨env, st, g, lo, R0, q⟩ => q σ H g R0
theorem s_if (h : PT X ce (trT (cx X W) t)) (h1 : PSs X sa (trS (cx X W) H0 g0 S)) (h2 : PSs X sb (trS (cx X W) H0 g0 T)) : PS X (.If ce sa sb pos) (trS (cx X W) H0 g0 (dIfS t S T)) := by
  refine PS.imp (ps_if h h1 h2) fun D σ H ⟨env, st, g, lo, R0, q⟩ => ⟨env, st, g, R0.rel, Post.mono (R0.part q) fun b g1 H1 ⟨st1, x, R1, q1⟩ => ?_⟩
  cases b with
  | true => exact iteT (B := trS (cx X W) H0 g0 T D σ H1) ⟨env, st1, g1, lo, R1, q1⟩
  | false => exact iteF (A := trS (cx X W) H0 g0 S D σ H1) ⟨env, st1, g1, lo, R1, q1⟩
theorem s_ret (he : PE X e (tr (cx X W) f)) : PS X (.Return (some e) pos) (trS (cx X W) H0 g0 (dRet f)) := by
  refine PS.imp (ps_ret he) fun D σ H ⟨env, st, g, lo, R0, q⟩ => ⟨env, st, g, R0.rel, Post.mono (R0.part q) fun r g1 H1 ⟨st1, x, R1, q1⟩ v rv fr => ?_⟩
  exact R1.ends q1 v rv fun o a ev => R0.e.nothing (fr o a ev)
theorem s_retVar (i : Nat) {x : Str} {p : Pos} (hN : X.N[i]? = some x := by rfl) (hv : Vis X.env.scope x := by first | exact Or.inl rfl | exact Or.inr (Or.inl rfl) | exact Or.inr (Or.inr rfl)) (hd : (x == ("__debug__" : Str)) = false := by decide)
    (hcd : (x == ("__classdict__" : Str)) = false := by decide) : PS X (.Return (some (.Name x p)) pos) (trS (cx X W) H0 g0 (dRetVar i)) := by
  refine PS.imp (ps_ret (pe_var hN hv hd hcd)) fun D σ H ⟨env, st, g, lo, R0, q⟩ => ?_
  unfold dRetVar at q
  split at q
  · rename_i r e
    obtain ⟨v, h1, h2⟩ := R0.rel.slot _ _ e
    refine ⟨v, h1, R0.ends q v h2 fun o a ev => ?_⟩
    subst ev
    refine R0.new _ _ a e ?_ h1
    cases r with
    | d _ => cases o
    | _ => rfl
  · exact q.elim
theorem s_drop (he : PE X e (tr (cx X W) f)) (hs : swapsWith e none pos.line X.env = pure false := by rfl) : PS X (.Expr e pos) (trS (cx X W) H0 g0 (dDrop f)) := by
  refine PS.imp (ps_expr he hs) fun D σ H ⟨env, st, g, lo, R0, q⟩ => ⟨env, st, g, R0.rel, Post.mono (R0.part q) fun r g1 H1 ⟨st1, x, R1, q1⟩ v rv fr => ?_⟩
  exact R1.ends q1
end
end N

/-! N9: lists and dicts changed in place; several targets. -/
namespace N
open PySem PySem.Spec L2

/-! ### a list changed -/
def mutL (i : Nat) (up : List D → Option (List D)) (env : En) : M (Fl × En) := fun st => match env[i]? with
  | some (some (.l _ xs)) => match up xs with
    | some ys => .ok (.nx, env.set i (some (.l true ys))) st
    | none => .no
  | some (some (.d x)) => match refOf x with
    | some n => match st[n]? with
      | some (.l xs) => match up xs with
        | some ys => .ok (.nx, env) (st.set n (.l ys))
        | none => .no
      | _ => .no
    | none => .no
  | _ => .no
def mutK (i : Nat) (up : List (Key × D) → Option (List (Key × D))) (env : En) : M (Fl × En) := fun st => match env[i]? with
  | some (some (.k _ xs)) => match up xs with
    | some ys => .ok (.nx, env.set i (some (.k true ys))) st
    | none => .no
  | some (some (.d x)) => match refOf x with
    | some n => match st[n]? with
      | some (.k xs) => match up xs with
        | some ys => .ok (.nx, env) (st.set n (.k ys))
        | none => .no
      | _ => .no
    | none => .no
  | _ => .no
section
variable {c : Ct} {env : En} {σ : L2.St} {H H1 H0 : Hp} {g g0 g1 lo : Gh} {st st1 : Sto} {De : Ends} {K : PySem.W.Frag} {i : Nat}
/-- a thing at a place of its own is changed -/
theorem RelS.mut {l : Addr} {o o' : HO} {env' : En} {st' : Sto} (h : RelS c H0 g0 lo env st σ H g) (hl : H l = some o) (hg : g.G l = none) (h0 : H0 l = none ∨ g0.cl = none ∧ ∃ n, n < g0.L ∧ g0.ι n = l)
    (slot : ∀ (j : Nat) (r : R), env'[j]? = some (some r) → ∃ v : V, σ[j]? = some (some v) ∧ Rv c.K g (upd H l o') v r)
    (own : ∀ (j : Nat) (r : R), env'[j]? = some (some r) → r.own = true → ∃ r', env[j]? = some (some r') ∧ r'.own = true)
    (obj : ∀ (n : Nat) (ob : Ob), st'[n]? = some ob → ob.live = true → n < g.L ∧ ObOk c.K g (upd H l o') (g.ι n) ob) (lb : Lb g st') (len : env'.length = env.length) : RelS c H0 g0 lo env' st' σ (upd H l o') g where
  rel :=
    { sub := fun a u e => by
        have ne : a ≠ l := fun z => by subst z; rw [hg] at e; cases e
        rw [upd_ne ne]
        exact h.rel.sub a u e
      slot := slot
      own := fun j k r1 r2 a e1 e2 o1 o2 s1 s2 => by
        obtain ⟨r1', q1, p1⟩ := own j r1 e1 o1
        obtain ⟨r2', q2, p2⟩ := own k r2 e2 o2
        exact h.rel.own j k r1' r2' a q1 q2 p1 p2 s1 s2
      obj := obj
      lb := lb
      inj := h.rel.inj
      refs := fun n hn => by
        by_cases z : g.ι n = l
        · rw [z, upd_same]; simp
        · rw [upd_ne z]; exact h.rel.refs n hn
      len := by rw [len]; exact h.rel.len }
  lo := h.lo
  e := ⟨h.e.le, fun a u e hn => by
      have ne : a ≠ l := fun z => by
        subst z
        rcases h0 with h0 | ⟨hc, n, h1, h2⟩
        · rw [h0] at e; cases e
        · exact hn hc n h1 h2
      rw [upd_ne ne]
      exact h.e.keep a u e hn, fun a e => by
      by_cases z : a = l
      · rw [z, upd_same]; simp
      · rw [upd_ne z]; exact h.e.stay a e, h.e.gnew, h.e.inew⟩
  new := fun j r a e o s => by
    obtain ⟨r', q, p⟩ := own j r e o
    exact h.new j r' a q p s
theorem Rv.mut {l : Addr} {o : HO} {v : V} {r : R} (h : Rv K g H v r) (ne : r.own = true → v ≠ .ref l) : Rv K g (upd H l o) v r := by
  cases r with
  | d x => exact h
  | l f ds =>
    obtain ⟨a, vs, rfl, h1, h2⟩ := h
    exact ⟨a, vs, rfl, by rw [upd_ne fun z => ne rfl (by rw [z])]; exact h1, h2⟩
  | k f ds =>
    obtain ⟨a, vs, rfl, h1, h2⟩ := h
    exact ⟨a, vs, rfl, by rw [upd_ne fun z => ne rfl (by rw [z])]; exact h1, h2⟩
theorem ObOk.mut {l a : Addr} {o : HO} {ob : Ob} (h : ObOk K g H a ob) (ne : a ≠ l) : ObOk K g (upd H l o) a ob :=
  h.ext (.refl g) (fun u e => by rw [upd_ne ne]; exact e) (fun e => by rw [upd_ne ne]; exact e) fun e => e
theorem set_own {j : Nat} {r r0 : R} {r1 : R} (hi : env[i]? = some (some r0)) (h0 : r0.own = true) (e : (env.set i (some r1))[j]? = some (some r)) (o : r.own = true) : ∃ r', env[j]? = some (some r') ∧ r'.own = true := by
  rcases set_get e with ⟨rfl, q, _⟩ | ⟨_, q⟩
  · exact ⟨r0, hi, h0⟩
  · exact ⟨r, q, o⟩
theorem lb_set {ob ob' : Ob} {n : Nat} (h : Lb g st) (e : st[n]? = some ob) (lv : ob.live = true := by rfl) (lv' : ob'.live = true := by rfl) : Lb g (st.set n ob') := by
  unfold Lb at h ⊢
  split at h
  · obtain ⟨h1, h2⟩ := h
    subst h2
    cases n with
    | zero => cases e; cases lv
    | succ n => simp at e
  · refine ⟨by rw [List.length_set]; exact h.1, fun z => ?_⟩
    have hl : n < st.length := (List.getElem?_eq_some_iff.mp e).1
    have : (st.set n ob')[n]? = some ob' := List.getElem?_set_self hl
    rw [z] at this
    cases n with
    | zero => cases this; cases lv'
    | succ n => simp at this
theorem lb_open {ob : Ob} {n : Nat} (h : Lb g st) (e : st[n]? = some ob) (lv : ob.live = true := by rfl) : g.cl = none := by
  unfold Lb at h
  split at h
  · obtain ⟨h1, h2⟩ := h
    subst h2
    cases n with
    | zero => cases e; cases lv
    | succ n => simp at e
  · assumption
theorem Ext.back {n : Nat} (x : Ext H0 g0 H g) (hc : g.cl = none) (hn : n < g.L) : H0 (g.ι n) = none ∨ g0.cl = none ∧ ∃ m, m < g0.L ∧ g0.ι m = g.ι n := by
  rcases Nat.lt_or_ge n g0.L with h | h
  · exact .inr ⟨x.le.cl ▸ hc, n, h, (x.le.ι n h).symm⟩
  · exact .inl (x.inew n h hn)
theorem mutL_ok {up : List D → Option (List D)} (h : RelS c H0 g0 lo env st σ H g) (q : PostS c H0 g0 lo (mutL i up env st) De) :
    ∃ l vs xs ys, σ[i]? = some (some (V.ref l)) ∧ H l = some (.lst vs) ∧ DfA c.K g vs xs ∧ up xs = some ys ∧ ∀ ws, DfA c.K g ws ys → De.nx σ (upd H l (.lst ws)) := by
  unfold mutL at q
  split at q
  · rename_i f xs e
    obtain ⟨v, s1, l, vs, rfl, h1, h2, h3, h4⟩ := h.rel.slot _ _ e
    split at q
    · rename_i ys eu
      refine ⟨l, vs, xs, ys, s1, h1, h4, eu, fun ws hw => q σ _ g (h.mut h1 h2 (.inl (h.new _ _ l e rfl s1)) (fun j r ej => ?_) (fun j r ej o => set_own e rfl ej o) (fun n ob en lv => ?_) h.rel.lb (by rw [List.length_set]))⟩
      · rcases set_get ej with ⟨rfl, ej, _⟩ | ⟨hj, ej⟩
        · cases ej
          exact ⟨_, s1, l, ws, rfl, upd_same, h2, h3, hw⟩
        · obtain ⟨v, k1, k2⟩ := h.rel.slot j r ej
          exact ⟨v, k1, k2.mut fun o z => by subst z; exact hj (h.rel.own j i r _ l ej e o rfl k1 s1)⟩
      · obtain ⟨k1, k2⟩ := h.rel.obj n ob en lv
        exact ⟨k1, k2.mut (h3 n k1)⟩
    · exact q.elim
  · rename_i x e
    split at q
    · rename_i n er
      split at q
      · rename_i xs es
        split at q
        · rename_i ys eu
          obtain ⟨v, s1, hv⟩ := h.rel.slot _ _ e
          obtain ⟨hn, rfl⟩ := refOf_some hv er
          obtain ⟨_, vs, h1, h2, h4⟩ := h.rel.obj n _ es rfl
          refine ⟨_, vs, xs, ys, s1, h1, h4, eu, fun ws hw => q σ _ g (h.mut h1 h2 (h.e.back (lb_open h.rel.lb es) hn) (fun j r ej => ?_) (fun j r ej o => ⟨r, ej, o⟩) (fun m ob em lv => ?_) (lb_set h.rel.lb es) rfl)⟩
          · obtain ⟨v, k1, k2⟩ := h.rel.slot j r ej
            refine ⟨v, k1, k2.mut fun o z => ?_⟩
            subst z
            cases r with
            | d _ => cases o
            | l f ds => obtain ⟨a, _, z, _, _, z2, _⟩ := k2; cases z; exact z2 n hn rfl
            | k f ds => obtain ⟨a, _, z, _, _, z2, _⟩ := k2; cases z; exact z2 n hn rfl
          · rcases set_get em with ⟨rfl, em, _⟩ | ⟨hm, em⟩
            · cases em
              exact ⟨hn, ws, upd_same, h2, hw⟩
            · obtain ⟨k1, k2⟩ := h.rel.obj m ob em lv
              exact ⟨k1, k2.mut fun z => hm (h.rel.inj m n k1 hn z)⟩
        · exact q.elim
      · exact q.elim
    · exact q.elim
  · exact q.elim
theorem mutK_ok {up : List (Key × D) → Option (List (Key × D))} (h : RelS c H0 g0 lo env st σ H g) (q : PostS c H0 g0 lo (mutK i up env st) De) :
    ∃ l vs xs ys, σ[i]? = some (some (V.ref l)) ∧ H l = some (.dK vs) ∧ DfK c.K g vs xs ∧ up xs = some ys ∧ ∀ ws, DfK c.K g ws ys → De.nx σ (upd H l (.dK ws)) := by
  unfold mutK at q
  split at q
  · rename_i f xs e
    obtain ⟨v, s1, l, vs, rfl, h1, h2, h3, h4⟩ := h.rel.slot _ _ e
    split at q
    · rename_i ys eu
      refine ⟨l, vs, xs, ys, s1, h1, h4, eu, fun ws hw => q σ _ g (h.mut h1 h2 (.inl (h.new _ _ l e rfl s1)) (fun j r ej => ?_) (fun j r ej o => set_own e rfl ej o) (fun n ob en lv => ?_) h.rel.lb (by rw [List.length_set]))⟩
      · rcases set_get ej with ⟨rfl, ej, _⟩ | ⟨hj, ej⟩
        · cases ej
          exact ⟨_, s1, l, ws, rfl, upd_same, h2, h3, hw⟩
        · obtain ⟨v, k1, k2⟩ := h.rel.slot j r ej
          exact ⟨v, k1, k2.mut fun o z => by subst z; exact hj (h.rel.own j i r _ l ej e o rfl k1 s1)⟩
      · obtain ⟨k1, k2⟩ := h.rel.obj n ob en lv
        exact ⟨k1, k2.mut (h3 n k1)⟩
    · exact q.elim
  · rename_i x e
    split at q
    · rename_i n er
      split at q
      · rename_i xs es
        split at q
        · rename_i ys eu
          obtain ⟨v, s1, hv⟩ := h.rel.slot _ _ e
          obtain ⟨hn, rfl⟩ := refOf_some hv er
          obtain ⟨_, vs, h1, h2, h4⟩ := h.rel.obj n _ es rfl
          refine ⟨_, vs, xs, ys, s1, h1, h4, eu, fun ws hw => q σ _ g (h.mut h1 h2 (h.e.back (lb_open h.rel.lb es) hn) (fun j r ej => ?_) (fun j r ej o => ⟨r, ej, o⟩) (fun m ob em lv => ?_) (lb_set h.rel.lb es) rfl)⟩
          · obtain ⟨v, k1, k2⟩ := h.rel.slot j r ej
            refine ⟨v, k1, k2.mut fun o z => ?_⟩
            subst z
            cases r with
            | d _ => cases o
            | l f ds => obtain ⟨a, _, z, _, _, z2, _⟩ := k2; cases z; exact z2 n hn rfl
            | k f ds => obtain ⟨a, _, z, _, _, z2, _⟩ := k2; cases z; exact z2 n hn rfl
          · rcases set_get em with ⟨rfl, em, _⟩ | ⟨hm, em⟩
            · cases em
              exact ⟨hn, ws, upd_same, h2, hw⟩
            · obtain ⟨k1, k2⟩ := h.rel.obj m ob em lv
              exact ⟨k1, k2.mut fun z => hm (h.rel.inj m n k1 hn z)⟩
        · exact q.elim
      · exact q.elim
    · exact q.elim
  · exact q.elim
/-- slot i holds a list, a dict that may be changed -/
def chkL (i : Nat) (env : En) : M Unit := fun st => match env[i]? with
  | some (some r) => match r.lst? st with
    | some _ => .ok () st
    | none => .no
  | _ => .no
def chkK (i : Nat) (env : En) : M Unit := fun st => match env[i]? with
  | some (some (.k _ _)) => .ok () st
  | some (some (.d x)) => match refOf x with
    | some n => match st[n]? with
      | some (.k _) => .ok () st
      | _ => .no
    | none => .no
  | _ => .no
theorem chkL_ok {k : Unit → M (Fl × En)} (h : RelS c H0 g0 lo env st σ H g) (q : PostS c H0 g0 lo ((chkL i env >>= k) st) De) : (∃ l vs, σ[i]? = some (some (V.ref l)) ∧ SqL c.K H l vs) ∧ PostS c H0 g0 lo (k () st) De := by
  rw [M.bind_ap] at q
  cases e : chkL i env st with
  | no => rw [e] at q; exact q.elim
  | ex a b =>
    unfold chkL at e
    split at e
    · split at e <;> cases e
    · cases e
  | ok a s =>
    rw [e] at q
    unfold chkL at e
    split at e
    · rename_i r er
      split at e
      · rename_i xs el
        cases e
        obtain ⟨v, s1, hv⟩ := h.rel.slot _ _ er
        obtain ⟨l, vs, rfl, h1, _⟩ := lst_ok h.rel hv el
        exact ⟨⟨l, vs, s1, h1⟩, q⟩
      · cases e
    · cases e
theorem chkK_ok {k : Unit → M (Fl × En)} (h : RelS c H0 g0 lo env st σ H g) (q : PostS c H0 g0 lo ((chkK i env >>= k) st) De) : (∃ l vs, σ[i]? = some (some (V.ref l)) ∧ H l = some (.dK vs)) ∧ PostS c H0 g0 lo (k () st) De := by
  rw [M.bind_ap] at q
  unfold chkK at q
  split at q
  · rename_i a s e
    split at e
    · rename_i f xs er
      cases e
      obtain ⟨v, s1, l, vs, rfl, h1, _⟩ := h.rel.slot _ _ er
      exact ⟨⟨l, vs, s1, h1⟩, q⟩
    · rename_i x er
      split at e
      · rename_i n en
        split at e
        · rename_i xs es
          cases e
          obtain ⟨v, s1, hv⟩ := h.rel.slot _ _ er
          obtain ⟨_, rfl⟩ := refOf_some hv en
          obtain ⟨_, vs, h1, _⟩ := h.rel.obj n _ es rfl
          exact ⟨⟨_, vs, s1, h1⟩, q⟩
        · cases e
      · cases e
    · cases e
  · rename_i e
    split at e
    · cases e
    · split at e
      · split at e <;> cases e
      · cases e
    · cases e
  · exact q.elim
end

def toKp : R → M D := fun r st => match kp r with
  | some x => .ok x st
  | none => .no
theorem toKp_ok {c : Ct} {H0 : Hp} {g0 lo : Gh} {st : Sto} {De : Ends} {r : R} {k : D → M (Fl × En)} (q : PostS c H0 g0 lo ((toKp r >>= k) st) De) : ∃ d, kp r = some d ∧ PostS c H0 g0 lo (k d st) De := by
  rw [M.bind_ap] at q
  unfold toKp at q
  cases e : kp r with
  | none => rw [e] at q; exact q.elim
  | some d => rw [e] at q; exact ⟨d, rfl, q⟩
def pushL (x : D) (xs : List D) : Option (List D) := if xs.length < sizeLine then some (xs ++ [x]) else none
/-- x.append(e), x in slot i -/
def dApp (i : Nat) (f : En → M R) : SM := fun env => chkL i env >>= fun _ => f env >>= fun r => toKp r >>= fun x => mutL i (pushL x) env
def setL (k : Int) (x : D) (xs : List D) : Option (List D) := (ixN xs.length k).map fun j => xs.set j x
def toInt : R → M Int
  | .d (.int i) => M.ret i
  | _ => M.no
/-- x[k] = e, x a list in slot i -/
def dSetIx (i : Nat) (fk f : En → M R) : SM := fun env => f env >>= fun r => toKp r >>= fun x => chkL i env >>= fun _ => fk env >>= fun rk => toInt rk >>= fun k => mutL i (setL k x) env
def putD (kvs : List (Key × D)) (k : Key) (v : D) : List (Key × D) := if kvs.any (fun kv => decide (kv.1 = k)) then kvs.map (fun kv => if kv.1 = k then (kv.1, v) else kv) else kvs ++ [(k, v)]
def putK? (k : Key) (v : D) (kvs : List (Key × D)) : Option (List (Key × D)) := if kvs.length < sizeLine then some (putD kvs k v) else none
def toKey : R → M Key := fun r st => match r with
  | .d x => match keyOf x with
    | some k => .ok k st
    | none => .no
  | _ => .no
/-- x[k] = e, x a dict in slot i -/
def dPut (i : Nat) (fk f : En → M R) : SM := fun env => f env >>= fun r => toKp r >>= fun x => chkK i env >>= fun _ => fk env >>= fun rk => toKey rk >>= fun k => mutK i (putK? k x) env
section
variable {X : Cx} {W : String → L2.St → Hp → Prop} {pos : Pos} {H0 : Hp} {g0 : Gh} {e k : Expr} {f fk : En → M R} {K : PySem.W.Frag} {g lo : Gh}
theorem RelS.frz {c : Ct} {env : En} {st : Sto} {σ : L2.St} {H Hq : Hp} {g g0 gq lo : Gh} {v : V} {r : R} {d : D} (R0 : RelS c H0 g0 lo env st σ H g) (x : Ext Hq gq H g) (x0 : Ext H0 g0 Hq gq) (sl : ∀ (i : Nat) (r : R) (a : Addr), env[i]? = some (some r) → r.own = true → σ[i]? = some (some (V.ref a)) → Hq a ≠ none) (rv : Rv c.K g H v r) (fr : Fr Hq v r) (ek : kp r = some d) :
    ∃ g', Le g g' ∧ Ext Hq gq H g' ∧ RelS c H0 g0 lo env st σ H g' ∧ Df c.K g' v d := by
  obtain ⟨g', le, b', hd, _⟩ := Bs.frz1 (⟨x, R0.rel, sl⟩ : Bs c H env σ st g Hq gq) rv fr ek
  exact ⟨g', le, b'.e, ⟨b'.rel, x0.trans b'.e, R0.lo.trans le, R0.new⟩, hd⟩
theorem s_append (i : Nat) {x : Str} {p apos cpos : Pos} (he : PE X e (tr (cx X W) f)) (hN : X.N[i]? = some x := by rfl) (hv : Vis X.env.scope x := by first | exact Or.inl rfl | exact Or.inr (Or.inl rfl) | exact Or.inr (Or.inr rfl)) (hd : (x == ("__debug__" : Str)) = false := by decide)
    (hcd : (x == ("__classdict__" : Str)) = false := by decide)
    (h1 : attributeBase (.Name x p) "append" X.env (eval (.Name x p) X.env) = eval (.Name x p) X.env := by rfl)
    (h2 : ((backTo cpos (starEach [e] X.env)).all (fun y => !y.1) && (backToKw cpos (keywordEach [] X.env)).all (fun y => y.1.isSome) && decide ([e].length + ([] : List Keyword).length + (if ([] : List Keyword).isEmpty then 0 else 1) < 30)) = true := by rfl)
    (h3 : (apos.endLine == cpos.line) = true := by rfl) (h4 : starEach [e] X.env = (false, eval e X.env) :: starEach [] X.env := by rfl) (h5 : (backTo cpos (starEach [] X.env)).any (·.1) = false := by rfl)
    (hs : swapsWith (.Call (.Attribute (.Name x p) "append" apos) [e] [] cpos) none pos.line X.env = pure false := by rfl) :
    PS X (.Expr (.Call (.Attribute (.Name x p) "append" apos) [e] [] cpos) pos) (trS (cx X W) H0 g0 (dApp i f)) := by
  refine PS.imp (ps_expr (pe_bm PySem.F.plainAttrs_list PySem.F.slot_list_append PySem.F.type_list_append mt_append (pe_var (i := i) hN hv hd hcd) (pa_cons he pa_nil h4) h1 h2 h3 h4 h5) hs) fun D σ H ⟨env, st, g, lo, R0, q⟩ => ?_
  obtain ⟨⟨l, vs, s1, hl⟩, q⟩ := chkL_ok R0 q
  refine ⟨_, s1, .inl ⟨rfl, vs, hl⟩, env, st, g, R0.rel, Post.mono (R0.part q) fun r g1 H1 ⟨st1, x, R1, q1⟩ v rv fr => ?_⟩
  obtain ⟨d, ek, q2⟩ := toKp_ok q1
  obtain ⟨g2, le, _, R2, hd2⟩ := R1.frz x R0.e R0.rel.sl rv fr ek
  obtain ⟨l', ws, xs, ys, s2, k1, k2, k3, k4⟩ := mutL_ok R2 q2
  rw [s1] at s2
  cases s2
  unfold pushL at k3
  split at k3
  · rename_i hz
    cases k3
    exact ⟨l, ws, v, rfl, rfl, k1, by rw [k2.length]; exact hz, k4 _ (k2.append (.cons hd2 .nil))⟩
  · cases k3
theorem toInt_ok {c : Ct} {st : Sto} {De : Ends} {r : R} {k : Int → M (Fl × En)} (q : PostS c H0 g0 lo ((toInt r >>= k) st) De) : ∃ j, r = .d (.int j) ∧ PostS c H0 g0 lo (k j st) De := by
  cases r with
  | d x => cases x with
    | int b => exact ⟨b, rfl, q⟩
    | _ => exact q.elim
  | _ => exact q.elim
theorem s_setIx (i : Nat) {x : Str} {p tpos : Pos} (he : PE X e (tr (cx X W) f)) (hk : PE X k (tr (cx X W) fk)) (hN : X.N[i]? = some x := by rfl) (hv : Vis X.env.scope x := by first | exact Or.inl rfl | exact Or.inr (Or.inl rfl) | exact Or.inr (Or.inr rfl)) (hd : (x == ("__debug__" : Str)) = false := by decide)
    (hcd : (x == ("__classdict__" : Str)) = false := by decide)
    (ha : ∀ v, assign (.Subscript (.Name x p) k tpos) X.env v = (do
      let ov ← holding [v] (eval (.Name x p) X.env)
      let iv ← holding [v, ov] (eval k X.env)
      standAt tpos
      holding [v, ov, iv] (setItem ov iv v)
      release [v, ov, iv] []) := by intro _; rfl)
    (hs : swapsWithSole [.Subscript (.Name x p) k tpos] e pos.line X.env = pure false := by rfl) (hw : swappedStores [.Subscript (.Name x p) k tpos] e X.env = pure none := by rfl)
    (h1 : (assignEach [.Subscript (.Name x p) k tpos] X.env).map (·.2) = [assign (.Subscript (.Name x p) k tpos) X.env] := by rfl) :
    PS X (.Assign [.Subscript (.Name x p) k tpos] e pos) (trS (cx X W) H0 g0 (dSetIx i fk f)) := by
  refine PS.imp (ps_asg he (pg_sub (pe_var (i := i) hN hv hd hcd) hk set_list ha) hs hw h1) fun D σ H ⟨env, st, g, lo, R0, q⟩ => ?_
  refine ⟨env, st, g, R0.rel, Post.mono (R0.part q) fun r g1 H1 ⟨st1, x, R1, q1⟩ v rv fr => ?_⟩
  obtain ⟨d, ek, q2⟩ := toKp_ok q1
  obtain ⟨g2, le, x2, R2, hd2⟩ := R1.frz x R0.e R0.rel.sl rv fr ek
  obtain ⟨⟨l, vs, s1, hl⟩, q3⟩ := chkL_ok R2 q2
  refine ⟨_, s1, env, st1, g2, R2.rel, Post.mono (R2.part q3) fun rk g3 H3 ⟨st3, x3, R3, q4⟩ vk rvk _ => ?_⟩
  obtain ⟨j, rfl, q5⟩ := toInt_ok q4
  obtain ⟨l', ws, xs, ys, s2, k1, k2, k3, k4⟩ := mutL_ok R3 q5
  rw [s1] at s2
  cases s2
  unfold setL at k3
  obtain ⟨m, e1, rfl⟩ := Option.map_eq_some_iff.mp k3
  exact ⟨l, ws, j, m, rfl, Df.int_inv rvk, k1, by rw [k2.length]; exact e1, k4 _ (k2.set (Df.le x3.le hd2) m)⟩
theorem toKey_ok {c : Ct} {st : Sto} {De : Ends} {r : R} {k : Key → M (Fl × En)} (q : PostS c H0 g0 lo ((toKey r >>= k) st) De) : ∃ x j, r = .d x ∧ keyOf x = some j ∧ PostS c H0 g0 lo (k j st) De := by
  rw [M.bind_ap] at q
  unfold toKey at q
  cases r with
  | d x =>
    simp only at q
    cases e : keyOf x with
    | none => rw [e] at q; exact q.elim
    | some j => rw [e] at q; exact ⟨x, j, rfl, e, q⟩
  | _ => exact q.elim
theorem dfk_any {k : Key} : ∀ {vs : List (Key × V)} {ds : List (Key × D)}, DfK K g vs ds → (vs.any fun kv => decide (kv.1 = k)) = ds.any fun kv => decide (kv.1 = k)
  | _, _, .nil => rfl
  | _, _, .cons _ t => by simp [dfk_any t]
theorem dfk_app : ∀ {vs ws : List (Key × V)} {ds es : List (Key × D)}, DfK K g vs ds → DfK K g ws es → DfK K g (vs ++ ws) (ds ++ es)
  | _, _, _, _, .nil, s => s
  | _, _, _, _, .cons r t, s => .cons r (dfk_app t s)
theorem dfk_map {k : Key} {v : V} {d : D} (hv : Df K g v d) : ∀ {vs : List (Key × V)} {ds : List (Key × D)}, DfK K g vs ds → DfK K g (vs.map fun kv => if kv.1 = k then (kv.1, v) else kv) (ds.map fun kv => if kv.1 = k then (kv.1, d) else kv)
  | _, _, .nil => .nil
  | _, _, .cons (k := k') r t => by
    by_cases e : k' = k
    · simp only [List.map_cons, e, if_true]
      exact .cons hv (dfk_map hv t)
    · simp only [List.map_cons, e, if_false]
      exact .cons r (dfk_map hv t)
theorem dfk_put {k : Key} {v : V} {d : D} {vs : List (Key × V)} {ds : List (Key × D)} (h : DfK K g vs ds) (hv : Df K g v d) : DfK K g (putK vs k v) (putD ds k d) := by
  unfold putK putD
  rw [dfk_any h]
  split
  · exact dfk_map hv h
  · exact dfk_app h (.cons hv .nil)
theorem s_put (hu : X.A.units + 64 < cLine) (i : Nat) {x : Str} {p tpos : Pos} (he : PE X e (tr (cx X W) f)) (hk : PE X k (tr (cx X W) fk)) (hN : X.N[i]? = some x := by rfl) (hv : Vis X.env.scope x := by first | exact Or.inl rfl | exact Or.inr (Or.inl rfl) | exact Or.inr (Or.inr rfl)) (hd : (x == ("__debug__" : Str)) = false := by decide)
    (hcd : (x == ("__classdict__" : Str)) = false := by decide) (hs : swapsWith e (some (.Subscript (.Name x p) k tpos)) pos.line X.env = pure false := by rfl) :
    PS X (.Assign [.Subscript (.Name x p) k tpos] e pos) (trS (cx X W) H0 g0 (dPut i fk f)) := by
  refine PS.imp (ps_dput (by omega) (pe_var (i := i) hN hv hd hcd) hk he hs) fun D σ H ⟨env, st, g, lo, R0, q⟩ => ?_
  refine ⟨env, st, g, R0.rel, Post.mono (R0.part q) fun r g1 H1 ⟨st1, x, R1, q1⟩ v rv fr => ?_⟩
  obtain ⟨d, ek, q2⟩ := toKp_ok q1
  obtain ⟨g2, le, x2, R2, hd2⟩ := R1.frz x R0.e R0.rel.sl rv fr ek
  obtain ⟨⟨l, vs, s1, hl⟩, q3⟩ := chkK_ok R2 q2
  refine ⟨_, s1, env, st1, g2, R2.rel, Post.mono (R2.part q3) fun rk g3 H3 ⟨st3, x3, R3, q4⟩ vk rvk _ => ?_⟩
  obtain ⟨y, j, rfl, ey, q5⟩ := toKey_ok q4
  obtain ⟨l', ws, xs, ys, s2, k1, k2, k3, k4⟩ := mutK_ok R3 q5
  rw [s1] at s2
  cases s2
  unfold putK? at k3
  split at k3
  · rename_i hz
    cases k3
    exact ⟨l, _, rfl, .inl ⟨ws, j, k1, keyOf_ok rvk ey, by rw [k2.length]; exact hz, rfl⟩, k4 _ (dfk_put k2 (Df.le x3.le hd2))⟩
  · cases k3

/-! ### d.update(e) -/
theorem mt_update : MtR X "dict.update" (fun x xs H Q => ∃ a b kvs more, x = .ref a ∧ xs = [.ref b] ∧ a ≠ b ∧ H a = some (.dK kvs) ∧ Rd H b (.dK more) ∧ kvs.length + more.length ≤ sizeLine ∧ Q .non (upd H a (.dK (mergeK kvs more)))) := by
  intro pins s σ H x xs v us Q I rx rxs ⟨a, b, kvs, more, ex, exs, hab, ha, hb, hz, q⟩
  subst ex exs
  obtain rfl : v = Value.ref a := rx
  rw [Vals.ref1 rxs]
  obtain ⟨z, hs, vs, rel, dd⟩ := dk_of I.hok ha
  obtain ⟨z2, hs2, vs2, rel2, dd2⟩ := dk_rd I.hok hb
  have l1 : kvs.length = vs.length := Paired.length rel
  have l2 : more.length = vs2.length := Paired.length rel2
  refine PySem.call_meetsIn PySem.F.slot_dict_update dd.typeIs PySem.F.entry_dict_update (PySem.F.args_dict_update_2 _ _) (PySem.meets_dict_update (mixKind X.prog X.w) a b hab hs2) ⟨vs, vs2, dd, dd2, by omega, fun h' d1 d2 sb => ?_⟩
  have mrg : ∀ {m : List (Key × V)} {m2 : List (Key × Value)} {k : List (Key × V)} {k2 : List (Key × Value)}, KV m m2 → KV k k2 → KV (mergeK k m) (PySem.merged k2 m2) ∧ (mergeK k m).length ≤ k.length + m.length := by
    intro m m2 k k2 hm
    induction hm generalizing k k2 with
    | nil => intro hk; exact ⟨hk, Nat.le_refl _⟩
    | cons hp t ih =>
      intro hk
      obtain ⟨e1, e2⟩ := hp
      rename_i p q _ _
      obtain ⟨p1, p2⟩ := p
      obtain ⟨q1, q2⟩ := q
      dsimp only at e1 e2
      subst e1
      obtain ⟨i1, i2⟩ := ih (hk.put p1 e2)
      refine ⟨i1, ?_⟩
      have := length_putK k p1 p2
      show (mergeK (putK k p1 p2) _).length ≤ _
      rw [List.length_cons]
      omega
  obtain ⟨m1, m2⟩ := mrg rel2 rel
  refine ⟨.non, _, d_write I (by rw [ha]; exact True.intro) sb (let ⟨q, _, _, hq, _⟩ := d1; ⟨q, hq⟩) (dk_new (by omega) hs m1 d1), rfl, q⟩
def mergeD (kvs more : List (Key × D)) : List (Key × D) := more.foldl (fun acc kv => putD acc kv.1 kv.2) kvs
theorem dfk_merge : ∀ {ws : List (Key × V)} {es : List (Key × D)} {vs : List (Key × V)} {ds : List (Key × D)}, DfK K g ws es → DfK K g vs ds → DfK K g (mergeK vs ws) (mergeD ds es)
  | _, _, _, _, .nil, k => k
  | _, _, _, _, .cons (k := x) a b, k => by
    have h := dfk_merge b (dfk_put (k := x) k a)
    exact h
def addK? (more kvs : List (Key × D)) : Option (List (Key × D)) := if kvs.length + more.length ≤ sizeLine then some (mergeD kvs more) else none
/-- x.update(e), x in slot i, e a new dict -/
def dUpd (i : Nat) (f : En → M R) : SM := fun env => chkK i env >>= fun _ => f env >>= fun r => match r with
  | .k true more => mutK i (addK? more) env
  | _ => M.no
theorem s_update (i : Nat) {x : Str} {p apos cpos : Pos} (he : PE X e (tr (cx X W) f)) (hN : X.N[i]? = some x := by rfl) (hv : Vis X.env.scope x := by first | exact Or.inl rfl | exact Or.inr (Or.inl rfl) | exact Or.inr (Or.inr rfl)) (hd : (x == ("__debug__" : Str)) = false := by decide)
    (hcd : (x == ("__classdict__" : Str)) = false := by decide)
    (h1 : attributeBase (.Name x p) "update" X.env (eval (.Name x p) X.env) = eval (.Name x p) X.env := by rfl)
    (h2 : ((backTo cpos (starEach [e] X.env)).all (fun y => !y.1) && (backToKw cpos (keywordEach [] X.env)).all (fun y => y.1.isSome) && decide ([e].length + ([] : List Keyword).length + (if ([] : List Keyword).isEmpty then 0 else 1) < 30)) = true := by rfl)
    (h3 : (apos.endLine == cpos.line) = true := by rfl) (h4 : starEach [e] X.env = (false, eval e X.env) :: starEach [] X.env := by rfl) (h5 : (backTo cpos (starEach [] X.env)).any (·.1) = false := by rfl)
    (hs : swapsWith (.Call (.Attribute (.Name x p) "update" apos) [e] [] cpos) none pos.line X.env = pure false := by rfl) :
    PS X (.Expr (.Call (.Attribute (.Name x p) "update" apos) [e] [] cpos) pos) (trS (cx X W) H0 g0 (dUpd i f)) := by
  refine PS.imp (ps_expr (pe_bm PySem.F.plainAttrs_dict PySem.F.slot_dict_update PySem.F.type_dict_update mt_update (pe_var (i := i) hN hv hd hcd) (pa_cons he pa_nil h4) h1 h2 h3 h4 h5) hs) fun D σ H ⟨env, st, g, lo, R0, q⟩ => ?_
  obtain ⟨⟨l, vs, s1, hl⟩, q⟩ := chkK_ok R0 q
  refine ⟨_, s1, .inr (.inr (.inl ⟨rfl, .inl ⟨vs, hl⟩⟩)), env, st, g, R0.rel, Post.mono (R0.part q) fun r g1 H1 ⟨st1, x, R1, q1⟩ v rv fr => ?_⟩
  split at q1
  · rename_i more
    obtain ⟨b, bs, rfl, b1, b2, b3, b4⟩ := rv
    obtain ⟨l', ws, xs, ys, s2, k1, k2, k3, k4⟩ := mutK_ok R1 q1
    rw [s1] at s2
    cases s2
    unfold addK? at k3
    split at k3
    · rename_i hz
      cases k3
      have ne : l ≠ b := fun z => by
        subst z
        rw [fr rfl l rfl] at hl
        cases hl
      exact ⟨l, b, ws, bs, rfl, rfl, ne, k1, .inl b1, by rw [k2.length, b4.length]; exact hz, k4 _ (dfk_merge b4 k2)⟩
    · cases k3
  · exact q1.elim
end
end N

/-! N10: targets, what is walked, loops. -/
namespace N
open PySem PySem.Spec L2

/-! ### targets -/
inductive Pat where
  | nm (i : Nat) | tp (ps : List Pat)
mutual
def asg : Pat → D → En → Option En
  | .nm i, x, env => some (env.set i (some (.d x)))
  | .tp ps, x, env => match x with
    | .tuple xs => asgs ps xs env
    | _ => none
def asgs : List Pat → List D → En → Option En
  | [], xs, env => match xs with
    | [] => some env
    | _ => none
  | p :: ps, xs, env => match xs with
    | x :: xs => (asg p x env).bind fun e => asgs ps xs e
    | [] => none
end
mutual
def Pat.slots : Pat → List Nat
  | .nm i => [i]
  | .tp ps => Pat.slotsL ps
def Pat.slotsL : List Pat → List Nat
  | [] => []
  | p :: ps => p.slots ++ Pat.slotsL ps
end
mutual
def gP (K : PySem.W.Frag) : Pat → TG
  | .nm i => gName i
  | .tp ps => gTup K ps.length (gPs K ps)
def gPs (K : PySem.W.Frag) : List Pat → TGs
  | [] => gNil
  | p :: ps => gCons (gP K p) (gPs K ps)
end
def OwnSub (env : En) (σ : L2.St) (env' : En) (σ' : L2.St) : Prop := ∀ (j : Nat) (r : R) (a : Addr), env'[j]? = some (some r) → r.own = true → σ'[j]? = some (some (V.ref a)) → env[j]? = some (some r) ∧ σ[j]? = some (some (V.ref a))
/-- σ' is σ but for the slots vs -/
def ButAt (vs : List Nat) (σ σ' : L2.St) : Prop := ∀ ws : List Nat, (∀ i ∈ vs, i ∈ ws) → wipe σ' ws = wipe σ ws
theorem wipe_at {σ : L2.St} : ∀ {vs : List Nat} (j : Nat), (wipe σ vs)[j]? = if j ∈ vs then (if j < σ.length then some none else none) else σ[j]?
  | [], j => by simp [wipe]
  | v :: vs, j => by
    unfold wipe
    rw [List.getElem?_set, wipe_length, wipe_at j]
    by_cases e : v = j
    · subst e
      simp
    · have e' : ¬ j = v := fun z => e z.symm
      simp [e, e', List.mem_cons]
theorem wipe_set {σ : L2.St} {i : Nat} {x : Option V} {ws : List Nat} (h : i ∈ ws) : wipe (σ.set i x) ws = wipe σ ws := by
  apply List.ext_getElem?
  intro j
  rw [wipe_at, wipe_at, List.length_set]
  split
  · rfl
  · rename_i hj
    rw [List.getElem?_set_ne]
    intro e
    subst e
    exact hj h
section
variable {K : PySem.W.Frag} {g : Gh} {st : Sto} {H : Hp}
theorem Rel.setD {env : En} {σ : L2.St} {v : V} {x : D} {i : Nat} (h : Rel K g env st σ H) (d : Df K g v x) : Rel K g (env.set i (some (.d x))) st (σ.set i (some v)) H where
  sub := h.sub
  slot := fun j r' e => by
    rcases set_get e with ⟨rfl, e, hl⟩ | ⟨hj, e⟩
    · cases e
      exact ⟨v, by rw [List.getElem?_set_self (by rw [← h.len]; exact hl)], d⟩
    · obtain ⟨w, h1, h2⟩ := h.slot j r' e
      exact ⟨w, by rw [List.getElem?_set_ne (Ne.symm hj)]; exact h1, h2⟩
  own := fun j k r1 r2 a e1 e2 o1 o2 s1 s2 => by
    rcases set_get e1 with ⟨rfl, q1, _⟩ | ⟨hj, q1⟩
    · cases q1; cases o1
    · rcases set_get e2 with ⟨rfl, q2, _⟩ | ⟨hk, q2⟩
      · cases q2; cases o2
      · rw [List.getElem?_set_ne (Ne.symm hj)] at s1
        rw [List.getElem?_set_ne (Ne.symm hk)] at s2
        exact h.own j k r1 r2 a q1 q2 o1 o2 s1 s2
  lb := h.lb
  obj := h.obj
  inj := h.inj
  refs := h.refs
  len := by rw [List.length_set, List.length_set]; exact h.len
theorem OwnSub.setD {env : En} {σ : L2.St} {v : V} {x : D} {i : Nat} : OwnSub env σ (env.set i (some (.d x))) (σ.set i (some v)) := fun j r a e o s => by
  rcases set_get e with ⟨rfl, e, hl⟩ | ⟨hj, e⟩
  · cases e; cases o
  · rw [List.getElem?_set_ne (Ne.symm hj)] at s
    exact ⟨e, s⟩
theorem OwnSub.trans {env e1 e2 : En} {σ s1 s2 : L2.St} (a : OwnSub env σ e1 s1) (b : OwnSub e1 s1 e2 s2) : OwnSub env σ e2 s2 := fun j r x e o s => by
  obtain ⟨k1, k2⟩ := b j r x e o s
  exact a j r x k1 o k2
theorem OwnSub.refl (env : En) (σ : L2.St) : OwnSub env σ env σ := fun _ _ _ e _ s => ⟨e, s⟩
mutual
theorem asg_ok : ∀ (p : Pat) (x : D) {env env' : En} {v : V} {σ : L2.St} {Q : L2.St → Hp → Prop}, Rel K g env st σ H → Df K g v x → asg p x env = some env' →
    (∀ σ', Rel K g env' st σ' H → OwnSub env σ env' σ' → ButAt p.slots σ σ' → Q σ' H) → gP K p v σ H Q
  | .nm i, x, env, env', v, σ, Q, h, d, e, k => by
    unfold asg at e
    cases e
    unfold gP
    exact k _ (h.setD d) OwnSub.setD fun ws hw => wipe_set (hw i (by simp [Pat.slots]))
  | .tp ps, x, env, env', v, σ, Q, h, d, e, k => by
    unfold asg at e
    split at e
    · rename_i xs
      obtain ⟨a, vs, rfl, h1, h2⟩ := Df.tup_inv d
      obtain ⟨e1, q⟩ := asgs_ok ps xs h h2 e (by unfold Pat.slots at k; exact k)
      unfold gP
      exact ⟨a, vs, rfl, h.sub.sqt h1, e1, q⟩
    · cases e
theorem asgs_ok : ∀ (ps : List Pat) (xs : List D) {env env' : En} {vs : List V} {σ : L2.St} {Q : L2.St → Hp → Prop}, Rel K g env st σ H → DfA K g vs xs → asgs ps xs env = some env' →
    (∀ σ', Rel K g env' st σ' H → OwnSub env σ env' σ' → ButAt (Pat.slotsL ps) σ σ' → Q σ' H) → vs.length = ps.length ∧ gPs K ps vs σ H Q
  | [], xs, env, env', vs, σ, Q, h, d, e, k => by
    unfold asgs at e
    split at e
    · cases e
      cases d
      unfold gPs
      exact ⟨rfl, rfl, k σ h (OwnSub.refl _ _) fun ws _ => rfl⟩
    · cases e
  | p :: ps, xs, env, env', vs, σ, Q, h, d, e, k => by
    unfold asgs at e
    split at e
    · rename_i x xs
      rw [Option.bind_eq_some_iff] at e
      obtain ⟨e1, h1, h2⟩ := e
      cases d with
      | cons d1 d2 =>
        rename_i v vs
        refine ⟨?_, ?_⟩
        · have : ∀ σ', Rel K g e1 st σ' H → vs.length = ps.length := fun σ' r => (asgs_ok ps xs (Q := fun _ _ => True) r d2 h2 fun _ _ _ _ => trivial).1
          have q : gP K p v σ H fun _ _ => vs.length = ps.length := asg_ok p x h d1 h1 fun σ' r _ _ => this σ' r
          have := lenOf h2 (DfA.length d2)
          simp [this]
        · unfold gPs
          refine ⟨v, vs, rfl, asg_ok p x h d1 h1 fun σ1 r1 o1 b1 => ?_⟩
          refine (asgs_ok ps xs r1 d2 h2 fun σ2 r2 o2 b2 => k σ2 r2 (o1.trans o2) fun ws hw => ?_).2
          unfold Pat.slotsL at hw
          rw [b2 ws fun i hi => hw i (List.mem_append_right _ hi), b1 ws fun i hi => hw i (List.mem_append_left _ hi)]
    · cases e
theorem lenOf : ∀ {ps : List Pat} {xs : List D} {env env' : En} {n : Nat}, asgs ps xs env = some env' → n = xs.length → n = ps.length
  | [], xs, env, env', n, e, hn => by
    unfold asgs at e
    split at e
    · exact hn
    · cases e
  | p :: ps, xs, env, env', n, e, hn => by
    unfold asgs at e
    split at e
    · rename_i x xs
      rw [Option.bind_eq_some_iff] at e
      obtain ⟨e1, h1, h2⟩ := e
      have := lenOf h2 (n := xs.length) rfl
      simp at hn
      simp [hn, this]
    · cases e
end
end
section
variable {X : Cx} {pos : Pos}
theorem g_nm (i : Nat) {x : Str} (hN : X.N.Nodup) (hi : X.N[i]? = some x := by rfl) (hx : L2.Loc X.env.scope x := by first | exact .inl rfl | exact .inr rfl) (hf : X.fn x = true ∨ X.env.scope.names.lookup x = some .local := by first | exact .inl rfl | exact .inr rfl | assumption) : PG X (.Name x pos) (gP X.K (.nm i)) := by
  unfold gP
  exact pg_name hN hi hx hf
theorem gs_nil : PGs X [] (gPs X.K []) := by
  unfold gPs
  exact pgs_nil
theorem gs_cons {e : Expr} {es : List Expr} {p : Pat} {ps : List Pat} (h : PG X e (gP X.K p)) (h2 : PGs X es (gPs X.K ps)) (hs : (assignEach (e :: es) X.env).map (·.2) = assign e X.env :: (assignEach es X.env).map (·.2) := by rfl) : PGs X (e :: es) (gPs X.K (p :: ps)) := by
  unfold gPs
  exact pgs_cons h h2 hs
theorem g_tp {es : List Expr} {k : Nat} {ps : List Pat} (hc : X.calm = true) (h : PGs X es (gPs X.K ps)) (hn : (assignEach es X.env).length = ps.length := by rfl) (hst : (assignEach es X.env).findIdx? (·.1) = none := by rfl) : PG X (.Tuple es k pos) (gP X.K (.tp ps)) := by
  unfold gP
  exact pg_tup hc h hn hst
end

/-! ### what is walked -/
def Yd (K : PySem.W.Frag) (g : Gh) (H : Hp) (v : V) (H' : Hp) (x : D) : Prop := (H' = H ∧ Df K g v x) ∨ ∃ p ys, H p = none ∧ H' = upd H p (.tup ys) ∧ Df K (g.put p (.tup ys)) v x
structure Walks (K : PySem.W.Frag) (J : It) (g : Gh) (xs : List D) : Prop where
  stop : ∀ g' H' i, Le g g' → Sub g'.G H' → xs.length ≤ i → J.stop i H'
  go : ∀ g' H' i x, Le g g' → Sub g'.G H' → xs[i]? = some x → J.go i H' ∧ ∀ v H'', J.yld i H' v H'' → Yd K g' H' v H'' x
structure WalksE (K : PySem.W.Frag) (J : It) (H : Hp) (g : Gh) (xs : List D) : Prop where
  stop : ∀ g' H' i, Ext H g H' g' → Sub g'.G H' → xs.length ≤ i → J.stop i H'
  go : ∀ g' H' i x, Ext H g H' g' → Sub g'.G H' → xs[i]? = some x → J.go i H' ∧ ∀ v H'', J.yld i H' v H'' → Yd K g' H' v H'' x
def trI (c : Ct) (f : En → M (List D)) : TI := fun σ H Rr => ∃ env st g, Rel c.K g env st σ H ∧ Post c env σ H g (f env st) fun xs g1 H1 => ∀ J, Walks c.K J g1 xs → Rr J H1
def trIE (c : Ct) (f : En → M (List D)) : TI := fun σ H Rr => ∃ env st g, Rel c.K g env st σ H ∧ Post c env σ H g (f env st) fun xs g1 H1 => ∀ J, WalksE c.K J H1 g1 xs → Rr J H1
theorem Walks.toE {K : PySem.W.Frag} {J : It} {H : Hp} {g : Gh} {xs : List D} (w : Walks K J g xs) : WalksE K J H g xs :=
  ⟨fun g' H' i x s h => w.stop g' H' i x.le s h, fun g' H' i y x s h => w.go g' H' i y x.le s h⟩
section
variable {X : Cx} {W : String → L2.St → Hp → Prop} {pos : Pos} {tg e : Expr} {f : En → M (List D)} {K : PySem.W.Frag} {g : Gh} {H : Hp}
theorem i_E (h : PI X tg e (trI (cx X W) f)) : PI X tg e (trIE (cx X W) f) := PI.imp h fun σ H Rr ⟨env, st, g, R0, q⟩ => ⟨env, st, g, R0, Post.mono q fun xs g1 H1 k J w => k J w.toE⟩
theorem walks_list {a : Addr} {vs : List V} {xs : List D} (h1 : SqL K g.G a vs) (h2 : DfA K g vs xs) : Walks K (Itl K a) g xs where
  stop := fun g' H' i le s hl => ⟨vs, s.sql (sql_le le h1), by rw [h2.length]; exact hl⟩
  go := fun g' H' i x le s e => by
    obtain ⟨v, k1, k2⟩ := h2.get e
    have q := s.sql (sql_le le h1)
    refine ⟨⟨vs, v, q, k1⟩, fun w H'' ⟨y1, y2⟩ => .inl ⟨y1, ?_⟩⟩
    have := y2 vs q
    rw [k1] at this
    cases this
    exact Df.le le k2
theorem walks_tup {a : Addr} {vs : List V} {xs : List D} (h1 : SqT K g.G a vs) (h2 : DfA K g vs xs) : Walks K (Itt K a) g xs where
  stop := fun g' H' i le s hl => ⟨vs, s.sqt (sqt_le le h1), by rw [h2.length]; exact hl⟩
  go := fun g' H' i x le s e => by
    obtain ⟨v, k1, k2⟩ := h2.get e
    have q := s.sqt (sqt_le le h1)
    refine ⟨⟨vs, v, q, k1⟩, fun w H'' ⟨y1, y2⟩ => .inl ⟨y1, ?_⟩⟩
    have := y2 vs q
    rw [k1] at this
    cases this
    exact Df.le le k2
/-- a list that is no frozen one, as long as expressions run -/
theorem walksE_list {a : Addr} {vs : List V} {xs : List D} (h1 : ∀ g' H', Ext H g H' g' → Sub g'.G H' → SqL K H' a vs) (h2 : DfA K g vs xs) : WalksE K (Itl K a) H g xs where
  stop := fun g' H' i x s hl => ⟨vs, h1 g' H' x s, by rw [h2.length]; exact hl⟩
  go := fun g' H' i x x' s e => by
    obtain ⟨v, k1, k2⟩ := h2.get e
    have q := h1 g' H' x' s
    refine ⟨⟨vs, v, q, k1⟩, fun w H'' ⟨y1, y2⟩ => .inl ⟨y1, ?_⟩⟩
    have := y2 vs q
    rw [k1] at this
    cases this
    exact Df.le x'.le k2
def signs (x : Str) : List D := x.cps.toList.map fun c => .str ⟨#[c]⟩
theorem walks_str (x : Str) : Walks K (Its x) g (signs x) where
  stop := fun g' H' i le s hl => by
    show x.cps.size ≤ i
    simpa [signs] using hl
  go := fun g' H' i y le s e => by
    unfold signs at e
    rw [List.getElem?_map, Option.map_eq_some_iff] at e
    obtain ⟨k, e1, rfl⟩ := e
    have hl : i < x.cps.size := by
      have := (List.getElem?_eq_some_iff.mp e1).1
      simpa using this
    refine ⟨hl, fun v H'' ⟨y1, k', y2, y3⟩ => .inl ⟨y1, ?_⟩⟩
    rw [Array.getElem?_toList] at e1
    rw [e1] at y2
    cases y2
    rw [y3]
    exact .str _
theorem walks_range (lo : Int) (n : Nat) : Walks K (Itr lo n) g ((List.range n).map fun i => .int (lo + (i : Nat))) where
  stop := fun g' H' i le s hl => by
    show n ≤ i
    simpa using hl
  go := fun g' H' i y le s e => by
    rw [List.getElem?_map, Option.map_eq_some_iff] at e
    obtain ⟨k, e1, rfl⟩ := e
    obtain ⟨hl, e2⟩ := List.getElem?_eq_some_iff.mp e1
    simp at hl e2
    subst e2
    refine ⟨hl, fun v H'' ⟨y1, y2⟩ => .inl ⟨y1, ?_⟩⟩
    rw [y2]
    exact .int _
end
end N

/-! N11: what is walked, by expressions; for, while; several targets. -/
namespace N
open PySem PySem.Spec L2

/-- a dict that was born frozen -/
def dF? : D → Option (List (Key × D))
  | .dict ((.none, .bool true) :: t) => unKeys t
  | _ => none
def keysD (ds : List (Key × D)) : List D := ds.map fun p => kD p.1
/-- the items of what a for walks: a new list is frozen by it -/
def itemsS : R → M (List D) := fun r st => match r with
  | .l true xs => .ok xs st
  | .d (.list xs) => .ok xs st
  | .d (.tuple xs) => .ok xs st
  | .d (.str z) => .ok (signs z) st
  | .d x => match dF? x with
    | some ds => .ok (keysD ds) st
    | none => .no
  | _ => .no
/-- .. what a comprehension walks: a slot's own list, too -/
def itemsE : R → M (List D) := fun r st => match r with
  | .l _ xs => .ok xs st
  | .d (.list xs) => .ok xs st
  | .d (.tuple xs) => .ok xs st
  | .d (.str z) => .ok (signs z) st
  | .d x => match dF? x with
    | some ds => .ok (keysD ds) st
    | none => .no
  | _ => .no
def dItS (f : En → M R) : En → M (List D) := fun env => f env >>= itemsS
def dItE (f : En → M R) : En → M (List D) := fun env => f env >>= itemsE
def iSeq (K : PySem.W.Frag) (tl : TE) : TI := fun σ H Rr => tl σ H fun x H1 => (∃ a, x = .ref a ∧ (∃ xs, SqL K H1 a xs) ∧ Rr (Itl K a) H1) ∨ (∃ a, x = .ref a ∧ (∃ xs, SqT K H1 a xs) ∧ Rr (Itt K a) H1) ∨ (∃ z, x = .str z ∧ Rr (Its z) H1) ∨ ∃ d o kvs, x = .ref d ∧ H1 d = some (.frz o (.dK kvs)) ∧ Rr (Itk d o kvs) H1
section
variable {X : Cx} {W : String → L2.St → Hp → Prop} {pos : Pos} {tg e : Expr} {f : En → M R} {K : PySem.W.Frag} {g : Gh} {H : Hp}
theorem pi_seq {l : Expr} {tl : TE} (hl : PE X l tl) : PI X tg l (iSeq X.K tl) := by
  refine ⟨fun pins s σ H Rr I h => thn (hl.run pins s σ H _ I h) fun u s1 ⟨x, H1, I1, ru, q⟩ => ?_⟩
  have fr := I1.hok.fresh (Nat.le_refl s1.heap.objs.size)
  have one : ∀ b ∈ [s1.heap.objs.size], FpOk X pins H1 b := fun b hb => by
    rw [List.mem_singleton] at hb
    rw [hb]
    exact I1.fpOk (Nat.le_refl _) fr
  rcases q with ⟨a, rfl, ⟨xs, hq⟩, q⟩ | ⟨a, rfl, ⟨xs, hq⟩, q⟩ | ⟨z, rfl, q⟩ | ⟨d, o, kvs, rfl, hd, q⟩
  · obtain ⟨its, rv, pl, _⟩ := I1.list hq
    obtain rfl : u = Value.ref a := ru
    exact wpAny_pyIter_list pl.isList ⟨_, [s1.heap.objs.size], _, _, H1, rfl, I1.kept (t' := s1.toks) (fun b o eb => Heap.get?_push_of_some _ eb), turn_list a _, ⟨_, Heap.get?_push_size _ rfl, rfl, rfl⟩, one, q⟩
  · obtain ⟨its, rv, pl, _⟩ := I1.tuple hq
    obtain rfl : u = Value.ref a := ru
    exact wpAny_pyIter_tuple (show s1.heap.IsTuple a its.toArray from pl) ⟨_, [s1.heap.objs.size], _, _, H1, rfl, I1.kept (t' := s1.toks) (fun b o eb => Heap.get?_push_of_some _ eb), turn_tuple a _, ⟨_, Heap.get?_push_size _ rfl, rfl, rfl⟩, one, q⟩
  · obtain ⟨t, rfl⟩ := ru
    cases hz : z.cps.all (· < 128) with
    | true => exact wpAny_pyIter_ascii hz (pi_one (tk := s1.toks) I1 _ (turn_str _ z t "str_ascii_iterator" (.inl rfl)) ⟨_, Heap.get?_push_size _ rfl, rfl, rfl⟩ q)
    | false => exact wpAny_pyIter_wide hz (pi_one (tk := s1.toks) I1 _ (turn_str _ z t "str_iterator" (.inr rfl)) ⟨_, Heap.get?_push_size _ rfl, rfl, rfl⟩ q)
  · obtain rfl : u = Value.ref d := ru
    obtain ⟨hs, hgd, hx, es, ep, vs, hdt, hsz, kv, hm⟩ := I1.frzK hd
    refine iter_keys hs hgd hx hdt (pi_one (tk := s1.toks) I1 _ (turn_keys _ hdt) ⟨_, Heap.get?_push_size _ rfl, rfl, ?_⟩ q)
    rw [hsz] <;> rfl
theorem dfk_at {K : PySem.W.Frag} {g : Gh} : ∀ {vs : List (Key × V)} {ds : List (Key × D)}, DfK K g vs ds → vs.length = ds.length ∧ ∀ (i : Nat) (k : Key) (v : V), vs[i]? = some (k, v) → ∃ d, ds[i]? = some (k, d)
  | _, _, .nil => ⟨rfl, fun i k v e => by simp at e⟩
  | _, _, .cons (k := k0) (d := d0) a t => by
    obtain ⟨h1, h2⟩ := dfk_at t
    refine ⟨by rw [List.length_cons, List.length_cons, h1], fun i k v e => ?_⟩
    cases i with
    | zero =>
      simp only [List.getElem?_cons_zero, Option.some.injEq, Prod.mk.injEq] at e
      exact ⟨d0, by rw [← e.1]; rfl⟩
    | succ i =>
      obtain ⟨d, e2⟩ := h2 i k v (by simpa using e)
      exact ⟨d, by simpa using e2⟩
theorem walks_dict {K : PySem.W.Frag} {g : Gh} {a : Addr} {o : Obj} {vs : List (Key × V)} {ds : List (Key × D)} (h1 : g.G a = some (.frz o (.dK vs))) (h2 : DfK K g vs ds) : Walks K (Itk a o vs) g (keysD ds) where
  stop := fun g' H' i le s hl => by
    refine ⟨?_, by rw [(dfk_at h2).1]; simpa [keysD] using hl⟩
    rcases s _ _ (le.G _ _ h1) with z | ⟨_, _, z, _⟩
    · exact z
    · cases z
  go := fun g' H' i x le s e => by
    have hH : H' a = some (.frz o (.dK vs)) := by
      rcases s _ _ (le.G _ _ h1) with z | ⟨_, _, z, _⟩
      · exact z
      · cases z
    obtain ⟨l1, l2⟩ := dfk_at h2
    have hi : i < ds.length := by
      have := (List.getElem?_eq_some_iff.mp e).1
      simpa [keysD] using this
    refine ⟨⟨hH, by rw [l1]; exact hi⟩, fun w H'' ⟨y1, k, v, y2, y3⟩ => .inl ⟨y1, ?_⟩⟩
    obtain ⟨d, e2⟩ := l2 i k v y2
    unfold keysD at e
    rw [List.getElem?_map, e2] at e
    cases e
    rw [y3]
    cases k with
    | inl j => exact .int j
    | inr z => exact .str z
theorem dF_inv {K : PySem.W.Frag} {g : Gh} {v : V} {x : D} {ds : List (Key × D)} (h : Df K g v x) (e : dF? x = some ds) : ∃ a o vs, v = .ref a ∧ g.G a = some (.frz o (.dK vs)) ∧ DfK K g vs ds := by
  unfold dF? at e
  split at e
  · rename_i t
    generalize hx : PyData.dict ((.none, .bool true) :: t) = x at h
    cases h with
    | dct h1 h2 =>
      rename_i vs ds'
      have hx' : ((PyData.none, PyData.bool true) :: t) = ds'.map fun p => (kD p.1, p.2) := by simpa using hx
      cases ds' with
      | nil => cases hx'
      | cons p t =>
        simp only [List.map_cons, List.cons.injEq, Prod.mk.injEq] at hx'
        exact absurd hx'.1.1.symm (kD_ne _)
    | dctF h1 h2 =>
      simp only [PyData.dict.injEq, List.cons.injEq, true_and] at hx
      subst hx
      rw [unKeys_map] at e
      cases e
      exact ⟨_, _, _, rfl, h1, h2⟩
    | rf k hk => simp [rf] at hx
    | _ => cases hx
  · cases e
theorem i_seq (he : PE X e (tr (cx X W) f)) : PI X tg e (trI (cx X W) (dItS f)) := by
  refine PI.imp (pi_seq he) fun σ H Rr ⟨env, st, g, R0, q⟩ => ⟨env, st, g, R0, Post.mono (Post.bind (.refl H g) q) fun r g1 H1 ⟨st1, _, R1, x, _, q⟩ v rv fr => ?_⟩
  unfold itemsS at q
  split at q
  · rename_i xs
    obtain ⟨a, vs, rfl, k1, k2, k3, k4⟩ := rv
    have b : Bs (cx X W) H1 env σ st1 (g1.put a (.lst vs)) H g := Bs.frz ⟨x, R1, R0.sl⟩ k1 (fr rfl a rfl) k2 k3
    exact .inl ⟨a, rfl, ⟨vs, .inl (.inl k1)⟩, q _ _ b.e b.rel _ (walks_list sql_put (DfA.le (Le.put k2) k4))⟩
  · obtain ⟨a, vs, rfl, h1, h2⟩ := Df.list_inv rv
    exact .inl ⟨a, rfl, ⟨vs, R1.sub.sql h1⟩, q g1 H1 x R1 _ (walks_list h1 h2)⟩
  · obtain ⟨a, vs, rfl, h1, h2⟩ := Df.tup_inv rv
    exact .inr (.inl ⟨a, rfl, ⟨vs, R1.sub.sqt h1⟩, q g1 H1 x R1 _ (walks_tup h1 h2)⟩)
  · obtain rfl := Df.str_inv rv
    exact .inr (.inr (.inl ⟨_, rfl, q g1 H1 x R1 _ (walks_str _)⟩))
  · split at q
    · rename_i ds ed
      obtain ⟨a, o, vs, rfl, h1, h2⟩ := dF_inv rv ed
      have hH : H1 a = some (.frz o (.dK vs)) := by
        rcases R1.sub _ _ h1 with z | ⟨_, _, z, _⟩
        · exact z
        · cases z
      exact .inr (.inr (.inr ⟨a, o, vs, rfl, hH, q g1 H1 x R1 _ (walks_dict h1 h2)⟩))
    · exact q.elim
  · exact q.elim
theorem i_seqE (he : PE X e (tr (cx X W) f)) : PI X tg e (trIE (cx X W) (dItE f)) := by
  refine PI.imp (pi_seq he) fun σ H Rr ⟨env, st, g, R0, q⟩ => ⟨env, st, g, R0, Post.mono (Post.bind (.refl H g) q) fun r g1 H1 ⟨st1, _, R1, x, _, q⟩ v rv fr => ?_⟩
  unfold itemsE at q
  split at q
  · rename_i f xs
    obtain ⟨a, vs, rfl, k1, k2, k3, k4⟩ := rv
    exact .inl ⟨a, rfl, ⟨vs, .inl (.inl k1)⟩, q g1 H1 x R1 _ (walksE_list (fun g' H' x' s => .inl (.inl (x'.ownKeep k1 k2 k3).1)) k4)⟩
  · obtain ⟨a, vs, rfl, h1, h2⟩ := Df.list_inv rv
    exact .inl ⟨a, rfl, ⟨vs, R1.sub.sql h1⟩, q g1 H1 x R1 _ (walks_list h1 h2).toE⟩
  · obtain ⟨a, vs, rfl, h1, h2⟩ := Df.tup_inv rv
    exact .inr (.inl ⟨a, rfl, ⟨vs, R1.sub.sqt h1⟩, q g1 H1 x R1 _ (walks_tup h1 h2).toE⟩)
  · obtain rfl := Df.str_inv rv
    exact .inr (.inr (.inl ⟨_, rfl, q g1 H1 x R1 _ (walks_str _).toE⟩))
  · split at q
    · rename_i ds ed
      obtain ⟨a, o, vs, rfl, h1, h2⟩ := dF_inv rv ed
      have hH : H1 a = some (.frz o (.dK vs)) := by
        rcases R1.sub _ _ h1 with z | ⟨_, _, z, _⟩
        · exact z
        · cases z
      exact .inr (.inr (.inr ⟨a, o, vs, rfl, hH, q g1 H1 x R1 _ (walks_dict h1 h2).toE⟩))
    · exact q.elim
  · exact q.elim

/-! ### range, zip, enumerate -/
def inR (i : Int) : Bool := decide (-4611686018427387904 ≤ i) && decide (i < 4611686018427387904)
def rng (lo hi : Int) : List D := (List.range (hi - lo).toNat).map fun i => .int (lo + (i : Nat))
def itR1 (rs : List R) : M (List D) := fun st => match rs with
  | [.d (.int j)] => if inR j = true then .ok (rng 0 j) st else .no
  | _ => .no
def itR2 (rs : List R) : M (List D) := fun st => match rs with
  | [.d (.int i), .d (.int j)] => if inR i = true ∧ inR j = true then .ok (rng i j) st else .no
  | _ => .no
def dItC (op : List R → M (List D)) (fs : En → M (List R)) : En → M (List D) := fun env => fs env >>= op
variable {es : List Expr} {fs : En → M (List R)} {p : Pos} {a b : Expr}
theorem inR_ok {i : Int} (h : inR i = true) : -(2 ^ 62) ≤ i ∧ i < 2 ^ 62 := by
  simp only [inR, Bool.and_eq_true, decide_eq_true_eq] at h
  omega
theorem itR1_ok {c : Ct} {env : En} {σ : L2.St} {st : Sto} {rs : List R} {P : List D → Gh → Hp → Prop} (q : Post c env σ H g (itR1 rs st) P) : ∃ j, rs = [.d (.int j)] ∧ inR j = true ∧ Post c env σ H g (.ok (rng 0 j) st) P := by
  unfold itR1 at q
  split at q
  · split at q
    · exact ⟨_, rfl, by assumption, q⟩
    · exact q.elim
  · exact q.elim
theorem itR2_ok {c : Ct} {env : En} {σ : L2.St} {st : Sto} {rs : List R} {P : List D → Gh → Hp → Prop} (q : Post c env σ H g (itR2 rs st) P) : ∃ i j, rs = [.d (.int i), .d (.int j)] ∧ inR i = true ∧ inR j = true ∧ Post c env σ H g (.ok (rng i j) st) P := by
  unfold itR2 at q
  split at q
  · split at q
    · rename_i ho
      exact ⟨_, _, rfl, ho.1, ho.2, q⟩
    · exact q.elim
  · exact q.elim
theorem i_range1 (hg : Gl X "range") (hm : X.mg "range" = none) (ha : PA X [a] (trA (cx X W) fs)) (hs : starEach [a] X.env = [(false, eval a X.env)] := by rfl) : PI X tg (.Call (.Name "range" p) [a] [] pos) (trI (cx X W) (dItC itR1 fs)) := by
  refine PI.imp (pi_range1 hg hm ha hs) fun σ H Rr ⟨env, st, g, R0, q⟩ => ⟨env, st, g, R0, Post.mono (Post.bind (.refl H g) q) fun rs g1 H1 ⟨st1, _, R1, x, _, q⟩ vs rv fr => ?_⟩
  obtain ⟨j, rfl, ho, q⟩ := itR1_ok q
  obtain ⟨v, rfl, h1⟩ := rvl1 rv
  obtain ⟨k1, k2⟩ := inR_ok ho
  have w := walks_range (K := X.K) (g := g1) 0 j.toNat
  refine ⟨j, by rw [Df.int_inv h1], k1, k2, q g1 H1 x R1 _ ?_⟩
  have e : (j - 0).toNat = j.toNat := by simp
  unfold rng
  rw [e]; exact w
theorem i_range2 (hg : Gl X "range") (hm : X.mg "range" = none) (ha : PA X [a, b] (trA (cx X W) fs)) (hs : starEach [a, b] X.env = [(false, eval a X.env), (false, eval b X.env)] := by rfl) (hs2 : starEach [b] X.env = [(false, eval b X.env)] := by rfl) : PI X tg (.Call (.Name "range" p) [a, b] [] pos) (trI (cx X W) (dItC itR2 fs)) := by
  refine PI.imp (pi_range2 hg hm ha hs hs2) fun σ H Rr ⟨env, st, g, R0, q⟩ => ⟨env, st, g, R0, Post.mono (Post.bind (.refl H g) q) fun rs g1 H1 ⟨st1, _, R1, x, _, q⟩ vs rv fr => ?_⟩
  obtain ⟨i, j, rfl, ho1, ho2, q⟩ := itR2_ok q
  obtain ⟨v, w, rfl, h1, h2⟩ := rvl2 rv
  obtain ⟨k1, k2⟩ := inR_ok ho1
  obtain ⟨k3, k4⟩ := inR_ok ho2
  exact ⟨i, j, by rw [Df.int_inv h1, Df.int_inv h2], ⟨k1, k2, k3, k4⟩, q g1 H1 x R1 _ (walks_range i (j - i).toNat)⟩
def zipD : List D → List D → List D
  | x :: xs, y :: ys => .tuple [x, y] :: zipD xs ys
  | _, _ => []
theorem zipD_get : ∀ {xs ys : List D} {i : Nat} {z : D}, (zipD xs ys)[i]? = some z → ∃ x y, xs[i]? = some x ∧ ys[i]? = some y ∧ z = .tuple [x, y]
  | x :: xs, y :: ys, 0, z, e => by simp [zipD] at e; exact ⟨x, y, rfl, rfl, e.symm⟩
  | x :: xs, y :: ys, i + 1, z, e => by
    obtain ⟨x', y', h1, h2, h3⟩ := zipD_get (xs := xs) (ys := ys) (i := i) (z := z) (by simpa [zipD] using e)
    exact ⟨x', y', by simpa using h1, by simpa using h2, h3⟩
  | [], _, _, _, e => by simp [zipD] at e
  | _ :: _, [], _, _, e => by simp [zipD] at e
theorem zipD_len : ∀ {xs ys : List D} {i : Nat}, (zipD xs ys).length ≤ i → xs.length ≤ i ∨ ys.length ≤ i
  | x :: xs, y :: ys, 0, e => by simp [zipD] at e
  | x :: xs, y :: ys, i + 1, e => by
    have := zipD_len (xs := xs) (ys := ys) (i := i) (by simpa [zipD] using e)
    simpa using this
  | [], _, _, _ => by simp
  | _ :: _, [], _, _ => by simp
def noTup (xs : List D) : Bool := xs.all fun x => headW [x]
theorem noTup_at {xs : List D} {i : Nat} {x : D} (h : noTup xs = true) (e : xs[i]? = some x) (y : D) : headW [x, y] = true := by
  have := List.all_eq_true.mp h x (List.mem_of_getElem? e)
  cases x <;> first | rfl | exact this
def itZip (rs : List R) : M (List D) := fun st => match rs with
  | [a, b] => match a.lst? st, b.lst? st with
    | some xs, some ys => match a, b with
      | .d (.dict _), _ => .no
      | _, .d (.dict _) => .no
      | _, _ => if noTup xs = true then .ok (zipD xs ys) st else .no
    | _, _ => match a, b with
      | .d (.tuple xs), .d (.tuple ys) => if noTup xs = true then .ok (zipD xs ys) st else .no
      | _, _ => .no
  | _ => .no
/-- a list that is no object of the store stands as long as expressions run -/
theorem lst_stay {env : En} {st : Sto} {σ : L2.St} {v : V} {r : R} {ds : List D} (R0 : Rel K g env st σ H) (rv : Rv K g H v r) (e : r.lst? st = some ds) (nr : ∀ kvs, r ≠ .d (.dict kvs)) :
    ∃ a vs, v = .ref a ∧ DfA K g vs ds ∧ SqL K H a vs ∧ ∀ g' H', Ext H g H' g' → Sub g'.G H' → SqL K H' a vs := by
  cases r with
  | l f xs =>
    cases e
    obtain ⟨a, vs, rfl, k1, k2, k3, k4⟩ := rv
    exact ⟨a, vs, rfl, k4, .inl (.inl k1), fun g' H' x' s => .inl (.inl (x'.ownKeep k1 k2 k3).1)⟩
  | k f xs => cases e
  | d x =>
    cases x with
    | list xs =>
      cases e
      obtain ⟨a, vs, rfl, h1, h2⟩ := Df.list_inv rv
      exact ⟨a, vs, rfl, h2, R0.sub.sql h1, fun g' H' x' s => s.sql (sql_le x'.le h1)⟩
    | dict kvs => exact absurd rfl (nr kvs)
    | _ => exact absurd e (by unfold R.lst?; simp [refOf])
theorem yd_pair {K : PySem.W.Frag} {g' : Gh} {H' H'' : Hp} {v : V} {T : Addr} {x y : V} {dx dy : D} (hw : headW [dx, dy] = true) (hs : Sub g'.G H') (hT : H' T = none) (e1 : v = .ref T) (e2 : H'' = upd H' T (.tup [x, y])) (hx : Df K g' x dx) (hy : Df K g' y dy) : Yd K g' H' v H'' (.tuple [dx, dy]) := by
  subst e1 e2
  have hg : g'.G T = none := by
    cases q : g'.G T with
    | none => rfl
    | some o => exact absurd hT (hs.there (by rw [q]; simp))
  exact .inr ⟨T, [x, y], hT, rfl, .tup sqt_put (.inr hw) (.cons (Df.le (Le.put hg) hx) (.cons (Df.le (Le.put hg) hy) .nil))⟩
theorem i_zip {elts : List Expr} {kk : Nat} {tpos : Pos} (hg : Gl X "zip") (hm : X.mg "zip" = none) (ha : PA X [a, b] (trA (cx X W) fs))
    (hs : starEach [a, b] X.env = (false, eval a X.env) :: starEach [b] X.env := by rfl) (hpl : (backTo pos (starEach [b] X.env)).any (·.1) = false := by rfl) : PI X (.Tuple elts kk tpos) (.Call (.Name "zip" p) [a, b] [] pos) (trIE (cx X W) (dItC itZip fs)) := by
  refine PI.imp (RZ.pi_zipA hg hm ha hs hpl) fun σ H Rr ⟨env, st, g, R0, q⟩ => ⟨env, st, g, R0, Post.mono (Post.bind (.refl H g) q) fun rs g1 H1 ⟨st1, _, R1, x, _, q⟩ vs rv fr => ?_⟩
  unfold itZip at q
  split at q
  · rename_i r1 r2
    obtain ⟨v, w, rfl, h1, h2⟩ := rvl2 rv
    split at q
    · rename_i xs ys e1 e2
      split at q
      · exact q.elim
      · exact q.elim
      · rename_i n1 n2
        split at q
        · rename_i ho
          obtain ⟨a, as, rfl, a1, a2, a3⟩ := lst_stay R1 h1 e1 fun kvs z => n1 kvs z
          obtain ⟨b, bs, rfl, b1, b2, b3⟩ := lst_stay R1 h2 e2 fun kvs z => n2 kvs z
          refine ⟨a, b, as, bs, rfl, .inl ⟨a2, b2, q g1 H1 x R1 _ ⟨fun g' H' i x' s hl => ?_, fun g' H' i z x' s e => ?_⟩⟩⟩
          · refine ⟨as, bs, a3 g' H' x' s, b3 g' H' x' s, ?_⟩
            rw [a1.length, b1.length]
            exact zipD_len hl
          · obtain ⟨y1, y2, f1, f2, rfl⟩ := zipD_get e
            obtain ⟨v1, l1, d1⟩ := a1.get f1
            obtain ⟨v2, l2, d2⟩ := b1.get f2
            refine ⟨⟨as, bs, v1, v2, a3 g' H' x' s, b3 g' H' x' s, l1, l2⟩, fun u H'' ⟨T, u1, u2, e1, e2, e3, e4, e5⟩ => ?_⟩
            have c1 := e4 as (a3 g' H' x' s)
            have c2 := e5 bs (b3 g' H' x' s)
            rw [l1] at c1; cases c1
            rw [l2] at c2; cases c2
            exact yd_pair (noTup_at ho f1 _) s e2 e1 e3 (Df.le x'.le d1) (Df.le x'.le d2)
        · exact q.elim
    · split at q
      · rename_i xs ys _
        split at q
        · rename_i ho
          obtain ⟨a, as, rfl, a1, a2⟩ := Df.tup_inv h1
          obtain ⟨b, bs, rfl, b1, b2⟩ := Df.tup_inv h2
          have st : ∀ g' H', Ext H1 g1 H' g' → Sub g'.G H' → SqT X.K H' a as ∧ SqT X.K H' b bs := fun g' H' x' s => ⟨s.sqt (sqt_le x'.le a1), s.sqt (sqt_le x'.le b1)⟩
          refine ⟨a, b, as, bs, rfl, .inr ⟨R1.sub.sqt a1, R1.sub.sqt b1, q g1 H1 x R1 _ ⟨fun g' H' i x' s hl => ?_, fun g' H' i z x' s e => ?_⟩⟩⟩
          · refine ⟨as, bs, (st g' H' x' s).1, (st g' H' x' s).2, ?_⟩
            rw [a2.length, b2.length]
            exact zipD_len hl
          · obtain ⟨y1, y2, f1, f2, rfl⟩ := zipD_get e
            obtain ⟨v1, l1, d1⟩ := a2.get f1
            obtain ⟨v2, l2, d2⟩ := b2.get f2
            refine ⟨⟨as, bs, v1, v2, (st g' H' x' s).1, (st g' H' x' s).2, l1, l2⟩, fun u H'' ⟨T, u1, u2, e1, e2, e3, e4, e5⟩ => ?_⟩
            have c1 := e4 as (st g' H' x' s).1
            have c2 := e5 bs (st g' H' x' s).2
            rw [l1] at c1; cases c1
            rw [l2] at c2; cases c2
            exact yd_pair (noTup_at ho f1 _) s e2 e1 e3 (Df.le x'.le d1) (Df.le x'.le d2)
        · exact q.elim
      · exact q.elim
  · exact q.elim
def enumD (n : Nat) : List D → List D
  | [] => []
  | x :: xs => .tuple [.int n, x] :: enumD (n + 1) xs
theorem enumD_get : ∀ {xs : List D} {n i : Nat} {z : D}, (enumD n xs)[i]? = some z → ∃ x, xs[i]? = some x ∧ z = .tuple [.int ((n + i : Nat) : Int), x]
  | x :: xs, n, 0, z, e => by simp [enumD] at e; exact ⟨x, rfl, by simp [e]⟩
  | x :: xs, n, i + 1, z, e => by
    obtain ⟨x', h1, h2⟩ := enumD_get (xs := xs) (n := n + 1) (i := i) (z := z) (by simpa [enumD] using e)
    refine ⟨x', by simpa using h1, ?_⟩
    rw [h2]
    have : n + 1 + i = n + (i + 1) := by omega
    rw [this]
  | [], _, _, _, e => by simp [enumD] at e
theorem enumD_len : ∀ (xs : List D) (n : Nat), (enumD n xs).length = xs.length
  | [], _ => rfl
  | x :: xs, n => by simp [enumD, enumD_len xs (n + 1)]
def itEnum (rs : List R) : M (List D) := fun st => match rs with
  | [.l _ xs] => .ok (enumD 0 xs) st
  | [.d (.list xs)] => .ok (enumD 0 xs) st
  | _ => .no
theorem i_enum {elts : List Expr} {kk : Nat} {tpos : Pos} (hg : Gl X "enumerate") (hm : X.mg "enumerate" = none) (ha : PA X [a] (trA (cx X W) fs)) (hs : starEach [a] X.env = [(false, eval a X.env)] := by rfl) :
    PI X (.Tuple elts kk tpos) (.Call (.Name "enumerate" p) [a] [] pos) (trIE (cx X W) (dItC itEnum fs)) := by
  refine PI.imp (pi_enum hg hm ha hs) fun σ H Rr ⟨env, st, g, R0, q⟩ => ⟨env, st, g, R0, Post.mono (Post.bind (.refl H g) q) fun rs g1 H1 ⟨st1, _, R1, x, _, q⟩ vs rv fr => ?_⟩
  have main : ∀ (xs : List D) (r : R), r.lst? st1 = some xs → (∀ kvs, r ≠ .d (.dict kvs)) → rs = [r] → Post (cx X W) env σ H g (.ok (enumD 0 xs) st1) (fun xs g1 H1 => ∀ J, WalksE X.K J H1 g1 xs → Rr J H1) →
      ∃ a ys, vs = [V.ref a] ∧ SqL X.K H1 a ys ∧ Rr (Ite X.K a) H1 := fun xs r el nr er q0 => by
    subst er
    obtain ⟨v, rfl, h1⟩ := rvl1 rv
    obtain ⟨a, as, rfl, a1, a2, a3⟩ := lst_stay R1 h1 el nr
    refine ⟨a, as, rfl, a2, q0 g1 H1 x R1 _ ⟨fun g' H' i x' s hl => ⟨as, a3 g' H' x' s, ?_⟩, fun g' H' i z x' s e => ?_⟩⟩
    · rw [a1.length]
      rw [enumD_len] at hl; exact hl
    · obtain ⟨y, f1, rfl⟩ := enumD_get e
      obtain ⟨v1, l1, d1⟩ := a1.get f1
      refine ⟨⟨as, v1, a3 g' H' x' s, l1⟩, fun u H'' ⟨T, w, e1, e2, e3, e4⟩ => ?_⟩
      have c1 := e4 as (a3 g' H' x' s)
      rw [l1] at c1; cases c1
      have e5 : ((0 + i : Nat) : Int) = (i : Int) := by simp
      rw [e5]
      exact yd_pair rfl s e2 e1 e3 (.int _) (Df.le x'.le d1)
  unfold itEnum at q
  split at q
  · exact main _ _ rfl (by intro _ z; cases z) rfl q
  · exact main _ _ rfl (by intro _ z; cases z) rfl q
  · exact q.elim
end
end N

/-! N12: for, while, several targets, op=. -/
namespace N
open PySem PySem.Spec L2

def forGo (p : Pat) (S : SM) : List D → SM
  | [], env => M.ret (.nx, env)
  | x :: xs, env => match asg p x env with
    | none => M.no
    | some env1 => S env1 >>= fun q => match q.1 with
      | .nx => forGo p S xs q.2
      | .ct => forGo p S xs q.2
      | .brk => M.ret (.nx, q.2)
      | .ret r => M.ret (.ret r, q.2)
def dFor (it : En → M (List D)) (p : Pat) (S : SM) : SM := fun env => it env >>= fun xs => forGo p S xs env
def whileGo (t : En → M Bool) (S : SM) : Nat → SM
  | 0, _ => M.no
  | n + 1, env => t env >>= fun b => if b = true then S env >>= fun q => match q.1 with
      | .nx => whileGo t S n q.2
      | .ct => whileGo t S n q.2
      | .brk => M.ret (.nx, q.2)
      | .ret r => M.ret (.ret r, q.2)
    else M.ret (.nx, env)
section
variable {X : Cx} {W : String → L2.St → Hp → Prop} {pos : Pos} {tg e iter : Expr} {f : En → M R} {it : En → M (List D)} {K : PySem.W.Frag} {H0 : Hp} {g0 lo : Gh} {p : Pat} {S : SM} {body : List Stmt} {t : En → M Bool}
/-- a target takes an item -/
theorem RelS.asg {c : Ct} {env env' : En} {st : Sto} {σ : L2.St} {H : Hp} {g : Gh} {v : V} {x : D} {Q : L2.St → Hp → Prop} (h : RelS c H0 g0 lo env st σ H g) (d : Df c.K g v x) (e : asg p x env = some env')
    (k : ∀ σ', RelS c H0 g0 lo env' st σ' H g → Q σ' H) : gP c.K p v σ H Q :=
  asg_ok p x h.rel d e fun σ' r o _ => k σ' ⟨r, h.e, h.lo, fun j r' a e o' s => by
    obtain ⟨k1, k2⟩ := o j r' a e o' s
    exact h.new j r' a k1 o' k2⟩
theorem RelS.newF {c : Ct} {env : En} {st : Sto} {σ : L2.St} {H : Hp} {g : Gh} {p : Addr} {o : HO} (h : RelS c H0 g0 lo env st σ H g) (hp : H p = none) : RelS c H0 g0 lo env st σ (upd H p o) (g.put p o) := by
  have b := Bs.newF (Bs.base (c := c) h.rel) (o := o) hp
  exact h.later b.e b.rel
theorem drop_at {α : Type} {xs : List α} {i : Nat} {x : α} (e : xs[i]? = some x) : xs.drop i = x :: xs.drop (i + 1) := by
  obtain ⟨h, rfl⟩ := List.getElem?_eq_some_iff.mp e
  exact List.drop_eq_getElem_cons h
theorem RelS.low {c : Ct} {g1 : Gh} {env : En} {st : Sto} {σ : L2.St} {H : Hp} {g : Gh} (h : RelS c H0 g0 g1 env st σ H g) (le : Le lo g1) : RelS c H0 g0 lo env st σ H g := ⟨h.rel, h.e, le.trans h.lo, h.new⟩
/-- the turns of a for -/
theorem for_turns {c : Ct} {J : It} {g1 : Gh} {xs : List D} {De : Ends} {env : En} {st : Sto} {σ : L2.St} {H : Hp} (w : Walks c.K J g1 xs) (h : RelS c H0 g0 lo env st σ H g1) (q : PostS c H0 g0 lo (forGo p S xs env st) De) :
    ∃ W : Nat → Nat → L2.St → Hp → Prop, (∃ m, W 0 m σ H) ∧ ∀ i m σ H, W i m σ H →
      (J.stop i H ∧ De.nx σ H) ∨ (J.go i H ∧ ∃ Nx : L2.St → Hp → Prop, (∀ σ' H', Nx σ' H' → ∃ m', m' < m ∧ W (i + 1) m' σ' H') ∧ ∀ x H', J.yld i H x H' → gP c.K p x σ H' fun σ2 H2 => trS c H0 g0 S { De with nx := Nx, ct := Nx, bk := De.nx } σ2 H2) := by
  have hlo := h.lo
  refine ⟨fun i m σ H => m = xs.length - i ∧ i ≤ xs.length ∧ ∃ env st g, RelS c H0 g0 g1 env st σ H g ∧ PostS c H0 g0 lo (forGo p S (xs.drop i) env st) De, ⟨xs.length, rfl, Nat.zero_le _, env, st, g1, ⟨h.rel, h.e, .refl _, h.new⟩, q⟩, ?_⟩
  rintro i m σ H ⟨rfl, hi, env, st, g, R, q⟩
  cases ex : xs[i]? with
  | none =>
    have hl : xs.length ≤ i := List.getElem?_eq_none_iff.mp ex
    rw [List.drop_of_length_le hl] at q
    exact .inl ⟨w.stop g H i R.lo R.rel.sub hl, (R.low hlo).ends q⟩
  | some x =>
    have hlt : i < xs.length := (List.getElem?_eq_some_iff.mp ex).1
    rw [drop_at ex] at q
    obtain ⟨go, yl⟩ := w.go g H i x R.lo R.rel.sub ex
    unfold forGo at q
    cases ea : asg p x env with
    | none => rw [ea] at q; exact q.elim
    | some env1 =>
      rw [ea] at q
      dsimp only at q
      refine .inr ⟨go, fun σ' H' => ∃ env st g, RelS c H0 g0 g1 env st σ' H' g ∧ PostS c H0 g0 lo (forGo p S (xs.drop (i + 1)) env st) De, fun σ' H' n => ⟨xs.length - (i + 1), by omega, rfl, hlt, n⟩, fun v H' y => ?_⟩
      have run : ∀ {g2 : Gh} {H2 : Hp} {σ2 : L2.St}, RelS c H0 g0 g1 env1 st σ2 H2 g2 → trS c H0 g0 S { De with nx := fun σ' H' => ∃ env st g, RelS c H0 g0 g1 env st σ' H' g ∧ PostS c H0 g0 lo (forGo p S (xs.drop (i + 1)) env st) De, ct := fun σ' H' => ∃ env st g, RelS c H0 g0 g1 env st σ' H' g ∧ PostS c H0 g0 lo (forGo p S (xs.drop (i + 1)) env st) De, bk := De.nx } σ2 H2 := fun {g2 H2 σ2} R2 => by
        refine ⟨env1, st, g2, g1, R2, ?_⟩
        rw [M.bind_ap] at q
        cases es : S env1 st with
        | no => rw [es] at q; exact q
        | ex n s => rw [es] at q; exact fun env' σ' H' g' R' => q env' σ' H' g' (R'.low hlo)
        | ok r s =>
          obtain ⟨fl, env2⟩ := r
          rw [es] at q
          intro σ' H' g' R'
          cases fl with
          | nx => exact ⟨env2, s, g', R', q⟩
          | ct => exact ⟨env2, s, g', R', q⟩
          | brk => exact q σ' H' g' (R'.low hlo)
          | ret r => exact q σ' H' g' (R'.low hlo)
      rcases yl v H' y with ⟨rfl, hd⟩ | ⟨pp, ys, hp, rfl, hd⟩
      · exact R.asg hd ea fun σ' R' => run R'
      · exact (R.newF hp).asg hd ea fun σ' R' => run R'
theorem s_for (hp : PassesOwn (model X.prog X.w) X.A X.env X.xe) (hc : X.calm = true) (hi : PI X tg iter (trI (cx X W) it)) (hg : PG X tg (gP X.K p)) (hb : PSs X body (trS (cx X W) H0 g0 S))
    (hs : ∀ x, foldedSetIterable iter X.env x = pure x := by intro _; rfl) : PS X (.For tg iter body [] pos) (trS (cx X W) H0 g0 (dFor it p S)) := by
  refine PS.imp (ps_for hp hc hi hg hb hs) fun D σ H ⟨env, st, g, lo, R0, q⟩ => ⟨env, st, g, R0.rel, Post.mono (R0.part q) fun xs g1 H1 ⟨st1, x, R1, q1⟩ J w => ?_⟩
  exact for_turns w R1 q1
/-- over what only an expression is known to leave (zip, enumerate): the items are frozen first -/
theorem s_while {n : Nat} (hp : PassesOwn (model X.prog X.w) X.A X.env X.xe) (hc : PT X e (trT (cx X W) t)) (hb : PSs X body (trS (cx X W) H0 g0 S)) : PS X (.While e body [] pos) (trS (cx X W) H0 g0 (whileGo t S n)) := by
  refine PS.imp (ps_while hp hc hb) fun D σ H ⟨env, st, g, lo, R0, q⟩ => ?_
  refine ⟨fun m σ H => ∃ env st g, RelS (cx X W) H0 g0 lo env st σ H g ∧ PostS (cx X W) H0 g0 lo (whileGo t S m env st) D, ⟨n, env, st, g, R0, q⟩, ?_⟩
  rintro m σ H ⟨env, st, g, R, q⟩
  cases m with
  | zero => exact q.elim
  | succ m =>
    refine ⟨env, st, g, R.rel, Post.mono (R.part q) fun b g1 H1 ⟨st1, x, R1, q1⟩ => ?_⟩
    unfold qT
    cases b with
    | false =>
      rw [if_neg Bool.false_ne_true] at q1 ⊢
      exact R1.ends q1
    | true =>
      rw [if_pos rfl] at q1 ⊢
      refine ⟨fun σ' H' => ∃ env st g, RelS (cx X W) H0 g0 lo env st σ' H' g ∧ PostS (cx X W) H0 g0 lo (whileGo t S m env st) D, fun σ' H' h => ⟨m, Nat.lt_succ_self m, h⟩, env, st1, g1, lo, R1, ?_⟩
      rw [M.bind_ap] at q1
      cases es : S env st1 with
      | no => rw [es] at q1; exact q1
      | ex n s => rw [es] at q1; exact q1
      | ok r s =>
        obtain ⟨fl, env2⟩ := r
        rw [es] at q1
        intro σ' H' g' R'
        cases fl with
        | nx => exact ⟨env2, s, g', R', q1⟩
        | ct => exact ⟨env2, s, g', R', q1⟩
        | brk => exact q1 σ' H' g' R'
        | ret r => exact q1 σ' H' g' R'

/-! ### a, b = e; a, b = e1, e2; x op= e -/
def asgM (p : Pat) (r : R) (env : En) : M (Fl × En) := fun st => match r with
  | .d x => match asg p x env with
    | some env1 => .ok (.nx, env1) st
    | none => .no
  | _ => .no
def dAsgP (p : Pat) (f : En → M R) : SM := fun env => f env >>= fun r => asgM p r env
theorem s_asgP {tgt : Expr} (he : PE X e (tr (cx X W) f)) (hg : PG X tgt (gP X.K p)) (hs : swapsWithSole [tgt] e pos.line X.env = pure false := by rfl) (hw : swappedStores [tgt] e X.env = pure none := by rfl)
    (h1 : (assignEach [tgt] X.env).map (·.2) = [assign tgt X.env] := by rfl) : PS X (.Assign [tgt] e pos) (trS (cx X W) H0 g0 (dAsgP p f)) := by
  refine PS.imp (ps_asg he hg hs hw h1) fun D σ H ⟨env, st, g, lo, R0, q⟩ => ⟨env, st, g, R0.rel, Post.mono (R0.part q) fun r g1 H1 ⟨st1, x, R1, q1⟩ v rv fr => ?_⟩
  unfold asgM at q1
  split at q1
  · rename_i y
    split at q1
    · rename_i env1 ea
      exact R1.asg rv ea fun σ' R' => R'.ends q1
    · exact q1.elim
  · exact q1.elim
def toInt2 (i : Nat) (env : En) : M Int := fun st => match env[i]? with
  | some (some (.d (.int k))) => .ok k st
  | _ => .no
def dAug (i : Nat) (fn : Int → Int → Int) (ok : Int → Int → Bool) (f : En → M R) : SM := fun env => toInt2 i env >>= fun a => f env >>= fun r => toInt r >>= fun b => if ok a b = true then M.ret (.nx, env.set i (some (.d (.int (fn a b))))) else M.no
theorem toInt2_ok {c : Ct} {env : En} {st : Sto} {σ : L2.St} {H : Hp} {g : Gh} {De : Ends} {i : Nat} {k : Int → M (Fl × En)} (h : RelS c H0 g0 lo env st σ H g) (q : PostS c H0 g0 lo ((toInt2 i env >>= k) st) De) : ∃ j, σ[i]? = some (some (V.int j)) ∧ env[i]? = some (some (.d (.int j))) ∧ PostS c H0 g0 lo (k j st) De := by
  rw [M.bind_ap] at q
  unfold toInt2 at q
  split at q
  · rename_i a s e
    split at e
    · rename_i j ej
      cases e
      obtain ⟨v, s1, hv⟩ := h.rel.slot _ _ ej
      rw [Df.int_inv hv] at s1
      exact ⟨_, s1, ej, q⟩
    · cases e
  · rename_i e
    split at e <;> cases e
  · exact q.elim
theorem s_aug {i : Nat} {x : Str} {op : Operator} {pos' : Pos} {C : Int → Int → Prop} {fn : Int → Int → Int} {ok : Int → Int → Bool} (hN : X.N.Nodup) (he : PE X e (tr (cx X W) f)) (ho : PIp X op (rI C fun i j => .int (fn i j))) (hok : ∀ i j, ok i j = true → C i j)
    (hi : X.N[i]? = some x := by rfl) (hx : L2.Loc X.env.scope x := by first | exact .inl rfl | exact .inr rfl) (hf : X.fn x = true ∨ X.env.scope.names.lookup x = some .local := by first | exact .inl rfl | exact .inr rfl | assumption) :
    PS X (.AugAssign (.Name x pos') op e pos) (trS (cx X W) H0 g0 (dAug i fn ok f)) := by
  refine PS.imp (ps_aug hN hi hx he ho hf) fun D σ H ⟨env, st, g, lo, R0, q⟩ => ?_
  obtain ⟨j, s1, ej, q⟩ := toInt2_ok R0 q
  refine ⟨_, s1, env, st, g, R0.rel, Post.mono (R0.part q) fun r g1 H1 ⟨st1, x, R1, q1⟩ v rv fr => ?_⟩
  obtain ⟨k, rfl, q2⟩ := toInt_ok q1
  split at q2
  · rename_i hz
    exact ⟨j, k, rfl, Df.int_inv rv, hok j k hz, (R1.setD (.int _)).ends q2⟩
  · exact q2.elim
theorem pip_add : PIp X .Add (rI (fun _ _ => True) fun i j => .int (i + j)) := fun pins s σ H x y v u Q I r1 r2 ⟨i, j, e1, e2, _, q⟩ => ip_add pins s σ H x y v u Q I r1 r2 ⟨i, j, e1, e2, q⟩
theorem pip_mul : PIp X .Mult (rI CMul fun i j => .int (i * j)) := fun pins s σ H x y v u Q I r1 r2 q => iop_mul pins s σ H x y v u Q I r1 r2 q
end
end N

/-! N13: comprehensions. -/
namespace N
open PySem PySem.Spec L2

def noEx {α : Type} (m : M α) : M α := fun st => match m st with
  | .ok a s => .ok a s
  | _ => .no
def wipeE (env : En) : List Nat → En
  | [] => env
  | v :: vs => (wipeE env vs).set v none
def dYes : En → M Bool := fun _ => M.ret true
def W0 : String → L2.St → Hp → Prop := fun _ _ _ => False
def lcStep (p : Pat) (vs : List Nat) (tst : En → M Bool) (elt : En → M R) (env : En) (x : D) : M (Option D) := fun st => match asg p x (wipeE env vs) with
  | none => .no
  | some e1 => match tst e1 st with
    | .ok true s1 => match elt e1 s1 with
      | .ok r s2 => match kp r with
        | some d => .ok (some d) s2
        | none => .no
      | _ => .no
    | .ok false s1 => .ok none s1
    | _ => .no
def lcGo {β : Type} (step : D → M (Option β)) : List D → M (List β)
  | [] => fun st => .ok [] st
  | x :: xs => fun st => match step x st with
    | .ok o s1 => match lcGo step xs s1 with
      | .ok ys s2 => .ok (o.toList ++ ys) s2
      | .ex e s2 => .ex e s2
      | .no => .no
    | .ex e s1 => .ex e s1
    | .no => .no
def fin1 {β : Type} (k : List β → R) (acc : List β) : Res (List β) → Res R
  | .ok ys st => .ok (k (acc ++ ys)) st
  | .ex e st => .ex e st
  | .no => .no
def lcRun {β : Type} (k : List β → R) (step : En → D → M (Option β)) (it : En → M (List D)) : En → M R := fun env => it env >>= fun xs => fun st => if xs.length ≤ sizeLine then fin1 k [] (lcGo (step env) xs st) else .no
/-- [elt for p in it if tst] -/
def dLc (it : En → M (List D)) (p : Pat) (vs : List Nat) (tst : En → M Bool) (elt : En → M R) : En → M R := lcRun (fun xs => .l true xs) (fun env => lcStep p vs tst elt env) it

theorem wipeE_at {env : En} {r : R} : ∀ {vs : List Nat} {j : Nat}, (wipeE env vs)[j]? = some (some r) → env[j]? = some (some r) ∧ j ∉ vs
  | [], j, h => ⟨h, by simp⟩
  | v :: vs, j, h => by
    unfold wipeE at h
    rw [List.getElem?_set] at h
    split at h
    · split at h <;> cases h
    · rename_i hn
      obtain ⟨h1, h2⟩ := wipeE_at h
      exact ⟨h1, by simp only [List.mem_cons, not_or]; exact ⟨fun e => hn e.symm, h2⟩⟩
theorem wipeE_len (env : En) : ∀ vs : List Nat, (wipeE env vs).length = env.length
  | [] => rfl
  | v :: vs => by unfold wipeE; rw [List.length_set, wipeE_len env vs]
theorem wipe_off {σ : L2.St} {vs : List Nat} {j : Nat} (h : j ∉ vs) : (wipe σ vs)[j]? = σ[j]? := by rw [wipe_at, if_neg h]
theorem wipe_wipe (σ : L2.St) (vs : List Nat) : wipe (wipe σ vs) vs = wipe σ vs := by
  apply List.ext_getElem?
  intro j
  rw [wipe_at, wipe_length, wipe_at]
  split <;> rfl
section
variable {K : PySem.W.Frag} {g g' : Gh} {env e2 : En} {st st' : Sto} {σ σ2 : L2.St} {H H' : Hp}
theorem Rel.wipe (R0 : Rel K g env st σ H) (vs : List Nat) : Rel K g (wipeE env vs) st (L2.wipe σ vs) H where
  sub := R0.sub
  slot := fun i r e => by
    obtain ⟨h1, h2⟩ := wipeE_at e
    rw [wipe_off h2]
    exact R0.slot i r h1
  own := fun i j r r' a e1 e2 o1 o2 s1 s2 => by
    obtain ⟨h1, h2⟩ := wipeE_at e1
    obtain ⟨k1, k2⟩ := wipeE_at e2
    rw [wipe_off h2] at s1
    rw [wipe_off k2] at s2
    exact R0.own i j r r' a h1 k1 o1 o2 s1 s2
  lb := R0.lb
  obj := R0.obj
  inj := R0.inj
  refs := R0.refs
  len := by rw [wipeE_len, wipe_length]; exact R0.len
/-- back from a block to what is around it -/
theorem Rel.swap (old : Rel K g env st σ H) (x : Ext H g H' g') (new : Rel K g' e2 st' σ2 H') : Rel K g' env st' σ H' where
  sub := new.sub
  slot := fun i r e => by
    obtain ⟨v, h1, h2⟩ := old.slot i r e
    exact ⟨v, h1, h2.ext x⟩
  own := old.own
  lb := new.lb
  obj := new.obj
  inj := new.inj
  refs := new.refs
  len := old.len
theorem Rel.upd {p : Addr} {o : HO} (R0 : Rel K g env st σ H) (hg : g.G p = none) (hn : ∀ n, n < g.L → g.ι n ≠ p) (hs : ∀ (i : Nat) (r : R), env[i]? = some (some r) → r.own = true → σ[i]? ≠ some (some (V.ref p))) : Rel K g env st σ (L2.upd H p o) where
  sub := fun a u e => by
    have ne : a ≠ p := fun z => by subst z; rw [hg] at e; cases e
    rw [upd_ne ne]
    exact R0.sub a u e
  slot := fun i r e => by
    obtain ⟨v, h1, h2⟩ := R0.slot i r e
    exact ⟨v, h1, h2.mut fun ho z => hs i r e ho (by rw [h1, z])⟩
  own := R0.own
  lb := R0.lb
  obj := fun n ob e lv => by
    obtain ⟨h1, h2⟩ := R0.obj n ob e lv
    exact ⟨h1, h2.mut (hn n h1)⟩
  inj := R0.inj
  refs := fun n h => by rw [upd_ne (hn n h)]; exact R0.refs n h
  len := R0.len
theorem Ext.upd {p : Addr} {o : HO} (x : Ext H g H' g') (h0 : H p = none) : Ext H g (L2.upd H' p o) g' :=
  ⟨x.le, fun a u e hn => by
    rw [upd_ne (ne_of_none e h0)]
    exact x.keep a u e hn, fun a e => by
    by_cases z : a = p
    · rw [z, upd_same]; simp
    · rw [upd_ne z]; exact x.stay a e, x.gnew, x.inew⟩
theorem Yd.step {v : V} {x : D} (R0 : Rel K g env st σ H) (y : Yd K g H v H' x) : ∃ g', Ext H g H' g' ∧ Rel K g' env st σ H' ∧ Df K g' v x := by
  rcases y with ⟨rfl, d⟩ | ⟨p, ys, hp, rfl, d⟩
  · exact ⟨g, .refl _ _, R0, d⟩
  · have b := Bs.newF (Bs.base (c := ⟨K, W0⟩) R0) (o := .tup ys) hp
    exact ⟨_, b.e, b.rel, d⟩
end

theorem lcGo_cons {β : Type} (step : D → M (Option β)) (x : D) (xs : List D) (st : Sto) : lcGo step (x :: xs) st = (match step x st with
    | .ok o s1 => match lcGo step xs s1 with
      | .ok ys s2 => .ok (o.toList ++ ys) s2
      | .ex e s2 => .ex e s2
      | .no => .no
    | .ex e s1 => .ex e s1
    | .no => .no) := rfl
theorem lcGo_step {β : Type} {step : D → M (Option β)} {x : D} {xs : List D} {st st' : Sto} {k : List β → R} {acc : List β} {o : Option β} (e : step x st = .ok o st') : fin1 k acc (lcGo step (x :: xs) st) = fin1 k (acc ++ o.toList) (lcGo step xs st') := by
  rw [lcGo_cons, e]
  dsimp only
  cases lcGo step xs st' with
  | ok ys s => simp [fin1]
  | ex n s => rfl
  | no => rfl
theorem lcGo_bad {β : Type} {step : D → M (Option β)} {x : D} {xs : List D} {st : Sto} {k : List β → R} {acc : List β} (e : step x st = .no) : fin1 k acc (lcGo step (x :: xs) st) = .no := by
  rw [lcGo_cons, e]
  rfl
section
variable {X : Cx} {W : String → L2.St → Hp → Prop} {pos : Pos} {tg elt iter : Expr} {ifs : List Expr} {it : En → M (List D)} {tst : En → M Bool} {fe fk fv : En → M R} {p : Pat} {own : List (Str × Nat)} {scope : Scope} {σ : L2.St} {H : Hp} {Q : VK} {c : Ct} {vs : List Nat}
theorem tr_lc (hv : ∀ i ∈ p.slots, i ∈ vs) (h : tr c (dLc it p vs tst fe) σ H Q) : tLc (trIE c it) (gP c.K p) (trT ⟨c.K, W0⟩ tst) (tr ⟨c.K, W0⟩ fe) vs σ H Q := by
  obtain ⟨env, st, g, R0, h⟩ := h
  refine ⟨env, st, g, R0, Post.mono (Post.bind (.refl H g) h) fun xs g1 H1 ⟨st1, _, R1, x1, _, q⟩ J w p' hp => ?_⟩
  split at q
  case isFalse => exact q.elim
  rename_i hz
  have hsl : ∀ (i : Nat) (r : R), env[i]? = some (some r) → r.own = true → σ[i]? ≠ some (some (V.ref p')) := fun i r e o z => R1.sl i r p' e o z hp
  refine ⟨fun i m H => m = xs.length - i ∧ i ≤ xs.length ∧ ∃ st g acc va, Rel c.K g env st σ H ∧ Ext H1 g1 H g ∧ H p' = some (.lst va) ∧ DfA c.K g va acc ∧ g.G p' = none ∧ (∀ n, n < g.L → g.ι n ≠ p') ∧ acc.length ≤ i ∧
    Post c env σ H1 g1 (fin1 (fun xs => .l true xs) acc (lcGo (lcStep p vs tst fe env) (xs.drop i) st)) (qE c H1 Q), ⟨xs.length, rfl, Nat.zero_le _, st1, g1, [], [], R1.new hp, Ext.new hp, upd_same, .nil, R1.nog hp, R1.noι hp, Nat.le_refl _, ?_⟩, ?_⟩
  · refine Post.mono (Post.later x1 q) fun r g2 H2 k v rv fr => k v rv (fr.ext x1)
  rintro i m H ⟨rfl, hi, st, g, acc, va, R, x, hp', hd, hg, hn, hl, q⟩
  cases ex : xs[i]? with
  | none =>
    have hle : xs.length ≤ i := List.getElem?_eq_none_iff.mp ex
    rw [List.drop_of_length_le hle] at q
    refine .inl ⟨w.stop g H i x R.sub hle, ?_⟩
    have q' : Post c env σ H1 g1 (.ok (.l true acc) st) (qE c H1 Q) := by simpa [lcGo, fin1] using q
    exact q' g H x R _ ⟨p', va, rfl, hp', hg, hn, hd⟩ fun _ a e => by cases e; exact hp
  | some y =>
    have hlt : i < xs.length := (List.getElem?_eq_some_iff.mp ex).1
    rw [drop_at ex] at q
    obtain ⟨go, yl⟩ := w.go g H i y x R.sub ex
    refine .inr ⟨go, fun H => ∃ st g acc va, Rel c.K g env st σ H ∧ Ext H1 g1 H g ∧ H p' = some (.lst va) ∧ DfA c.K g va acc ∧ g.G p' = none ∧ (∀ n, n < g.L → g.ι n ≠ p') ∧ acc.length ≤ i + 1 ∧
      Post c env σ H1 g1 (fin1 (fun xs => .l true xs) acc (lcGo (lcStep p vs tst fe env) (xs.drop (i + 1)) st)) (qE c H1 Q), fun H' n => ⟨xs.length - (i + 1), by omega, rfl, hlt, n⟩, fun v H2 yd => ?_⟩
    obtain ⟨g2, x2, R2, d2⟩ := (yl v H2 yd).step R
    cases ea : asg p y (wipeE env vs) with
    | none =>
      rw [lcGo_bad (by unfold lcStep; rw [ea])] at q
      exact q.elim
    | some e1 =>
      refine asg_ok p y (R2.wipe vs) d2 ea fun σ' R' o' b' => ⟨?_, ?_⟩
      · rw [b' vs hv]; exact wipe_wipe σ vs
      refine ⟨e1, st, g2, R', ?_⟩
      cases et : tst e1 st with
      | no => rw [lcGo_bad (by unfold lcStep; simp only [ea, et])] at q; exact q.elim
      | ex n s => rw [lcGo_bad (by unfold lcStep; simp only [ea, et])] at q; exact q.elim
      | ok b s1 =>
        intro g3 H3 x3 R3
        unfold qT
        cases b with
        | false =>
          rw [if_neg Bool.false_ne_true]
          have es : lcStep p vs tst fe env y st = .ok none s1 := by unfold lcStep; simp only [ea, et]
          rw [lcGo_step es] at q
          have xx := x2.trans x3
          obtain ⟨k1, k2, k3⟩ := xx.ownKeep hp' hg hn
          exact ⟨s1, g3, acc, va, R.swap xx R3, x.trans xx, k1, DfA.le xx.le hd, k2, k3, by omega, by simpa using q⟩
        | true =>
          rw [if_pos rfl]
          refine ⟨e1, s1, g3, R3, ?_⟩
          cases ee : fe e1 s1 with
          | no => rw [lcGo_bad (by unfold lcStep; simp only [ea, et, ee])] at q; exact q.elim
          | ex n s => rw [lcGo_bad (by unfold lcStep; simp only [ea, et, ee])] at q; exact q.elim
          | ok r s2 =>
            cases ek : kp r with
            | none => rw [lcGo_bad (by unfold lcStep; simp only [ea, et, ee, ek])] at q; exact q.elim
            | some d =>
              have es : lcStep p vs tst fe env y st = .ok (some d) s2 := by unfold lcStep; simp only [ea, et, ee, ek]
              rw [lcGo_step es] at q
              intro g4 H4 x4 R4 u ru fu
              obtain ⟨g5, le5, b5, d5, _⟩ := Bs.frz1 (⟨x4, R4, R3.sl⟩ : Bs ⟨c.K, W0⟩ H4 e1 σ' s2 g4 H3 g3) ru fu ek
              have xx := (x2.trans x3).trans b5.e
              obtain ⟨k1, k2, k3⟩ := xx.ownKeep hp' hg hn
              have R5 : Rel c.K g5 env s2 σ H4 := R.swap xx b5.rel
              exact ⟨va, k1, by rw [hd.length]; omega, s2, g5, acc ++ [d], va ++ [u], R5.upd k2 k3 hsl, (x.trans xx).upd hp, upd_same, (DfA.le xx.le hd).append (.cons d5 .nil), k2, k3, by rw [List.length_append]; simp; omega, by simpa using q⟩
theorem e_lc (hc : X.calm = true) (hN : X.N.Nodup) (hi : PI X tg iter (trIE (cx X W) it)) (ok : BlkOk X.N X.env.scope scope own) (hv : ∀ i ∈ p.slots, i ∈ own.map (·.2))
    (hg : ∀ (s : Shared) (H : Hp) (C : Addr) (cl : List (Str × Addr)) (fp : List Addr), PG (X.blk s H scope (compEnvC scope cl C X.env) fp) tg (gP X.K p))
    (ht : ∀ (s : Shared) (H : Hp) (C : Addr) (cl : List (Str × Addr)) (fp : List Addr), PTs (X.blk s H scope (compEnvC scope cl C X.env) fp) ifs (trT ⟨X.K, W0⟩ tst))
    (he : ∀ (s : Shared) (H : Hp) (C : Addr) (cl : List (Str × Addr)) (fp : List Addr), PE (X.blk s H scope (compEnvC scope cl C X.env) fp) elt (tr ⟨X.K, W0⟩ fe))
    (hs : ∀ x, foldedSetIterable iter X.env x = pure x := by intro _; rfl) : PE X (.ListComp elt [⟨tg, iter, ifs, 0⟩] scope pos) (tr (cx X W) (dLc it p (own.map (·.2)) tst fe)) :=
  PE.imp (pe_lc hc hN hi ok hg ht he hs) fun _ _ _ h => tr_lc hv h
theorem s_setLc {H0 : Hp} {g0 : Gh} {i : Nat} {y : Str} {py spos : Pos} {sl : R → M R} (oks : SlOk sl) (hc : X.calm = true) (hN : X.N.Nodup) (hi : PI X tg iter (trIE (cx X W) it)) (ok : BlkOk X.N X.env.scope scope own) (hv : ∀ i ∈ p.slots, i ∈ own.map (·.2))
    (hg : ∀ (s : Shared) (H : Hp) (C : Addr) (cl : List (Str × Addr)) (fp : List Addr), PG (X.blk s H scope (compEnvC scope cl C X.env) fp) tg (gP X.K p))
    (ht : ∀ (s : Shared) (H : Hp) (C : Addr) (cl : List (Str × Addr)) (fp : List Addr), PTs (X.blk s H scope (compEnvC scope cl C X.env) fp) ifs (trT ⟨X.K, W0⟩ tst))
    (he : ∀ (s : Shared) (H : Hp) (C : Addr) (cl : List (Str × Addr)) (fp : List Addr), PE (X.blk s H scope (compEnvC scope cl C X.env) fp) elt (tr ⟨X.K, W0⟩ fe))
    (hs : ∀ x, foldedSetIterable iter X.env x = pure x := by intro _; rfl) (hsw : swapsWith (.ListComp elt [⟨tg, iter, ifs, 0⟩] scope pos) (some (.Name y py)) spos.line X.env = pure true) (hy : X.N[i]? = some y := by rfl) (hyl : X.env.scope.names.lookup y = some .local := by rfl) :
    PS X (.Assign [.Name y py] (.ListComp elt [⟨tg, iter, ifs, 0⟩] scope pos) spos) (trS (cx X W) H0 g0 (dSet i sl (dLc it p (own.map (·.2)) tst fe))) := by
  refine PS.imp (ps_setLc hc hN hy hyl hsw hi ok hg ht he hs) fun D σ H h => ?_
  exact tr_lc hv (trS_set oks h)
theorem ts_yes {Y : Cx} : PTs Y [] (trT ⟨Y.K, W0⟩ dYes) := ⟨fun pins s σ H Q I ⟨env, st, g, R0, q⟩ => (pts_nil).run pins s σ H Q I (q g H (.refl _ _) R0)⟩

/-! ### dict comprehensions -/
def dcStep (p : Pat) (vs : List Nat) (tst : En → M Bool) (fk fv : En → M R) (env : En) (x : D) : M (Option (Key × D)) := fun st => match asg p x (wipeE env vs) with
  | none => .no
  | some e1 => match tst e1 st with
    | .ok true s1 => match fk e1 s1 with
      | .ok (.d y) s2 => match keyOf y with
        | some k => match fv e1 s2 with
          | .ok r s3 => match kp r with
            | some d => .ok (some (k, d)) s3
            | none => .no
          | _ => .no
        | none => .no
      | _ => .no
    | .ok false s1 => .ok none s1
    | _ => .no
def dDc (it : En → M (List D)) (p : Pat) (vs : List Nat) (tst : En → M Bool) (fk fv : En → M R) : En → M R := lcRun (fun ps => .k true (mergeD [] ps)) (fun env => dcStep p vs tst fk fv env) it
theorem mergeD_snoc (acc : List (Key × D)) (k : Key) (d : D) : mergeD [] (acc ++ [(k, d)]) = putD (mergeD [] acc) k d := by
  unfold mergeD
  rw [List.foldl_append]
  rfl
theorem putD_len (kvs : List (Key × D)) (k : Key) (d : D) : (putD kvs k d).length ≤ kvs.length + 1 := by
  unfold putD
  split
  · rw [List.length_map]; omega
  · rw [List.length_append]; simp
theorem tr_dc (hv : ∀ i ∈ p.slots, i ∈ vs) (h : tr c (dDc it p vs tst fk fv) σ H Q) : tDc (trIE c it) (gP c.K p) (trT ⟨c.K, W0⟩ tst) (tr ⟨c.K, W0⟩ fk) (tr ⟨c.K, W0⟩ fv) vs σ H Q := by
  obtain ⟨env, st, g, R0, h⟩ := h
  refine ⟨env, st, g, R0, Post.mono (Post.bind (.refl H g) h) fun xs g1 H1 ⟨st1, _, R1, x1, _, q⟩ J w p' hp => ?_⟩
  split at q
  case isFalse => exact q.elim
  rename_i hz
  have hsl : ∀ (i : Nat) (r : R), env[i]? = some (some r) → r.own = true → σ[i]? ≠ some (some (V.ref p')) := fun i r e o z => R1.sl i r p' e o z hp
  refine ⟨fun i m H => m = xs.length - i ∧ i ≤ xs.length ∧ ∃ st g acc va, Rel c.K g env st σ H ∧ Ext H1 g1 H g ∧ H p' = some (.dK va) ∧ DfK c.K g va (mergeD [] acc) ∧ g.G p' = none ∧ (∀ n, n < g.L → g.ι n ≠ p') ∧ (mergeD [] acc).length ≤ i ∧
    Post c env σ H1 g1 (fin1 (fun ps => .k true (mergeD [] ps)) acc (lcGo (dcStep p vs tst fk fv env) (xs.drop i) st)) (qE c H1 Q), ⟨xs.length, rfl, Nat.zero_le _, st1, g1, [], [], R1.new hp, Ext.new hp, upd_same, .nil, R1.nog hp, R1.noι hp, Nat.le_refl _, ?_⟩, ?_⟩
  · refine Post.mono (Post.later x1 q) fun r g2 H2 k v rv fr => k v rv (fr.ext x1)
  rintro i m H ⟨rfl, hi, st, g, acc, va, R, x, hp', hd, hg, hn, hl, q⟩
  cases ex : xs[i]? with
  | none =>
    have hle : xs.length ≤ i := List.getElem?_eq_none_iff.mp ex
    rw [List.drop_of_length_le hle] at q
    refine .inl ⟨w.stop g H i x R.sub hle, ?_⟩
    have q' : Post c env σ H1 g1 (.ok (.k true (mergeD [] acc)) st) (qE c H1 Q) := by simpa [lcGo, fin1] using q
    exact q' g H x R _ ⟨p', va, rfl, hp', hg, hn, hd⟩ fun _ a e => by cases e; exact hp
  | some y =>
    have hlt : i < xs.length := (List.getElem?_eq_some_iff.mp ex).1
    rw [drop_at ex] at q
    obtain ⟨go, yl⟩ := w.go g H i y x R.sub ex
    refine .inr ⟨go, fun H => ∃ st g acc va, Rel c.K g env st σ H ∧ Ext H1 g1 H g ∧ H p' = some (.dK va) ∧ DfK c.K g va (mergeD [] acc) ∧ g.G p' = none ∧ (∀ n, n < g.L → g.ι n ≠ p') ∧ (mergeD [] acc).length ≤ i + 1 ∧
      Post c env σ H1 g1 (fin1 (fun ps => .k true (mergeD [] ps)) acc (lcGo (dcStep p vs tst fk fv env) (xs.drop (i + 1)) st)) (qE c H1 Q), fun H' n => ⟨xs.length - (i + 1), by omega, rfl, hlt, n⟩, fun v H2 yd => ?_⟩
    obtain ⟨g2, x2, R2, d2⟩ := (yl v H2 yd).step R
    cases ea : asg p y (wipeE env vs) with
    | none =>
      rw [lcGo_bad (by unfold dcStep; rw [ea])] at q
      exact q.elim
    | some e1 =>
      refine asg_ok p y (R2.wipe vs) d2 ea fun σ' R' o' b' => ⟨?_, ?_⟩
      · rw [b' vs hv]; exact wipe_wipe σ vs
      refine ⟨e1, st, g2, R', ?_⟩
      cases et : tst e1 st with
      | no => rw [lcGo_bad (by unfold dcStep; simp only [ea, et])] at q; exact q.elim
      | ex n s => rw [lcGo_bad (by unfold dcStep; simp only [ea, et])] at q; exact q.elim
      | ok b s1 =>
        intro g3 H3 x3 R3
        unfold qT
        cases b with
        | false =>
          rw [if_neg Bool.false_ne_true]
          have es : dcStep p vs tst fk fv env y st = .ok none s1 := by unfold dcStep; simp only [ea, et]
          rw [lcGo_step es] at q
          have xx := x2.trans x3
          obtain ⟨k1, k2, k3⟩ := xx.ownKeep hp' hg hn
          exact ⟨s1, g3, acc, va, R.swap xx R3, x.trans xx, k1, DfK.le xx.le hd, k2, k3, by omega, by simpa using q⟩
        | true =>
          rw [if_pos rfl]
          refine ⟨e1, s1, g3, R3, ?_⟩
          cases ee : fk e1 s1 with
          | no => rw [lcGo_bad (by unfold dcStep; simp only [ea, et, ee])] at q; exact q.elim
          | ex n s => rw [lcGo_bad (by unfold dcStep; simp only [ea, et, ee])] at q; exact q.elim
          | ok r s2 =>
            cases r with
            | l f ds => rw [lcGo_bad (by unfold dcStep; simp only [ea, et, ee])] at q; exact q.elim
            | k f ds => rw [lcGo_bad (by unfold dcStep; simp only [ea, et, ee])] at q; exact q.elim
            | d ky =>
              cases eky : keyOf ky with
              | none => rw [lcGo_bad (by unfold dcStep; simp only [ea, et, ee, eky])] at q; exact q.elim
              | some kk =>
                intro g4 H4 x4 R4 u ru fu
                refine ⟨e1, s2, g4, R4, ?_⟩
                cases ev : fv e1 s2 with
                | no => rw [lcGo_bad (by unfold dcStep; simp only [ea, et, ee, eky, ev])] at q; exact q.elim
                | ex n s => rw [lcGo_bad (by unfold dcStep; simp only [ea, et, ee, eky, ev])] at q; exact q.elim
                | ok r s3 =>
                  cases ek : kp r with
                  | none => rw [lcGo_bad (by unfold dcStep; simp only [ea, et, ee, eky, ev, ek])] at q; exact q.elim
                  | some d =>
                    have es : dcStep p vs tst fk fv env y st = .ok (some (kk, d)) s3 := by unfold dcStep; simp only [ea, et, ee, eky, ev, ek]
                    rw [lcGo_step es] at q
                    intro g5 H5 x5 R5 z rz fz
                    obtain ⟨g6, le6, b6, d6, _⟩ := Bs.frz1 (⟨x5, R5, R4.sl⟩ : Bs ⟨c.K, W0⟩ H5 e1 σ' s3 g5 H4 g4) rz fz ek
                    have xx := ((x2.trans x3).trans x4).trans b6.e
                    obtain ⟨k1, k2, k3⟩ := xx.ownKeep hp' hg hn
                    have R6 : Rel c.K g6 env s3 σ H5 := R.swap xx b6.rel
                    have hd' := DfK.le xx.le hd
                    have hlen := putD_len (mergeD [] acc) kk d
                    refine ⟨va, kk, keyOf_ok ru eky, k1, by rw [hd'.length]; omega, s3, g6, acc ++ [(kk, d)], putK va kk z, R6.upd k2 k3 hsl, (x.trans xx).upd hp, upd_same, ?_, k2, k3, ?_, by simpa using q⟩
                    · rw [mergeD_snoc]; exact dfk_put hd' d6
                    · rw [mergeD_snoc]; omega
theorem e_dc {kx vx : Expr} (hc : X.calm = true) (hN : X.N.Nodup) (hi : PI X tg iter (trIE (cx X W) it)) (ok : BlkOk X.N X.env.scope scope own) (hv : ∀ i ∈ p.slots, i ∈ own.map (·.2))
    (hg : ∀ (s : Shared) (H : Hp) (C : Addr) (cl : List (Str × Addr)) (fp : List Addr), PG (X.blk s H scope (compEnvC scope cl C X.env) fp) tg (gP X.K p))
    (ht : ∀ (s : Shared) (H : Hp) (C : Addr) (cl : List (Str × Addr)) (fp : List Addr), PTs (X.blk s H scope (compEnvC scope cl C X.env) fp) ifs (trT ⟨X.K, W0⟩ tst))
    (hk : ∀ (s : Shared) (H : Hp) (C : Addr) (cl : List (Str × Addr)) (fp : List Addr), PE (X.blk s H scope (compEnvC scope cl C X.env) fp) kx (tr ⟨X.K, W0⟩ fk))
    (he : ∀ (s : Shared) (H : Hp) (C : Addr) (cl : List (Str × Addr)) (fp : List Addr), PE (X.blk s H scope (compEnvC scope cl C X.env) fp) vx (tr ⟨X.K, W0⟩ fv))
    (hs : ∀ x, foldedSetIterable iter X.env x = pure x := by intro _; rfl) : PE X (.DictComp kx vx [⟨tg, iter, ifs, 0⟩] scope pos) (tr (cx X W) (dDc it p (own.map (·.2)) tst fk fv)) :=
  PE.imp (pe_dc hc hN hi ok hg ht hk he hs) fun _ _ _ h => tr_dc hv h
end
end N

/-! N14: defs and calls. -/
namespace N
open PySem PySem.Spec L2 PyProof.Rows

structure RelC (K : PySem.W.Frag) (g : Gh) (st : Sto) (H : Hp) : Prop where
  sub : Sub g.G H
  obj : ∀ (n : Nat) (ob : Ob), st[n]? = some ob → ob.live = true → n < g.L ∧ ObOk K g H (g.ι n) ob
  lb : Lb g st
  inj : ∀ m n, m < g.L → n < g.L → g.ι m = g.ι n → m = n
  refs : ∀ n, n < g.L → H (g.ι n) ≠ none
def env0 (n : Nat) (ds : List D) : En := ds.map (fun x => some (.d x)) ++ List.replicate (n - ds.length) none
section
variable {K : PySem.W.Frag} {g g' : Gh} {env : En} {st st' : Sto} {σ : L2.St} {H H' : Hp} {vs : List V} {ds : List D}
theorem Rel.toC (R0 : Rel K g env st σ H) : RelC K g st H := ⟨R0.sub, R0.obj, R0.lb, R0.inj, R0.refs⟩
theorem Rel.after (R0 : Rel K g env st σ H) (x : Ext H g H' g') (C : RelC K g' st' H') : Rel K g' env st' σ H' where
  sub := C.sub
  slot := fun i r e => by
    obtain ⟨v, h1, h2⟩ := R0.slot i r e
    exact ⟨v, h1, h2.ext x⟩
  own := R0.own
  obj := C.obj
  lb := C.lb
  inj := C.inj
  refs := C.refs
  len := R0.len
theorem env0_get {n i : Nat} {r : R} (e : (env0 n ds)[i]? = some (some r)) : ∃ x, ds[i]? = some x ∧ r = .d x := by
  unfold env0 at e
  rw [List.getElem?_append] at e
  split at e
  · rw [List.getElem?_map] at e
    cases q : ds[i]? with
    | none => rw [q] at e; cases e
    | some x => rw [q] at e; cases e; exact ⟨x, rfl, rfl⟩
  · rw [List.getElem?_replicate] at e
    split at e <;> cases e
theorem RelC.start {N : List Str} (C : RelC K g st H) (h : DfA K g vs ds) : Rel K g (env0 N.length ds) st (L2.start N vs) H where
  sub := C.sub
  slot := fun i r e => by
    obtain ⟨x, h1, rfl⟩ := env0_get e
    obtain ⟨v, h2, h3⟩ := h.get h1
    refine ⟨v, ?_, h3⟩
    unfold L2.start
    have hl : i < (vs.map some).length := by
      rw [List.length_map]
      exact (List.getElem?_eq_some_iff.mp h2).1
    rw [List.getElem?_append_left hl, List.getElem?_map, h2]
    rfl
  own := fun i j r r' a e1 e2 o1 => by
    obtain ⟨x, _, rfl⟩ := env0_get e1
    cases o1
  obj := C.obj
  lb := C.lb
  inj := C.inj
  refs := C.refs
  len := by
    unfold env0 L2.start
    rw [List.length_append, List.length_append, List.length_map, List.length_map, List.length_replicate, List.length_replicate, h.length]
theorem lb_L (h : Lb g st) {n : Nat} (e : g.cl = some n) : g.L = n := by
  unfold Lb at h
  rw [e] at h
  exact h.1

/-! ### a def's promise -/
def PostD (K : PySem.W.Frag) (H : Hp) (g : Gh) (m : Res R) (Q : VK) (E : String → Hp → Prop) : Prop := match m with
  | .ok r st => ∀ v H' g', Ext H g H' g' → RelC K g' st H' → Rv K g' H' v r → Fr H v r → Q v H'
  | .ex e st => ∀ H' g', Ext H g H' g' → RelC K g' st H' → E e H'
  | .no => False
def spD (K : PySem.W.Frag) (n : Nat) (F : List D → M R) : Sp := fun vs H Q _ => ∃ g st ds, ds.length = n ∧ RelC K g st H ∧ DfA K g vs ds ∧ PostD K H g (F ds st) Q fun _ _ => False
def fnP (n : Nat) (S : SM) (ds : List D) : M R := fun st => match S (env0 n ds) st with
  | .ok (.ret r, _) s => .ok r s
  | .ok (.nx, _) s => .ok (.d .none) s
  | .ok _ _ => .no
  | .ex e s => .ex e s
  | .no => .no
/-- a def's body, as a statement's denotation, gives the def's promise -/
theorem fn_ok {P : Program} {w : World} {mg : Str → Option Value} {base : Heap} {x qual : Str} {sd : Stmt} {f : Addr} {fd : FuncData} {N ps : List Str} {k : Nat} (F : Fun K x qual sd f fd) (S : FnScope N ps (defScope sd)) {T : SM}
    (hb : ∀ (cdv : Value) (A : Around) (outer : List Env) (s : Shared) (H : Hp) (E : XK), Room k (A.deeper (envOfC qual (defScope sd) s.heap.objs.size f cdv)) → ∀ (H0 : Hp) (g0 : Gh),
      PSs (cxOf CX0 P w K mg base N qual (defScope sd) f cdv A outer s H E).nox (defBody sd) (trS ⟨K, fun _ _ _ => False⟩ H0 g0 T)) :
    FnOk P w K mg base CX0 (k + 1) f fd ps (spD K ps.length (fnP N.length T)) := by
  refine F.ok S (fun vs H Q E h => ?_) fun cdv A outer s H vs Q E hr h => ?_
  · obtain ⟨g, st, ds, hn, _, hd, _⟩ := h
    rw [hd.length, hn]
  · obtain ⟨g, st, ds, hn, C, hd, q⟩ := h
    refine ⟨_, hb cdv A outer s H E hr H g, env0 N.length ds, st, g, g, ⟨C.start hd, .refl H g, .refl g, fun i r a e o => ?_⟩, ?_⟩
    · obtain ⟨x, _, rfl⟩ := env0_get e
      cases o
    · unfold fnP at q
      cases e : T (env0 N.length ds) st with
      | no => rw [e] at q; exact q
      | ex n s' =>
        rw [e] at q
        exact fun env σ H' g' R' => q H' g' R'.e R'.rel.toC
      | ok p s' =>
        obtain ⟨fl, env'⟩ := p
        rw [e] at q
        intro σ H' g' R'
        cases fl with
        | nx => exact q .non H' g' R'.e R'.rel.toC .non fun z => nomatch z
        | brk => exact q.elim
        | ct => exact q.elim
        | ret r => exact fun v rv fr => q v H' g' R'.e R'.rel.toC rv fr

/-! ### calls -/
def opS (n : Nat) (F : List D → M R) (rs : List R) : M R := fun st => match kpAll rs with
  | some ds => if ds.length = n then (match F ds st with
    | .ok r s => .ok r s
    | _ => .no) else .no
  | none => .no
def opC (n : Nat) (F : List D → M R) (rs : List R) : M R := fun st => match kpAll rs with
  | some ds => if ds.length = n then (match F ds [.c] with
    | .ok r _ => .ok r st
    | _ => .no) else .no
  | none => .no
def pkAll (st : Sto) : List R → Option (List D)
  | [] => some []
  | r :: rs => match r.pk st, pkAll st rs with
    | some x, some xs => some (x :: xs)
    | _, _ => none
def scal : D → Bool
  | .dict _ | .list _ | .tuple _ => false
  | _ => true
def opP (n : Nat) (F : List D → M R) (rs : List R) : M R := fun st => match pkAll st rs with
  | some ds => if ds.length = n then (match F ds [.c] with
    | .ok (.d x) _ => if scal x = true then .ok (.d x) st else .no
    | _ => .no) else .no
  | none => .no
/-- closed -/
def Gh.shut (g : Gh) : Gh := { g with cl := some g.L }
theorem RelC.shut (C : RelC K g st H) : RelC K g.shut [.c] H where
  sub := C.sub
  obj := fun n ob e lv => by
    cases n with
    | zero => cases e; cases lv
    | succ n => simp at e
  lb := ⟨rfl, rfl⟩
  inj := C.inj
  refs := C.refs
theorem Le.shutG : ∀ a o, g.G a = some o → g.shut.G a = some o := fun _ _ e => e
mutual
theorem Df.grow {g2 : Gh} (eG : ∀ a o, g.G a = some o → g2.G a = some o) (eL : g2.L = g.L) (eι : g2.ι = g.ι) : ∀ {v : V} {d : D}, Df K g v d → Df K g2 v d
  | _, _, .non => .non
  | _, _, .bl b => .bl b
  | _, _, .int i => .int i
  | _, _, .str x => .str x
  | _, _, .lst h1 h2 => .lst (by
      rcases h1 with (h | ⟨o, h⟩) | h
      · exact .inl (.inl (eG _ _ h))
      · exact .inl (.inr ⟨o, eG _ _ h⟩)
      · exact .inr h) (DfA.grow eG eL eι h2)
  | _, _, .tup h1 hb h2 => .tup (by
      rcases h1 with (h | ⟨o, h⟩) | h
      · exact .inl (.inl (eG _ _ h))
      · exact .inl (.inr ⟨o, eG _ _ h⟩)
      · exact .inr h) (hb.imp eG) (DfA.grow eG eL eι h2)
  | _, _, .dct h1 h2 => .dct (eG _ _ h1) (DfK.grow eG eL eι h2)
  | _, _, .dctF h1 h2 => .dctF (eG _ _ h1) (DfK.grow eG eL eι h2)
  | _, _, .rf n h => by rw [← eι]; exact .rf n (by rw [eL]; exact h)
  | _, _, .fn x h => .fn x h
theorem DfA.grow {g2 : Gh} (eG : ∀ a o, g.G a = some o → g2.G a = some o) (eL : g2.L = g.L) (eι : g2.ι = g.ι) : ∀ {v : List V} {d : List D}, DfA K g v d → DfA K g2 v d
  | _, _, .nil => .nil
  | _, _, .cons a b => .cons (Df.grow eG eL eι a) (DfA.grow eG eL eι b)
theorem DfK.grow {g2 : Gh} (eG : ∀ a o, g.G a = some o → g2.G a = some o) (eL : g2.L = g.L) (eι : g2.ι = g.ι) : ∀ {v : List (Key × V)} {d : List (Key × D)}, DfK K g v d → DfK K g2 v d
  | _, _, .nil => .nil
  | _, _, .cons a b => .cons (Df.grow eG eL eι a) (DfK.grow eG eL eι b)
end
theorem Rv.grow {g2 : Gh} (eG : g2.G = g.G) (eL : g2.L = g.L) (eι : g2.ι = g.ι) {v : V} {r : R} (h : Rv K g H v r) : Rv K g2 H v r := by
  have e : ∀ a o, g.G a = some o → g2.G a = some o := fun a o e => by rw [eG]; exact e
  cases r with
  | d y => exact Df.grow e eL eι h
  | l f ds =>
    obtain ⟨a, vs, rfl, h1, h2, h3, h4⟩ := h
    exact ⟨a, vs, rfl, h1, by rw [eG]; exact h2, by rw [eL, eι]; exact h3, DfA.grow e eL eι h4⟩
  | k f ds =>
    obtain ⟨a, vs, rfl, h1, h2, h3, h4⟩ := h
    exact ⟨a, vs, rfl, h1, by rw [eG]; exact h2, by rw [eL, eι]; exact h3, DfK.grow e eL eι h4⟩
/-- behind a closed run -/
theorem Rel.opened {g2 : Gh} {st2 : Sto} (R0 : Rel K g env st σ H) (x : Ext H g.shut H' g2) (C : RelC K g2 st2 H') : Ext H g H' { g2 with cl := g.cl } ∧ Rel K { g2 with cl := g.cl } env st σ H' := by
  have hL : g2.L = g.L := lb_L C.lb x.le.cl
  have x' : Ext H g H' { g2 with cl := g.cl } := ⟨⟨x.le.G, x.le.L, x.le.ι, rfl⟩, fun a o e _ => x.keep a o e (fun hc => by cases hc), x.stay, x.gnew, fun n h1 h2 => absurd (show n < g.L from hL ▸ h2) (Nat.not_lt.mpr h1)⟩
  refine ⟨x', R0.after x' ⟨C.sub, fun n ob e lv => ?_, ?_, C.inj, C.refs⟩⟩
  · obtain ⟨h1, h2⟩ := R0.obj n ob e lv
    refine ⟨show n < g2.L from hL.symm ▸ h1, ?_⟩
    show ObOk K { g2 with cl := g.cl } H' (g2.ι n) ob
    rw [x.le.ι n h1]
    refine h2.ext x'.le (fun o e => x.keep _ o e fun hc => by cases hc) (fun e => x.stay _ e) fun e => ?_
    show g2.G (g.ι n) = none
    cases q : g2.G (g.ι n) with
    | none => rfl
    | some o =>
      rcases x.gnew (g.ι n) (by rw [q]; simp) with z | z
      · exact absurd e z
      · exact absurd z (R0.refs n h1)
  · have := R0.lb
    unfold Lb at this ⊢
    show match g.cl with | some n => g2.L = n ∧ st = [.c] | none => g2.L = st.length ∧ st ≠ [.c]
    rw [hL]
    exact this
/-- a look at all that stands -/
def Gh.snap (g : Gh) (H : Hp) : Gh := { g with G := fun a => match g.G a with | some o => some o | none => H a, cl := some g.L }
theorem snap_le {a : Addr} {o : HO} (e : g.G a = some o) : (g.snap H).G a = some o := by
  show (match g.G a with | some o => some o | none => H a) = _
  rw [e]
theorem snap_new {a : Addr} {o : HO} (e : g.G a = none) (h : H a = some o) : (g.snap H).G a = some o := by
  show (match g.G a with | some o => some o | none => H a) = _
  rw [e]; exact h
theorem RelC.snap (C : RelC K g st H) : RelC K (g.snap H) [.c] H where
  sub := fun a o e => by
    have e' : (match g.G a with | some o => some o | none => H a) = some o := e
    cases q : g.G a with
    | some u => rw [q] at e'; cases e'; exact C.sub a _ q
    | none => rw [q] at e'; exact .inl e'
  obj := fun n ob e lv => by
    cases n with
    | zero => cases e; cases lv
    | succ n => simp at e
  lb := ⟨rfl, rfl⟩
  inj := C.inj
  refs := C.refs
theorem pk_snap (R0 : Rel K g env st σ H) {v : V} {r : R} (h : Rv K g H v r) {x : D} (e : r.pk st = some x) : Df K (g.snap H) v x := by
  have gr : ∀ a o, g.G a = some o → (g.snap H).G a = some o := fun a o => snap_le
  cases r with
  | l f xs =>
    cases e
    obtain ⟨a, vs, rfl, h1, h2, _, h4⟩ := h
    exact .lst (.inl (.inl (snap_new h2 h1))) (DfA.grow gr rfl rfl h4)
  | k f xs =>
    cases e
    obtain ⟨a, vs, rfl, h1, h2, _, h4⟩ := h
    exact .dct (snap_new h2 h1) (DfK.grow gr rfl rfl h4)
  | d y =>
    have h' : Df K g v y := h
    unfold R.pk at e
    simp only at e
    split at e
    · rename_i n hn
      obtain ⟨hl, rfl⟩ := refOf_some h' hn
      split at e
      · rename_i hs
        cases e
        obtain ⟨_, vs, h1, h2, h4⟩ := R0.obj n _ hs rfl
        exact .lst (.inl (.inl (snap_new h2 h1))) (DfA.grow gr rfl rfl h4)
      · rename_i hs
        cases e
        obtain ⟨_, vs, h1, h2, h4⟩ := R0.obj n _ hs rfl
        exact .dct (snap_new h2 h1) (DfK.grow gr rfl rfl h4)
      · rename_i hs
        cases e
        exact Df.grow gr rfl rfl (R0.obj n _ hs rfl).2.1
      · cases e
      · cases e
    · cases e
      exact Df.grow gr rfl rfl h'
theorem pkAll_snap (R0 : Rel K g env st σ H) : ∀ {rs : List R} {vs : List V} {ds : List D}, RvL K g H vs rs → pkAll st rs = some ds → DfA K (g.snap H) vs ds
  | [], vs, ds, h, e => by cases e; cases h; exact .nil
  | r :: rs, vs, ds, h, e => by
    cases h with
    | cons h1 h2 =>
      unfold pkAll at e
      split at e
      · rename_i e1 e2
        cases e
        exact .cons (pk_snap R0 h1 e1) (pkAll_snap R0 h2 e2)
      · cases e
theorem Rel.peeked {g2 : Gh} {st2 : Sto} (R0 : Rel K g env st σ H) (x : Ext H (g.snap H) H' g2) : Ext H g H' g ∧ Rel K g env st σ H' := by
  have kp : ∀ a o, H a = some o → H' a = some o := fun a o e => x.keep a o e fun hc => by cases hc
  have x' : Ext H g H' g := ⟨.refl g, fun a o e _ => kp a o e, x.stay, fun a h => .inl h, fun n h1 h2 => absurd h2 (Nat.not_lt.mpr h1)⟩
  refine ⟨x', R0.after x' ⟨fun a o e => ?_, fun n ob e lv => ?_, R0.lb, R0.inj, fun n hn => x.stay _ (R0.refs n hn)⟩⟩
  · rcases R0.sub a o e with h | ⟨kvs, ob, h1, h2⟩
    · exact .inl (kp a o h)
    · exact .inr ⟨kvs, ob, h1, kp _ _ h2⟩
  · obtain ⟨h1, h2⟩ := R0.obj n ob e lv
    exact ⟨h1, h2.ext (.refl g) (kp _) (x.stay _) fun h => h⟩
theorem Df.scal {g2 : Gh} {v : V} {x : D} (h : Df K g v x) (e : scal x = true) : Df K g2 v x := by
  cases h with
  | non => exact .non
  | bl b => exact .bl b
  | int i => exact .int i
  | str x => exact .str x
  | _ => cases e
end

section
variable {X : Cx} {W : String → L2.St → Hp → Prop} {pos p : Pos} {e : Expr} {es : List Expr} {fs : En → M (List R)} {k : Nat} {f : Addr} {fd : FuncData} {ps : List Str} {F : List D → M R} {x : Str}
/-- calls of a def: S the store is shared, C it is out of sight, P arguments are looked at only -/
theorem call_S {n : Nat} {c : Ct} {σ : L2.St} {H : Hp} {Q : VK} {vs : List V} {E : XK} (h : rrL c (opS n F) vs H Q) : spD c.K n F vs H Q E := by
  obtain ⟨env, σ, st, g, H0, g0, rs, b, rv, fr, q⟩ := h
  unfold opS at q
  split at q
  · rename_i ds ek
    split at q
    · rename_i hn
      obtain ⟨g1, le, b1, hd⟩ := b.frzL rv fr ek
      refine ⟨g1, st, ds, hn, b1.rel.toC, hd, ?_⟩
      cases eF : F ds st with
      | ok r s =>
        rw [eF] at q
        exact fun v H' g' x C rv' fr' => q g' H' (b1.e.trans x) (le.trans x.le) (b1.rel.after x C) v rv' (fr'.ext b1.e)
      | ex m s => rw [eF] at q; exact q.elim
      | no => rw [eF] at q; exact q
    · exact q.elim
  · exact q.elim
theorem call_C {n : Nat} {c : Ct} {σ : L2.St} {H : Hp} {Q : VK} {vs : List V} {E : XK} (h : rrL c (opC n F) vs H Q) : spD c.K n F vs H Q E := by
  obtain ⟨env, σ, st, g, H0, g0, rs, b, rv, fr, q⟩ := h
  unfold opC at q
  split at q
  · rename_i ds ek
    split at q
    · rename_i hn
      obtain ⟨g1, le, b1, hd⟩ := b.frzL rv fr ek
      refine ⟨g1.shut, [.c], ds, hn, b1.rel.toC.shut, DfA.grow (g := g1) (g2 := g1.shut) (fun _ _ e => e) rfl rfl hd, ?_⟩
      cases eF : F ds [.c] with
      | ok r s =>
        rw [eF] at q
        intro v H' g' x C rv' fr'
        obtain ⟨x', R'⟩ := b1.rel.opened x C
        exact q _ H' (b1.e.trans x') (le.trans x'.le) R' v (Rv.grow (g := g') (g2 := { g' with cl := g1.cl }) rfl rfl rfl rv') (fr'.ext b1.e)
      | ex m s => rw [eF] at q; exact q.elim
      | no => rw [eF] at q; exact q
    · exact q.elim
  · exact q.elim
theorem call_P {n : Nat} {c : Ct} {σ : L2.St} {H : Hp} {Q : VK} {vs : List V} {E : XK} (h : rrL c (opP n F) vs H Q) : spD c.K n F vs H Q E := by
  obtain ⟨env, σ, st, g, H0, g0, rs, b, rv, fr, q⟩ := h
  unfold opP at q
  split at q
  · rename_i ds ek
    split at q
    · rename_i hn
      refine ⟨g.snap H, [.c], ds, hn, b.rel.toC.snap, pkAll_snap b.rel rv ek, ?_⟩
      cases eF : F ds [.c] with
      | ok r s =>
        rw [eF] at q
        intro v H' g' x C rv' fr'
        obtain ⟨x', R'⟩ := Rel.peeked (st2 := s) b.rel x
        cases r with
        | d y =>
          simp only at q
          split at q
          · rename_i sc
            exact q g H' (b.e.trans x') (.refl g) R' v (Df.scal rv' sc) fun z => nomatch z
          · exact q.elim
        | l _ _ => exact q.elim
        | k _ _ => exact q.elim
      | ex m s => rw [eF] at q; exact q.elim
      | no => rw [eF] at q; exact q
    · exact q.elim
  · exact q.elim
theorem e_callD {n : Nat} {op : List R → M R} (hop : ∀ {c : Ct} {σ : L2.St} {H : Hp} {Q : VK} {vs : List V} {E : XK}, rrL c op vs H Q → spD c.K n F vs H Q E) (G : FnOk X.prog X.w X.K X.mg X.base CX0 k f fd ps (spD X.K n F)) (hr : Room k X.A) (hg : Gl X x) (hm : X.mg x = some (.ref f)) (hk : PySem.W.keepIn X.K (.ref f) = true) (hb : Binds X.K fd ps [])
    (ha : PA X (e :: es) (trA (cx X W) fs)) (hdb : (x == ("__debug__" : Str)) = false := by decide) (he : starEach (e :: es) X.env = (false, eval e X.env) :: starEach es X.env := by rfl) (hpl : (backTo pos (starEach es X.env)).any (·.1) = false := by rfl) :
    PE X (.Call (.Name x p) (e :: es) [] pos) (tr (cx X W) (dCall op fs)) := by
  refine PE.imp (pe_call G hr hg hm hk hb .nil pass0 ha hdb he hpl) fun σ H Q h => ?_
  obtain ⟨env, st, g, R0, q⟩ := trL h
  refine ⟨env, st, g, R0, Post.mono q fun rs g1 H1 q1 vs rv fr => ?_⟩
  show spD X.K n F (vs ++ []) H1 Q E0
  rw [List.append_nil]
  exact hop (c := cx X W) (σ := σ) (q1 vs rv fr)
end
end N

/-! N15: sets of keys (whole numbers, texts), met only within sorted(set(..)), len(set(..)). -/
namespace N
open PySem PySem.Spec L2 PyProof.Rows

instance lawKey : LawfulBEq Key where
  eq_of_beq := fun {a b} h => by
    cases a <;> cases b
    · exact congrArg Sum.inl (eq_of_beq h)
    · exact nomatch h
    · exact nomatch h
    · exact congrArg Sum.inr (eq_of_beq h)
  rfl := fun {a} => by
    cases a
    · exact beq_self_eq_true (α := Int) _
    · exact beq_self_eq_true (α := Str) _
/-! ### the set's members -/
def kyOf (e : Int × Value) : Key := match e.2 with
  | .int k _ => .inl k
  | .str x _ => .inr x
  | _ => .inl 0
def KyE (P : Program) (w : World) (e : Int × Value) : Prop := ∃ k : Key, RelV (kV k) e.2 ∧ e.1 = (mixKind P w).hash k
theorem kyOf_rel {k : Key} {v : Value} {h : Int} (r : RelV (kV k) v) : kyOf (h, v) = k := by
  cases k with
  | inl i => obtain ⟨t, rfl⟩ := r; rfl
  | inr x => obtain ⟨t, rfl⟩ := r; rfl
theorem KyE.rel {P : Program} {w : World} {e : Int × Value} (g : KyE P w e) : RelV (kV (kyOf e)) e.2 := by
  obtain ⟨h, v⟩ := e
  obtain ⟨k, r, _⟩ := g
  rw [kyOf_rel r]; exact r
structure KS (P : Program) (w : World) (h : Heap) (a : Addr) (S : Key → Bool) (o : Obj) (es : Array (Int × Value)) (ep : Nat) (t : SetTable) : Prop where
  at_ : h.get? a = some o
  exact : o.ExactSet
  data : o.data = .set es ep t
  good : ∀ e ∈ es.toList, KyE P w e
  nd : (es.toList.map kyOf).Nodup
  mem : ∀ k, S k = true ↔ k ∈ es.toList.map kyOf
  few : es.size < scanBound
  fit : t.fits es.size = true
  ris : Ris t.place.toList
  led : w.params.followText "set-order" = true ∨ t.led = true
/-- a set of keys at a: S its members -/
def KeySet (P : Program) (w : World) (h : Heap) (a : Addr) (S : Key → Bool) (n : Nat) : Prop := ∃ o es ep t, KS P w h a S o es ep t ∧ es.size = n
section
variable {P : Program} {w : World} {A : Around} {E : Value → Shared → Prop} {s : Shared} {a : Addr} {S S' : Key → Bool} {n : Nat} {h h' : Heap} {o : Obj} {es : Array (Int × Value)} {ep : Nat} {t : SetTable}
theorem KeySet.keep (R : KeySet P w h a S n) (k : ∀ o, h.get? a = some o → h'.get? a = some o) : KeySet P w h' a S n := by
  obtain ⟨o, es, ep, t, r, hn⟩ := R
  exact ⟨o, es, ep, t, { r with at_ := k o r.at_ }, hn⟩
theorem KeySet.ext (R : KeySet P w h a S n) (e : ∀ k, S' k = S k) : KeySet P w h a S' n := by
  rw [show S' = S from funext e]; exact R
theorem KyE.is (g : KyE P w e) (k : Key) : (mixKind P w).is k e.2 = true ↔ kyOf e = k := by
  constructor
  · intro q
    exact (mixKind P w).inj _ _ _ (kV_is g.rel) q
  · rintro rfl
    exact kV_is g.rel
theorem ky_elems {l : List (Int × Value)} (g : ∀ e ∈ l, KyE P w e) : ElemsOf (mixKind P w) l := fun e he => by
  obtain ⟨k, h1, h2⟩ := g e he
  exact ⟨⟨k, kV_is h1, h2⟩, key_scan h1⟩
theorem ky_mem {l : List (Int × Value)} (g : ∀ e ∈ l, KyE P w e) (k : Key) : k ∈ l.map kyOf ↔ ∃ e ∈ l, (mixKind P w).is k e.2 = true := by
  rw [List.mem_map]
  exact ⟨fun ⟨e, he, q⟩ => ⟨e, he, ((g e he).is k).2 q⟩, fun ⟨e, he, q⟩ => ⟨e, he, ((g e he).is k).1 q⟩⟩
/-- the table is stored, and laid anew where it is too full -/
theorem ks_tail {gv : Bool → Sem Unit} (hg : ∀ (b : Bool) (s1 : Shared) (Q' : Unit → Shared → Prop), Q' () s1 → wpAny (model P w) A (gv b) Q' E s1)
    {es1 : Array (Int × Value)} {t2 : SetTable} (r0 : KS P w s.heap a S o es ep t) (g1 : ∀ e ∈ es1.toList, KyE P w e) (nd1 : (es1.toList.map kyOf).Nodup) (m1 : ∀ k, S' k = true ↔ k ∈ es1.toList.map kyOf)
    (hb1 : es1.size < scanBound) (hf2 : t2.fits es1.size = true) (hr : Ris t2.place.toList) (hl : w.params.followText "set-order" = true ∨ t2.led = true) {wd : Bool} {R : Option Bool → Shared → Prop}
    (hR : ∀ h', Heap.SameBut a s.heap h' → KeySet P w h' a S' es1.size → R (some true) { s with heap := h' }) :
    wpAny (model P w) A (do
        storeSet a es1 t2
        if (!wd && t2.tooFull) = true then do
            gv (relayAll t2 es1 (SetTable.grown es1.size)).2.2
            storeSet a (relayAll t2 es1 (SetTable.grown es1.size)).1 (relayAll t2 es1 (SetTable.grown es1.size)).2.1
            pure (some true)
          else pure (some true)) R E s := by
  refine wpAny_bind (wpAny_storeSet_of r0.at_ r0.data ?_ (fits_of_scanBound hb1))
  have o1 := store_at (es' := es1) (t' := t2) r0.at_ r0.data
  have b1 := Heap.SameBut.update s.heap a (Obj.putSet es1 t2)
  by_cases full : (!wd && t2.tooFull) = true
  · rw [if_pos full]
    obtain ⟨pm, hf3, hr3, hl3⟩ := And.intro (relayAll_perm t2 es1 (SetTable.grown es1.size)) (And.intro (relayAll_fits t2 es1 (SetTable.grown es1.size)) (And.intro (relayAll_ris t2 es1 (SetTable.grown es1.size)) (relayAll_led t2 es1 (SetTable.grown es1.size))))
    generalize relayAll t2 es1 (SetTable.grown es1.size) = Z at pm hf3 hr3 hl3 ⊢
    obtain ⟨es2, t3, gave⟩ := Z
    dsimp only at pm hf3 hr3 hl3 ⊢
    have sz : es2.size = es1.size := by simpa using pm.length_eq
    refine wpAny_bind (hg _ _ _ (wpAny_bind (wpAny_storeSet_of o1 rfl ?_ (fits_of_scanBound (sz ▸ hb1)))))
    refine wpAny_pure (hR _ (b1.trans (Heap.SameBut.update _ a _)) ⟨_, es2, _, t3, ⟨store_at (es' := es2) (t' := t3) o1 rfl, r0.exact, rfl, fun e he => g1 e (pm.mem_iff.mp he), (pm.map kyOf).nodup_iff.mpr nd1, fun k => (m1 k).trans (pm.map kyOf).mem_iff.symm, sz ▸ hb1, hf3, hr3, ?_⟩, sz⟩)
    exact hl.imp id fun z => hl3.trans z
  · rw [if_neg full]
    exact wpAny_pure (hR _ b1 ⟨_, es1, _, t2, ⟨o1, r0.exact, rfl, g1, nd1, m1, hb1, hf2, hr, hl⟩, rfl⟩)

theorem ks_add {k : Key} {u : Value} {Q : Bool → Shared → Prop} (R : KeySet P w s.heap a S n) (ru : RelV (kV k) u) (room : n + 1 < scanBound)
    (hQ : ∀ h', Heap.SameBut a s.heap h' → KeySet P w h' a (fun j => S j || decide (j = k)) (if S k = true then n else n + 1) → Q (!S k) { s with heap := h' }) :
    wpAny (model P w) A (setAddHashed a u ((mixKind P w).hash k)) Q E s := by
  obtain ⟨o, es, ep, t, r, hn⟩ := R
  have hkey : (mixKind P w).is k u = true := kV_is ru
  have hsc : u.scannable = true := key_scan ru
  have hel : ElemsOf (mixKind P w) es.toList := ky_elems r.good
  unfold setAddHashed setAddHashedIn
  refine wpAny_holding (wpAny_bind (wpAny_setState_of r.at_ r.data r.fit ?_))
  dsimp only
  rw [byScan_of hsc r.few hel]
  simp only [↓reduceIte]
  unfold setAddByScan
  refine wpAny_bind (wpAny_bind (wpAny_rule (wpAny_bind (wpAny_setScan_of hkey r.at_ r.data r.fit hel ?_))))
  cases hfi : List.findIdx? (fun e => (mixKind P w).is k e.2) es.toList with
  | some j =>
    dsimp only
    obtain ⟨hj, pj, _⟩ := List.findIdx?_eq_some_iff_getElem.mp hfi
    have hSk : S k = true := (r.mem k).2 ((ky_mem r.good k).2 ⟨es.toList[j], List.getElem_mem hj, pj⟩)
    refine wpAny_pure (wpAny_pure ?_)
    have q := hQ s.heap (Heap.SameBut.refl a s.heap)
    rw [hSk, if_pos rfl] at q
    exact q (KeySet.ext ⟨o, es, ep, t, r, hn⟩ fun i => by
      by_cases e : i = k
      · subst e; simp [hSk]
      · simp [e])
  | none =>
    dsimp only
    have hnk : k ∉ es.toList.map kyOf := fun z => by
      obtain ⟨e, he, q⟩ := (ky_mem r.good k).1 z
      have c := List.findIdx?_eq_none_iff.mp hfi e he
      rw [q] at c
      cases c
    have hSk : S k = false := by
      cases q : S k with
      | false => rfl
      | true => exact absurd ((r.mem k).1 q) hnk
    have gw : ∀ (b : Bool) {s1 : Shared} {Q' : Unit → Shared → Prop}, Q' () s1 → wpAny (model P w) A (match b with | true => rule "set.scan.the-table-gave-way" | false => pure ()) Q' E s1 := fun b s1 Q' q => by
      cases b
      · exact wpAny_pure q
      · exact wpAny_rule q
    obtain ⟨pm, hf1, hr1, hl1⟩ := And.intro (layNew_perm t es ((mixKind P w).hash k) u) (And.intro (layNew_fits t es ((mixKind P w).hash k) u) (And.intro (layNew_ris t es ((mixKind P w).hash k) u r.ris) (layNew_led t es ((mixKind P w).hash k) u)))
    generalize layNew t es ((mixKind P w).hash k) u = Z at pm hf1 hr1 hl1 ⊢
    obtain ⟨es1, t1, wd, gave⟩ := Z
    dsimp only at pm hf1 hr1 hl1 ⊢
    rw [Array.toList_push] at pm
    have pc : es1.toList.Perm (((mixKind P w).hash k, u) :: es.toList) := pm.trans (List.perm_append_singleton _ _)
    have pk : (es1.toList.map kyOf).Perm (k :: es.toList.map kyOf) := by
      have q := pc.map kyOf
      rw [List.map_cons, kyOf_rel ru] at q
      exact q
    have g1 : ∀ e ∈ es1.toList, KyE P w e := fun e he => by
      rcases List.mem_cons.mp (pc.mem_iff.mp he) with z | z
      · rw [z]; exact ⟨k, ru, rfl⟩
      · exact r.good e z
    have nd1 : (es1.toList.map kyOf).Nodup := pk.nodup_iff.mpr (List.nodup_cons.mpr ⟨hnk, r.nd⟩)
    have m1 : ∀ i, (S i || decide (i = k)) = true ↔ i ∈ es1.toList.map kyOf := fun i => by
      rw [pk.mem_iff, List.mem_cons, Bool.or_eq_true, decide_eq_true_eq, r.mem i]
      exact Or.comm
    have sz : es1.size = n + 1 := by
      have := pc.length_eq
      simp at this
      omega
    have hb1 : es1.size < scanBound := by rw [sz]; exact room
    have hled : w.params.followText "set-order" = true ∨ t1.led = true := r.led.imp id fun z => hl1.trans z
    have fin : ∀ h', Heap.SameBut a s.heap h' → KeySet P w h' a (fun j => S j || decide (j = k)) es1.size → Q true { s with heap := h' } := fun h' sb r' => by
      have q := hQ h' sb
      rw [hSk] at q
      rw [sz] at r'
      exact q r'
    refine wpAny_bind (gw _ ?_)
    split
    · refine wpAny_bind ?_
      rw [hashByValue_scannable 8 hsc]
      refine wpAny_pure (ks_tail ?_ r g1 nd1 m1 hb1 ?_ ?_ ?_ ?_)
      · exact fun b s1 Q' q => gw b q
      · (split <;> first | exact hf1 | exact SetTable.fits_plain_off hf1)
      · (split <;> exact hr1)
      · (split <;> exact hled)
      · exact fun h' sb r' => wpAny_pure (fin h' sb r')
    · refine wpAny_bind (wpAny_pure ?_)
      simp only [↓reduceIte]
      exact ks_tail (fun b s1 Q' q => gw b q) r g1 nd1 m1 hb1 hf1 hr1 hled fun h' sb r' => wpAny_pure (fin h' sb r')
end

/-! ### set(xs) -/
section
variable {P : Program} {w : World} {A : Around} {E : Value → Shared → Prop} {s : Shared}
theorem ks_loop {I : Addr} {fp wr : List Addr} {G : Array GenState → Array GenState → Prop} {n : Nat} {Pv : Nat → Value → Prop} {St : Nat → Shared → Prop} {R : Result → Shared → Prop}
    (W : WalksS P w A.in1 I fp wr G n Pv St) (S : Addr) (off : S ∉ fp) (ks : List Key) (hn : n = ks.length) (hb : ks.length + 1 < scanBound) (hval : ∀ i v, Pv i v → ∃ k, ks[i]? = some k ∧ RelV (kV k) v) :
    ∀ (m i : Nat) (s : Shared), n - i = m → i ≤ n → St i s → (∃ c, c ≤ i ∧ KeySet P w s.heap S (fun j => decide (j ∈ ks.take i)) c) →
      (∀ s' c, Moved (S :: wr) G s s' → c ≤ n → KeySet P w s'.heap S (fun j => decide (j ∈ ks)) c → R (.ok (.ret .none)) s') →
      codeAny (model P w) A (.builtin "set.update.loop" ⟨[.ref S, .ref I], []⟩) R s := by
  have offw : S ∉ wr := fun h => off (W.sub _ h)
  have up : ∀ b ∈ wr, b ∈ S :: wr := fun b hb => List.mem_cons_of_mem _ hb
  intro m
  induction m with
  | zero =>
    rintro i s hm hi hst ⟨c, hc, hS⟩ hR
    obtain rfl : i = n := by omega
    refine codeAny_builtin F.entry_set_update_loop ?_
    rw [Around.under_plainId F.plain_set_update_loop _]
    show wpAny _ A.in1 (pyNext (.ref I) >>= _) _ _ s
    refine wpAny_bind (W.done s _ _ hst fun s' mv => ?_)
    show wpAny _ A.in1 (ret Value.none) _ _ s'
    rw [List.take_of_length_le (by omega)] at hS
    exact wpAny_pure (hR s' c (mv.mono up) hc (hS.keep fun o e => mv.heap S o offw e))
  | succ m ih =>
    rintro i s hm hi hst ⟨c, hc, hS⟩ hR
    have hlt : i < n := by omega
    refine codeAny_builtin F.entry_set_update_loop ?_
    rw [Around.under_plainId F.plain_set_update_loop _]
    show wpAny _ A.in1 (pyNext (.ref I) >>= _) _ _ s
    refine wpAny_bind (W.item i s _ _ hlt hst fun v s' hP hst' mv => ?_)
    obtain ⟨z, hz, rz⟩ := hval i v hP
    have hS' : KeySet P w s'.heap S (fun j => decide (j ∈ ks.take i)) c := hS.keep fun o e => mv.heap S o offw e
    show wpAny _ A.in1 (holding [v] (setAdd S v) >>= _) _ _ s'
    refine wpAny_bind (wpAny_holding ?_)
    unfold setAdd
    refine wpAny_holding (wpAny_bind ((mixKind P w).pyHash (k := z) (kV_is rz) ?_))
    refine ks_add (s := { s' with toks := s'.toks + 1 }) hS' rz (by omega) fun h' sb new => ?_
    have hS3 : KeySet P w h' S (fun j => decide (j ∈ ks.take (i + 1))) (if decide (z ∈ ks.take i) = true then c else c + 1) := new.ext fun j => by
      rw [List.take_add_one, hz]
      simp [List.mem_append]
    have hc3 : (if decide (z ∈ ks.take i) = true then c else c + 1) ≤ i + 1 := by
      split <;> omega
    refine wpAny_pure ⟨plainId_quiet F.plain_set_update_loop _, ih (i + 1) _ (by omega) hlt (W.frame _ s' _ _ hst' (Nat.le_succ _) fun b hb o e => ?_) ⟨_, hc3, hS3⟩ fun s2 c2 mv2 hc2 new2 => ?_⟩
    · rw [sb.2 b fun h : b = S => off (h ▸ hb)]; exact e
    · refine hR s2 c2 (Moved.trans W.gtrans ((mv.mono up).then_heap (Nat.le_succ _) fun b o hb e => ?_) mv2) hc2 new2
      rw [sb.2 b fun h : b = S => hb (h ▸ List.mem_cons_self)]; exact e
abbrev newSet (w : World) : Obj := { cls := .type "set", dict := none, data := .set #[] 0 (.fresh 0 0 (!w.params.followText "set-order")) }
theorem ks_new {h : Heap} {a : Addr} {ks : List Key} (ho : h.get? a = some (newSet w)) : KeySet P w h a (fun j => decide (j ∈ ks.take 0)) 0 :=
  ⟨_, #[], 0, _, ⟨ho, ⟨rfl, rfl, rfl⟩, rfl, fun e he => by simp at he, by simp, fun k => by simp, by decide, by rfl, List.Pairwise.nil, by
    show _ ∨ (!w.params.followText "set-order") = true
    cases w.params.followText "set-order" <;> simp⟩, rfl⟩

set_option maxHeartbeats 3200000 in
theorem ks_call_list {l : Addr} {items : Array Value} (ks : List Key) {Q : Value → Shared → Prop} (hh : A.handled = none) (hl : s.heap.IsList l items) (hit : ∀ (i : Nat) (v : Value), items[i]? = some v → ∃ k, ks[i]? = some k ∧ RelV (kV k) v) (hsz : items.size = ks.length) (hb : ks.length + 1 < scanBound)
    (h : ∀ (h' : Heap) (tk c : Nat), KeySet P w h' s.heap.objs.size (fun j => decide (j ∈ ks)) c → c ≤ ks.length → (∀ b o, s.heap.get? b = some o → h'.get? b = some o) → Q (.ref s.heap.objs.size) { s with heap := h', toks := tk }) :
    wpAny (model P w) A (call (.type "set") [.ref l]) Q E s := by
  obtain ⟨c, tl, hmro⟩ := F.called_set.mro
  have ⟨hmade, hsub, h1, h2⟩ := And.intro F.called_set.made (And.intro F.called_set.sub (And.intro F.called_set.notType F.called_set.canCreate))
  have hct := F.typeCall_set_1 (.ref l)
  refine wpAny_call (codeAny_of_tree ?_)
  show wpAny _ _ (callAny (.type "set") _) _ _ _
  refine wpAny_pure ⟨(Code.quiet_builtin _ (by decide +kernel)), codeAny_builtin F.entry_type_call ?_⟩
  rw [Around.under_plain (weight_type_call_type "set" [.ref l] []) rfl]
  repeat (any_goals (first | assumption | wp_step))
  refine codeAny_mono (code_set_led1 (.ref l) (E := E) (Q₁ := fun obj s1 => obj = .ref s.heap.objs.size ∧ s1 = { s with heap := s.heap.push (newSet w) }) ⟨rfl, rfl⟩) fun r s1 hr => ?_
  cases r with
  | error e => exact hr
  | ok fl =>
    cases fl with
    | ret obj =>
      obtain ⟨rfl, rfl⟩ := hr
      have hS : (s.heap.push (newSet w)).get? s.heap.objs.size = some (newSet w) := Heap.get?_push_size _ rfl
      have hT : Shared.TypeIs { s with heap := s.heap.push (newSet w) } (.ref s.heap.objs.size) "set" := ⟨_, hS, rfl⟩
      have ⟨hli, hbi⟩ := And.intro F.called_set.init.lookup (F.called_set.init.bind (.ref s.heap.objs.size))
      repeat (any_goals (first | assumption | wp_step))
      refine codeAny_mono (codeAny_call_builtin (R := wants (fun r s2 => r = .none ∧ ∃ h' tk c, s2 = { s with heap := h', toks := tk } ∧ KeySet P w h' s.heap.objs.size (fun j => decide (j ∈ ks)) c ∧ c ≤ ks.length ∧
          (∀ b o, s.heap.get? b = some o → h'.get? b = some o)) E) F.called_set.init.plain F.entry_set_init (check_set_init_1 hT ?_)) fun r2 s2 hr2 => ?_
      · obtain ⟨⟨ocls, odict, odata, oslots⟩, hol, hcl, nl, hdl⟩ := hl
        simp only at hcl hdl
        subst hcl hdl
        have hol2 : (s.heap.push (newSet w)).get? l = some { cls := .type "list", dict := odict, data := .seq items nl, slots := oslots } := Heap.get?_push_of_some _ hol
        have ⟨hsls, hslf⟩ := And.intro F.sub_list_set F.sub_list_frozenset
        have hne : (Value.type "list" == Value.type "dict") = false := by decide
        have hl1 : (s.heap.push (newSet w)).IsList l items := ⟨_, hol2, rfl, nl, rfl⟩
        unfold Builtin.«set.__init__» noKeywords Builtin.Frozenset.updateFrom
        generalize hPI : pyIter = PI
        wp_walk
        subst hPI
        refine wpAny_pyIter_list hl1 (wpAny_bind (wpAny_runValue ?_))
        have hlS : l < s.heap.objs.size := Heap.lt_size hol
        have z1 : (s.heap.push (newSet w)).objs.size = s.heap.objs.size + 1 := Heap.size_push ..
        have neI : l ≠ (s.heap.push (newSet w)).objs.size := by rw [z1]; exact Nat.ne_of_lt (Nat.lt_succ_of_lt hlS)
        have off : s.heap.objs.size ∉ [(s.heap.push (newSet w)).objs.size, l] := by
          rw [z1]
          simp only [List.mem_cons, List.not_mem_nil, or_false, not_or]
          exact ⟨Nat.ne_of_lt (Nat.lt_succ_self _), Nat.ne_of_gt hlS⟩
        refine ks_loop ((Walks.list (by simp [hh]) _ l neI items).toS) s.heap.objs.size off ks hsz hb hit (items.size - 0) 0 _ (by omega) (Nat.zero_le _)
          ⟨⟨_, Heap.get?_push_size _ rfl, rfl, rfl⟩, (hl1.push _)⟩ ⟨0, Nat.le_refl 0, ks_new (Heap.get?_push_of_some _ hS)⟩ fun s' c' mv hc' new => ?_
        obtain ⟨h', g2, d', tk', os'⟩ := s'
        obtain rfl : g2 = s.gens := mv.gens
        obtain rfl : d' = s.drawn := mv.drawn
        obtain rfl : os' = s.os := mv.os
        show wpAny _ _ _ _ _ _
        refine wpAny_pure ?_
        show wpAny _ _ (ret Value.none) _ _ _
        refine wpAny_pure ⟨rfl, h', tk', c', rfl, new, hsz ▸ hc', fun b o e => ?_⟩
        have hb0 : b < s.heap.objs.size := Heap.lt_size e
        refine mv.heap b o ?_ (Heap.get?_push_of_some _ (Heap.get?_push_of_some _ e))
        rw [z1]
        simp only [List.mem_cons, List.not_mem_nil, or_false, not_or]
        exact ⟨Nat.ne_of_lt hb0, Nat.ne_of_lt (Nat.lt_succ_of_lt hb0)⟩
      · cases r2 with
        | error e => exact hr2
        | ok fl2 =>
          cases fl2 with
          | ret r =>
            obtain ⟨rfl, h', tk, c', rfl, new, hc', k⟩ := hr2
            repeat (any_goals (first | assumption | wp_step))
            exact h _ _ _ new hc' k
          | _ => exact hr2.elim
    | _ => exact hr.elim

set_option maxHeartbeats 3200000 in
theorem ks_call_tuple {l : Addr} {items : Array Value} (ks : List Key) {Q : Value → Shared → Prop} (hh : A.handled = none) (hl : s.heap.IsTuple l items) (hit : ∀ (i : Nat) (v : Value), items[i]? = some v → ∃ k, ks[i]? = some k ∧ RelV (kV k) v) (hsz : items.size = ks.length) (hb : ks.length + 1 < scanBound)
    (h : ∀ (h' : Heap) (tk c : Nat), KeySet P w h' s.heap.objs.size (fun j => decide (j ∈ ks)) c → c ≤ ks.length → (∀ b o, s.heap.get? b = some o → h'.get? b = some o) → Q (.ref s.heap.objs.size) { s with heap := h', toks := tk }) :
    wpAny (model P w) A (call (.type "set") [.ref l]) Q E s := by
  obtain ⟨c, tl, hmro⟩ := F.called_set.mro
  have ⟨hmade, hsub, h1, h2⟩ := And.intro F.called_set.made (And.intro F.called_set.sub (And.intro F.called_set.notType F.called_set.canCreate))
  have hct := F.typeCall_set_1 (.ref l)
  refine wpAny_call (codeAny_of_tree ?_)
  show wpAny _ _ (callAny (.type "set") _) _ _ _
  refine wpAny_pure ⟨(Code.quiet_builtin _ (by decide +kernel)), codeAny_builtin F.entry_type_call ?_⟩
  rw [Around.under_plain (weight_type_call_type "set" [.ref l] []) rfl]
  repeat (any_goals (first | assumption | wp_step))
  refine codeAny_mono (code_set_led1 (.ref l) (E := E) (Q₁ := fun obj s1 => obj = .ref s.heap.objs.size ∧ s1 = { s with heap := s.heap.push (newSet w) }) ⟨rfl, rfl⟩) fun r s1 hr => ?_
  cases r with
  | error e => exact hr
  | ok fl =>
    cases fl with
    | ret obj =>
      obtain ⟨rfl, rfl⟩ := hr
      have hS : (s.heap.push (newSet w)).get? s.heap.objs.size = some (newSet w) := Heap.get?_push_size _ rfl
      have hT : Shared.TypeIs { s with heap := s.heap.push (newSet w) } (.ref s.heap.objs.size) "set" := ⟨_, hS, rfl⟩
      have ⟨hli, hbi⟩ := And.intro F.called_set.init.lookup (F.called_set.init.bind (.ref s.heap.objs.size))
      repeat (any_goals (first | assumption | wp_step))
      refine codeAny_mono (codeAny_call_builtin (R := wants (fun r s2 => r = .none ∧ ∃ h' tk c, s2 = { s with heap := h', toks := tk } ∧ KeySet P w h' s.heap.objs.size (fun j => decide (j ∈ ks)) c ∧ c ≤ ks.length ∧
          (∀ b o, s.heap.get? b = some o → h'.get? b = some o)) E) F.called_set.init.plain F.entry_set_init (check_set_init_1 hT ?_)) fun r2 s2 hr2 => ?_
      · obtain ⟨⟨ocls, odict, odata, oslots⟩, hol, hcl, nl, hdl⟩ := hl
        simp only at hcl hdl
        subst hcl hdl
        have hol2 : (s.heap.push (newSet w)).get? l = some { cls := .type "tuple", dict := odict, data := .seq items nl, slots := oslots } := Heap.get?_push_of_some _ hol
        have ⟨hsls, hslf⟩ := And.intro F.sub_tuple_set F.sub_tuple_frozenset
        have hne : (Value.type "tuple" == Value.type "dict") = false := by decide
        have hl1 : (s.heap.push (newSet w)).IsTuple l items := ⟨_, hol2, rfl, nl, rfl⟩
        unfold Builtin.«set.__init__» noKeywords Builtin.Frozenset.updateFrom
        generalize hPI : pyIter = PI
        wp_walk
        subst hPI
        refine wpAny_pyIter_tuple hl1 (wpAny_bind (wpAny_runValue ?_))
        have hlS : l < s.heap.objs.size := Heap.lt_size hol
        have z1 : (s.heap.push (newSet w)).objs.size = s.heap.objs.size + 1 := Heap.size_push ..
        have neI : l ≠ (s.heap.push (newSet w)).objs.size := by rw [z1]; exact Nat.ne_of_lt (Nat.lt_succ_of_lt hlS)
        have off : s.heap.objs.size ∉ [(s.heap.push (newSet w)).objs.size, l] := by
          rw [z1]
          simp only [List.mem_cons, List.not_mem_nil, or_false, not_or]
          exact ⟨Nat.ne_of_lt (Nat.lt_succ_self _), Nat.ne_of_gt hlS⟩
        refine ks_loop ((Walks.tuple (by simp [hh]) _ l neI items).toS) s.heap.objs.size off ks hsz hb hit (items.size - 0) 0 _ (by omega) (Nat.zero_le _)
          ⟨⟨_, Heap.get?_push_size _ rfl, rfl, rfl⟩, (hl1.push _)⟩ ⟨0, Nat.le_refl 0, ks_new (Heap.get?_push_of_some _ hS)⟩ fun s' c' mv hc' new => ?_
        obtain ⟨h', g2, d', tk', os'⟩ := s'
        obtain rfl : g2 = s.gens := mv.gens
        obtain rfl : d' = s.drawn := mv.drawn
        obtain rfl : os' = s.os := mv.os
        show wpAny _ _ _ _ _ _
        refine wpAny_pure ?_
        show wpAny _ _ (ret Value.none) _ _ _
        refine wpAny_pure ⟨rfl, h', tk', c', rfl, new, hsz ▸ hc', fun b o e => ?_⟩
        have hb0 : b < s.heap.objs.size := Heap.lt_size e
        refine mv.heap b o ?_ (Heap.get?_push_of_some _ (Heap.get?_push_of_some _ e))
        rw [z1]
        simp only [List.mem_cons, List.not_mem_nil, or_false, not_or]
        exact ⟨Nat.ne_of_lt hb0, Nat.ne_of_lt (Nat.lt_succ_of_lt hb0)⟩
      · cases r2 with
        | error e => exact hr2
        | ok fl2 =>
          cases fl2 with
          | ret r =>
            obtain ⟨rfl, h', tk, c', rfl, new, hc', k⟩ := hr2
            repeat (any_goals (first | assumption | wp_step))
            exact h _ _ _ new hc' k
          | _ => exact hr2.elim
    | _ => exact hr.elim
end
end N

/-! N16: the order of data; sorted(set(..)), len(set(..)). -/
namespace N
open PySem PySem.Spec L2 PyProof.Rows

/-! ### the order -/
abbrev dle (a b : D) : Bool := PySem.W.dataLe false (fun x => x) a b
theorem dle_lt (a b : D) : dle a b = !PySem.W.dataLt b a := rfl
theorem dle_trans : ∀ a b c : D, dle a b = true → dle b c = true → dle a c = true := (PySem.W.sortLe_total (listOrd itemOrd) false fun b => PySem.W.keyToks b).trans
theorem dle_total (a b : D) : (dle a b || dle b a) = true := Bool.or_eq_true_iff.mpr ((PySem.W.sortLe_total (listOrd itemOrd) false fun b => PySem.W.keyToks b).total a b)
theorem dle_toks {a b : D} (h : dle a b = true) (k : dle b a = true) : PySem.W.keyToks a = PySem.W.keyToks b := by
  rw [dle_lt, Bool.not_eq_true'] at h k
  exact lex_total _ _ k h
theorem srt_perm (xs : List D) : (srt xs).Perm xs := List.mergeSort_perm xs _
theorem srt_sorted (xs : List D) : (srt xs).Pairwise (fun a b => dle a b = true) := List.pairwise_mergeSort dle_trans dle_total xs
/-- no two of them have the same place in the order -/
def Apart (xs : List D) : Prop := ∀ a ∈ xs, ∀ b ∈ xs, PySem.W.keyToks a = PySem.W.keyToks b → a = b
theorem srt_unique {xs ys : List D} (h : Apart xs) (p : ys.Perm xs) (s : ys.Pairwise (fun a b => dle a b = true)) : ys = srt xs :=
  List.Perm.eq_of_pairwise (fun a b ha hb h1 h2 => h a (p.mem_iff.mp ha) b ((srt_perm xs).mem_iff.mp hb) (dle_toks h1 h2)) s (srt_sorted xs) (p.trans (srt_perm xs).symm)
theorem srt_congr {xs ys : List D} (h : Apart xs) (p : ys.Perm xs) : srt ys = srt xs := srt_unique h ((srt_perm ys).trans p) (srt_sorted ys)

/-! ### keys -/
def dKey : D → Option Key
  | .int i => some (.inl i)
  | .str x => some (.inr x)
  | _ => none
def dKeys : List D → Option (List Key)
  | [] => some []
  | d :: ds => match dKey d, dKeys ds with
    | some k, some ks => some (k :: ks)
    | _, _ => none
def uniq : List Key → List Key
  | [] => []
  | k :: ks => if k ∈ uniq ks then uniq ks else k :: uniq ks
theorem uniq_mem {k : Key} : ∀ {ks : List Key}, k ∈ uniq ks ↔ k ∈ ks
  | [] => Iff.rfl
  | x :: ks => by
    unfold uniq
    split
    · rename_i h
      rw [uniq_mem, List.mem_cons]
      exact ⟨.inr, fun z => z.elim (fun e => e ▸ uniq_mem.mp h) id⟩
    · rw [List.mem_cons, List.mem_cons, uniq_mem]
theorem uniq_nodup : ∀ ks : List Key, (uniq ks).Nodup
  | [] => List.nodup_nil
  | x :: ks => by
    unfold uniq
    split
    · exact uniq_nodup ks
    · exact List.nodup_cons.mpr ⟨by assumption, uniq_nodup ks⟩
theorem uniq_len : ∀ ks : List Key, (uniq ks).length ≤ ks.length
  | [] => Nat.le_refl _
  | x :: ks => by
    have ih := uniq_len ks
    unfold uniq
    split
    · exact Nat.le_succ_of_le ih
    · exact Nat.succ_le_succ ih
theorem dKey_some {d : D} {k : Key} (e : dKey d = some k) : d = kD k := by
  unfold dKey at e
  split at e
  · cases e; rfl
  · cases e; rfl
  · cases e
theorem dKeys_map : ∀ {ds : List D} {ks : List Key}, dKeys ds = some ks → ds = ks.map kD
  | [], ks, e => by cases e; rfl
  | d :: ds, ks, e => by
    unfold dKeys at e
    split at e
    · rename_i k ks' e1 e2
      cases e
      rw [List.map_cons, ← dKeys_map e2, ← dKey_some e1]
    · cases e
theorem perm_of_nodup {α : Type} [DecidableEq α] {l m : List α} (hl : l.Nodup) (hm : m.Nodup) (h : ∀ x, x ∈ l ↔ x ∈ m) : l.Perm m := (List.perm_ext_iff_of_nodup hl hm).mpr h
theorem kD_toks {a b : Key} (h : PySem.W.keyToks (kD a) = PySem.W.keyToks (kD b)) : a = b := by
  cases a <;> cases b <;> simp [kD, PySem.W.keyToks] at h ⊢
  · exact h
  · rename_i x y
    obtain ⟨x⟩ := x; obtain ⟨y⟩ := y; exact congrArg Str.mk h
theorem kD_apart (ks : List Key) : Apart (ks.map kD) := fun a ha b hb e => by
  obtain ⟨x, _, rfl⟩ := List.mem_map.mp ha
  obtain ⟨y, _, rfl⟩ := List.mem_map.mp hb
  rw [kD_toks e]
theorem srtOk_sub {xs ys : List D} (h : srtOk xs = true) (m : ∀ y ∈ ys, y ∈ xs) (l : ys.length ≤ xs.length) : srtOk ys = true := by
  simp only [srtOk, srtKinds, Bool.and_eq_true, Bool.or_eq_true, List.all_eq_true, decide_eq_true_eq] at h ⊢
  exact ⟨⟨⟨fun a ha b hb => h.1.1.1 a (m a ha) b (m b hb), h.1.1.2.imp (fun k y hy => k y (m y hy)) fun k y hy => k y (m y hy)⟩, fun y hy => h.1.2 y (m y hy)⟩, Nat.le_trans l h.2⟩
def seqOf (r : R) (st : Sto) : Option (List D) := match r.tup? with
  | some xs => some xs
  | none => r.lst? st
def oSortSet (r : R) : M R := fun st => match seqOf r st with
  | some ds => match dKeys ds with
    | some ks => if srtOk ds = true then (if ds.length ≤ 1000 then .ok (.l true (srt ((uniq ks).map kD))) st else .no) else .no
    | none => .no
  | none => .no
def oLenSet (r : R) : M R := fun st => match seqOf r st with
  | some ds => match dKeys ds with
    | some ks => if ds.length ≤ 1000 then .ok (.d (.int (uniq ks).length)) st else .no
    | none => .no
  | none => .no
section
variable {X : Cx} {W : String → L2.St → Hp → Prop} {pins : List (Addr × Obj)} {σ σ' : L2.St} {H H0 : Hp} {g g0 : Gh} {s : Shared} {env : En} {st : Sto} {v w : V} {u : Value} {r : R} {Q : VK} {K : PySem.W.Frag}
theorem dfa_keys : ∀ {vs : List V} {ks : List Key}, DfA K g vs (ks.map kD) → vs = ks.map kV
  | _, [], h => by cases h; rfl
  | _, k :: ks, h => by
    cases h with
    | cons a t =>
      rw [dfa_keys t, List.map_cons]
      cases k with
      | inl i => cases Df.int_inv a; rfl
      | inr x => cases Df.str_inv a; rfl
theorem key_at : ∀ {ks : List Key} {us : List Value}, Vals (ks.map kV) us → ∀ (i : Nat) (v : Value), us[i]? = some v → ∃ k, ks[i]? = some k ∧ RelV (kV k) v
  | [], _, .nil, i, v, e => by simp at e
  | k :: ks, _, .cons a t, 0, v, e => by cases e; exact ⟨k, rfl, a⟩
  | k :: ks, _, .cons a t, i + 1, v, e => by
    obtain ⟨j, h1, h2⟩ := key_at t i v (by simpa using e)
    exact ⟨j, by simpa using h1, h2⟩
theorem df_key (k : Key) : Df K g (kV k) (kD k) := by
  cases k with
  | inl i => exact .int i
  | inr x => exact .str x
/-- set(xs): at the call -/
theorem set_of {E : Value → Shared → Prop} {x : V} {u : Value} {Qv : Value → Shared → Prop} {ds : List D} {ks : List Key} (hcalm : X.calm = true) (I : L2.Inv X pins σ H s) (R0 : Rel K g env st σ' H) (hK : K = X.K) (rv : Rv K g H x r) (ru : RelV x u) (eS : seqOf r st = some ds) (ek : dKeys ds = some ks) (hl : ds.length ≤ 1000)
    (h : ∀ (h' : Heap) (tk c : Nat), KeySet X.prog X.w h' s.heap.objs.size (fun j => decide (j ∈ ks)) c → (∀ b o, s.heap.get? b = some o → h'.get? b = some o) → Qv (.ref s.heap.objs.size) { s with heap := h', toks := tk }) :
    wpAny (model X.prog X.w) X.A (call (.type "set") [u]) Qv E s := by
  subst hK
  have em := dKeys_map ek
  have hlk : ks.length ≤ 1000 := by rw [em, List.length_map] at hl; exact hl
  have hb : ks.length + 1 < scanBound := by unfold scanBound; omega
  unfold seqOf at eS
  split at eS
  · rename_i xs e
    cases eS
    obtain ⟨a, vs, rfl, h1, _, h2, _⟩ := tup_ok R0 rv e
    rw [em] at h2
    cases dfa_keys h2
    cases ru
    obtain ⟨its, rv', pt, hz⟩ := I.tuple h1
    exact ks_call_tuple ks (I.ok.hd hcalm) pt (fun i v e => key_at rv' i v (by simpa using e)) (by have := rv'.length; rw [List.length_map] at this; rw [List.size_toArray]; omega) hb fun h' tk c R1 _ k => h h' tk c R1 k
  · obtain ⟨a, vs, rfl, h1, h2⟩ := lst_ok R0 rv eS
    rw [em] at h2
    cases dfa_keys h2
    cases ru
    obtain ⟨its, rv', pl, hz⟩ := I.list h1
    exact ks_call_list ks (I.ok.hd hcalm) pl.isList (fun i v e => key_at rv' i v (by simpa using e)) (by have := rv'.length; rw [List.length_map] at this; rw [List.size_toArray]; omega) hb fun h' tk c R1 _ k => h h' tk c R1 k
variable {a : Expr} {fa : En → M R} {p p2 q pos : Pos}
theorem e_sortedSet (hcalm : X.calm = true) (hu : X.A.units + 64 < cLine) (he : PE X a (tr (cx X W) fa)) (hg : Gl X "sorted") (hm : X.mg "sorted" = none) (hg2 : Gl X "set") (hm2 : X.mg "set" = none)
    (na : starEach [a] X.env = (false, eval a X.env) :: starEach [] X.env := by rfl) : PE X (.Call (.Name "sorted" p) [.Call (.Name "set" p2) [a] [] q] [] pos) (tr (cx X W) (dUn oSortSet fa)) := by
  refine ⟨fun pins s σ H Q I hq => ?_⟩
  refine Call_ (ld_blt I hg hm (by decide +kernel : bootBuiltins (Str.ofString "sorted") = some (.builtin "sorted")) ?_)
  refine callWith_builtin1 (args_cons ?_ rfl) rfl rfl
  refine Call_ (ld_blt I hg2 hm2 boot_set ?_)
  refine callWith_type1 (args_cons (thn (he.run pins s σ H _ I (tr1 hq)) fun u s1 ⟨x, H1, I1, rx, env, σ', st, g, H0, g0, r, B, v1, _, qq⟩ => args_nil ?_) na) na rfl
  unfold oSortSet at qq
  split at qq
  · rename_i ds e1
    split at qq
    · rename_i ks e2
      split at qq
      · rename_i ho
        split at qq
        · rename_i hl
          refine set_of hcalm I1 B.rel rfl v1 rx e1 e2 hl fun h' tk c R1 k1 => args_nil ?_
          have I2 : L2.Inv X pins σ H1 { s1 with heap := h', toks := tk } := I1.kept k1
          obtain ⟨o, es, ep, t, r1, hn⟩ := R1
          have em := dKeys_map e2
          refine sorted_inv (s := { s1 with heap := h', toks := tk }) hu fun E' => collect_set (A := X.A.in1) (I1.ok.hd hcalm) ⟨o, r1.at_, r1.exact.1, r1.data⟩ r1.fit r1.few r1.ris r1.led fun s2 out k2 hz g2 o2 pm => ?_
          have I3 : L2.Inv X pins σ H1 s2 := by
            have z := I2.call' (s' := s2) (ch := []) o2 (Un.kept k2) (I2.hok.kept k2) (by rw [g2]; exact I2.bare) fun _ z => nomatch z
            exact z
          -- the members, as keys
          have hr : ∀ v ∈ out, RelV (kV (kyOf (0, v))) v := fun v hv => by
            obtain ⟨e, he, rfl⟩ := List.mem_map.mp (pm.mem_iff.mp hv)
            exact (r1.good e he).rel
          have pk : (out.map fun v => kyOf (0, v)).Perm (es.toList.map kyOf) := by
            have z := pm.map fun v => kyOf (0, v)
            rw [List.map_map] at z
            exact z
          have pu : (out.map fun v => kyOf (0, v)).Perm (uniq ks) := pk.trans (perm_of_nodup r1.nd (uniq_nodup ks) fun j => by rw [← r1.mem j, uniq_mem, decide_eq_true_eq])
          have hv : ∀ l : List Value, (∀ v ∈ l, RelV (kV (kyOf (0, v))) v) → Vals ((l.map fun v => kyOf (0, v)).map kV) l ∧ DfA X.K g ((l.map fun v => kyOf (0, v)).map kV) ((l.map fun v => kyOf (0, v)).map kD) := fun l => by
            induction l with
            | nil => exact fun _ => ⟨.nil, .nil⟩
            | cons v l ih =>
              intro hh
              obtain ⟨i1, i2⟩ := ih fun v hv => hh v (List.mem_cons_of_mem _ hv)
              exact ⟨.cons (hh v List.mem_cons_self) i1, .cons (df_key _) i2⟩
          obtain ⟨hv1, hv2⟩ := hv out hr
          refine ⟨_, _, g, H1, I3, B.rel.sub, hv1, hv2, srtOk_sub ho (fun y hy => ?_) ?_, fun p ws hp hw => ?_⟩
          · obtain ⟨j, hj, rfl⟩ := List.mem_map.mp hy
            rw [em]
            exact List.mem_map_of_mem (uniq_mem.mp (pu.mem_iff.mp hj))
          · rw [List.length_map, pu.length_eq, em, List.length_map]
            exact uniq_len ks
          · rw [srt_congr (kD_apart (uniq ks)) (pu.map kD)] at hw
            exact B.fin_l qq hp hw
        · exact qq.elim
      · exact qq.elim
    · exact qq.elim
  · exact qq.elim
theorem e_lenSet (hcalm : X.calm = true) (he : PE X a (tr (cx X W) fa)) (hg : Gl X "len") (hm : X.mg "len" = none) (hg2 : Gl X "set") (hm2 : X.mg "set" = none)
    (na : starEach [a] X.env = (false, eval a X.env) :: starEach [] X.env := by rfl) : PE X (.Call (.Name "len" p) [.Call (.Name "set" p2) [a] [] q] [] pos) (tr (cx X W) (dUn oLenSet fa)) := by
  refine ⟨fun pins s σ H Q I hq => ?_⟩
  refine Call_ (ld_blt I hg hm boot_len ?_)
  refine callWith_builtin1 (args_cons ?_ rfl) rfl rfl
  refine Call_ (ld_blt I hg2 hm2 boot_set ?_)
  refine callWith_type1 (args_cons (thn (he.run pins s σ H _ I (tr1 hq)) fun u s1 ⟨x, H1, I1, rx, env, σ', st, g, H0, g0, r, B, v1, _, qq⟩ => args_nil ?_) na) na rfl
  unfold oLenSet at qq
  split at qq
  · rename_i ds e1
    split at qq
    · rename_i ks e2
      split at qq
      · rename_i hl
        refine set_of hcalm I1 B.rel rfl v1 rx e1 e2 hl fun h' tk c R1 k1 => args_nil ?_
        have I2 : L2.Inv X pins σ H1 { s1 with heap := h', toks := tk } := I1.kept k1
        obtain ⟨o, es, ep, t, r1, hn⟩ := R1
        have pu : (es.toList.map kyOf).Perm (uniq ks) := perm_of_nodup r1.nd (uniq_nodup ks) fun j => by rw [← r1.mem j, uniq_mem, decide_eq_true_eq]
        have hc : es.size = (uniq ks).length := by rw [← pu.length_eq, List.length_map, Array.length_toList]
        have few := r1.few
        refine call_len_set r1.at_ r1.exact r1.data r1.fit (by unfold scanBound at few; omega) ⟨.int (uniq ks).length, H1, I2.tok _, ⟨_, by rw [hc]⟩, B.fin_d qq (.int _)⟩
      · exact qq.elim
    · exact qq.elim
  · exact qq.elim
end
end N

/-! N17: new objects of the store, slots frozen, a, b = x, y, enumerate as a statement's walk, the law's entry. -/
namespace N
open PySem PySem.Spec L2 PyProof.Rows

/-! ### a new list (dict) becomes an object of the store -/
def opn : Sto → Bool
  | .c :: _ => false
  | _ => true
def oNew (r : R) : M R := fun st => match r with
  | .l true xs => if opn st = true then .ok (.d (rf st.length)) (st ++ [.l xs]) else .no
  | .k true xs => if opn st = true then .ok (.d (rf st.length)) (st ++ [.k xs]) else .no
  | _ => .no
def dNew (f : En → M R) : En → M R := fun env => f env >>= oNew
section
variable {c : Ct} {env : En} {σ : L2.St} {H H1 H0 : Hp} {g g0 g1 : Gh} {st : Sto} {Q : VK} {K : PySem.W.Frag} {De : Ends} {lo : Gh}
theorem lb_isopen (h : Lb g st) (e : opn st = true) : g.cl = none ∧ g.L = st.length := by
  unfold Lb at h
  split at h
  · obtain ⟨_, h2⟩ := h
    subst h2
    cases e
  · exact ⟨by assumption, h.1⟩
def Gh.more (g : Gh) (a : Addr) : Gh := { g with ι := fun n => if n = g.L then a else g.ι n, L := g.L + 1 }
theorem Le.more {a : Addr} : Le g (g.more a) := ⟨fun _ _ h => h, Nat.le_succ _, fun n hn => by
  show (if n = g.L then a else g.ι n) = g.ι n
  rw [if_neg (Nat.ne_of_lt hn)], rfl⟩
theorem Bs.more (b : Bs c H env σ st g H0 g0) {a : Addr} {ob : Ob} (he : opn st = true) (h0 : H0 a = none) (ha : H a ≠ none) (hg : g.G a = none) (hn : ∀ n, n < g.L → g.ι n ≠ a) (hlv : ob.live = true) (ho : ObOk c.K (g.more a) H a ob) :
    Bs c H env σ (st ++ [ob]) (g.more a) H0 g0 := by
  obtain ⟨hc, hL⟩ := lb_isopen b.rel.lb he
  have old : ∀ n, n < g.L → (g.more a).ι n = g.ι n := fun n hn => Le.more.ι n hn
  have new : (g.more a).ι g.L = a := by
    show (if g.L = g.L then a else g.ι g.L) = a
    rw [if_pos rfl]
  have lt : ∀ n, n < (g.more a).L → n < g.L ∨ n = g.L := fun n h => Nat.lt_or_eq_of_le (Nat.le_of_lt_succ h)
  refine ⟨⟨b.e.le.trans Le.more, b.e.keep, b.e.stay, b.e.gnew, fun n h1 h2 => ?_⟩, ⟨b.rel.sub, fun i r e => ?_, b.rel.own, fun n ob' e lv => ?_, ?_, fun m n hm hn' e => ?_, fun n h => ?_, b.rel.len⟩, b.sl⟩
  · rcases lt n h2 with h | h
    · rw [old n h]; exact b.e.inew n h1 h
    · rw [h, new]; exact h0
  · obtain ⟨v, h1, h2⟩ := b.rel.slot i r e
    refine ⟨v, h1, ?_⟩
    have app : r.own = true → v ≠ V.ref a := fun o z => b.sl i r a e o (by rw [h1, z]) h0
    have nn : ∀ a', a' ≠ a → (∀ n, n < g.L → g.ι n ≠ a') → ∀ n, n < (g.more a).L → (g.more a).ι n ≠ a' := fun a' ne k n hn' => by
      rcases lt n hn' with h | h
      · rw [old n h]; exact k n h
      · rw [h, new]; exact ne.symm
    cases r with
    | d y => exact Df.le Le.more h2
    | l f ds =>
      obtain ⟨a', vs, rfl, k1, k2, k3, k4⟩ := h2
      exact ⟨a', vs, rfl, k1, k2, nn a' (fun z => app rfl (by rw [z])) k3, DfA.le Le.more k4⟩
    | k f ds =>
      obtain ⟨a', vs, rfl, k1, k2, k3, k4⟩ := h2
      exact ⟨a', vs, rfl, k1, k2, nn a' (fun z => app rfl (by rw [z])) k3, DfK.le Le.more k4⟩
  · rw [List.getElem?_append] at e
    split at e
    · obtain ⟨h1, h2⟩ := b.rel.obj n ob' e lv
      refine ⟨Nat.lt_succ_of_lt h1, ?_⟩
      rw [old n h1]
      exact h2.ext Le.more (fun _ e => e) (fun h => h) fun h => h
    · rename_i hl
      have hz : n - st.length = 0 := by
        cases q : n - st.length with
        | zero => rfl
        | succ m => rw [q] at e; cases e
      rw [hz] at e
      cases e
      have en : n = g.L := by omega
      subst en
      exact ⟨Nat.lt_succ_self _, by rw [new]; exact ho⟩
  · have lb := b.rel.lb
    unfold Lb at lb ⊢
    show match g.cl with | some n => g.L + 1 = n ∧ st ++ [ob] = [.c] | none => g.L + 1 = (st ++ [ob]).length ∧ st ++ [ob] ≠ [.c]
    rw [hc] at lb ⊢
    refine ⟨by rw [List.length_append, lb.1]; rfl, fun z => ?_⟩
    cases st with
    | nil => cases z; cases hlv
    | cons x t =>
      rw [List.cons_append] at z
      injection z with z1 z2
      have := congrArg List.length z2
      simp at this
  · rcases lt m hm with h | h <;> rcases lt n hn' with h' | h'
    · rw [old m h, old n h'] at e; exact b.rel.inj m n h h' e
    · rw [old m h, h', new] at e; exact absurd e (hn m h)
    · rw [h, new, old n h'] at e; exact absurd e.symm (hn n h')
    · rw [h, h']
  · rcases lt n h with h' | h'
    · rw [old n h']; exact b.rel.refs n h'
    · rw [h', new]; exact ha
end
section
variable {X : Cx} {W : String → L2.St → Hp → Prop} {pos p : Pos} {e : Expr} {es : List Expr} {f : En → M R} {fs : En → M (List R)}
theorem e_new (he : PE X e (tr (cx X W) f)) : PE X e (tr (cx X W) (dNew f)) := by
  refine PE.imp he fun σ H Q ⟨env, st, g, R0, q⟩ => ⟨env, st, g, R0, Post.mono (Post.bind (.refl H g) q) fun r g1 H1 ⟨st1, _, R1, x, _, q⟩ v rv fr => ?_⟩
  have b : Bs (cx X W) H1 env σ st1 g1 H g := ⟨x, R1, R0.sl⟩
  unfold oNew at q
  split at q
  · rename_i xs _ _
    split at q
    · rename_i ho
      obtain ⟨a, vs, rfl, k1, k2, k3, k4⟩ := rv
      obtain ⟨hc, hL⟩ := lb_isopen R1.lb ho
      have b2 := b.more (a := a) (ob := .l xs) ho (fr rfl a rfl) (by rw [k1]; simp) k2 k3 rfl ⟨vs, k1, k2, DfA.le Le.more k4⟩
      refine q _ _ b2.e b2.rel _ ?_ (fun z => nomatch z)
      have := Df.rf (K := X.K) (g := g1.more a) st1.length (by show st1.length < g1.L + 1; omega)
      have e2 : (g1.more a).ι st1.length = a := by
        show (if st1.length = g1.L then a else _) = a
        rw [if_pos hL.symm]
      rw [e2] at this
      exact this
    · exact q.elim
  · rename_i xs _ _
    split at q
    · rename_i ho
      obtain ⟨a, vs, rfl, k1, k2, k3, k4⟩ := rv
      obtain ⟨hc, hL⟩ := lb_isopen R1.lb ho
      have b2 := b.more (a := a) (ob := .k xs) ho (fr rfl a rfl) (by rw [k1]; simp) k2 k3 rfl ⟨vs, k1, k2, DfK.le Le.more k4⟩
      refine q _ _ b2.e b2.rel _ ?_ (fun z => nomatch z)
      have := Df.rf (K := X.K) (g := g1.more a) st1.length (by show st1.length < g1.L + 1; omega)
      have e2 : (g1.more a).ι st1.length = a := by
        show (if st1.length = g1.L then a else _) = a
        rw [if_pos hL.symm]
      rw [e2] at this
      exact this
    · exact q.elim
  · exact q.elim
end

/-! ### a slot is frozen, ahead of a statement -/
def frzEn (i : Nat) (env : En) : En := match env[i]? with
  | some (some (.l _ xs)) => env.set i (some (.d (.list xs)))
  | some (some (.k _ xs)) => env.set i (some (.d (.dict (xs.map fun p => (kD p.1, p.2)))))
  | _ => env
def dFrz (i : Nat) (S : SM) : SM := fun env => S (frzEn i env)
section
variable {c : Ct} {env : En} {σ : L2.St} {H H1 H0 : Hp} {g g0 g1 lo : Gh} {st : Sto} {De : Ends} {i : Nat} {S : SM}
theorem RelS.frzSlot {a : Addr} {o : HO} {r : R} {d : D} (h : RelS c H0 g0 lo env st σ H g) (e : env[i]? = some (some r)) (ho : r.own = true) (hs : σ[i]? = some (some (V.ref a))) (ha : H a = some o) (hg : g.G a = none) (hn : ∀ n, n < g.L → g.ι n ≠ a) (hd : Df c.K (g.put a o) (.ref a) d) :
    RelS c H0 g0 lo (env.set i (some (.d d))) st σ H (g.put a o) where
  rel :=
    { sub := fun x u ex => by
        by_cases z : x = a
        · subst z
          have : (g.put x o).G x = some o := upd_same
          rw [this] at ex; cases ex
          exact .inl ha
        · have : (g.put a o).G x = g.G x := upd_ne z
          rw [this] at ex
          exact h.rel.sub x u ex
      slot := fun j r' ej => by
        rcases set_get ej with ⟨rfl, ej, _⟩ | ⟨hj, ej⟩
        · cases ej
          exact ⟨_, hs, hd⟩
        · obtain ⟨v, h1, h2⟩ := h.rel.slot j r' ej
          refine ⟨v, h1, ?_⟩
          have ne : r'.own = true → v ≠ .ref a := fun o' z => by
            subst z
            exact hj (h.rel.own j i r' r a ej e o' ho h1 hs)
          cases r' with
          | d y => exact Df.le (Le.put hg) h2
          | l f ds =>
            obtain ⟨a', vs, rfl, k1, k2, k3, k4⟩ := h2
            exact ⟨a', vs, rfl, k1, (upd_ne fun z => ne rfl (by rw [z])).trans k2, k3, DfA.le (Le.put hg) k4⟩
          | k f ds =>
            obtain ⟨a', vs, rfl, k1, k2, k3, k4⟩ := h2
            exact ⟨a', vs, rfl, k1, (upd_ne fun z => ne rfl (by rw [z])).trans k2, k3, DfK.le (Le.put hg) k4⟩
      own := fun j k r1 r2 b e1 e2 o1 o2 s1 s2 => by
        rcases set_get e1 with ⟨_, q1, _⟩ | ⟨_, q1⟩
        · cases q1; cases o1
        · rcases set_get e2 with ⟨_, q2, _⟩ | ⟨_, q2⟩
          · cases q2; cases o2
          · exact h.rel.own j k r1 r2 b q1 q2 o1 o2 s1 s2
      obj := fun n ob en lv => by
        obtain ⟨h1, h2⟩ := h.rel.obj n ob en lv
        exact ⟨h1, h2.ext (Le.put hg) (fun _ e => e) (fun h => h) fun hz => (upd_ne (hn n h1)).trans hz⟩
      lb := h.rel.lb
      inj := h.rel.inj
      refs := h.rel.refs
      len := by rw [List.length_set]; exact h.rel.len }
  e := ⟨h.e.le.trans (Le.put hg), h.e.keep, h.e.stay, fun x hx => by
    by_cases z : x = a
    · subst z; exact .inr (h.new i r x e ho hs)
    · refine h.e.gnew x ?_
      have : (g.put a o).G x = g.G x := upd_ne z
      rw [← this]; exact hx, h.e.inew⟩
  lo := h.lo.trans (Le.put hg)
  new := fun j r' b ej oj s => by
    rcases set_get ej with ⟨_, q1, _⟩ | ⟨_, q1⟩
    · cases q1; cases oj
    · exact h.new j r' b q1 oj s
theorem RelS.frzn (i : Nat) (h : RelS c H0 g0 lo env st σ H g) : ∃ g', RelS c H0 g0 lo (frzEn i env) st σ H g' := by
  unfold frzEn
  split
  · rename_i f xs e
    obtain ⟨v, s1, a, vs, rfl, h1, h2, h3, h4⟩ := h.rel.slot _ _ e
    exact ⟨_, h.frzSlot e rfl s1 h1 h2 h3 (.lst sql_put (DfA.le (Le.put h2) h4))⟩
  · rename_i f xs e
    obtain ⟨v, s1, a, vs, rfl, h1, h2, h3, h4⟩ := h.rel.slot _ _ e
    exact ⟨_, h.frzSlot e rfl s1 h1 h2 h3 (.dct upd_same (DfK.le (Le.put h2) h4))⟩
  · exact ⟨g, h⟩
theorem trS_frz (h : trS c H0 g0 (dFrz i S) De σ H) : trS c H0 g0 S De σ H := by
  obtain ⟨env, st, g, lo, R0, q⟩ := h
  obtain ⟨g', R1⟩ := R0.frzn i
  exact ⟨_, st, g', lo, R1, q⟩
theorem s_frz {X : Cx} {W : String → L2.St → Hp → Prop} {s : Stmt} (i : Nat) (h : PS X s (trS (cx X W) H0 g0 S)) : PS X s (trS (cx X W) H0 g0 (dFrz i S)) := PS.imp h fun _ _ _ q => trS_frz q
end

/-! ### a, b = x, y -/
def parM (i j : Nat) (s1 s2 : R → M R) (env : En) (rs : List R) : M (Fl × En) := match rs with
  | [r1, r2] => if r2.own = r2.fr then s1 r1 >>= fun x => s2 r2 >>= fun y => M.ret (.nx, (env.set i (some x)).set j (some y)) else M.no
  | _ => M.no
def dPar (i j : Nat) (s1 s2 : R → M R) (fs : En → M (List R)) : SM := fun env => fs env >>= parM i j s1 s2 env
section
variable {X : Cx} {W : String → L2.St → Hp → Prop} {pos : Pos} {H0 : Hp} {g0 : Gh} {fs : En → M (List R)}
theorem parM_ok {i j : Nat} {s1 s2 : R → M R} {env : En} {rs : List R} {st : Sto} {c : Ct} {lo : Gh} {D : Ends} (q : PostS c H0 g0 lo (parM i j s1 s2 env rs st) D) :
    ∃ r1 r2, rs = [r1, r2] ∧ r2.own = r2.fr ∧ PostS c H0 g0 lo ((s1 r1 >>= fun x => s2 r2 >>= fun y => M.ret (.nx, (env.set i (some x)).set j (some y))) st) D := by
  match rs, q with
  | [], q => exact q.elim
  | [_], q => exact q.elim
  | _ :: _ :: _ :: _, q => exact q.elim
  | [r1, r2], q =>
    unfold parM at q
    by_cases e : r2.own = r2.fr
    · simp only [e, if_true] at q
      exact ⟨r1, r2, rfl, e, q⟩
    · simp only [e, if_false] at q
      exact q.elim
theorem trS_par {s1 s2 : R → M R} (o1 : SlOk s1) (o2 : SlOk s2) {i j : Nat} (hij : i ≠ j) {D : Ends} {σ : L2.St} {H : Hp} {c : Ct} (h : trS c H0 g0 (dPar i j s1 s2 fs) D σ H) : trA c fs σ H fun vs H1 => ∃ v w, vs = [v, w] ∧ D.nx ((σ.set i (some v)).set j (some w)) H1 ∧ ∀ p, H1 p = none → D.nx ((σ.set i (some v)).set j (some w)) (upd H1 p (.tup [v, w])) := by
  obtain ⟨env, st, g, lo, R0, q⟩ := h
  refine ⟨env, st, g, R0.rel, Post.mono (R0.part q) fun rs g1 H1 ⟨st1, x, R1, q1⟩ vs rv fr => ?_⟩
  obtain ⟨r1, r2, rfl, hfr, q1⟩ := parM_ok q1
  cases rv with
  | cons rv1 rvt =>
    cases rvt with
    | cons rv2 rvn =>
      cases rvn
      rename_i v w
      obtain ⟨f1, ⟨f2, _, _⟩, f3⟩ := fr
      obtain ⟨x1, g2, e2, le2, R2, rv1', hn1, q2, z⟩ := o1.run R1 x (.inr R0.rel.sl) rv1 f1 R0.e q1
      have apart : ∀ a' a, w = .ref a' → v = .ref a → r2.own = true → r1.fr = true → a' ≠ a := fun a' a e1 e2 o2 hf z => by
        subst z
        exact f3 hf 0 _ rfl (hfr ▸ o2) (by rw [e1, e2]; rfl)
      have rv2' : Rv c.K g2 H1 w r2 := by
        rcases z with rfl | ⟨a, o, rfl, rfl, hf, hg⟩
        · exact rv2
        · cases r2 with
          | d y => exact Df.le (Le.put hg) rv2
          | l f ds =>
            obtain ⟨a', vs', rfl, k1, k2, k3, k4⟩ := rv2
            exact ⟨a', vs', rfl, k1, (upd_ne (apart a' a rfl rfl rfl hf)).trans k2, k3, DfA.le (Le.put hg) k4⟩
          | k f ds =>
            obtain ⟨a', vs', rfl, k1, k2, k3, k4⟩ := rv2
            exact ⟨a', vs', rfl, k1, (upd_ne (apart a' a rfl rfl rfl hf)).trans k2, k3, DfK.le (Le.put hg) k4⟩
      obtain ⟨x2, g3, e3, le3, R3, rv2'', hn2, q3, z2⟩ := o2.run R2 e2 (.inr R0.rel.sl) rv2' f2 R0.e q2
      have rv1'' : Rv c.K g3 H1 v x1 := by
        rcases z2 with rfl | ⟨a, o, rfl, rfl, hf, hg⟩
        · exact rv1'
        · have o2' : r2.own = true := hfr.trans hf
          cases x1 with
          | d y => exact Df.le (Le.put hg) rv1'
          | l f ds =>
            obtain ⟨a', vs', rfl, k1, k2, k3, k4⟩ := rv1'
            exact ⟨a', vs', rfl, k1, (upd_ne (apart a a' rfl rfl o2' (hn1 rfl).1).symm).trans k2, k3, DfA.le (Le.put hg) k4⟩
          | k f ds =>
            obtain ⟨a', vs', rfl, k1, k2, k3, k4⟩ := rv1'
            exact ⟨a', vs', rfl, k1, (upd_ne (apart a a' rfl rfl o2' (hn1 rfl).1).symm).trans k2, k3, DfK.le (Le.put hg) k4⟩
      have S1 := R3.setR (i := i) rv1'' (fun o a ev => R0.e.nothing ((hn1 o).2 a ev)) fun o k r'' a hk ek ok sk ev => R0.rel.sl k r'' a ek ok sk ((hn1 o).2 a ev)
      have S2 := S1.setR (i := j) rv2'' (fun o a ev => R0.e.nothing ((hn2 o).2 a ev)) fun o k r'' a hk ek ok sk ev => by
        rcases set_get ek with ⟨rfl, ek, _⟩ | ⟨hki, ek⟩
        · cases ek
          rcases set_get sk with ⟨_, sk, _⟩ | ⟨z, _⟩
          · cases sk
            exact apart a a ev rfl (hfr.trans (hn2 o).1) (hn1 ok).1 rfl
          · exact absurd rfl z
        · rcases set_get sk with ⟨z, _⟩ | ⟨_, sk⟩
          · exact absurd z hki
          · exact R0.rel.sl k r'' a ek ok sk ((hn2 o).2 a ev)
      exact ⟨v, w, rfl, q3 _ _ g3 S2, fun p hp => q3 _ _ g3 (S2.later (Ext.new hp) (S2.rel.new hp))⟩
variable {x y : Str} {a b : Expr} {px py pt : Pos} {kt k2 pt2}
theorem s_par {s1 s2 : R → M R} (o1 : SlOk s1) (o2 : SlOk s2) (i j : Nat) (hc : X.calm = true) (hN : X.N.Nodup) (ha : PA X [a, b] (trA (cx X W) fs)) (hi : X.N[i]? = some x := by rfl) (hj : X.N[j]? = some y := by rfl) (hij : i ≠ j := by decide)
    (hx : X.env.scope.names.lookup x = some .local := by rfl) (hy : X.env.scope.names.lookup y = some .local := by rfl)
    (hw : swappedStores [.Tuple [.Name x px, .Name y py] kt pt] (.Tuple [a, b] k2 pt2) X.env = pure (some [x, y]) := by rfl)
    (hs : swapsWithSole [.Tuple [.Name x px, .Name y py] kt pt] (.Tuple [a, b] k2 pt2) pos.line X.env = pure false := by rfl) :
    PS X (.Assign [.Tuple [.Name x px, .Name y py] kt pt] (.Tuple [a, b] k2 pt2) pos) (trS (cx X W) H0 g0 (dPar i j s1 s2 fs)) :=
  PS.imp (ps_par hc hN hi hj hij hx hy ha hw hs) fun _ _ _ h => (by
    obtain ⟨env, st, g, R0, q⟩ := trS_par o1 o2 hij h
    exact ⟨env, st, g, R0, Post.mono q fun rs g1 H1 k vs rv fr => by
      obtain ⟨v, w, e, k1, _⟩ := k vs rv fr
      exact ⟨v, w, e, k1⟩⟩)
/-- the same where the pair is made (a name that a comprehension sees) -/
theorem s_parT {s1 s2 : R → M R} (o1 : SlOk s1) (o2 : SlOk s2) (i j : Nat) (hc : X.calm = true) (hN : X.N.Nodup) (ha : PA X [a, b] (trA (cx X W) fs)) (h1 : PG X (.Name x px) (gName i)) (h2 : PG X (.Name y py) (gName j)) (hij : i ≠ j := by decide)
    (hw : swappedStores [.Tuple [.Name x px, .Name y py] kt pt] (.Tuple [a, b] k2 pt2) X.env = pure none := by rfl)
    (hs : swapsWithSole [.Tuple [.Name x px, .Name y py] kt pt] (.Tuple [a, b] k2 pt2) pos.line X.env = pure false := by rfl) :
    PS X (.Assign [.Tuple [.Name x px, .Name y py] kt pt] (.Tuple [a, b] k2 pt2) pos) (trS (cx X W) H0 g0 (dPar i j s1 s2 fs)) :=
  PS.imp (ps_asg (pe_tup ha) (pg_tup (n := 2) hc (pgs_cons h1 (pgs_cons h2 pgs_nil))) hs hw) fun _ _ _ h => (by
    obtain ⟨env, st, g, R0, q⟩ := trS_par o1 o2 hij h
    exact ⟨env, st, g, R0, Post.mono q fun rs g1 H1 k vs rv fr => by
      obtain ⟨v, w, rfl, _, k1⟩ := k vs rv fr
      exact ⟨by show 2 ≤ sizeLine; decide, fun p hp => ⟨p, _, rfl, .inl (.inl upd_same), rfl, v, _, rfl, w, _, rfl, rfl, k1 p hp⟩⟩⟩)
end

/-! ### enumerate, as a statement's walk -/
def itEnumS (rs : List R) : M (List D) := fun st => match rs with
  | [.l true xs] => .ok (enumD 0 xs) st
  | [.d (.list xs)] => .ok (enumD 0 xs) st
  | _ => .no
section
variable {X : Cx} {W : String → L2.St → Hp → Prop} {pos p : Pos} {a : Expr} {fs : En → M (List R)}
theorem walks_enum {K : PySem.W.Frag} {g : Gh} {a : Addr} {as : List V} {xs : List D} (h1 : SqL K g.G a as) (h2 : DfA K g as xs) : Walks K (Ite K a) g (enumD 0 xs) where
  stop := fun g' H' i le s hl => ⟨as, s.sql (sql_le le h1), by rw [h2.length]; rw [enumD_len] at hl; exact hl⟩
  go := fun g' H' i z le s e => by
    obtain ⟨y, f1, rfl⟩ := enumD_get e
    obtain ⟨v1, l1, d1⟩ := h2.get f1
    have q := s.sql (sql_le le h1)
    refine ⟨⟨as, v1, q, l1⟩, fun u H'' ⟨T, w, e1, e2, e3, e4⟩ => ?_⟩
    have c1 := e4 as q
    rw [l1] at c1; cases c1
    have e5 : ((0 + i : Nat) : Int) = (i : Int) := by simp
    rw [e5]
    exact yd_pair rfl s e2 e1 e3 (.int _) (Df.le le d1)
theorem i_enumS {elts : List Expr} {kk : Nat} {tpos : Pos} (hg : Gl X "enumerate") (hm : X.mg "enumerate" = none) (ha : PA X [a] (trA (cx X W) fs)) (hs : starEach [a] X.env = [(false, eval a X.env)] := by rfl) :
    PI X (.Tuple elts kk tpos) (.Call (.Name "enumerate" p) [a] [] pos) (trI (cx X W) (dItC itEnumS fs)) := by
  refine PI.imp (pi_enum hg hm ha hs) fun σ H Rr ⟨env, st, g, R0, q⟩ => ⟨env, st, g, R0, Post.mono (Post.bind (.refl H g) q) fun rs g1 H1 ⟨st1, _, R1, x, _, q⟩ vs rv fr => ?_⟩
  unfold itEnumS at q
  split at q
  · rename_i xs
    cases rv with
    | cons rv1 rvn =>
      cases rvn
      obtain ⟨a, as, rfl, k1, k2, k3, k4⟩ := rv1
      have b : Bs (cx X W) H1 env σ st1 (g1.put a (.lst as)) H g := Bs.frz ⟨x, R1, R0.sl⟩ k1 (fr.1 rfl a rfl) k2 k3
      exact ⟨a, as, rfl, .inl (.inl k1), q _ _ b.e b.rel _ (walks_enum sql_put (DfA.le (Le.put k2) k4))⟩
  · rename_i xs
    obtain ⟨v, rfl, h1⟩ := rvl1 rv
    obtain ⟨a, as, rfl, a1, a2⟩ := Df.list_inv h1
    exact ⟨a, as, rfl, R1.sub.sql a1, q g1 H1 x R1 _ (walks_enum a1 a2)⟩
  · exact q.elim
end

/-! ### the law's entry -/
theorem df_ints {K : PySem.W.Frag} {g : Gh} : ∀ ns : List Int, DfA K g (ns.map V.int) (ns.map PyData.int)
  | [] => .nil
  | n :: ns => .cons (.int n) (df_ints ns)
theorem law_sp {K : PySem.W.Frag} {F : List D → M R} {H : Hp} {a : Addr} {ns : List Int} {E : XK} (hS : SqL K H a (ns.map V.int)) (h : ∃ st, F [.list (ns.map .int)] [] = .ok (.d (.bool true)) st) : spD K 1 F [.ref a] H (fun v _ => v = .bl true) E := by
  obtain ⟨st', e⟩ := h
  refine ⟨⟨H, fun _ => a, 0, none⟩, [], [.list (ns.map .int)], rfl, ⟨fun _ _ h => .inl h, fun n ob e => by simp at e, ⟨rfl, by simp⟩, fun m n hm => absurd hm (Nat.not_lt_zero _), fun n hn => absurd hn (Nat.not_lt_zero _)⟩, .cons (.lst hS (df_ints ns)) .nil, ?_⟩
  rw [e]
  intro v H' g' x C rv fr
  exact Df.bl_inv rv
theorem walkN {l : PySem.W.OpenLaw} {k : Nat} {q : Program} {loose : List Str} {XP : (Str → Option Value) → Heap → Prop} {YP : World → Heap → Prop} {d : DefRec} {K : Params → PySem.W.Frag} {F : List D → M R} (hn : l.most = some 63) (hdf : d.params.defaults = []) (hk : k ≤ 40)
    (hY : ∀ (w : World) (h : Heap), YP w h → (K w.params).In h)
    (hF : ∀ (w : World) (mg : Str → Option Value) (fa : Addr) (h : Heap), (K w.params).In h → h.Ns mainGlobals mg → mg d.name = some (.ref fa) →
      ∃ fd : FuncData, (∀ (s : Shared) (u : Value), BindsTo s fd ⟨[u], []⟩ [("script", u)]) ∧ ∀ base : Heap, (K w.params).In base → base.Ns mainGlobals mg → FnOk l.prog w (K w.params) mg base CX0 k fa fd ["script"] (spD (K w.params) 1 F))
    (law : ∀ ns : List Int, ns.length ≤ 63 → ∃ st, F [.list (ns.map .int)] [] = .ok (.d (.bool true)) st) :
    PySem.W.WalkO q loose XP YP l.row.toRowW d [] (fun f vs => PySem.call f vs) :=
  L2.walk_of (n := 63) (k := k) (x := "script") (CX := fun _ => CX0) (sp := fun w => spD (K w.params) 1 F) hn (by decide) hdf (Room.mono ⟨rfl, by decide, by decide⟩ hk) hY hF (fun _ _ a ns hl _ hS => law_sp hS (law ns hl)) fun _ _ _ _ _ z => z
end N

/-! N18: defs as bundles, the empty dict. -/
namespace N
open PySem PySem.Spec L2 PyProof.Rows

/-- a def of the text as it stands behind the top -/
def DefAt (K : PySem.W.Frag) (mg : Str → Option Value) (x : Str) (sd : Stmt) (ps : List Str) : Prop := ∃ f fd, Fun K x x sd f fd ∧ Binds K fd ps [] ∧ mg x = some (.ref f)
/-- .. and its promise -/
def Fd (P : Program) (w : World) (K : PySem.W.Frag) (mg : Str → Option Value) (base : Heap) (k : Nat) (x : Str) (ps : List Str) (F : List D → M R) : Prop :=
  ∃ f fd, FnOk P w K mg base CX0 k f fd ps (spD K ps.length F) ∧ mg x = some (.ref f) ∧ PySem.W.keepIn K (.ref f) = true ∧ Binds K fd ps [] ∧ ∃ oc od osl, K.lookup f = some ⟨oc, od, .func fd, osl⟩
theorem fd_mk {P : Program} {w : World} {K : PySem.W.Frag} {mg : Str → Option Value} {base : Heap} {x : Str} {sd : Stmt} {N ps : List Str} {k : Nat} (h : DefAt K mg x sd ps) (S : FnScope N ps (defScope sd)) {T : SM}
    (hb : ∀ (f : Addr) (cdv : Value) (A : Around) (outer : List Env) (s : Shared) (H : Hp) (E : XK), Room k (A.deeper (envOfC x (defScope sd) s.heap.objs.size f cdv)) → ∀ (H0 : Hp) (g0 : Gh),
      PSs (cxOf CX0 P w K mg base N x (defScope sd) f cdv A outer s H E).nox (defBody sd) (trS ⟨K, fun _ _ _ => False⟩ H0 g0 T)) :
    Fd P w K mg base (k + 1) x ps (fnP N.length T) := by
  obtain ⟨f, fd, F, b, m⟩ := h
  refine ⟨f, fd, fn_ok F S (hb f), m, F.kp, b, ?_⟩
  obtain ⟨oc, od, kV, doc, pm, an, cdv, ct, osl, rfl, lk, _⟩ := F.ex
  exact ⟨oc, od, osl, lk⟩
theorem fd_at {P : Program} {w : World} {K : PySem.W.Frag} {mg : Str → Option Value} {base : Heap} {x : Str} {ps : List Str} {k : Nat} {F : List D → M R} {f : Addr} {fd : FuncData} {oc : Value} {od : Option Addr} {osl : Array (Option Value)} (h : Fd P w K mg base k x ps F) (m : mg x = some (.ref f)) (l : K.lookup f = some ⟨oc, od, .func fd, osl⟩) :
    FnOk P w K mg base CX0 k f fd ps (spD K ps.length F) := by
  obtain ⟨f', fd', G, m', _, _, oc', od', osl', l'⟩ := h
  rw [m] at m'
  cases m'
  rw [l] at l'
  cases l'
  exact G
section
variable {X : Cx} {W : String → L2.St → Hp → Prop} {pos p : Pos} {e : Expr} {es : List Expr} {fs : En → M (List R)} {k n : Nat} {ps : List Str} {F : List D → M R} {x : Str}
theorem e_S (h : Fd X.prog X.w X.K X.mg X.base k x ps F) (hr : Room k X.A) (ha : PA X (e :: es) (trA (cx X W) fs)) (hn : ps.length = n := by rfl) (hg : Gl X x := by rfl) (hdb : (x == ("__debug__" : Str)) = false := by decide) (he : starEach (e :: es) X.env = (false, eval e X.env) :: starEach es X.env := by rfl) (hpl : (backTo pos (starEach es X.env)).any (·.1) = false := by rfl) :
    PE X (.Call (.Name x p) (e :: es) [] pos) (tr (cx X W) (dCall (opS n F) fs)) := by
  subst hn
  obtain ⟨f, fd, G, m, kp, b, _⟩ := h
  exact e_callD (fun q => call_S (σ := []) q) G hr hg m kp b ha hdb he hpl
theorem e_C (h : Fd X.prog X.w X.K X.mg X.base k x ps F) (hr : Room k X.A) (ha : PA X (e :: es) (trA (cx X W) fs)) (hn : ps.length = n := by rfl) (hg : Gl X x := by rfl) (hdb : (x == ("__debug__" : Str)) = false := by decide) (he : starEach (e :: es) X.env = (false, eval e X.env) :: starEach es X.env := by rfl) (hpl : (backTo pos (starEach es X.env)).any (·.1) = false := by rfl) :
    PE X (.Call (.Name x p) (e :: es) [] pos) (tr (cx X W) (dCall (opC n F) fs)) := by
  subst hn
  obtain ⟨f, fd, G, m, kp, b, _⟩ := h
  exact e_callD (fun q => call_C (σ := []) q) G hr hg m kp b ha hdb he hpl
theorem e_P (h : Fd X.prog X.w X.K X.mg X.base k x ps F) (hr : Room k X.A) (ha : PA X (e :: es) (trA (cx X W) fs)) (hn : ps.length = n := by rfl) (hg : Gl X x := by rfl) (hdb : (x == ("__debug__" : Str)) = false := by decide) (he : starEach (e :: es) X.env = (false, eval e X.env) :: starEach es X.env := by rfl) (hpl : (backTo pos (starEach es X.env)).any (·.1) = false := by rfl) :
    PE X (.Call (.Name x p) (e :: es) [] pos) (tr (cx X W) (dCall (opP n F) fs)) := by
  subst hn
  obtain ⟨f, fd, G, m, kp, b, _⟩ := h
  exact e_callD (fun q => call_P (σ := []) q) G hr hg m kp b ha hdb he hpl
def eNewK : En → M R := fun _ => M.ret (.k true [])
theorem e_dnew : PE X (.Dict [] [] pos) (tr (cx X W) eNewK) := by
  refine PE.imp pe_dnewK fun σ H Q ⟨env, st, g, R0, q⟩ => ?_
  exact fun p hp => (Bs.base (c := cx X W) R0).fin_k (ds := []) (vs := []) (Post.toC q) hp .nil
theorem ts_one {Y : Cx} {c : Expr} {t : En → M Bool} (h : PT Y c (trT ⟨Y.K, W0⟩ t)) : PTs Y [c] (trT ⟨Y.K, W0⟩ t) := pts_one h
end
end N

/-! N19: denotations computed. -/
namespace N
open PySem PySem.Spec L2

/-! ### data -/
/-- without dicts, at most n deep -/
def Dp (n : Nat) (x : D) : Prop := x.plain = true ∧ x.depth ≤ n
theorem Dp.ok {n : Nat} {x : D} (h : Dp n x) (hn : n ≤ 60 := by decide) : okD x = true := by
  unfold okD
  rw [h.1, Bool.true_and, decide_eq_true_eq]
  exact Nat.le_trans h.2 hn
theorem Dp.mono {n m : Nat} {x : D} (h : Dp n x) (hn : n ≤ m) : Dp m x := ⟨h.1, Nat.le_trans h.2 hn⟩
theorem dp_str {n : Nat} (s : Str) : Dp n (.str s) := ⟨rfl, Nat.zero_le _⟩
theorem dp_int {n : Nat} (i : Int) : Dp n (.int i) := ⟨rfl, Nat.zero_le _⟩
theorem dp_bool {n : Nat} (i : Bool) : Dp n (.bool i) := ⟨rfl, Nat.zero_le _⟩
theorem dp_none {n : Nat} : Dp n .none := ⟨rfl, Nat.zero_le _⟩
theorem dp_all {n : Nat} : ∀ {xs : List D}, (∀ x ∈ xs, Dp n x) → PyData.plainAll xs = true ∧ PyData.depthAll xs ≤ n
  | [], _ => ⟨rfl, Nat.zero_le _⟩
  | x :: xs, h => by
    obtain ⟨h1, h2⟩ := dp_all fun y hy => h y (List.mem_cons_of_mem _ hy)
    obtain ⟨h3, h4⟩ := h x List.mem_cons_self
    simp only [PyData.plainAll, PyData.depthAll, h1, h3, Bool.and_self, true_and]
    exact Nat.max_le.mpr ⟨h4, h2⟩
theorem dp_list {n : Nat} {xs : List D} (h : ∀ x ∈ xs, Dp n x) : Dp (n + 1) (.list xs) := by
  obtain ⟨h1, h2⟩ := dp_all h
  exact ⟨by simpa [PyData.plain] using h1, by simp only [PyData.depth]; omega⟩
theorem dp_tuple {n : Nat} {xs : List D} (h : ∀ x ∈ xs, Dp n x) : Dp (n + 1) (.tuple xs) := by
  obtain ⟨h1, h2⟩ := dp_all h
  exact ⟨by simpa [PyData.plain] using h1, by simp only [PyData.depth]; omega⟩
theorem dp_map {α : Type} {n : Nat} {f : α → D} {xs : List α} (h : ∀ x, Dp n (f x)) : ∀ y ∈ xs.map f, Dp n y := fun y hy => by
  obtain ⟨x, _, rfl⟩ := List.mem_map.mp hy
  exact h x
theorem refOf_plain {x : D} (h : x.plain = true) : refOf x = none := not_ref_plain h
theorem pk_d {x : D} {st : Sto} (h : x.plain = true) : (R.d x).pk st = some x := by
  unfold R.pk
  simp only [refOf_plain h]
@[simp] theorem pk_l {f : Bool} {xs : List D} {st : Sto} : (R.l f xs).pk st = some (.list xs) := rfl
theorem beq_dec {α : Type} [BEq α] [LawfulBEq α] [DecidableEq α] (a b : α) : (a == b) = decide (a = b) := by
  by_cases h : a = b
  · subst h; simp
  · simp [h]
theorem eqv_str (a b : Str) : PyData.eqv (.str a) (.str b) = decide (a = b) := by
  simp only [PyData.eqv]
  exact beq_dec a b
theorem eqv_int (a b : Int) : PyData.eqv (.int a) (.int b) = decide (a = b) := by
  simp only [PyData.eqv]
  exact beq_dec a b

/-! ### operators -/
theorem oEq_pk {neg : Bool} {a b : R} {x y : D} {st : Sto} (ha : a.pk st = some x) (hb : b.pk st = some y) (hx : okD x = true) (hy : okD y = true) : oEq neg a b st = .ok (.d (.bool (neg ^^ PyData.eqv x y))) st := by
  unfold oEq
  rw [ha, hb]
  simp only [hx, hy, and_self, if_true]
theorem oEq_same {neg : Bool} {a b : R} {x : D} {n : Nat} {st : Sto} (ha : a.pk st = some x) (hb : b.pk st = some x) (hx : Dp n x) (hn : n ≤ 60 := by decide) : oEq neg a b st = .ok (.d (.bool (!neg))) st := by
  rw [oEq_pk ha hb (hx.ok hn) (hx.ok hn), PySem.SeqAt.eqv_refl_plain x hx.1]
  cases neg <;> rfl
theorem oEq_int {neg : Bool} {i j : Int} {st : Sto} : oEq neg (.d (.int i)) (.d (.int j)) st = .ok (.d (.bool (neg ^^ decide (i = j)))) st := by
  rw [oEq_pk rfl rfl rfl rfl, eqv_int]
theorem oEq_str {neg : Bool} {i j : Str} {st : Sto} : oEq neg (.d (.str i)) (.d (.str j)) st = .ok (.d (.bool (neg ^^ decide (i = j)))) st := by
  rw [oEq_pk rfl rfl rfl rfl, eqv_str]
theorem any_str {x : Str} {xs : List Str} : ((xs.map PyData.str).any fun y => PyData.eqv y (.str x)) = decide (x ∈ xs) := by
  induction xs with
  | nil => rfl
  | cons y ys ih =>
    rw [List.map_cons, List.any_cons, ih, eqv_str]
    by_cases h : y = x
    · subst h; simp
    · have h' : ¬ x = y := fun e => h e.symm
      simp [h, h']
theorem dp_strs (xs : List Str) : ∀ y ∈ xs.map PyData.str, Dp 0 y := dp_map fun x => dp_str x
theorem oIn_tup {neg : Bool} {x : Str} {xs : List Str} {st : Sto} : oIn neg (.d (.str x)) (.d (.tuple (xs.map .str))) st = .ok (.d (.bool (neg ^^ decide (x ∈ xs)))) st := by
  have h := (dp_tuple (dp_strs xs)).ok
  unfold oIn
  have e1 : (R.d (.tuple (xs.map .str))).dct? st = none := rfl
  have e2 : (R.d (.tuple (xs.map .str))).pk st = some (.tuple (xs.map .str)) := rfl
  simp only [e1, e2, any_str, h, show okD (.str x) = true from rfl, and_self, if_true]
theorem oIn_list {neg : Bool} {x : Str} {xs : List Str} {st : Sto} : oIn neg (.d (.str x)) (.d (.list (xs.map .str))) st = .ok (.d (.bool (neg ^^ decide (x ∈ xs)))) st := by
  have h := (dp_list (dp_strs xs)).ok
  unfold oIn
  have e1 : (R.d (.list (xs.map .str))).dct? st = none := rfl
  have e2 : (R.d (.list (xs.map .str))).pk st = some (.list (xs.map .str)) := rfl
  simp only [e1, e2, any_str, h, show okD (.str x) = true from rfl, and_self, if_true]
theorem oIn_l {neg f : Bool} {x : Str} {xs : List Str} {st : Sto} : oIn neg (.d (.str x)) (.l f (xs.map .str)) st = .ok (.d (.bool (neg ^^ decide (x ∈ xs)))) st := by
  have h := (dp_list (dp_strs xs)).ok
  unfold oIn
  have e1 : (R.l f (xs.map .str)).dct? st = none := rfl
  have e2 : (R.l f (xs.map .str)).pk st = some (.list (xs.map .str)) := rfl
  simp only [e1, e2, any_str, h, show okD (.str x) = true from rfl, and_self, if_true]
theorem oIn_k {neg f : Bool} {x : Str} {kvs : List (Key × D)} {st : Sto} : oIn neg (.d (.str x)) (.k f kvs) st = .ok (.d (.bool (neg ^^ (valD kvs (.inr x)).isSome))) st := rfl
theorem refOf_kvs (kvs : List (Key × D)) : refOf (.dict (kvs.map fun p => (kD p.1, p.2))) = none := by
  cases kvs with
  | nil => rfl
  | cons p t =>
    obtain ⟨k, d⟩ := p
    cases k <;> rfl
theorem dct_d (kvs : List (Key × D)) (st : Sto) : (R.d (.dict (kvs.map fun p => (kD p.1, p.2)))).dct? st = some kvs := by
  unfold R.dct?
  simp only [refOf_kvs, unKeys_map]
theorem oIn_d {neg : Bool} {x : Str} {kvs : List (Key × D)} {st : Sto} : oIn neg (.d (.str x)) (.d (.dict (kvs.map fun p => (kD p.1, p.2)))) st = .ok (.d (.bool (neg ^^ (valD kvs (.inr x)).isSome))) st := by
  unfold oIn
  simp only [dct_d]
  rfl
theorem atI_ok {α : Type} {xs : List α} {i : Int} {x : α} (h0 : 0 ≤ i) (h : xs[i.toNat]? = some x) : atI xs i = some x := by
  have hl : i.toNat < xs.length := (List.getElem?_eq_some_iff.mp h).1
  unfold atI ixN
  rw [if_pos h0, if_pos (by omega)]
  exact h
theorem cmp_int {f : D → D → Bool} {i j : Int} {st : Sto} : oCmp f (.d (.int i)) (.d (.int j)) st = .ok (.d (.bool (f (.int i) (.int j)))) st := by
  unfold oCmp
  have e1 : (R.d (.int i)).pk st = some (.int i) := rfl
  have e2 : (R.d (.int j)).pk st = some (.int j) := rfl
  simp only [e1, e2]
  rw [if_pos ⟨by simp [PySem.W.alike], rfl, rfl, rfl⟩]
@[simp] theorem fLt_int (i j : Int) : fLt (.int i) (.int j) = decide (i < j) := PySem.W.dataLt_int i j
@[simp] theorem fGt_int (i j : Int) : fGt (.int i) (.int j) = decide (j < i) := PySem.W.dataLt_int j i
@[simp] theorem fLe_int (i j : Int) : fLe (.int i) (.int j) = decide (i ≤ j) := by
  show (!PySem.W.dataLt (.int j) (.int i)) = _
  rw [PySem.W.dataLt_int]
  by_cases h : j < i
  · simp [h, Int.not_le.mpr h]
  · simp [h, Int.not_lt.mp h]
@[simp] theorem fGe_int (i j : Int) : fGe (.int i) (.int j) = decide (j ≤ i) := by
  show (!PySem.W.dataLt (.int i) (.int j)) = _
  rw [PySem.W.dataLt_int]
  by_cases h : i < j
  · simp [h, Int.not_le.mpr h]
  · simp [h, Int.not_lt.mp h]

/-! ### loops and comprehensions -/
/-- the items one by one: I by the number of those that are done -/
theorem forGo_inv {S : SM} {p : Pat} {α : Type} {enc : α → D} (I : Nat → En → Sto → Prop) : ∀ (xs : List α) (k : Nat) (env : En) (st : Sto), I k env st →
    (∀ i x env st, xs[i]? = some x → I (k + i) env st → ∃ e1 e2 st2, asg p (enc x) env = some e1 ∧ S e1 st = .ok (.nx, e2) st2 ∧ I (k + i + 1) e2 st2) →
    ∃ env' st', forGo p S (xs.map enc) env st = .ok (.nx, env') st' ∧ I (k + xs.length) env' st'
  | [], k, env, st, h0, _ => ⟨env, st, rfl, h0⟩
  | x :: xs, k, env, st, h0, hs => by
    obtain ⟨e1, e2, st2, a1, a2, a3⟩ := hs 0 x env st rfl h0
    obtain ⟨env', st', b1, b2⟩ := forGo_inv I xs (k + 1) e2 st2 a3 fun i y env st e h => by
      have := hs (i + 1) y env st (by simpa using e) (by rw [show k + (i + 1) = k + 1 + i from by omega]; exact h)
      rw [show k + (i + 1) + 1 = k + 1 + i + 1 from by omega] at this
      exact this
    refine ⟨env', st', ?_, by rw [show k + (x :: xs).length = k + 1 + xs.length from by rw [List.length_cons]; omega]; exact b2⟩
    rw [List.map_cons]
    unfold forGo
    rw [a1]
    show (S e1 >>= _) st = _
    rw [M.bind_ok a2]
    exact b1
theorem forGo_cons {p : Pat} {S : SM} {x : D} {xs : List D} {env e1 e2 : En} {st st2 : Sto} (h1 : asg p x env = some e1) (h2 : S e1 st = .ok (.nx, e2) st2) : forGo p S (x :: xs) env st = forGo p S xs e2 st2 := by
  conv => lhs; unfold forGo
  rw [h1]
  show (S e1 >>= _) st = _
  rw [M.bind_ok h2]
theorem forGo_ret {p : Pat} {S : SM} {x : D} {xs : List D} {env e1 e2 : En} {st st2 : Sto} {r : R} (h1 : asg p x env = some e1) (h2 : S e1 st = .ok (.ret r, e2) st2) : forGo p S (x :: xs) env st = .ok (.ret r, e2) st2 := by
  conv => lhs; unfold forGo
  rw [h1]
  show (S e1 >>= _) st = _
  rw [M.bind_ok h2]
  rfl
theorem dFor_ok {it : En → M (List D)} {p : Pat} {S : SM} {env : En} {st st1 : Sto} {xs : List D} (h : it env st = .ok xs st1) : dFor it p S env st = forGo p S xs env st1 := M.bind_ok h
theorem lcGo_pure {α β : Type} {step : D → M (Option β)} {enc : α → D} {g : α → Option β} {st : Sto} : ∀ {xs : List α}, (∀ x ∈ xs, step (enc x) st = .ok (g x) st) → lcGo step (xs.map enc) st = .ok (xs.filterMap g) st
  | [], _ => rfl
  | x :: xs, h => by
    rw [List.map_cons, lcGo_cons, h x List.mem_cons_self]
    show (match lcGo step (xs.map enc) st with
      | .ok ys s2 => Res.ok ((g x).toList ++ ys) s2
      | .ex e s2 => .ex e s2
      | .no => .no) = _
    rw [lcGo_pure fun y hy => h y (List.mem_cons_of_mem _ hy)]
    cases e : g x <;> simp [List.filterMap_cons, e]
theorem dLc_pure {α : Type} {it : En → M (List D)} {p : Pat} {vs : List Nat} {tst : En → M Bool} {elt : En → M R} {env : En} {st st1 : Sto} {enc : α → D} {xs : List α} (g : α → Option D) (h1 : it env st = .ok (xs.map enc) st1) (hl : xs.length ≤ sizeLine)
    (h : ∀ x ∈ xs, lcStep p vs tst elt env (enc x) st1 = .ok (g x) st1) : dLc it p vs tst elt env st = .ok (.l true (xs.filterMap g)) st1 := by
  unfold dLc lcRun
  rw [M.bind_ok h1]
  show (if (xs.map enc).length ≤ sizeLine then _ else _) = _
  rw [if_pos (by rw [List.length_map]; exact hl), lcGo_pure h]
  rfl
theorem dDc_pure {α : Type} {it : En → M (List D)} {p : Pat} {vs : List Nat} {tst : En → M Bool} {fk fv : En → M R} {env : En} {st st1 : Sto} {enc : α → D} {xs : List α} (g : α → Option (Key × D)) (h1 : it env st = .ok (xs.map enc) st1) (hl : xs.length ≤ sizeLine)
    (h : ∀ x ∈ xs, dcStep p vs tst fk fv env (enc x) st1 = .ok (g x) st1) : dDc it p vs tst fk fv env st = .ok (.k true (mergeD [] (xs.filterMap g))) st1 := by
  unfold dDc lcRun
  rw [M.bind_ok h1]
  show (if (xs.map enc).length ≤ sizeLine then _ else _) = _
  rw [if_pos (by rw [List.length_map]; exact hl), lcGo_pure h]
  rfl
/-- one item: what stands in the slots, the test, the value -/
theorem lcStep_ok {p : Pat} {vs : List Nat} {tst : En → M Bool} {elt : En → M R} {env e1 : En} {x : D} {st s1 s2 : Sto} {r : R} {d : D} (ha : asg p x (wipeE env vs) = some e1) (ht : tst e1 st = .ok true s1) (he : elt e1 s1 = .ok r s2) (hk : kp r = some d) :
    lcStep p vs tst elt env x st = .ok (some d) s2 := by
  unfold lcStep
  simp only [ha, ht, he, hk]
theorem lcStep_no {p : Pat} {vs : List Nat} {tst : En → M Bool} {elt : En → M R} {env e1 : En} {x : D} {st s1 : Sto} (ha : asg p x (wipeE env vs) = some e1) (ht : tst e1 st = .ok false s1) : lcStep p vs tst elt env x st = .ok none s1 := by
  unfold lcStep
  simp only [ha, ht]
theorem lcStep_if {p : Pat} {vs : List Nat} {tst : En → M Bool} {elt : En → M R} {env e1 : En} {x : D} {st : Sto} {r : R} {d : D} {b : Bool} (ha : asg p x (wipeE env vs) = some e1) (ht : tst e1 st = .ok b st) (he : b = true → elt e1 st = .ok r st) (hk : kp r = some d) :
    lcStep p vs tst elt env x st = .ok (if b = true then some d else none) st := by
  cases b with
  | true => exact lcStep_ok ha ht (he rfl) hk
  | false => exact lcStep_no ha ht
/-- with a state: I stands throughout, P of each item -/
theorem lcGo_inv {β : Type} {step : D → M (Option β)} (I : Sto → Prop) (P : β → Prop) : ∀ (xs : List D) (st : Sto), I st → (∀ x ∈ xs, ∀ st, I st → ∃ o st1, step x st = .ok o st1 ∧ I st1 ∧ ∀ d, o = some d → P d) →
    ∃ ds st1, lcGo step xs st = .ok ds st1 ∧ I st1 ∧ (∀ d ∈ ds, P d) ∧ ds.length ≤ xs.length
  | [], st, h0, _ => ⟨[], st, rfl, h0, fun d h => by simp at h, Nat.le_refl _⟩
  | x :: xs, st, h0, hs => by
    obtain ⟨o, s1, a1, a2, a3⟩ := hs x List.mem_cons_self st h0
    obtain ⟨ds, s2, b1, b2, b3, b4⟩ := lcGo_inv I P xs s1 a2 fun y hy => hs y (List.mem_cons_of_mem _ hy)
    refine ⟨o.toList ++ ds, s2, ?_, b2, fun d hd => ?_, ?_⟩
    · rw [lcGo_cons, a1]
      simp only [b1]
    · rcases List.mem_append.mp hd with h | h
      · cases o with
        | none => simp at h
        | some d' => simp at h; subst h; exact a3 _ rfl
      · exact b3 d h
    · rw [List.length_append, List.length_cons]
      cases o <;> simp <;> omega
/-- every item gives one -/
theorem lcGo_all {β : Type} {step : D → M (Option β)} (I : Sto → Prop) (P : β → Prop) : ∀ (xs : List D) (st : Sto), I st → (∀ x ∈ xs, ∀ st, I st → ∃ d st1, step x st = .ok (some d) st1 ∧ I st1 ∧ P d) →
    ∃ ds st1, lcGo step xs st = .ok ds st1 ∧ I st1 ∧ (∀ d ∈ ds, P d) ∧ ds.length = xs.length
  | [], st, h0, _ => ⟨[], st, rfl, h0, fun d h => by simp at h, rfl⟩
  | x :: xs, st, h0, hs => by
    obtain ⟨d, s1, a1, a2, a3⟩ := hs x List.mem_cons_self st h0
    obtain ⟨ds, s2, b1, b2, b3, b4⟩ := lcGo_all I P xs s1 a2 fun y hy => hs y (List.mem_cons_of_mem _ hy)
    refine ⟨d :: ds, s2, ?_, b2, fun d' hd => ?_, by simp [b4]⟩
    · rw [lcGo_cons, a1]
      simp only [b1]
      rfl
    · rcases List.mem_cons.mp hd with rfl | h
      · exact a3
      · exact b3 d' h
theorem dLc_all {it : En → M (List D)} {p : Pat} {vs : List Nat} {tst : En → M Bool} {elt : En → M R} {env : En} {st st1 : Sto} {xs : List D} (I : Sto → Prop) (P : D → Prop) (h1 : it env st = .ok xs st1) (hl : xs.length ≤ sizeLine) (h0 : I st1)
    (h : ∀ x ∈ xs, ∀ st, I st → ∃ d st1, lcStep p vs tst elt env x st = .ok (some d) st1 ∧ I st1 ∧ P d) : ∃ ds st2, dLc it p vs tst elt env st = .ok (.l true ds) st2 ∧ I st2 ∧ (∀ d ∈ ds, P d) ∧ ds.length = xs.length := by
  obtain ⟨ds, s2, b1, b2, b3, b4⟩ := lcGo_all (step := lcStep p vs tst elt env) I P xs st1 h0 h
  refine ⟨ds, s2, ?_, b2, b3, b4⟩
  unfold dLc lcRun
  rw [M.bind_ok h1]
  show (if xs.length ≤ sizeLine then _ else _) = _
  rw [if_pos hl, b1]
  rfl
theorem dLc_inv {it : En → M (List D)} {p : Pat} {vs : List Nat} {tst : En → M Bool} {elt : En → M R} {env : En} {st st1 : Sto} {xs : List D} (I : Sto → Prop) (P : D → Prop) (h1 : it env st = .ok xs st1) (hl : xs.length ≤ sizeLine) (h0 : I st1)
    (h : ∀ x ∈ xs, ∀ st, I st → ∃ o st1, lcStep p vs tst elt env x st = .ok o st1 ∧ I st1 ∧ ∀ d, o = some d → P d) : ∃ ds st2, dLc it p vs tst elt env st = .ok (.l true ds) st2 ∧ I st2 ∧ (∀ d ∈ ds, P d) ∧ ds.length ≤ xs.length := by
  obtain ⟨ds, s2, b1, b2, b3, b4⟩ := lcGo_inv (step := lcStep p vs tst elt env) I P xs st1 h0 h
  refine ⟨ds, s2, ?_, b2, b3, b4⟩
  unfold dLc lcRun
  rw [M.bind_ok h1]
  show (if xs.length ≤ sizeLine then _ else _) = _
  rw [if_pos hl, b1]
  rfl
end N

namespace N
open PySem PySem.Spec L2 PyProof.Rows N
abbrev n__law_cell_at : List Str := [("script" : Str), ("k" : Str)]
abbrev p__law_cell_at : List Str := [("script" : Str), ("k" : Str)]
def D__law_cell_at : SM :=
    (dSeq (dIfS (dTst (dBin (oCmp fLt) (eVar 1) (dCall (op1 oLen) (dCons (eVar 0) dNil)))) (dRet (dBin oIx (eVar 0) (eVar 1))) dSkip)
    (dRet (eC (.int 0))))
def F__law_cell_at : List D → M R := fnP 2 D__law_cell_at
abbrev n__law_draws : List Str := [("cell" : Str), ("many" : Str), ("size" : Str), ("found" : Str), ("rest" : Str), ("stirred" : Str), ("k" : Str)]
abbrev p__law_draws : List Str := [("cell" : Str), ("many" : Str), ("size" : Str)]
def B__law_draws_1 : SM :=
    (dSeq (dSet 5 slF (dBin oMod (dBin oAdd (dBin oAdd (dBin oAdd (dBin oMul (eVar 5) (eVar 5)) (dBin oMul (eC (.int 48271)) (eVar 5))) (eVar 6)) (eC (.int 1))) (eC (.int 2305843009213693951))))
    (dIfS (dAnd (dTst (dBin (oCmp fGt) (eVar 6) (eC (.int 2)))) (dTst (dBin (oCmp fGt) (eVar 4) (eC (.int 0))))) (dSeq (dApp 3 (dBin oMod (eVar 4) (eVar 2)))
    (dSet 4 slF (dBin oFdiv (eVar 4) (eVar 2)))) (dIfS (dTst (dBin (oCmp fGt) (eVar 6) (eC (.int 2)))) (dApp 3 (dBin oMod (dBin oFdiv (eVar 5) (eC (.int 4096))) (eVar 2))) dSkip)))
def L__law_draws_1 : SM :=
    (dFor (dItC itR1 (dCons (dBin oAdd (eVar 1) (eC (.int 3))) dNil)) (.nm 6) B__law_draws_1)
def D__law_draws : SM :=
    (dSeq (dSet 3 slO (dCall oLst dNil))
    (dSeq (dSet 4 slF (dBin oMul (eVar 0) (dCall (op1 oInt) (dCons (dBin (oCmp fGe) (eVar 0) (dBin oPow (eC (.int 10)) (eC (.int 18)))) dNil))))
    (dSeq (dSet 5 slF (dBin oMod (eVar 0) (eC (.int 2305843009213693951))))
    (dSeq L__law_draws_1
    (dRetVar 3)))))
def F__law_draws : List D → M R := fnP 7 D__law_draws
abbrev n__law_bag : List Str := [("script" : Str), ("k" : Str)]
abbrev p__law_bag : List Str := [("script" : Str), ("k" : Str)]
def D__law_bag : SM :=
    (dRet (dCall oLst (dCons (dCall (opC 3 F__law_draws) (dCons (dCall (opC 2 F__law_cell_at) (dCons (eVar 0) (dCons (eVar 1) dNil))) (dCons (eC (.int 400)) (dCons (eC (.int 1000)) dNil)))) (dCons (eC (.int 0)) dNil))))
def F__law_bag : List D → M R := fnP 2 D__law_bag
abbrev n__law_bags : List Str := [("script" : Str), ("limit" : Str), ("k" : Str)]
abbrev p__law_bags : List Str := [("script" : Str), ("limit" : Str)]
def C__law_bags_1 : En → M R :=
    (dLc (dItC itR1 (dCons (dCall (op2 oMax2) (dCons (eC (.int 1)) (dCons (dCall (op2 oMin2) (dCons (eVar 1) (dCons (dCall (op1 oLen) (dCons (eVar 0) dNil)) dNil))) dNil))) dNil)) (.nm 2) [2] dYes (dNew (dCall (opC 2 F__law_bag) (dCons (eVar 0) (dCons (eVar 2) dNil)))))
def D__law_bags : SM :=
    (dRet C__law_bags_1)
def F__law_bags : List D → M R := fnP 3 D__law_bags
abbrev n__law_take : List Str := [("bag" : Str), ("many" : Str)]
abbrev p__law_take : List Str := [("bag" : Str), ("many" : Str)]
def D__law_take : SM :=
    (dSeq (dSetIx 0 (eC (.int 1)) (dBin oAdd (dBin oIx (eVar 0) (eC (.int 1))) (eC (.int 1))))
    (dRet (dBin oMod (dBin oIx (dBin oIx (eVar 0) (eC (.int 0))) (dBin oMod (dBin oIx (eVar 0) (eC (.int 1))) (dCall (op1 oLen) (dCons (dBin oIx (eVar 0) (eC (.int 0))) dNil)))) (eVar 1))))
def F__law_take : List D → M R := fnP 2 D__law_take
abbrev n__law_lot : List Str := [("bag" : Str), ("names" : Str), ("most" : Str), ("found" : Str), ("turn" : Str)]
abbrev p__law_lot : List Str := [("bag" : Str), ("names" : Str), ("most" : Str)]
def C__law_lot_1 : En → M R :=
    (dLc (dItC itR1 (dCons (dBin oAdd (eC (.int 1)) (dCall (opS 2 F__law_take) (dCons (eVar 0) (dCons (eVar 2) dNil)))) dNil)) (.nm 4) [4] dYes (dBin oIx (eVar 1) (dCall (opS 2 F__law_take) (dCons (eVar 0) (dCons (dCall (op1 oLen) (dCons (eVar 1) dNil)) dNil)))))
def D__law_lot : SM :=
    (dSeq (dSet 3 slF C__law_lot_1)
    (dRet (dCall (op1 oTuple) (dCons (dUn oSortSet (eVar 3)) dNil))))
def F__law_lot : List D → M R := fnP 5 D__law_lot
abbrev n__law_book : List Str := [("bag" : Str), ("most" : Str), ("sources" : Str), ("facts" : Str), ("rows" : Str), ("fact" : Str), ("ways" : Str), ("k" : Str), ("names" : Str)]
abbrev p__law_book : List Str := [("bag" : Str), ("most" : Str)]
def B__law_book_1 : SM :=
    (dSeq (dSet 8 slF (dIf (dTst (dBin (oEq false) (dCall (opS 2 F__law_take) (dCons (eVar 0) (dCons (eC (.int 3)) dNil))) (eC (.int 0)))) (dCall (op1 oList) (dCons (eVar 2) dNil)) (dBin oAdd (dCall (op1 oList) (dCons (eVar 2) dNil)) (eVar 3))))
    (dApp 6 (dCall (opS 3 F__law_lot) (dCons (eVar 0) (dCons (eVar 8) (dCons (eC (.int 3)) dNil))))))
def L__law_book_1 : SM :=
    (dFor (dItC itR1 (dCons (dCall (opS 2 F__law_take) (dCons (eVar 0) (dCons (eC (.int 4)) dNil))) dNil)) (.nm 7) B__law_book_1)
def B__law_book_2 : SM :=
    (dSeq (dSet 6 slO (dCall oLst dNil))
    (dSeq L__law_book_1
    (dApp 4 (dCall oTup (dCons (eVar 5) (dCons (dCall (op1 oTuple) (dCons (eVar 6) dNil)) dNil))))))
def L__law_book_2 : SM :=
    (dFor (dItS (eVar 3)) (.nm 5) B__law_book_2)
def D__law_book : SM :=
    (dSeq (dSet 2 slF (dCall (op1 oTuple) (dCons (dSl oSl (dCall oLst (dCons (eC (.str ("ada" : Str))) (dCons (eC (.str ("bea" : Str))) (dCons (eC (.str ("cob" : Str))) (dCons (eC (.str ("dan" : Str))) dNil))))) none (some (dBin oAdd (eC (.int 1)) (dCall (opS 2 F__law_take) (dCons (eVar 0) (dCons (eC (.int 4)) dNil)))))) dNil)))
    (dSeq (dSet 3 slF (dSl oSl (dCall oLst (dCons (eC (.str ("fire" : Str))) (dCons (eC (.str ("gale" : Str))) (dCons (eC (.str ("hail" : Str))) (dCons (eC (.str ("ice" : Str))) (dCons (eC (.str ("joy" : Str))) (dCons (eC (.str ("kin" : Str))) (dCons (eC (.str ("law" : Str))) dNil)))))))) none (some (dBin oAdd (eC (.int 1)) (dCall (opS 2 F__law_take) (dCons (eVar 0) (dCons (eVar 1) dNil)))))))
    (dSeq (dSet 4 slO (dCall oLst dNil))
    (dSeq L__law_book_2
    (dRet (dCall oTup (dCons (eVar 2) (dCons (dCall (op1 oTuple) (dCons (eVar 4) dNil)) dNil))))))))
def F__law_book : List D → M R := fnP 9 D__law_book
abbrev n__law_struck : List Str := [("bag" : Str), ("book" : Str), ("name" : Str)]
abbrev p__law_struck : List Str := [("bag" : Str), ("book" : Str)]
def C__law_struck_1 : En → M R :=
    (dLc (dItE (dBin oIx (eVar 1) (eC (.int 0)))) (.nm 2) [2] (dTst (dBin (oEq false) (dCall (opS 2 F__law_take) (dCons (eVar 0) (dCons (eC (.int 3)) dNil))) (eC (.int 0)))) (eVar 2))
def D__law_struck : SM :=
    (dRet (dCall (op1 oTuple) (dCons C__law_struck_1 dNil)))
def F__law_struck : List D → M R := fnP 3 D__law_struck
end N

/-! N21: denotations unfolded by simp. -/
namespace N
open PySem PySem.Spec L2
section
variable {env : En} {st : Sto} {f fa fb fc fk fv : En → M R} {fs : En → M (List R)} {t ta tb : En → M Bool} {S T : SM} {i j : Nat} {op op' : R → R → M R} {o1 : R → M R} {oL : List R → M R} {sl s1 s2 : R → M R}
@[simp] theorem bind_at {α β : Type} (m : M α) (k : α → M β) (st : Sto) : (m >>= k) st = (match m st with
  | .ok a s => k a s
  | .ex e s => .ex e s
  | .no => .no) := rfl
@[simp] theorem x_var : eVar i env st = (match env[i]? with
  | some (some (.d x)) => .ok (.d x) st
  | some (some (.l _ xs)) => .ok (.l false xs) st
  | some (some (.k _ xs)) => .ok (.k false xs) st
  | _ => .no) := rfl
@[simp] theorem x_c (x : D) : eC x env st = .ok (.d x) st := rfl
@[simp] theorem x_bin : dBin op fa fb env = (fa env >>= fun a => fb env >>= fun b => op a b) := rfl
@[simp] theorem x_un : dUn o1 fa env = (fa env >>= o1) := rfl
@[simp] theorem x_nil : dNil env st = .ok [] st := rfl
@[simp] theorem x_cons : dCons f fs env = (f env >>= fun r => fs env >>= fun rs => M.ret (r :: rs)) := rfl
@[simp] theorem x_call : dCall oL fs env = (fs env >>= oL) := rfl
@[simp] theorem x_tst : dTst f env = (f env >>= toB) := rfl
@[simp] theorem x_toB (b : Bool) : toB (.d (.bool b)) = M.ret b := rfl
@[simp] theorem x_not : dNot t env = (t env >>= fun b => M.ret (!b)) := rfl
@[simp] theorem x_and : dAnd ta tb env = (ta env >>= fun b => if b = true then tb env else M.ret false) := rfl
@[simp] theorem x_or : dOr ta tb env = (ta env >>= fun b => if b = true then M.ret true else tb env) := rfl
@[simp] theorem x_notV : dNotV f env = (f env >>= fun r => toB r >>= fun b => oB (!b)) := rfl
@[simp] theorem x_andV : dAndV fa fb env = (fa env >>= fun r => toB r >>= fun b => if b = true then fb env else oB false) := rfl
@[simp] theorem x_orV : dOrV fa fb env = (fa env >>= fun r => toB r >>= fun b => if b = true then oB true else fb env) := rfl
@[simp] theorem x_oB (b : Bool) : oB b = M.ret (.d (.bool b)) := rfl
@[simp] theorem x_if : dIf t fa fb env = (t env >>= fun b => if b = true then fa env else fb env) := rfl
@[simp] theorem x_yes : dYes env st = .ok true st := rfl
@[simp] theorem x_seq : dSeq S T env = (S env >>= fun p => match p.1 with
  | .nx => T p.2
  | fl => M.ret (fl, p.2)) := rfl
@[simp] theorem x_skip : dSkip env st = .ok (.nx, env) st := rfl
@[simp] theorem x_brk : dBrk env st = .ok (.brk, env) st := rfl
@[simp] theorem x_ct : dCt env st = .ok (.ct, env) st := rfl
@[simp] theorem x_ret : dRet f env = (f env >>= fun r => M.ret (.ret r, env)) := rfl
@[simp] theorem x_retVar : dRetVar i env st = (match env[i]? with
  | some (some r) => .ok (.ret r, env) st
  | _ => .no) := rfl
@[simp] theorem x_ifS : dIfS t S T env = (t env >>= fun b => if b = true then S env else T env) := rfl
@[simp] theorem x_drop : dDrop f env = (f env >>= fun _ => M.ret (.nx, env)) := rfl
@[simp] theorem x_set : dSet i sl f env = (f env >>= fun r => sl r >>= fun r' => M.ret (.nx, env.set i (some r'))) := rfl
@[simp] theorem x_slFd (x : D) : slF (.d x) = M.ret (.d x) := rfl
@[simp] theorem x_slFl (xs : List D) : slF (.l true xs) = M.ret (.d (.list xs)) := rfl
@[simp] theorem x_slFk (xs : List (Key × D)) : slF (.k true xs) = M.ret (.d (.dict (xs.map fun p => (kD p.1, p.2)))) := rfl
@[simp] theorem x_slOd (x : D) : slO (.d x) = M.ret (.d x) := rfl
@[simp] theorem x_slOl (xs : List D) : slO (.l true xs) = M.ret (.l true xs) := rfl
@[simp] theorem x_slOk (xs : List (Key × D)) : slO (.k true xs) = M.ret (.k true xs) := rfl
@[simp] theorem x_asgP {p : Pat} : dAsgP p f env = (f env >>= fun r => asgM p r env) := rfl
@[simp] theorem x_par : dPar i j s1 s2 fs env = (fs env >>= parM i j s1 s2 env) := rfl
@[simp] theorem x_parM (r1 r2 : R) : parM i j s1 s2 env [r1, r2] = if r2.own = r2.fr then s1 r1 >>= fun x => s2 r2 >>= fun y => M.ret (.nx, (env.set i (some x)).set j (some y)) else M.no := rfl
@[simp] theorem x_app : dApp i f env = (chkL i env >>= fun _ => f env >>= fun r => toKp r >>= fun x => mutL i (pushL x) env) := rfl
@[simp] theorem x_setIx : dSetIx i fk f env = (f env >>= fun r => toKp r >>= fun x => chkL i env >>= fun _ => fk env >>= fun rk => toInt rk >>= fun k => mutL i (setL k x) env) := rfl
@[simp] theorem x_toInt (n : Int) : toInt (.d (.int n)) = M.ret n := rfl
@[simp] theorem x_toKpd (x : D) : toKp (.d x) = M.ret x := rfl
@[simp] theorem x_toKpl (xs : List D) : toKp (.l true xs) = M.ret (.list xs) := rfl
@[simp] theorem x_add (a b : Int) : oAdd (.d (.int a)) (.d (.int b)) = M.ret (.d (.int (a + b))) := rfl
@[simp] theorem x_sub (a b : Int) : oSub (.d (.int a)) (.d (.int b)) = M.ret (.d (.int (a - b))) := rfl
@[simp] theorem x_mul (a b : Int) : oMul (.d (.int a)) (.d (.int b)) = if okMul a b = true then M.ret (.d (.int (a * b))) else M.no := rfl
@[simp] theorem x_mod (a b : Int) : oMod (.d (.int a)) (.d (.int b)) = if 0 < b then M.ret (.d (.int (a % b))) else M.no := by
  show (if decide (0 < b) = true then _ else _) = _
  simp
@[simp] theorem x_fdiv (a b : Int) : oFdiv (.d (.int a)) (.d (.int b)) = if 0 < b ∧ b < 1073741824 then M.ret (.d (.int (a / b))) else M.no := by
  show (if (decide (0 < b) && decide (b < 1073741824)) = true then _ else _) = _
  simp
@[simp] theorem x_pow (a b : Int) : oPow (.d (.int a)) (.d (.int b)) = if (decide (0 ≤ b) && decide (b ≤ 1000) && decide (a.natAbs < 18446744073709551616)) = true then M.ret (.d (.int (a ^ b.toNat))) else M.no := rfl
@[simp] theorem x_cmp (g : D → D → Bool) (a b : Int) : oCmp g (.d (.int a)) (.d (.int b)) st = .ok (.d (.bool (g (.int a) (.int b)))) st := cmp_int
@[simp] theorem x_eqI (neg : Bool) (a b : Int) : oEq neg (.d (.int a)) (.d (.int b)) st = .ok (.d (.bool (neg ^^ decide (a = b)))) st := oEq_int
@[simp] theorem x_eqS (neg : Bool) (a b : Str) : oEq neg (.d (.str a)) (.d (.str b)) st = .ok (.d (.bool (neg ^^ decide (a = b)))) st := oEq_str
@[simp] theorem x_inT (neg : Bool) (x : Str) (xs : List Str) : oIn neg (.d (.str x)) (.d (.tuple (xs.map .str))) st = .ok (.d (.bool (neg ^^ decide (x ∈ xs)))) st := oIn_tup
@[simp] theorem x_inL (neg : Bool) (x : Str) (xs : List Str) : oIn neg (.d (.str x)) (.d (.list (xs.map .str))) st = .ok (.d (.bool (neg ^^ decide (x ∈ xs)))) st := oIn_list
@[simp] theorem x_inl (neg b : Bool) (x : Str) (xs : List Str) : oIn neg (.d (.str x)) (.l b (xs.map .str)) st = .ok (.d (.bool (neg ^^ decide (x ∈ xs)))) st := oIn_l
@[simp] theorem x_ink (neg b : Bool) (x : Str) (kvs : List (Key × D)) : oIn neg (.d (.str x)) (.k b kvs) st = .ok (.d (.bool (neg ^^ (valD kvs (.inr x)).isSome))) st := oIn_k
@[simp] theorem x_ind (neg : Bool) (x : Str) (kvs : List (Key × D)) : oIn neg (.d (.str x)) (.d (.dict (kvs.map fun p => (kD p.1, p.2)))) st = .ok (.d (.bool (neg ^^ (valD kvs (.inr x)).isSome))) st := oIn_d
@[simp] theorem x_ixT (xs : List D) (n : Int) : oIx (.d (.tuple xs)) (.d (.int n)) st = (match atI xs n with
  | some x => .ok (.d x) st
  | none => .no) := rfl
@[simp] theorem x_ixL (xs : List D) (n : Int) : oIx (.d (.list xs)) (.d (.int n)) st = (match atI xs n with
  | some x => .ok (.d x) st
  | none => .no) := rfl
@[simp] theorem x_ixl (b : Bool) (xs : List D) (n : Int) : oIx (.l b xs) (.d (.int n)) st = (match atI xs n with
  | some x => .ok (.d x) st
  | none => .no) := rfl
@[simp] theorem at0 {α : Type} (x : α) (xs : List α) : atI (x :: xs) 0 = some x := atI_ok (Int.le_refl 0) rfl
@[simp] theorem at1 {α : Type} (x y : α) (xs : List α) : atI (x :: y :: xs) 1 = some y := atI_ok (by decide) rfl
@[simp] theorem at2 {α : Type} (x y z : α) (xs : List α) : atI (x :: y :: z :: xs) 2 = some z := atI_ok (by decide) rfl
@[simp] theorem x_lenT (xs : List D) : oLen (.d (.tuple xs)) st = .ok (.d (.int xs.length)) st := rfl
@[simp] theorem x_lenL (xs : List D) : oLen (.d (.list xs)) st = .ok (.d (.int xs.length)) st := rfl
@[simp] theorem x_lenl (b : Bool) (xs : List D) : oLen (.l b xs) st = .ok (.d (.int xs.length)) st := rfl
@[simp] theorem x_lenk (b : Bool) (xs : List (Key × D)) : oLen (.k b xs) st = .ok (.d (.int xs.length)) st := rfl
@[simp] theorem x_listT (xs : List D) : oList (.d (.tuple xs)) st = .ok (.l true xs) st := rfl
@[simp] theorem x_listL (xs : List D) : oList (.d (.list xs)) st = .ok (.l true xs) st := rfl
@[simp] theorem x_listl (b : Bool) (xs : List D) : oList (.l b xs) st = .ok (.l true xs) st := rfl
@[simp] theorem x_tupT (xs : List D) : oTuple (.d (.tuple xs)) st = .ok (.d (.tuple xs)) st := rfl
@[simp] theorem x_tupL (xs : List D) : oTuple (.d (.list xs)) st = .ok (.d (.tuple xs)) st := rfl
@[simp] theorem x_tupl (b : Bool) (xs : List D) : oTuple (.l b xs) st = .ok (.d (.tuple xs)) st := rfl
@[simp] theorem x_intB (b : Bool) : oInt (.d (.bool b)) = M.ret (.d (.int (if b then 1 else 0))) := rfl
@[simp] theorem x_intI (b : Int) : oInt (.d (.int b)) = M.ret (.d (.int b)) := rfl
@[simp] theorem x_max (a b : Int) : oMax2 (.d (.int a)) (.d (.int b)) = M.ret (.d (.int (if b > a then b else a))) := rfl
@[simp] theorem x_min (a b : Int) : oMin2 (.d (.int a)) (.d (.int b)) = M.ret (.d (.int (if b < a then b else a))) := rfl
@[simp] theorem x_kd (x : D) : kp (.d x) = some x := rfl
@[simp] theorem x_kl (xs : List D) : kp (.l true xs) = some (.list xs) := rfl
@[simp] theorem x_kk (xs : List (Key × D)) : kp (.k true xs) = some (.dict (xs.map fun p => (kD p.1, p.2))) := rfl
@[simp] theorem x_kpnil : kpAll [] = some [] := rfl
@[simp] theorem x_kpcons (r : R) (rs : List R) : kpAll (r :: rs) = (match kp r, kpAll rs with
  | some x, some xs => some (x :: xs)
  | _, _ => none) := rfl
@[simp] theorem x_oTup (rs : List R) : oTup rs st = (match kpAll rs with
  | some ds => if ds.length ≤ sizeLine then .ok (.d (.tuple ds)) st else .no
  | none => .no) := rfl
@[simp] theorem x_oLst (rs : List R) : oLst rs st = (match kpAll rs with
  | some ds => if ds.length ≤ sizeLine then .ok (.l true ds) st else .no
  | none => .no) := rfl
@[simp] theorem x_newK : eNewK env st = .ok (.k true []) st := rfl
@[simp] theorem x_opS (n : Nat) (F : List D → M R) (rs : List R) : opS n F rs st = (match kpAll rs with
  | some ds => if ds.length = n then (match F ds st with
    | .ok r s => .ok r s
    | _ => .no) else .no
  | none => .no) := rfl
@[simp] theorem x_opC (n : Nat) (F : List D → M R) (rs : List R) : opC n F rs st = (match kpAll rs with
  | some ds => if ds.length = n then (match F ds [.c] with
    | .ok r _ => .ok r st
    | _ => .no) else .no
  | none => .no) := rfl
@[simp] theorem x_dItC (o : List R → M (List D)) : dItC o fs env = (fs env >>= o) := rfl
@[simp] theorem x_dItS : dItS f env = (f env >>= itemsS) := rfl
@[simp] theorem x_dItE : dItE f env = (f env >>= itemsE) := rfl
@[simp] theorem x_iSl (xs : List D) : itemsS (.l true xs) st = .ok xs st := rfl
@[simp] theorem x_iSL (xs : List D) : itemsS (.d (.list xs)) st = .ok xs st := rfl
@[simp] theorem x_iST (xs : List D) : itemsS (.d (.tuple xs)) st = .ok xs st := rfl
@[simp] theorem x_iEl (b : Bool) (xs : List D) : itemsE (.l b xs) st = .ok xs st := rfl
@[simp] theorem x_iEL (xs : List D) : itemsE (.d (.list xs)) st = .ok xs st := rfl
@[simp] theorem x_iET (xs : List D) : itemsE (.d (.tuple xs)) st = .ok xs st := rfl
@[simp] theorem x_asgn (x : D) : asg (.nm i) x env = some (env.set i (some (.d x))) := rfl
@[simp] theorem x_wipe (v : Nat) (vs : List Nat) : wipeE env (v :: vs) = (wipeE env vs).set v none := rfl
@[simp] theorem x_wipe0 : wipeE env [] = env := rfl
@[simp] theorem lst_d (xs : List D) : (R.d (.list xs)).lst? st = some xs := rfl
@[simp] theorem lst_l (b : Bool) (xs : List D) : (R.l b xs).lst? st = some xs := rfl
end
theorem sizeLine_big : 1000000 ≤ sizeLine := by decide
theorem range_rng (n : Nat) : rng 0 n = (List.range n).map fun (i : Nat) => PyData.int (i : Int) := by
  unfold rng
  simp
theorem itR1_nat {n : Nat} {st : Sto} (h : n < 4611686018427387904 := by omega) : itR1 [.d (.int n)] st = .ok ((List.range n).map fun (i : Nat) => PyData.int (i : Int)) st := by
  unfold itR1
  have : inR (n : Int) = true := by
    simp only [inR, Bool.and_eq_true, decide_eq_true_eq]; omega
  simp only [this, if_true, range_rng]
end N

/-! N22: what the law's own helpers do. -/
namespace N
open PySem PySem.Spec L2
/-- a bag: its draws, how many are taken -/
def BagAt (st : Sto) (b : Nat) : Prop := ∃ (ds : List Int) (i : Int), st[b]? = some (.l [.list (ds.map .int), .int i]) ∧ ds.length = 400 ∧ 0 ≤ i
structure Bags (n : Nat) (st : Sto) : Prop where
  len : n ≤ st.length
  at_ : ∀ b, b < n → BagAt st b
  op : opn st = true
theorem opn_set {st : Sto} (h : opn st = true) (n : Nat) {ob : Ob} (lv : ob.live = true) : opn (st.set n ob) = true := by
  cases st with
  | nil => rfl
  | cons x t =>
    cases n with
    | zero => cases ob <;> first | rfl | cases lv
    | succ n => cases x <;> first | rfl | cases h
theorem opn_more {st : Sto} (h : opn st = true) {ob : Ob} (lv : ob.live = true) : opn (st ++ [ob]) = true := by
  cases st with
  | nil => cases ob <;> first | rfl | cases lv
  | cons x t => cases x <;> first | rfl | cases h
@[simp] theorem ref_rf (n : Nat) : refOf (rf n) = some n := refOf_rf n
theorem lst_rf {st : Sto} {b : Nat} {xs : List D} (h : st[b]? = some (.l xs)) : (R.d (rf b)).lst? st = some xs := by
  show (match refOf (rf b) with
    | some n => match st[n]? with
      | some (.l xs) => some xs
      | some (.z (.list xs)) => some xs
      | _ => none
    | none => none) = _
  rw [refOf_rf]
  simp only [h]
theorem ix_rf {st : Sto} {b : Nat} {xs : List D} (h : st[b]? = some (.l xs)) (n : Int) : oIx (.d (rf b)) (.d (.int n)) st = (match atI xs n with
  | some x => .ok (.d x) st
  | none => .no) := by
  have e : (R.d (rf b)).tup? = none := rfl
  unfold oIx
  simp only [e, lst_rf h]
  all_goals (cases atI xs n <;> rfl)
theorem chk_rf {st : Sto} {env : En} {i b : Nat} {xs : List D} (e : env[i]? = some (some (.d (rf b)))) (h : st[b]? = some (.l xs)) : chkL i env st = .ok () st := by
  unfold chkL
  simp only [e, lst_rf h]
theorem mut_rf {st : Sto} {env : En} {i b : Nat} {xs ys : List D} {up : List D → Option (List D)} (e : env[i]? = some (some (.d (rf b)))) (h : st[b]? = some (.l xs)) (u : up xs = some ys) : mutL i up env st = .ok (.nx, env) (st.set b (.l ys)) := by
  unfold mutL
  simp only [e, refOf_rf, h, u]
theorem take_ok {n b : Nat} {st : Sto} {m : Int} (B : Bags n st) (hb : b < n) (hm : 0 < m) : ∃ (j : Nat) (st' : Sto), F__law_take [rf b, .int m] st = .ok (.d (.int j)) st' ∧ (j : Int) < m ∧ Bags n st' := by
  obtain ⟨ds, i, h, hl, hi⟩ := B.at_ b hb
  have h2 : (st.set b (.l [.list (ds.map .int), .int (i + 1)]))[b]? = some (.l [.list (ds.map .int), .int (i + 1)]) := List.getElem?_set_self (Nat.lt_of_lt_of_le hb B.len)
  have hq : 0 ≤ (i + 1) % 400 := Int.emod_nonneg _ (by decide)
  have hq2 : (i + 1) % 400 < 400 := Int.emod_lt_of_pos _ (by decide)
  have hd : ((i + 1) % 400).toNat < ds.length := by omega
  have ha : atI (ds.map PyData.int) ((i + 1) % 400) = some (.int ds[((i + 1) % 400).toNat]) := atI_ok hq (by rw [List.getElem?_map, List.getElem?_eq_getElem hd]; rfl)
  refine ⟨(ds[((i + 1) % 400).toNat] % m).toNat, st.set b (.l [.list (ds.map .int), .int (i + 1)]), ?_, ?_, ?_⟩
  · have e1 : (((ds[((i + 1) % 400).toNat] % m).toNat : Nat) : Int) = ds[((i + 1) % 400).toNat] % m := Int.toNat_of_nonneg (Int.emod_nonneg _ (by omega))
    rw [e1]
    have c1 : chkL 0 [some (R.d (rf b)), some (R.d (.int m))] st = .ok () st := chk_rf rfl h
    have c2 : mutL 0 (setL 1 (.int (i + 1))) [some (R.d (rf b)), some (R.d (.int m))] st = .ok (.nx, [some (R.d (rf b)), some (R.d (.int m))]) (st.set b (.l [.list (ds.map .int), .int (i + 1)])) := mut_rf rfl h rfl
    simp [F__law_take, fnP, D__law_take, env0, ix_rf h, ix_rf h2, c1, c2, hl, ha, hm]
  · have := Int.emod_lt_of_pos ds[((i + 1) % 400).toNat] hm
    omega
  · refine ⟨by rw [List.length_set]; exact B.len, fun c hc => ?_, opn_set B.op _ rfl⟩
    by_cases e : c = b
    · subst e
      exact ⟨ds, i + 1, h2, hl, by omega⟩
    · obtain ⟨ds', i', k1, k2⟩ := B.at_ c hc
      exact ⟨ds', i', by rw [List.getElem?_set_ne (Ne.symm e)]; exact k1, k2⟩

/-! ### the draws -/
theorem okMul_small {i j : Int} (h : j = 0 ∨ j = 1) : okMul i j = true := by
  unfold okMul
  rcases h with rfl | rfl <;> simp
theorem okMul_of {i j : Int} (h : (0 ≤ i ∧ i < 18446744073709551616) ∨ (0 ≤ j ∧ j < 18446744073709551616)) : okMul i j = true := by
  simp only [okMul, Bool.or_eq_true, Bool.and_eq_true, decide_eq_true_eq]
  omega
theorem push_int (x : Int) (ds : List Int) (h : ds.length < 1000000) : pushL (.int x) (ds.map PyData.int) = some ((ds ++ [x]).map PyData.int) := by
  unfold pushL
  rw [if_pos (by rw [List.length_map]; exact Nat.lt_of_lt_of_le h sizeLine_big), List.map_append]
  rfl
theorem draws_turn {cell rest s : Int} {i : Nat} {ds : List Int} (h0 : 0 ≤ rest) (h1 : 0 ≤ s) (h2 : s < 2305843009213693951) (hl : ds.length < 1000000) :
    ∃ (ds' : List Int) (rest' s' : Int), B__law_draws_1 [some (.d (.int cell)), some (.d (.int 400)), some (.d (.int 1000)), some (.l true (ds.map .int)), some (.d (.int rest)), some (.d (.int s)), some (.d (.int i))] [.c] =
      .ok (.nx, [some (.d (.int cell)), some (.d (.int 400)), some (.d (.int 1000)), some (.l true (ds'.map .int)), some (.d (.int rest')), some (.d (.int s')), some (.d (.int i))]) [.c] ∧
      0 ≤ rest' ∧ 0 ≤ s' ∧ s' < 2305843009213693951 ∧ ds'.length = ds.length + (if 2 < i then 1 else 0) := by
  have m1 : okMul s s = true := okMul_of (by omega)
  have m2 : okMul 48271 s = true := okMul_of (by omega)
  have hs1 : 0 ≤ (s * s + 48271 * s + (i : Int) + 1) % 2305843009213693951 := Int.emod_nonneg _ (by decide)
  have hs2 : (s * s + 48271 * s + (i : Int) + 1) % 2305843009213693951 < 2305843009213693951 := Int.emod_lt_of_pos _ (by decide)
  have ch : ∀ env : En, ∀ xs, env[3]? = some (some (R.l true xs)) → chkL 3 env [.c] = .ok () [.c] := fun env xs e => by unfold chkL; simp only [e]; rfl
  have mu : ∀ (env : En) (x : Int), env[3]? = some (some (R.l true (ds.map .int))) → mutL 3 (pushL (.int x)) env [.c] = .ok (.nx, env.set 3 (some (.l true ((ds ++ [x]).map .int)))) [.c] := fun env x e => by
    unfold mutL
    simp only [e, push_int x ds hl]
  by_cases k2 : 2 < i
  · have k2' : (2 : Int) < i := by omega
    by_cases r0 : 0 < rest
    · refine ⟨ds ++ [rest % 1000], rest / 1000, (s * s + 48271 * s + (i : Int) + 1) % 2305843009213693951, ?_, by omega, hs1, hs2, by simp [k2]⟩
      simp [B__law_draws_1, m1, m2, k2', r0, ch, mu]
    · refine ⟨ds ++ [(s * s + 48271 * s + (i : Int) + 1) % 2305843009213693951 / 4096 % 1000], rest, (s * s + 48271 * s + (i : Int) + 1) % 2305843009213693951, ?_, h0, hs1, hs2, by simp [k2]⟩
      simp [B__law_draws_1, m1, m2, k2', r0, ch, mu]
  · have k2' : ¬ (2 : Int) < i := by omega
    refine ⟨ds, rest, (s * s + 48271 * s + (i : Int) + 1) % 2305843009213693951, ?_, h0, hs1, hs2, by simp [k2]⟩
    simp [B__law_draws_1, m1, m2, k2', ch, mu]
theorem draws_ok (cell : Int) : ∃ ds : List Int, F__law_draws [.int cell, .int 400, .int 1000] [.c] = .ok (.l true (ds.map .int)) [.c] ∧ ds.length = 400 := by
  have hm : okMul cell (if 1000000000000000000 ≤ cell then 1 else 0) = true := okMul_small (by split <;> simp)
  have hr : 0 ≤ cell * (if 1000000000000000000 ≤ cell then 1 else 0) := by
    split
    · rename_i h
      omega
    · omega
  have hs1 : 0 ≤ cell % 2305843009213693951 := Int.emod_nonneg _ (by decide)
  have hs2 : cell % 2305843009213693951 < 2305843009213693951 := Int.emod_lt_of_pos _ (by decide)
  obtain ⟨env', st', e1, e2⟩ := forGo_inv (S := B__law_draws_1) (p := .nm 6) (enc := fun (i : Nat) => PyData.int (i : Int)) (fun k env st => st = [.c] ∧ ∃ (ds : List Int) (rest s : Int) (j : Option R),
      env = [some (.d (.int cell)), some (.d (.int 400)), some (.d (.int 1000)), some (.l true (ds.map .int)), some (.d (.int rest)), some (.d (.int s)), j] ∧ 0 ≤ rest ∧ 0 ≤ s ∧ s < 2305843009213693951 ∧ ds.length = k - 3)
    (List.range 403) 0 [some (.d (.int cell)), some (.d (.int 400)), some (.d (.int 1000)), some (.l true []), some (.d (.int (cell * (if 1000000000000000000 ≤ cell then 1 else 0)))), some (.d (.int (cell % 2305843009213693951))), none] [.c]
    ⟨rfl, [], _, _, none, rfl, hr, hs1, hs2, rfl⟩ fun i x env st ex ⟨est, ds, rest, s, j, ee, g1, g2, g3, g4⟩ => by
      subst est ee
      have hx : x = i ∧ i < 403 := by
        have := List.getElem?_eq_some_iff.mp ex
        obtain ⟨h1, h2⟩ := this
        simp at h1 h2
        exact ⟨h2.symm, h1⟩
      obtain ⟨rfl, hi⟩ := hx
      obtain ⟨ds', rest', s', b1, b2, b3, b4, b5⟩ := draws_turn (cell := cell) (i := x) (ds := ds) g1 g2 g3 (by omega)
      refine ⟨_, _, _, rfl, b1, rfl, ds', rest', s', _, rfl, b2, b3, b4, ?_⟩
      rw [b5, g4]
      split <;> omega
  obtain ⟨rfl, ds, rest, s, j, rfl, g1, g2, g3, g4⟩ := e2
  refine ⟨ds, ?_, by simpa using g4⟩
  have el : L__law_draws_1 [some (.d (.int cell)), some (.d (.int 400)), some (.d (.int 1000)), some (.l true []), some (.d (.int (cell * (if 1000000000000000000 ≤ cell then 1 else 0)))), some (.d (.int (cell % 2305843009213693951))), none] [.c] = _ := (dFor_ok (p := .nm 6) (S := B__law_draws_1) (by simp; exact itR1_nat (n := 403))).trans e1
  simp [F__law_draws, fnP, D__law_draws, env0, hm, el]

/-! ### the bags -/
theorem cell_ok (ns : List Int) (k : Nat) (st : Sto) : ∃ c : Int, F__law_cell_at [.list (ns.map .int), .int k] st = .ok (.d (.int c)) st := by
  by_cases h : k < ns.length
  · have ha : atI (ns.map PyData.int) (k : Int) = some (.int ns[k]) := atI_ok (by omega) (by simp [h])
    exact ⟨ns[k], by simp [F__law_cell_at, fnP, D__law_cell_at, env0, h, ha]⟩
  · exact ⟨0, by simp [F__law_cell_at, fnP, D__law_cell_at, env0, h]⟩
theorem bag_ok (ns : List Int) (k : Nat) : ∃ ds : List Int, F__law_bag [.list (ns.map .int), .int k] [.c] = .ok (.l true [.list (ds.map .int), .int 0]) [.c] ∧ ds.length = 400 := by
  obtain ⟨c, hc⟩ := cell_ok ns k [.c]
  obtain ⟨ds, hd, hl⟩ := draws_ok c
  refine ⟨ds, ?_, hl⟩
  have : 2 ≤ sizeLine := by decide
  simp [F__law_bag, fnP, D__law_bag, env0, hc, hd, this]
theorem lcGo_ix {β : Type} {step : D → M (Option β)} (I : Nat → Sto → Prop) (P : Nat → β → Prop) : ∀ (xs : List D) (k : Nat) (st : Sto), I k st → (∀ i x st, xs[i]? = some x → I (k + i) st → ∃ d st1, step x st = .ok (some d) st1 ∧ I (k + i + 1) st1 ∧ P (k + i) d) →
    ∃ ds st1, lcGo step xs st = .ok ds st1 ∧ I (k + xs.length) st1 ∧ ds.length = xs.length ∧ ∀ i d, ds[i]? = some d → P (k + i) d
  | [], k, st, h0, _ => ⟨[], st, rfl, h0, rfl, fun i d h => by simp at h⟩
  | x :: xs, k, st, h0, hs => by
    obtain ⟨d, s1, a1, a2, a3⟩ := hs 0 x st rfl h0
    obtain ⟨ds, s2, b1, b2, b3, b4⟩ := lcGo_ix I P xs (k + 1) s1 a2 fun i y st e h => by
      have := hs (i + 1) y st (by simpa using e) (by rw [show k + (i + 1) = k + 1 + i from by omega]; exact h)
      rw [show k + (i + 1) = k + 1 + i from by omega] at this
      exact this
    refine ⟨d :: ds, s2, ?_, by rw [show k + (x :: xs).length = k + 1 + xs.length from by rw [List.length_cons]; omega]; exact b2, by simp [b3], fun i d' e => ?_⟩
    · rw [lcGo_cons, a1]
      simp only [b1]
      rfl
    · cases i with
      | zero => simp at e; subst e; exact a3
      | succ i =>
        have := b4 i d' (by simpa using e)
        rw [show k + (i + 1) = k + 1 + i from by omega]
        exact this
theorem Bags.opn {n : Nat} {st : Sto} (B : Bags n st) : opn st = true := B.op
/-- a further object stands behind -/
theorem Bags.more {n : Nat} {st : Sto} (B : Bags n st) {ob : Ob} (lv : ob.live = true) : Bags n (st ++ [ob]) where
  len := by rw [List.length_append]; have := B.len; omega
  at_ := fun b hb => by
    obtain ⟨ds, i, k1, k2⟩ := B.at_ b hb
    exact ⟨ds, i, by rw [List.getElem?_append_left (Nat.lt_of_lt_of_le hb B.len)]; exact k1, k2⟩
  op := opn_more B.op lv
/-- one of those behind is changed -/
theorem Bags.setHi {n m : Nat} {st : Sto} (B : Bags n st) (h : n ≤ m) {ob : Ob} (lv : ob.live = true) : Bags n (st.set m ob) where
  len := by rw [List.length_set]; exact B.len
  at_ := fun b hb => by
    obtain ⟨ds, i, k1, k2⟩ := B.at_ b hb
    exact ⟨ds, i, by rw [List.getElem?_set_ne (by omega)]; exact k1, k2⟩
  op := opn_set B.op _ lv
theorem Bags.push {n : Nat} {st : Sto} (B : Bags n st) (hn : st.length = n) {ds : List Int} (hl : ds.length = 400) : Bags (n + 1) (st ++ [.l [.list (ds.map .int), .int 0]]) where
  len := by simp [hn]
  at_ := fun b hb => by
    rcases Nat.lt_or_eq_of_le (Nat.le_of_lt_succ hb) with h | h
    · obtain ⟨ds', i', k1, k2⟩ := B.at_ b h
      exact ⟨ds', i', by rw [List.getElem?_append_left (by rw [hn]; exact h)]; exact k1, k2⟩
    · subst h
      exact ⟨ds, 0, by rw [← hn]; simp, hl, Int.le_refl 0⟩
  op := opn_more B.op rfl
theorem bags_ok (ns : List Int) (lim : Nat) (h1 : 1 ≤ lim) (h2 : lim ≤ 1000) : ∃ (n : Nat) (st : Sto), F__law_bags [.list (ns.map .int), .int lim] [] = .ok (.l true ((List.range n).map rf)) st ∧ Bags n st ∧ 1 ≤ n ∧ n ≤ lim := by
  have hn : ∃ n : Nat, (if (if ((ns.map PyData.int).length : Int) < (lim : Int) then ((ns.map PyData.int).length : Int) else (lim : Int)) > 1 then (if ((ns.map PyData.int).length : Int) < (lim : Int) then ((ns.map PyData.int).length : Int) else (lim : Int)) else 1) = (n : Int) ∧ 1 ≤ n ∧ n ≤ lim := by
    by_cases a : ns.length < lim
    · by_cases b : 1 < ns.length
      · exact ⟨ns.length, by simp; omega, by omega, by omega⟩
      · exact ⟨1, by simp; omega, by omega, by omega⟩
    · by_cases b : 1 < lim
      · exact ⟨lim, by simp; omega, by omega, by omega⟩
      · exact ⟨1, by simp; omega, by omega, by omega⟩
  obtain ⟨n, en, n1, n2⟩ := hn
  obtain ⟨ds, st, b1, b2, b3, b4⟩ := lcGo_ix (step := lcStep (.nm 2) [2] dYes (dNew (dCall (opC 2 F__law_bag) (dCons (eVar 0) (dCons (eVar 2) dNil)))) [some (.d (.list (ns.map .int))), some (.d (.int lim)), none])
    (fun k st => Bags k st ∧ st.length = k) (fun k d => d = rf k) ((List.range n).map fun (i : Nat) => PyData.int (i : Int)) 0 [] ⟨⟨Nat.le_refl _, fun b hb => absurd hb (Nat.not_lt_zero _), rfl⟩, rfl⟩ fun i x st e B => by
      obtain ⟨j, hj, rfl⟩ : ∃ j, (List.range n)[i]? = some j ∧ PyData.int (j : Int) = x := by
        rw [List.getElem?_map] at e
        exact Option.map_eq_some_iff.mp e
      obtain ⟨dr, hd, hl⟩ := bag_ok ns j
      obtain ⟨B', hn'⟩ : Bags i st ∧ st.length = i := by simpa using B
      refine ⟨rf i, st ++ [.l [.list (dr.map .int), .int 0]], ?_, by simpa using And.intro (B'.push hn' hl) (show (st ++ [Ob.l [.list (dr.map .int), .int 0]]).length = i + 1 by simp [hn']), by simp⟩
      refine lcStep_ok (r := .d (rf i)) (s1 := st) (e1 := [some (.d (.list (ns.map .int))), some (.d (.int lim)), some (.d (.int (j : Int)))]) rfl rfl ?_ rfl
      simp [dNew, hd, oNew, B'.opn, hn']
  have ed : ds = (List.range n).map rf := by
    apply List.ext_getElem?
    intro i
    rw [List.getElem?_map]
    by_cases h : i < n
    · have hl : i < ds.length := by rw [b3]; simpa using h
      rw [List.getElem?_eq_getElem hl]
      have := b4 i _ (List.getElem?_eq_getElem hl)
      rw [this]
      simp [h]
    · rw [List.getElem?_eq_none (l := ds) (by rw [b3, List.length_map, List.length_range]; omega), List.getElem?_eq_none (l := List.range n) (by rw [List.length_range]; omega)]
      rfl
  subst ed
  refine ⟨n, st, ?_, by simpa using b2.1, n1, n2⟩
  have el : C__law_bags_1 [some (.d (.list (ns.map .int))), some (.d (.int lim)), none] [] = .ok (.l true ((List.range n).map rf)) st := by
    unfold C__law_bags_1 dLc lcRun
    rw [M.bind_ok (st' := []) (a := (List.range n).map fun (i : Nat) => PyData.int (i : Int)) ?_]
    · show (if _ then _ else _) = _
      rw [if_pos (by simp; exact Nat.le_trans (by omega) sizeLine_big), b1]
      rfl
    · simp only [x_dItC, x_cons, x_call, x_var, x_nil, x_c, bind_at, op1, op2, List.getElem?_cons_zero, List.getElem?_cons_succ, M.ret_ap, x_lenL, x_min, x_max, en]
      exact itR1_nat (by omega)
  simp [F__law_bags, fnP, D__law_bags, env0, el]

/-! ### a few names of a list, in order -/
theorem srtOk_strs {xs : List Str} (h : xs.length ≤ 1000000) : srtOk (xs.map .str) = true := by
  have h2 : xs.length ≤ sizeLine := Nat.le_trans h sizeLine_big
  simp only [srtOk, srtKinds, Bool.and_eq_true, Bool.or_eq_true, List.all_eq_true, List.length_map, decide_eq_true_eq]
  refine ⟨⟨⟨fun a ha b hb => ?_, .inr fun a ha => ?_⟩, fun a ha => ?_⟩, h2⟩
  · obtain ⟨x, _, rfl⟩ := List.mem_map.mp ha
    obtain ⟨y, _, rfl⟩ := List.mem_map.mp hb
    simp [PySem.W.alike]
  · obtain ⟨x, _, rfl⟩ := List.mem_map.mp ha
    rfl
  · obtain ⟨x, _, rfl⟩ := List.mem_map.mp ha
    rfl
theorem dKeys_strs : ∀ xs : List Str, dKeys (xs.map .str) = some (xs.map Sum.inr)
  | [] => rfl
  | x :: xs => by
    rw [List.map_cons]
    unfold dKeys
    rw [dKeys_strs xs]
    rfl
theorem strs_of {names : List Str} : ∀ {l : List D}, (∀ d ∈ l, ∃ x ∈ names, d = .str x) → ∃ ws : List Str, l = ws.map .str ∧ ∀ w ∈ ws, w ∈ names
  | [], _ => ⟨[], rfl, fun w h => by simp at h⟩
  | d :: l, h => by
    obtain ⟨x, hx, rfl⟩ := h d List.mem_cons_self
    obtain ⟨ws, rfl, hw⟩ := strs_of fun d hd => h d (List.mem_cons_of_mem _ hd)
    exact ⟨x :: ws, rfl, fun w hw' => by
      rcases List.mem_cons.mp hw' with rfl | h
      · exact hx
      · exact hw w h⟩
/-- names, in order, without doubles -/
def nameSort (xs : List Str) : List D := srt ((uniq (xs.map Sum.inr)).map kD)
theorem nameSort_strs (xs : List Str) : ∃ ws : List Str, nameSort xs = ws.map .str ∧ (∀ w, w ∈ ws ↔ w ∈ xs) ∧ ws.Nodup ∧ ws.length ≤ xs.length := by
  have pm := srt_perm ((uniq (xs.map Sum.inr)).map kD)
  obtain ⟨ws, e, hw⟩ := strs_of (names := xs) (l := nameSort xs) fun d hd => by
    obtain ⟨k, hk, rfl⟩ := List.mem_map.mp (pm.mem_iff.mp hd)
    obtain ⟨x, hx, rfl⟩ := List.mem_map.mp (uniq_mem.mp hk)
    exact ⟨x, hx, rfl⟩
  have pm2 : (ws.map PyData.str).Perm ((uniq (xs.map Sum.inr)).map kD) := e ▸ pm
  refine ⟨ws, e, fun w => ⟨hw w, fun h => ?_⟩, ?_, ?_⟩
  · have : PyData.str w ∈ ws.map PyData.str := pm2.mem_iff.mpr (List.mem_map.mpr ⟨.inr w, uniq_mem.mpr (List.mem_map_of_mem h), rfl⟩)
    obtain ⟨v, hv, ev⟩ := List.mem_map.mp this
    cases ev
    exact hv
  · have nd : ((uniq (xs.map Sum.inr)).map kD).Nodup := List.Pairwise.map (S := fun a b => a ≠ b) kD (fun a b hne h => hne (kD_toks (by rw [h]))) (uniq_nodup _)
    have := pm2.nodup_iff.mpr nd
    exact (List.pairwise_map.mp this).imp fun h e => h (by rw [e])
  · have := pm2.length_eq
    rw [List.length_map, List.length_map] at this
    have h2 := uniq_len (xs.map (Sum.inr : Str → Key))
    rw [List.length_map] at h2
    omega
theorem sortSet_ok {xs : List Str} {st : Sto} (h : xs.length ≤ 1000) : oSortSet (.d (.list (xs.map .str))) st = .ok (.l true (nameSort xs)) st := by
  unfold oSortSet
  have e : seqOf (.d (.list (xs.map .str))) st = some (xs.map .str) := rfl
  simp only [e, dKeys_strs, srtOk_strs (Nat.le_trans h (by decide)), List.length_map, h, if_true]
  rfl
theorem lot_ok {n b : Nat} {st : Sto} {names : List Str} {most : Nat} (B : Bags n st) (hb : b < n) (hn : names ≠ []) (hm : 0 < most) (hm2 : most ≤ 900) :
    ∃ (ws : List Str) (st' : Sto), F__law_lot [rf b, .list (names.map .str), .int most] st = .ok (.d (.tuple (ws.map .str))) st' ∧ Bags n st' ∧ (∀ w ∈ ws, w ∈ names) ∧ ws ≠ [] ∧ ws.Nodup ∧ ws.length ≤ most := by
  obtain ⟨j, s1, e1, hj, B1⟩ := take_ok (m := (most : Int)) B hb (by omega)
  have hnl : 0 < names.length := List.length_pos_iff.mpr hn
  have ei : dItC itR1 (dCons (dBin oAdd (eC (.int 1)) (dCall (opS 2 F__law_take) (dCons (eVar 0) (dCons (eVar 2) dNil)))) dNil) [some (.d (rf b)), some (.d (.list (names.map .str))), some (.d (.int most)), none, none] st = .ok ((List.range (1 + j)).map fun (i : Nat) => PyData.int (i : Int)) s1 := by
    simp [e1]
    exact itR1_nat (n := 1 + j) (st := s1) (by omega)
  obtain ⟨ds, s2, c1, B2, c2, c3⟩ := dLc_all (p := .nm 4) (vs := [4]) (tst := dYes) (elt := dBin oIx (eVar 1) (dCall (opS 2 F__law_take) (dCons (eVar 0) (dCons (dCall (op1 oLen) (dCons (eVar 1) dNil)) dNil))))
    (fun st => Bags n st) (fun d => ∃ x ∈ names, d = .str x) ei (by simp; exact Nat.le_trans (by omega) sizeLine_big) B1 fun x _ st B => by
      obtain ⟨q, s', e', hq, B'⟩ := take_ok (m := (names.length : Int)) B hb (by omega)
      have hq' : q < names.length := by omega
      have ha : atI (names.map PyData.str) (q : Int) = some (.str names[q]) := atI_ok (by omega) (by simp [hq'])
      refine ⟨.str names[q], s', lcStep_ok (r := .d (.str names[q])) (s1 := st) (e1 := [some (.d (rf b)), some (.d (.list (names.map .str))), some (.d (.int most)), none, some (.d x)]) rfl rfl ?_ rfl, B', _, List.getElem_mem hq', rfl⟩
      simp [e', ha]
  obtain ⟨fs, rfl, hf⟩ := strs_of c2
  rw [List.length_map, List.length_map, List.length_range] at c3
  obtain ⟨ws, w1, w2, w3, w4⟩ := nameSort_strs fs
  refine ⟨ws, s2, ?_, B2, fun w hw => hf w ((w2 w).mp hw), fun z => ?_, w3, by omega⟩
  · have ss := sortSet_ok (xs := fs) (st := s2) (by omega)
    rw [w1] at ss
    simp [F__law_lot, fnP, D__law_lot, env0, C__law_lot_1, c1, ss]
  · subst z
    have : fs = [] := by
      cases fs with
      | nil => rfl
      | cons a t => exact absurd ((w2 a).mpr List.mem_cons_self) (by simp)
    subst this
    simp at c3
    omega
end N

/-! N23: the law's books. -/
namespace N
open PySem PySem.Spec L2
structure Book where
  src : List Str
  facts : List (Str × List (List Str))
abbrev eStrs (xs : List Str) : D := .tuple (xs.map .str)
def eFact (f : Str × List (List Str)) : D := .tuple [.str f.1, .tuple (f.2.map eStrs)]
def eBook (B : Book) : D := .tuple [eStrs B.src, .tuple (B.facts.map eFact)]
abbrev srcs : List Str := [("ada" : Str), ("bea" : Str), ("cob" : Str), ("dan" : Str)]
abbrev facs : List Str := [("fire" : Str), ("gale" : Str), ("hail" : Str), ("ice" : Str), ("joy" : Str), ("kin" : Str), ("law" : Str)]
structure WayOk (names : List Str) (w : List Str) : Prop where
  mem : ∀ x ∈ w, x ∈ names
  ne : w ≠ []
  nd : w.Nodup
  few : w.length ≤ 3
structure WfB (most : Nat) (B : Book) : Prop where
  src : ∃ i, i < 4 ∧ B.src = srcs.take (1 + i)
  fac : ∃ j, j < most ∧ B.facts.map (·.1) = facs.take (1 + j)
  few : ∀ f ∈ B.facts, f.2.length ≤ 3
  way : ∀ f ∈ B.facts, ∀ w ∈ f.2, WayOk (B.src ++ B.facts.map (·.1)) w
section
variable {env : En} {st : Sto} {f : En → M R}
@[simp] theorem x_sl (o : R → Option Int → Option Int → M R) (lo hi : Option (En → M R)) : dSl o f lo hi env = (f env >>= fun a => dPart lo env >>= fun l => dPart hi env >>= fun u => o a l u) := rfl
@[simp] theorem x_p0 : dPart none env st = .ok none st := rfl
@[simp] theorem x_p1 : dPart (some f) env = (f env >>= toI) := rfl
@[simp] theorem x_toI (i : Int) : toI (.d (.int i)) = M.ret (some i) := rfl
@[simp] theorem x_oSll (b : Bool) (xs : List D) (lo hi : Option Int) : oSl (.l b xs) lo hi st = .ok (.l true (cutD xs lo hi)) st := rfl
@[simp] theorem x_oSlL (xs : List D) (lo hi : Option Int) : oSl (.d (.list xs)) lo hi st = .ok (.l true (cutD xs lo hi)) st := rfl
@[simp] theorem x_oSlT (xs : List D) (lo hi : Option Int) : oSl (.d (.tuple xs)) lo hi st = .ok (.d (.tuple (cutD xs lo hi))) st := rfl
@[simp] theorem x_addlL (b : Bool) (xs ys : List D) : oAdd (.l b xs) (.d (.list ys)) st = if xs.length + ys.length ≤ sizeLine then .ok (.l true (xs ++ ys)) st else .no := rfl
@[simp] theorem x_addLl (b : Bool) (xs ys : List D) : oAdd (.d (.list xs)) (.l b ys) st = if xs.length + ys.length ≤ sizeLine then .ok (.l true (xs ++ ys)) st else .no := rfl
@[simp] theorem x_addLL (xs ys : List D) : oAdd (.d (.list xs)) (.d (.list ys)) st = if xs.length + ys.length ≤ sizeLine then .ok (.l true (xs ++ ys)) st else .no := rfl
theorem cut_nat (xs : List D) (k : Nat) : cutD xs none (some (k : Int)) = xs.take k := by
  unfold cutD HT.sIx
  simp only [List.drop_zero, Nat.sub_zero]
  rw [if_neg (by omega), Int.toNat_natCast, List.take_eq_take_iff]
  omega
theorem cut_1 (xs : List D) (k : Nat) : cutD xs none (some (1 + (k : Int))) = xs.take (1 + k) := by
  rw [← cut_nat]
  congr 2
theorem push_d {x : D} {xs : List D} (h : xs.length < 1000000) : pushL x xs = some (xs ++ [x]) := by
  unfold pushL
  rw [if_pos (Nat.lt_of_lt_of_le h sizeLine_big)]
theorem chk_own {i : Nat} {b : Bool} {xs : List D} (e : env[i]? = some (some (.l b xs))) : chkL i env st = .ok () st := by
  unfold chkL
  simp only [e]
  rfl
theorem mut_own {i : Nat} {b : Bool} {xs ys : List D} {up : List D → Option (List D)} (e : env[i]? = some (some (.l b xs))) (u : up xs = some ys) : mutL i up env st = .ok (.nx, env.set i (some (.l true ys))) st := by
  unfold mutL
  simp only [e, u]
end
theorem book_turn {n b : Nat} {st : Sto} {m : D} {src fac : List Str} {rows : List D} {fact : Str} {ways : List (List Str)} {j7 j8 : Option R} (B : Bags n st) (hb : b < n) (hs : src ≠ []) (h1 : src.length ≤ 4) (h2 : fac.length ≤ 7) (hw : ways.length ≤ 100) :
    ∃ (w : List Str) (j8' : Option R) (st' : Sto), B__law_book_1 [some (.d (rf b)), some (.d m), some (.d (eStrs src)), some (.d (.list (fac.map .str))), some (.l true rows), some (.d (.str fact)), some (.l true (ways.map eStrs)), j7, j8] st =
      .ok (.nx, [some (.d (rf b)), some (.d m), some (.d (eStrs src)), some (.d (.list (fac.map .str))), some (.l true rows), some (.d (.str fact)), some (.l true ((ways ++ [w]).map eStrs)), j7, j8']) st' ∧ Bags n st' ∧ WayOk (src ++ fac) w := by
  obtain ⟨j, s1, e1, hj, B1⟩ := take_ok (m := 3) B hb (by decide)
  have hz : src.length + fac.length ≤ sizeLine := Nat.le_trans (by omega) sizeLine_big
  by_cases hj0 : j = 0
  · obtain ⟨w, s2, e2, B2, w1, w2, w3, w4⟩ := lot_ok (names := src) (most := 3) B1 hb hs (by decide) (by decide)
    refine ⟨w, some (.d (.list (src.map .str))), s2, ?_, B2, ⟨fun x hx => List.mem_append_left _ (w1 x hx), w2, w3, w4⟩⟩
    have ch := fun (env : En) (e : env[6]? = some (some (R.l true (ways.map eStrs)))) => chk_own (st := s1) e
    have mu := fun (env : En) (e : env[6]? = some (some (R.l true (ways.map eStrs)))) => mut_own (st := s2) (up := pushL (eStrs w)) e (push_d (by simp; omega))
    simp at e2 mu
    simp [B__law_book_1, e1, hj0, e2, ch, mu]
  · obtain ⟨w, s2, e2, B2, w1, w2, w3, w4⟩ := lot_ok (names := src ++ fac) (most := 3) B1 hb (by simp [hs]) (by decide) (by decide)
    refine ⟨w, some (.d (.list ((src ++ fac).map .str))), s2, ?_, B2, ⟨w1, w2, w3, w4⟩⟩
    have ch := fun (env : En) (e : env[6]? = some (some (R.l true (ways.map eStrs)))) => chk_own (st := s1) e
    have mu := fun (env : En) (e : env[6]? = some (some (R.l true (ways.map eStrs)))) => mut_own (st := s2) (up := pushL (eStrs w)) e (push_d (by simp; omega))
    simp at e2 mu
    simp [B__law_book_1, e1, hj0, e2, ch, mu, hz]

theorem book_ways {n b : Nat} {st : Sto} {m : D} {src fac : List Str} {rows : List D} {fact : Str} {j7 j8 : Option R} (B : Bags n st) (hb : b < n) (hs : src ≠ []) (h1 : src.length ≤ 4) (h2 : fac.length ≤ 7) :
    ∃ (ways : List (List Str)) (j7' j8' : Option R) (st' : Sto), L__law_book_1 [some (.d (rf b)), some (.d m), some (.d (eStrs src)), some (.d (.list (fac.map .str))), some (.l true rows), some (.d (.str fact)), some (.l true []), j7, j8] st =
      .ok (.nx, [some (.d (rf b)), some (.d m), some (.d (eStrs src)), some (.d (.list (fac.map .str))), some (.l true rows), some (.d (.str fact)), some (.l true (ways.map eStrs)), j7', j8']) st' ∧ Bags n st' ∧ ways.length ≤ 3 ∧ ∀ w ∈ ways, WayOk (src ++ fac) w := by
  obtain ⟨j, s1, e1, hj, B1⟩ := take_ok (m := 4) B hb (by decide)
  obtain ⟨env', st', c1, c2⟩ := forGo_inv (S := B__law_book_1) (p := .nm 7) (enc := fun (i : Nat) => PyData.int (i : Int)) (fun k env st => Bags n st ∧ ∃ (ways : List (List Str)) (j7 j8 : Option R),
      env = [some (.d (rf b)), some (.d m), some (.d (eStrs src)), some (.d (.list (fac.map .str))), some (.l true rows), some (.d (.str fact)), some (.l true (ways.map eStrs)), j7, j8] ∧ ways.length = k ∧ ∀ w ∈ ways, WayOk (src ++ fac) w)
    (List.range j) 0 [some (.d (rf b)), some (.d m), some (.d (eStrs src)), some (.d (.list (fac.map .str))), some (.l true rows), some (.d (.str fact)), some (.l true []), j7, j8] s1 ⟨B1, [], _, _, rfl, rfl, fun w h => by simp at h⟩
    fun i x env st ex ⟨B, ways, j7, j8, ee, hl, hw⟩ => by
      subst ee
      have hi : i < j := by have := (List.getElem?_eq_some_iff.mp ex).1; simpa using this
      obtain ⟨w, j8', st', d1, d2, d3⟩ := book_turn (m := m) (rows := rows) (fact := fact) (ways := ways) (j7 := some (.d (.int (x : Int)))) (j8 := j8) B hb hs h1 h2 (by omega)
      refine ⟨_, _, _, rfl, d1, d2, ways ++ [w], _, _, rfl, by simp; omega, fun v hv => ?_⟩
      rcases List.mem_append.mp hv with h | h
      · exact hw v h
      · rw [List.mem_singleton.mp h]; exact d3
  obtain ⟨B2, ways, j7', j8', rfl, hl, hw⟩ := c2
  refine ⟨ways, j7', j8', st', ?_, B2, by simp at hl; omega, hw⟩
  unfold L__law_book_1
  rw [dFor_ok (st1 := s1) (xs := (List.range j).map fun (i : Nat) => PyData.int (i : Int)) ?_]
  · exact c1
  · simp [e1]
    exact itR1_nat (by omega)
theorem book_row {n b : Nat} {st : Sto} {m : D} {src fac : List Str} {rows : List (Str × List (List Str))} {fact : Str} {j6 j7 j8 : Option R} (B : Bags n st) (hb : b < n) (hs : src ≠ []) (h1 : src.length ≤ 4) (h2 : fac.length ≤ 7) (hr : rows.length ≤ 100) :
    ∃ (ways : List (List Str)) (j6' j7' j8' : Option R) (st' : Sto), B__law_book_2 [some (.d (rf b)), some (.d m), some (.d (eStrs src)), some (.d (.list (fac.map .str))), some (.l true (rows.map eFact)), some (.d (.str fact)), j6, j7, j8] st =
      .ok (.nx, [some (.d (rf b)), some (.d m), some (.d (eStrs src)), some (.d (.list (fac.map .str))), some (.l true ((rows ++ [(fact, ways)]).map eFact)), some (.d (.str fact)), j6', j7', j8']) st' ∧ Bags n st' ∧ ways.length ≤ 3 ∧ ∀ w ∈ ways, WayOk (src ++ fac) w := by
  obtain ⟨ways, j7', j8', s1, e1, B1, w1, w2⟩ := book_ways (m := m) (rows := rows.map eFact) (fact := fact) (j7 := j7) (j8 := j8) B hb hs h1 h2
  refine ⟨ways, some (.l true (ways.map eStrs)), j7', j8', s1, ?_, B1, w1, w2⟩
  have ch := fun (env : En) (e : env[4]? = some (some (R.l true (rows.map eFact)))) => chk_own (st := s1) e
  have mu := fun (env : En) (e : env[4]? = some (some (R.l true (rows.map eFact)))) => mut_own (st := s1) (up := pushL (eFact (fact, ways))) e (push_d (by simp; omega))
  have z2 : 2 ≤ sizeLine := by decide
  simp [eFact] at mu
  simp [B__law_book_2, e1, ch, mu, z2, eFact]
theorem book_ok {n b : Nat} {st : Sto} {most : Nat} (B : Bags n st) (hb : b < n) (hm : 0 < most) (hm2 : most ≤ 7) : ∃ (K : Book) (st' : Sto), F__law_book [rf b, .int most] st = .ok (.d (eBook K)) st' ∧ Bags n st' ∧ WfB most K := by
  obtain ⟨i, s1, e1, hi, B1⟩ := take_ok (m := 4) B hb (by decide)
  obtain ⟨j, s2, e2, hj, B2⟩ := take_ok (m := (most : Int)) B1 hb (by omega)
  obtain ⟨src, hsrc⟩ : ∃ src, src = srcs.take (1 + i) := ⟨_, rfl⟩
  obtain ⟨fac, hfac⟩ : ∃ fac, fac = facs.take (1 + j) := ⟨_, rfl⟩
  have hs : src ≠ [] := by rw [hsrc, Nat.add_comm]; simp [srcs]
  have h1 : src.length ≤ 4 := by rw [hsrc, List.length_take]; simp [srcs]; omega
  have h2 : fac.length ≤ 7 := by rw [hfac, List.length_take]; simp [facs]; omega
  obtain ⟨env', st', c1, c2⟩ := forGo_inv (S := B__law_book_2) (p := .nm 5) (enc := PyData.str) (fun k env st => Bags n st ∧ ∃ (rows : List (Str × List (List Str))) (j5 j6 j7 j8 : Option R),
      env = [some (.d (rf b)), some (.d (.int most)), some (.d (eStrs src)), some (.d (.list (fac.map .str))), some (.l true (rows.map eFact)), j5, j6, j7, j8] ∧ rows.map (·.1) = fac.take k ∧ ∀ f ∈ rows, f.2.length ≤ 3 ∧ ∀ w ∈ f.2, WayOk (src ++ fac) w)
    fac 0 [some (.d (rf b)), some (.d (.int most)), some (.d (eStrs src)), some (.d (.list (fac.map .str))), some (.l true []), none, none, none, none] s2 ⟨B2, [], _, _, _, _, rfl, rfl, fun w h => by simp at h⟩
    fun k x env st ex ⟨B, rows, j5, j6, j7, j8, ee, hl, hw⟩ => by
      subst ee
      have hk : rows.length ≤ 7 := by have := congrArg List.length hl; simp at this; omega
      obtain ⟨ways, j6', j7', j8', st', d1, d2, d3, d4⟩ := book_row (m := .int most) (rows := rows) (fact := x) (j6 := j6) (j7 := j7) (j8 := j8) B hb hs h1 h2 (by omega)
      refine ⟨_, _, _, rfl, d1, d2, rows ++ [(x, ways)], _, _, _, _, rfl, ?_, fun f hf => ?_⟩
      · rw [List.map_append, hl, List.take_add_one, Nat.zero_add, ex]
        rfl
      · rcases List.mem_append.mp hf with h | h
        · exact hw f h
        · rw [List.mem_singleton.mp h]; exact ⟨d3, d4⟩
  obtain ⟨B3, rows, j5, j6, j7, j8, rfl, hl, hw⟩ := c2
  have hl' : rows.map (·.1) = fac := by rw [hl]; simp
  refine ⟨⟨src, rows⟩, st', ?_, B3, ⟨i, by omega, hsrc⟩, ⟨j, by omega, hl'.trans hfac⟩, fun f hf => (hw f hf).1, fun f hf => by rw [hl']; exact (hw f hf).2⟩
  have el : L__law_book_2 [some (.d (rf b)), some (.d (.int most)), some (.d (eStrs src)), some (.d (.list (fac.map .str))), some (.l true []), none, none, none, none] s2 = _ := (dFor_ok (p := .nm 5) (S := B__law_book_2) (xs := fac.map .str) rfl).trans c1
  have z2 : 2 ≤ sizeLine := by decide
  have z4 : 4 ≤ sizeLine := by decide
  have z7 : 7 ≤ sizeLine := by decide
  have k1 : List.take (1 + i) [PyData.str ("ada" : Str), .str ("bea" : Str), .str ("cob" : Str), .str ("dan" : Str)] = src.map .str := by rw [hsrc, List.map_take]; rfl
  have k2 : List.take (1 + j) [PyData.str ("fire" : Str), .str ("gale" : Str), .str ("hail" : Str), .str ("ice" : Str), .str ("joy" : Str), .str ("kin" : Str), .str ("law" : Str)] = fac.map .str := by rw [hfac, List.map_take]; rfl
  simp [F__law_book, fnP, D__law_book, env0, e1, e2, cut_1, k1, k2, el, z2, z4, z7, eBook]

theorem struck_ok {n b : Nat} {st : Sto} {K : Book} (B : Bags n st) (hb : b < n) (hl : K.src.length ≤ 1000) : ∃ (ss : List Str) (st' : Sto), F__law_struck [rf b, eBook K] st = .ok (.d (eStrs ss)) st' ∧ Bags n st' ∧ (∀ x ∈ ss, x ∈ K.src) ∧ ss.length ≤ K.src.length := by
  obtain ⟨ds, s2, c1, B2, c2, c3⟩ := dLc_inv (p := .nm 2) (vs := [2]) (it := dItE (dBin oIx (eVar 1) (eC (.int 0)))) (tst := dTst (dBin (oEq false) (dCall (opS 2 F__law_take) (dCons (eVar 0) (dCons (eC (.int 3)) dNil))) (eC (.int 0)))) (elt := eVar 2)
    (env := [some (.d (rf b)), some (.d (eBook K)), none]) (st := st) (st1 := st) (xs := K.src.map .str) (fun st => Bags n st) (fun d => ∃ x ∈ K.src, d = .str x) (by simp [eBook]) (by rw [List.length_map]; exact Nat.le_trans (by omega) sizeLine_big) B fun x hx st B => by
      obtain ⟨q, s', e', hq, B'⟩ := take_ok (m := 3) B hb (by decide)
      obtain ⟨y, hy, rfl⟩ := List.mem_map.mp hx
      by_cases h : q = 0
      · refine ⟨some (.str y), s', lcStep_ok (r := .d (.str y)) (s1 := s') (e1 := [some (.d (rf b)), some (.d (eBook K)), some (.d (.str y))]) rfl ?_ rfl rfl, B', fun d e => by cases e; exact ⟨y, hy, rfl⟩⟩
        simp [e', h]
      · refine ⟨none, s', lcStep_no (e1 := [some (.d (rf b)), some (.d (eBook K)), some (.d (.str y))]) rfl ?_, B', fun d e => by cases e⟩
        simp [e', h]
  obtain ⟨ss, rfl, hs⟩ := strs_of c2
  refine ⟨ss, s2, ?_, B2, hs, by simpa using c3⟩
  simp [F__law_struck, fnP, D__law_struck, env0, C__law_struck_1, c1]
end N

/-! N24: more of what is computed. -/
namespace N
open PySem PySem.Spec L2
theorem bools_map (bs : List Bool) : boolsOf (bs.map .bool) = some bs := by
  have := boolsOf_map (fun b => b) bs
  simpa using this
@[simp] theorem x_all (b : Bool) (bs : List Bool) (st : Sto) : oAll (.l b (bs.map .bool)) st = .ok (.d (.bool (bs.all id))) st := by
  unfold oAll oBools
  simp only [lst_l, bools_map]
@[simp] theorem x_any (b : Bool) (bs : List Bool) (st : Sto) : oAny (.l b (bs.map .bool)) st = .ok (.d (.bool (bs.any id))) st := by
  unfold oAny oBools
  simp only [lst_l, bools_map]
section
variable {α : Type} {it : En → M (List D)} {p : Pat} {vs : List Nat} {tst : En → M Bool} {elt : En → M R} {env : En} {st st1 : Sto} {enc : α → D} {xs : List α}
theorem dLc_map (g : α → D) (h1 : it env st = .ok (xs.map enc) st1) (hl : xs.length ≤ 1000000) (h : ∀ x ∈ xs, lcStep p vs tst elt env (enc x) st1 = .ok (some (g x)) st1) : dLc it p vs tst elt env st = .ok (.l true (xs.map g)) st1 := by
  rw [dLc_pure (fun x => some (g x)) h1 (Nat.le_trans hl sizeLine_big) h, List.filterMap_eq_map']
theorem filterMap_if {β : Type} (t : α → Bool) (g : α → β) : ∀ xs : List α, (xs.filterMap fun x => if t x = true then some (g x) else none) = (xs.filter t).map g
  | [] => rfl
  | x :: xs => by
    rw [List.filterMap_cons, filterMap_if t g xs, List.filter_cons]
    cases t x <;> rfl
theorem dLc_filter (t : α → Bool) (g : α → D) (h1 : it env st = .ok (xs.map enc) st1) (hl : xs.length ≤ 1000000) (h : ∀ x ∈ xs, lcStep p vs tst elt env (enc x) st1 = .ok (if t x = true then some (g x) else none) st1) : dLc it p vs tst elt env st = .ok (.l true ((xs.filter t).map g)) st1 := by
  rw [dLc_pure (fun x => if t x = true then some (g x) else none) h1 (Nat.le_trans hl sizeLine_big) h, filterMap_if]
end
section
variable {env : En} {st : Sto} {i : Nat} {f : En → M R}
theorem x_aug {n : Int} {fn : Int → Int → Int} (h : env[i]? = some (some (.d (.int n)))) {m : Int} {s : Sto} (hf : f env st = .ok (.d (.int m)) s) : dAug i fn (fun _ _ => true) f env st = .ok (.nx, env.set i (some (.d (.int (fn n m))))) s := by
  have e : toInt2 i env st = .ok n st := by unfold toInt2; simp only [h]
  show (toInt2 i env >>= _) st = _
  rw [M.bind_ok e]
  show (f env >>= _) st = _
  rw [M.bind_ok hf]
  rfl
@[simp] theorem x_asgM (p : Pat) (x : D) : asgM p (.d x) env st = (match asg p x env with
  | some e => .ok (.nx, e) st
  | none => .no) := rfl
@[simp] theorem x_asgtp (ps : List Pat) (xs : List D) : asg (.tp ps) (.tuple xs) env = asgs ps xs env := by simp [asg]
@[simp] theorem x_asgs0 : asgs [] [] env = some env := by simp [asgs]
@[simp] theorem x_asgs1 (p : Pat) (ps : List Pat) (x : D) (xs : List D) : asgs (p :: ps) (x :: xs) env = (asg p x env).bind fun e => asgs ps xs e := by simp [asgs]
@[simp] theorem x_frz (S : SM) : dFrz i S env = S (frzEn i env) := rfl
@[simp] theorem x_opP (n : Nat) (F : List D → M R) (rs : List R) : opP n F rs st = (match pkAll st rs with
  | some ds => if ds.length = n then (match F ds [.c] with
    | .ok (.d x) _ => if scal x = true then .ok (.d x) st else .no
    | _ => .no) else .no
  | none => .no) := rfl
@[simp] theorem x_pk0 : pkAll st [] = some [] := rfl
@[simp] theorem x_pk1 (r : R) (rs : List R) : pkAll st (r :: rs) = (match r.pk st, pkAll st rs with
  | some x, some xs => some (x :: xs)
  | _, _ => none) := rfl
@[simp] theorem pk_str1 (x : Str) : (R.d (.str x)).pk st = some (.str x) := rfl
@[simp] theorem pk_int1 (x : Int) : (R.d (.int x)).pk st = some (.int x) := rfl
@[simp] theorem pk_tup1 (x : List D) : (R.d (.tuple x)).pk st = some (.tuple x) := rfl
@[simp] theorem pk_list1 (x : List D) : (R.d (.list x)).pk st = some (.list x) := rfl
@[simp] theorem pk_k1 (b : Bool) (x : List (Key × D)) : (R.k b x).pk st = some (.dict (x.map fun p => (kD p.1, p.2))) := rfl
@[simp] theorem scal_b (b : Bool) : scal (.bool b) = true := rfl
@[simp] theorem scal_i (b : Int) : scal (.int b) = true := rfl
end
theorem whileGo_stop {t : En → M Bool} {S : SM} {n : Nat} {env : En} {st st1 : Sto} (h : t env st = .ok false st1) : whileGo t S (n + 1) env st = .ok (.nx, env) st1 := by
  unfold whileGo
  rw [M.bind_ok h]
  rfl
theorem whileGo_go {t : En → M Bool} {S : SM} {n : Nat} {env e2 : En} {st st1 st2 : Sto} (h : t env st = .ok true st1) (hS : S env st1 = .ok (.nx, e2) st2) : whileGo t S (n + 1) env st = whileGo t S n e2 st2 := by
  conv => lhs; unfold whileGo
  rw [M.bind_ok h]
  show (S env >>= _) st1 = _
  rw [M.bind_ok hS]
/-! ### dicts with texts as keys -/
def kv (xs : List (Str × Int)) : List (Key × D) := xs.map fun p => ((Sum.inr p.1 : Key), PyData.int p.2)
def dictD (xs : List (Str × Int)) : D := .dict ((kv xs).map fun p => (kD p.1, p.2))
theorem valD_kv (x : Str) : ∀ xs : List (Str × Int), (valD (kv xs) (.inr x)).isSome = decide (x ∈ xs.map (·.1))
  | [] => rfl
  | (y, n) :: xs => by
    have ih := valD_kv x xs
    unfold kv at ih ⊢
    rw [List.map_cons, List.map_cons]
    unfold valD at ih ⊢
    rw [List.find?_cons]
    by_cases h : y = x
    · subst h; simp
    · have h2 : ¬ (Sum.inr y : Key) = Sum.inr x := fun e => h (Sum.inr.inj e)
      have h3 : ¬ x = y := fun e => h e.symm
      simp only [h2, decide_false, List.mem_cons, h3, false_or]
      exact ih
theorem putD_new {kvs : List (Key × D)} {k : Key} {v : D} (h : k ∉ kvs.map (·.1)) : putD kvs k v = kvs ++ [(k, v)] := by
  unfold putD
  rw [if_neg]
  intro e
  obtain ⟨p, hp, e2⟩ := List.any_eq_true.mp e
  exact h (List.mem_map.mpr ⟨p, hp, of_decide_eq_true e2⟩)
theorem mergeD_new : ∀ (more kvs : List (Key × D)), (more.map (·.1)).Nodup → (∀ k ∈ more.map (·.1), k ∉ kvs.map (·.1)) → mergeD kvs more = kvs ++ more
  | [], kvs, _, _ => by simp [mergeD]
  | (k, v) :: more, kvs, nd, dj => by
    rw [List.map_cons, List.nodup_cons] at nd
    have h1 : putD kvs k v = kvs ++ [(k, v)] := putD_new (dj k (by simp))
    show mergeD (putD kvs k v) more = _
    rw [h1, mergeD_new more (kvs ++ [(k, v)]) nd.2 fun j hj z => ?_, List.append_assoc]
    · rfl
    · rw [List.map_append, List.mem_append] at z
      rcases z with z | z
      · exact dj j (by rw [List.map_cons]; exact List.mem_cons_of_mem _ hj) z
      · simp at z
        subst z
        exact nd.1 hj
end N

/-! N25: least and greatest of a list, dicts of pairs, d.get(k, x), what is never reached. -/
namespace N
open PySem PySem.Spec L2 PyProof.Rows
section
variable {X : Cx} {W : String → L2.St → Hp → Prop} {pins : List (Addr × Obj)} {σ σ' : L2.St} {H H0 : Hp} {g g0 : Gh} {s : Shared} {env : En} {st : Sto} {v w : V} {u : Value} {r : R} {Q : VK} {K : PySem.W.Frag}
/-! ### never reached -/
def dNoS : SM := fun _ => M.no
theorem s_no {x : Stmt} : PS X x (trS (cx X W) H0 g0 dNoS) := PS.imp ps_never fun D σ H ⟨env, st, g, lo, R0, q⟩ => q
def dNoE : En → M R := fun _ => M.no

/-! ### min, max of a list -/
def mmOk (xs : List D) : Bool := (xs.all fun x => xs.all fun y => PySem.W.alike x y) && (xs.all fun x => !isNoneD x) && xs.all okD
theorem mmOk_alike {xs : List D} (h : mmOk xs = true) : PySem.W.AlikeAll xs := by
  simp only [mmOk, Bool.and_eq_true, List.all_eq_true] at h
  refine ⟨h.1.1, fun x hx e => ?_⟩
  have := h.1.2 x hx
  subst e
  cases this
theorem mmOk_depth : ∀ {xs : List D}, xs.all okD = true → PyData.depthAll xs ≤ 60
  | [], _ => Nat.zero_le _
  | x :: xs, h => by
    simp only [List.all_cons, Bool.and_eq_true] at h
    exact Nat.max_le.mpr ⟨okD_depth h.1, mmOk_depth h.2⟩
def oMinL (r : R) : M R := fun st => match r.lst? st with
  | some (x :: xs) => if mmOk (x :: xs) = true then .ok (.d (PySem.W.minD x xs)) st else .no
  | _ => .no
def oMaxL (r : R) : M R := fun st => match r.lst? st with
  | some (x :: xs) => if mmOk (x :: xs) = true then .ok (.d (PySem.W.maxD x xs)) st else .no
  | _ => .no
theorem readsAll_d (I : L2.Inv X pins σ H s) (hs : Sub g.G H) : ∀ {vs : List V} {us : List Value} {ds : List D}, Vals vs us → DfA X.K g vs ds → ds.all okD = true → ∃ as, ReadsAll s.heap us ds as
  | _, _, _, .nil, .nil, _ => ⟨[], .nil⟩
  | _, _, _, .cons a t, .cons b r, h => by
    simp only [List.all_cons, Bool.and_eq_true] at h
    obtain ⟨as, h1⟩ := reads_d I hs b (okD_plain h.1) a
    obtain ⟨bs, h2⟩ := readsAll_d I hs t r h.2
    exact ⟨as ++ bs, .cons h1 h2⟩
theorem vals_get : ∀ {vs : List V} {us : List Value}, Vals vs us → ∀ (i : Nat) (u : Value), us[i]? = some u → ∃ v, vs[i]? = some v ∧ RelV v u
  | _, _, .nil, i, u, e => by simp at e
  | _, _, .cons a t, 0, u, e => by simp at e; subst e; exact ⟨_, rfl, a⟩
  | _, _, .cons a t, i + 1, u, e => by
    obtain ⟨v, h1, h2⟩ := vals_get t i u (by simpa using e)
    exact ⟨v, by simpa using h1, h2⟩
theorem cr_mm {id : String} {best : D → List D → D} {op : R → M R} (hop : ∀ r st, op r st = match r.lst? st with
  | some (x :: xs) => if mmOk (x :: xs) = true then .ok (.d (best x xs)) st else .no
  | _ => .no) (hc : X.calm = true) (hu : X.A.units + 64 < cLine)
    (rule : ∀ {E : Value → Shared → Prop} {s : Shared} {l : Addr} {vs : Array Value} {x : PyData} {xs : List PyData} {as : List Addr} {Q : Value → Shared → Prop}, X.A.handled = none → s.heap.IsList l vs → ReadsAll s.heap vs.toList (x :: xs) as → PySem.W.AlikeAll (x :: xs) → X.A.units + 1 + PyData.depthAll (x :: xs) < cLine →
      (∀ (i : Nat) v h' tk bs, vs[i]? = some v → Reads h' v (best x xs) bs → (∀ b o, s.heap.get? b = some o → h'.get? b = some o) → Q v { s with heap := h', toks := tk }) → wpAny (model X.prog X.w) X.A (call (.builtin id) [.ref l]) Q E s) :
    CallR X (.builtin id) (rrL (cx X W) (op1 op)) := by
  refine cr1 fun pins s σ H x u Q I ru ⟨env, σ', st, g, H0, g0, r, A⟩ => ?_
  obtain ⟨B, v1, -, q⟩ := A
  rw [hop] at q
  split at q
  · rename_i y ys e
    split at q
    · rename_i ho
      have hok : (y :: ys).all okD = true := by
        simp only [mmOk, Bool.and_eq_true] at ho
        exact ho.2
      obtain ⟨a, vs, rfl, h1, h2⟩ := lst_ok B.rel v1 e
      cases ru
      obtain ⟨its, rv, pl, hz⟩ := I.list h1
      obtain ⟨as, hr⟩ := readsAll_d I B.rel.sub rv h2 hok
      have hd := mmOk_depth hok
      refine rule (I.ok.hd hc) pl.isList (by simpa using hr) (mmOk_alike ho) (by omega) fun i w h' tk bs hw hrd hk => ?_
      obtain ⟨z, k1, k2⟩ := vals_get rv i w (by simpa using hw)
      obtain ⟨d, e1, e2⟩ : ∃ d, (y :: ys)[i]? = some d ∧ Df X.K g z d := by
        have hl : i < (y :: ys).length := by
          rw [← h2.length]
          exact (List.getElem?_eq_some_iff.mp k1).1
        obtain ⟨z', q1, q2⟩ := h2.get (List.getElem?_eq_getElem hl)
        rw [k1] at q1
        cases q1
        exact ⟨_, List.getElem?_eq_getElem hl, q2⟩
      have hokd : okD d = true := List.all_eq_true.mp hok d (List.mem_of_getElem? e1)
      obtain ⟨cs, r1⟩ := reads_d I B.rel.sub e2 (okD_plain hokd) k2
      have same := (reads_det (fun b o q _ => hk b o q) r1 hrd).1
      rw [same] at q
      exact ⟨z, H, I.kept hk, k2, B.fin_d q e2⟩
    · exact q.elim
  · exact q.elim
theorem cr_minL (hc : X.calm = true) (hu : X.A.units + 64 < cLine) : CallR X (.builtin "min") (rrL (cx X W) (op1 oMinL)) :=
  cr_mm (best := PySem.W.minD) (fun r st => rfl) hc hu fun a b c d e f => PySem.W.min_list_data a b c d e f
theorem cr_maxL (hc : X.calm = true) (hu : X.A.units + 64 < cLine) : CallR X (.builtin "max") (rrL (cx X W) (op1 oMaxL)) :=
  cr_mm (best := PySem.W.maxD) (fun r st => rfl) hc hu fun a b c d e f => PySem.W.max_list_data a b c d e f
end
end N

/-! N26: x[::-1], dict(a list of pairs), d.get(k, x), is True, n *= m. -/
namespace N
open PySem PySem.Spec L2 PyProof.Rows
/-! ### x[::-1] -/
section
variable {prog : Program} {w : World} {A : Around} {E : Value → Shared → Prop} {s : Shared}
theorem adjust_rev (n : Nat) : Builtin.Slice.sliceAdjust none none (-1) (n : Int) = ((n : Int) - 1, -1) := by
  unfold Builtin.Slice.sliceAdjust
  simp
theorem places_rev (n : Nat) : Builtin.Slice.slicePlaces ((n : Int) - 1) (-1) (-1) = n := by
  unfold Builtin.Slice.slicePlaces
  rw [if_neg (by decide)]
  by_cases h : (n : Int) - 1 > -1
  · rw [if_pos h]
    show (((n : Int) - 1 - -1 - 1) / (- -1) + 1).toNat = n
    rw [show (- -1 : Int) = 1 by decide, Int.ediv_one]
    omega
  · rw [if_neg h]
    show (0 : Int).toNat = n
    omega
theorem pick_rev (xs : Array Value) : ((List.range xs.size).filterMap fun (m : Nat) => xs[(((xs.size : Int) - 1) + (m : Int) * -1).toNat]?).toArray = xs.toList.reverse.toArray := by
  have e : (fun (m : Nat) => xs[(((xs.size : Int) - 1) + (m : Int) * -1).toNat]?) = (fun k => xs[k]?) ∘ fun (m : Nat) => (((xs.size : Int) - 1) + (m : Int) * -1).toNat := rfl
  rw [e, ← List.filterMap_map]
  have e2 : (List.range xs.size).map (fun (m : Nat) => (((xs.size : Int) - 1) + (m : Int) * -1).toNat) = (List.range xs.size).map fun m => xs.size - 1 - m := by
    apply List.map_congr_left
    intro m hm
    have := List.mem_range.mp hm
    omega
  rw [e2, PySem.W.krv_range, List.filterMap_reverse, PySem.W.krv_all]
theorem getItem_tup_rev {t sl : Addr} {items : Array Value} {k : Tok} {Q : Value → Shared → Prop} (ht : IsTup s.heap t items) (hs : s.heap.IsSliceOf sl .none .none (.int (-1) k))
    (h : Q (.ref s.heap.objs.size) { s with heap := s.heap.push { cls := .type "tuple", data := .seq items.toList.reverse.toArray } }) (hsz : items.size ≤ sizeLine) : wpAny (model prog w) A (getItem (.ref t) (.ref sl)) Q E s := by
  have fit : sizeOk (.seq items.toList.reverse.toArray) := by
    show items.toList.reverse.toArray.size ≤ sizeLine
    rw [List.size_toArray, List.length_reverse, Array.length_toList]
    exact hsz
  obtain ⟨os, hos, hcs, hds⟩ := id hs
  have tS : s.TypeIs (.ref sl) "slice" := ⟨os, hos, hcs⟩
  unfold getItem
  try with_reducible refine wpAny_holding ?_
  first | refine wpAny_bind (wpAny_pure ?_) | skip
  refine wpAny_bind (wpAny_sequenceKey ht.typeIs (by decide) ?_)
  refine wpAny_bind (wpAny_callSpecial?_slot (name := Str.ofString "__getitem__") ht.typeIs PyProof.Rows.slot_tuple_getitem
    (wpAny_call_entry PyProof.Rows.slot_tuple_getitem ht.typeIs entry_tuple_getitem ?_ (args_tuple_getitem _ _)))
  show wpAny _ _ (Builtin.Tuple.tupleItemsOf (.ref t) >>= _) _ _ s
  refine wpAny_bind (tupleItemsOf_ ht (wpAny_bind (wpAny_typeOf tS ?_)))
  rw [if_pos (by decide)]
  refine wpAny_bind (show wpAny (model prog w) _ (Builtin.Slice.sliceApplied (.ref sl) (pure (items.size : Int))) _ _ s from ?_)
  unfold Builtin.Slice.sliceApplied Builtin.Slice.sliceFields
  refine wpAny_bind (wpAny_bind (wpAny_field hos hds (x := .none) rfl (wpAny_bind (wpAny_field hos hds (x := .none) rfl (wpAny_bind (wpAny_field hos hds (x := .int (-1) k) rfl (wpAny_pure ?_)))))))
  refine wpAny_bind (wpAny_pure (a := some (-1)) ?_)
  show wpAny _ _ (if ((-1 : Int) == 0) = true then _ else _) _ _ s
  rw [if_neg (by decide)]
  refine wpAny_bind (wpAny_pure (a := none) (wpAny_bind (wpAny_pure (a := none) (wpAny_bind (wpAny_pure ?_)))))
  show wpAny _ _ (match Builtin.Slice.sliceAdjust none none (-1) (items.size : Int) with | (lo, hi) => pure (lo, (-1 : Int), Builtin.Slice.slicePlaces lo hi (-1))) _ _ s
  rw [adjust_rev]
  show wpAny _ _ (pure ((items.size : Int) - 1, (-1 : Int), Builtin.Slice.slicePlaces ((items.size : Int) - 1) (-1) (-1))) _ _ s
  rw [places_rev]
  refine wpAny_pure ?_
  show wpAny _ _ (if ((((items.size : Int) - 1 == 0) && ((-1 : Int) == 1) && (items.size == items.size)) = true) then _ else _) _ _ s
  rw [if_neg (by simp), pick_rev]
  first
    | exact wpAny_bind (m := Builtin.Tuple.tupleExact _) (wpAny_newObj_type (wpAny_pure ⟨_, rfl, wpAny_pure h⟩) fit)
    | exact wpAny_bind (m := Builtin.Tuple.tupleExact _) (wpAny_newObj_type (wpAny_bind (wpAny_pure (wpAny_pure ⟨_, rfl, wpAny_pure h⟩))) fit)
    | exact wpAny_bind (wpAny_bind (m := Builtin.Tuple.tupleExact _) (wpAny_newObj_type (wpAny_pure (wpAny_pure ⟨_, rfl, wpAny_pure h⟩)) fit))
    | exact wpAny_bind (wpAny_bind (m := Builtin.Tuple.tupleExact _) (wpAny_newObj_type (wpAny_pure ⟨_, rfl, wpAny_pure h⟩) fit))
end
theorem vals_reverse {xs : List V} {us : List Value} (r : Vals xs us) : Vals xs.reverse us.reverse := by
  induction r with
  | nil => exact .nil
  | cons a t ih =>
    rw [List.reverse_cons, List.reverse_cons]
    exact ih.append (.cons a .nil)
theorem DfA.reverse {K : PySem.W.Frag} {g : Gh} {vs : List V} {ds : List D} (h : DfA K g vs ds) : DfA K g vs.reverse ds.reverse := by
  induction vs generalizing ds with
  | nil => cases h; exact .nil
  | cons v vs ih =>
    cases h with
    | cons a t =>
      rw [List.reverse_cons, List.reverse_cons]
      exact (ih t).append (.cons a .nil)
def oRev (r : R) : M R := fun st => match r.tup? with
  | some xs => .ok (.d (.tuple xs.reverse)) st
  | none => match r.lst? st with
    | some xs => .ok (.l true xs.reverse) st
    | none => .no
section
variable {X : Cx} {W : String → L2.St → Hp → Prop} {pos p1 p2 p3 : Pos} {e : Expr} {f : En → M R}
theorem e_rev {j} (he : PE X e (tr (cx X W) f)) : PE X (.Subscript e (.Slice none none (some (.UnaryOp .USub (.Constant (.int 1) j p1) p2)) p3) pos) (tr (cx X W) (dUn oRev f)) := by
  refine ⟨fun pins s σ H Q I hq => ?_⟩
  refine Subscript_ (thn (he.run pins s σ H _ I (tr1 hq)) fun v s1 ⟨x, H1, I1, rx, env, σ', st, g, H0, g0, r, A⟩ => ?_)
  obtain ⟨B, v1, -, q⟩ := A
  refine wpAny_Slice ?_
  rw [evalPart_none]
  refine wpAny_pure ?_
  refine wpAny_pure ?_
  have hk : PE X (.UnaryOp .USub (.Constant (.int 1) j p1) p2) _ := pe_un un_neg pe_int
  rw [evalPart_some]
  refine thn (hk.run pins s1 σ H1 (fun z H' => z = .int (-1) ∧ H' = H1) I1 ⟨1, rfl, rfl, rfl⟩) fun u s2 ⟨z, H2, I2, rz, ez, eH⟩ => ?_
  subst ez eH
  obtain ⟨t, rfl⟩ := rz
  have I3 : L2.Inv X pins σ H2 { s2 with heap := s2.heap.push { cls := .type "slice", data := .fields #[.none, .none, .int (-1) t] } } := I2.kept (t' := s2.toks) fun b ob q => Heap.get?_push_of_some _ q
  show wpAny (model X.prog X.w) X.A (subscriptTail e (.Slice none none (some (.UnaryOp .USub (.Constant (.int 1) j p1) p2)) p3) v (.ref s2.heap.objs.size)) (EP X pins σ Q) X.xe _
  unfold oRev at q
  split at q
  · rename_i xs e1
    obtain ⟨a, vs, rfl, h1, h0, h2, hb⟩ := tup_ok B.rel v1 e1
    cases rx
    obtain ⟨its, rv, ht, hz⟩ := I3.tuple h1
    have hsz : its.toArray.size ≤ sizeLine := by have := rv.length; rw [List.size_toArray]; omega
    refine tail_any (ops := [.ref a, .ref s2.heap.objs.size]) ht.typeIs PyProof.Rows.slot_tuple_getitem.lookup (getItem_tup_rev ht (Heap.IsSliceOf.new ..) ?_ hsz) (by with_unfolding_all rfl)
    exact laidT I3 (by rw [List.length_reverse]; exact hz) (vals_reverse rv) (B.fin_t q h2.reverse)
  · split at q
    · rename_i xs e1
      obtain ⟨a, vs, rfl, h1, h2⟩ := lst_ok B.rel v1 e1
      cases rx
      obtain ⟨its, rv, ⟨o, n, ho, hc, hd, hdat⟩, hz⟩ := I3.list h1
      have hl : Heap.IsList (Heap.push s2.heap { cls := .type "slice", data := .fields #[.none, .none, .int (-1) t] }) a its.toArray := ⟨o, ho, hc, n, hdat⟩
      have hsz : its.toArray.size ≤ sizeLine := by have := rv.length; rw [List.size_toArray]; omega
      refine tail_any (ops := [.ref a, .ref s2.heap.objs.size]) (Heap.IsList.typeIs (s := { s2 with heap := Heap.push s2.heap { cls := .type "slice", data := .fields #[.none, .none, .int (-1) t] } }) hl) list_getitem_lookup (wpAny_getItem_list_slice hl (Heap.IsSliceOf.new ..) .none .none (.int (-1) t) (by decide) ?_ hsz) (by with_unfolding_all rfl)
      rw [PySem.W.krv_pick]
      exact ⟨.ref _, _, I3.lnew (t' := s2.toks) (vals_reverse rv) (by rw [List.length_reverse]; have := rv.length; rw [List.size_toArray] at hsz; omega), rfl, B.fin_l q I3.fresh h2.reverse⟩
    · exact q.elim
end
end N

/-! N27: dict(a list of pairs), d.get(k, x), is True. -/
namespace N
open PySem PySem.Spec L2 PyProof.Rows
def pairOf : D → Option (Key × D)
  | .tuple [.int i, d] => some (.inl i, d)
  | .tuple [.str x, d] => some (.inr x, d)
  | _ => none
def pairsOf : List D → Option (List (Key × D))
  | [] => some []
  | x :: t => match pairOf x, pairsOf t with
    | some p, some r => some (p :: r)
    | _, _ => none
theorem pairOf_some {x : D} {p : Key × D} (e : pairOf x = some p) : x = .tuple [kD p.1, p.2] := by
  unfold pairOf at e
  split at e
  · cases e; rfl
  · cases e; rfl
  · cases e
theorem df_kD {K : PySem.W.Frag} {g : Gh} {v : V} {k : Key} (h : Df K g v (kD k)) : v = kV k := by
  cases k with
  | inl i => exact Df.int_inv h
  | inr x => exact Df.str_inv h
theorem pairs_df {K : PySem.W.Frag} {g : Gh} {H : Hp} (hs : Sub g.G H) : ∀ {ds : List D} {vs : List V} {ps : List (Key × D)}, DfA K g vs ds → pairsOf ds = some ps →
    ∃ (as : List Addr) (kvs : List (Key × V)), vs = as.map V.ref ∧ Paired (fun p (kv : Key × V) => SqT K H p [kV kv.1, kv.2]) as kvs ∧ DfK K g kvs ps
  | [], vs, ps, h, e => by
    cases h
    cases e
    exact ⟨[], [], rfl, .nil, .nil⟩
  | x :: t, vs, ps, h, e => by
    cases h with
    | cons a r =>
      unfold pairsOf at e
      split at e
      · rename_i p q e1 e2
        cases e
        obtain ⟨as, kvs, rfl, h1, h2⟩ := pairs_df hs r e2
        rw [pairOf_some e1] at a
        obtain ⟨b, ws, rfl, k1, k2⟩ := Df.tup_inv a
        cases k2 with
        | cons a1 t1 =>
          cases t1 with
          | cons a2 t2 =>
            cases t2
            rename_i v1 v2
            obtain rfl := df_kD a1
            exact ⟨b :: as, (p.1, v2) :: kvs, rfl, .cons (hs.sqt k1) h1, .cons a2 h2⟩
      · cases e
theorem dfk_mergeK {K : PySem.W.Frag} {g : Gh} {kvs : List (Key × V)} {ps : List (Key × D)} (h : DfK K g kvs ps) : DfK K g (mergeK [] kvs) (mergeD [] ps) := dfk_merge h .nil
/-! ### dict(a tuple of pairs) -/
section
variable {X : Cx}
theorem pairs_of2 {pins : List (Addr × Obj)} {σ : L2.St} {H : Hp} {s : Shared} (I : Inv X pins σ H s) : ∀ {ps : List Addr} {kvs : List (Key × V)}, Paired (fun p (kv : Key × V) => SqT X.K H p [kV kv.1, kv.2]) ps kvs →
    ∃ (prs : List (Key × Value)) (pv : List (Value × Value)), KV kvs prs ∧ prs.length = ps.length ∧ pv.length = ps.length ∧ ∀ (j : Nat) (k v : Value), pv[j]? = some (k, v) → ∃ (b : Addr) (q : Key), ps[j]? = some b ∧ IsTup s.heap b #[k, v] ∧ prs[j]? = some (q, v) ∧ keyIs q k = true
  | _, _, .nil => ⟨[], [], .nil, rfl, rfl, fun j k v e => by simp at e⟩
  | _, _, .cons (a := p) (b := kv) h t => by
    obtain ⟨prs, pv, r, hl, hl2, hp⟩ := pairs_of2 I t
    obtain ⟨its, rv, ht, _⟩ := I.tuple h
    obtain ⟨u, y, ei, ru, ry⟩ := vals2 rv
    subst ei
    refine ⟨(kv.1, y) :: prs, (u, y) :: pv, .cons ⟨rfl, ry⟩ r, by rw [List.length_cons, List.length_cons, hl], by rw [List.length_cons, List.length_cons, hl2], fun j k v e => ?_⟩
    cases j with
    | zero =>
      have e' : (u, y) = (k, v) := Option.some.inj e
      cases e'
      exact ⟨p, kv.1, rfl, ht, rfl, kV_is (P := X.prog) (w := X.w) ru⟩
    | succ j =>
      obtain ⟨b, q, e1, e2, e3, e4⟩ := hp j k v (by simpa using e)
      exact ⟨b, q, by simpa using e1, e2, by simpa using e3, e4⟩
theorem call_dictT (hcalm : X.calm = true) : CallR X (.type "dict") (fun xs H Q => ∃ (a : Addr) (ps : List Addr) (kvs : List (Key × V)), xs = [.ref a] ∧ SqT X.K H a (ps.map V.ref) ∧ (∃ o x, H a = some (.frz o x) ∧ o.dict = none) ∧ Paired (fun p (kv : Key × V) => SqT X.K H p [kV kv.1, kv.2]) ps kvs ∧
    ∀ p, H p = none → Q (.ref p) (upd H p (.dK (mergeK [] kvs)))) := by
  intro pins s σ H xs us Q I r q
  obtain ⟨a, ps, kvs, ex, hq, ⟨o, x, ho, hdn⟩, hp, q⟩ := q
  subst ex
  obtain ⟨u, eu, rx⟩ := vals1 r
  subst eu
  cases rx
  obtain ⟨hg, _⟩ := I.hok a _ ho
  obtain ⟨its, rv, ⟨o', ho', hc, n, hdat⟩, hz⟩ := I.tuple hq
  rw [hg] at ho'
  cases ho'
  have ei := refs_at rv
  subst ei
  rw [List.length_map] at hz
  obtain ⟨prs, pv, rel, hl, hl2, hpr⟩ := pairs_of2 I hp
  have P := PairArg.tuple (prog := X.prog) (w := X.w) a (ps.map Value.ref).toArray (fun j => ps.getD j 0) pv
  refine PySem.call_dict_pairs (knd := mixKind X.prog X.w) (kvs := prs) P (I.ok.hd hcalm) ⟨⟨o, n, hg, hc, hdn, hdat⟩, by simp [hl2], fun j k v e => ?_⟩ ⟨by rw [hl, hl2], fun i k v e => ?_⟩ (by rw [hl2]; exact hz) fun h' tk hd' k => ?_
  · obtain ⟨b, q', e1, e2, _, _⟩ := hpr j k v e
    have e5 : ps.getD j 0 = b := by rw [List.getD_eq_getElem?_getD, e1]; rfl
    refine ⟨by simp [e1, List.getD_eq_getElem?_getD], .inl ?_⟩
    show s.heap.IsTuple (ps.getD j 0) #[k, v]
    rw [e5]
    exact e2
  · obtain ⟨b, q', _, _, e3, e4⟩ := hpr i k v e
    exact ⟨q', e3, e4⟩
  · have hm : (s.heap.objs.size == sysModules) = false := beq_eq_false_iff_ne.mpr (Nat.ne_of_gt I.big)
    have hlen : (mergeK [] kvs).length ≤ sizeLine := by
      refine Nat.le_trans (length_mergeK kvs []) ?_
      rw [List.length_nil, Nat.zero_add, rel.length, hl]
      exact hz
    exact ⟨.ref s.heap.objs.size, upd H s.heap.objs.size (.dK (mergeK [] kvs)), I.laid (t' := tk) (fun b o e => k b o (by simp) e) (Nat.le_refl _) (show ObjOk X.prog X.w _ _ _ (.dK (mergeK [] kvs)) from ⟨hlen, hm, merged [] prs, KV.merge rel .nil, hd'⟩), rfl, q _ (I.hok.fresh (Nat.le_refl _))⟩
end
def oDict (r : R) : M R := fun st => match r.tup? with
  | some xs => if headW xs = true then .no else match pairsOf xs with
    | some ps => .ok (.k true (mergeD [] ps)) st
    | none => .no
  | none => match r.lst? st with
    | some xs => match pairsOf xs with
      | some ps => .ok (.k true (mergeD [] ps)) st
      | none => .no
    | none => .no
section
variable {X : Cx} {W : String → L2.St → Hp → Prop} {pos : Pos}
theorem cr_dict (hc : X.calm = true) : CallR X (.type "dict") (rrL (cx X W) (op1 oDict)) := by
  refine cr1 fun pins s σ H x u Q I ru ⟨env, σ', st, g, H0, g0, r, A⟩ => ?_
  obtain ⟨B, v1, -, q⟩ := A
  unfold oDict at q
  split at q
  · rename_i xs e
    split at q
    · exact q.elim
    · rename_i hw
      split at q
      · rename_i ps ep
        obtain ⟨a, vs, rfl, h1, h0, h2, hb⟩ := tup_ok B.rel v1 e
        obtain ⟨as, kvs, rfl, k1, k2⟩ := pairs_df B.rel.sub h2 ep
        rcases hb with ⟨o, x, b1, b2⟩ | hb
        · have hH : H a = some (.frz o x) := by
            rcases B.rel.sub a _ b1 with z | ⟨_, _, z, _⟩
            · exact z
            · cases z
          exact call_dictT hc pins s σ H [_] _ Q I (.cons ru .nil) ⟨a, as, kvs, rfl, h1, ⟨o, x, hH, b2⟩, k1, fun p hp => B.fin_k q hp (dfk_mergeK k2)⟩
        · exact absurd hb hw
      · exact q.elim
  · split at q
    · rename_i xs e
      split at q
      · rename_i ps ep
        obtain ⟨a, vs, rfl, h1, h2⟩ := lst_ok B.rel v1 e
        obtain ⟨as, kvs, rfl, k1, k2⟩ := pairs_df B.rel.sub h2 ep
        exact call_dictP hc pins s σ H [_] _ Q I (.cons ru .nil) ⟨a, as, kvs, rfl, h1, k1, fun p hp => B.fin_k q hp (dfk_mergeK k2)⟩
      · exact q.elim
    · exact q.elim
/-! ### d.get(k, x) -/
def chkD (r : R) : M Unit := fun st => match r.dct? st with
  | some _ => .ok () st
  | none => .no
def oGet2 (a b z : R) : M R := fun st => match a.dct? st, b, z with
  | some kvs, .d k, .d x => match keyOf k with
    | some j => .ok (.d ((valD kvs j).getD x)) st
    | none => .no
  | _, _, _ => .no
def dGet2 (fa fb fz : En → M R) : En → M R := fun env => fa env >>= fun a => chkD a >>= fun _ => fb env >>= fun b => fz env >>= fun z => oGet2 a b z
theorem chkD_ok {α : Type} {c : Ct} {env : En} {σ : L2.St} {H : Hp} {g : Gh} {st : Sto} {r : R} {f : Unit → M α} {P : α → Gh → Hp → Prop} (h : Post c env σ H g ((chkD r >>= f) st) P) : (∃ kvs, r.dct? st = some kvs) ∧ Post c env σ H g (f () st) P := by
  rw [M.bind_ap] at h
  unfold chkD at h
  cases e : r.dct? st with
  | some kvs => rw [e] at h; exact ⟨⟨kvs, rfl⟩, h⟩
  | none => rw [e] at h; exact h.elim
variable {o e1 e2 : Expr} {apos cpos : Pos} {fa fb fz : En → M R}
theorem e_get2 (hu : X.A.units + 64 < cLine) (ho : PE X o (tr (cx X W) fa)) (he : PE X e1 (tr (cx X W) fb)) (hf : PE X e2 (tr (cx X W) fz)) (m : M2 X o "get" apos e1 e2 cpos := by exact ⟨rfl, rfl, rfl, rfl⟩) :
    PE X (.Call (.Attribute o "get" apos) [e1, e2] [] cpos) (tr (cx X W) (dGet2 fa fb fz)) := by
  refine PE.imp (pe_dget2 (by omega) ho he hf m) fun σ H Q ⟨env, st, g, R0, h⟩ => ?_
  refine ⟨env, st, g, R0, Post.mono (Post.bind (.refl H g) h) fun r g1 H1 ⟨st1, _, R1, x1, _, q⟩ v rv fr => ?_⟩
  obtain ⟨⟨kvs, ek⟩, q⟩ := chkD_ok q
  obtain ⟨a, vs, rfl, h1, h2⟩ := dct_ok R1 rv ek
  refine ⟨a, rfl, .inl ⟨vs, h1⟩, env, st1, g1, R1, Post.mono (Post.bind x1 q) fun r2 g2 H2 ⟨st2, _, R2, x12, x2, q2⟩ v2 rv2 fr2 => ?_⟩
  refine ⟨env, st2, g2, R2, Post.mono (Post.bind x2 q2) fun r3 g3 H3 ⟨st3, _, R3, x23, x3, q3⟩ v3 rv3 fr3 => ?_⟩
  have ra := (rv.ext x12).ext x23
  have rb := rv2.ext x23
  unfold oGet2 at q3
  cases e3 : r.dct? st3 with
  | none => rw [e3] at q3; exact q3.elim
  | some kvs3 =>
    rw [e3] at q3
    cases r2 with
    | l _ _ => exact q3.elim
    | k _ _ => exact q3.elim
    | d k =>
      cases r3 with
      | l _ _ => exact q3.elim
      | k _ _ => exact q3.elim
      | d x =>
        have q4 : Post (cx X W) env σ H g (match keyOf k with
          | some j => .ok (.d ((valD kvs3 j).getD x)) st3
          | none => .no) (qE (cx X W) H Q) := q3
        cases ej : keyOf k with
        | none => rw [ej] at q4; exact q4.elim
        | some j =>
          rw [ej] at q4
          have q4 : Post (cx X W) env σ H g (.ok (.d ((valD kvs3 j).getD x)) st3) (qE (cx X W) H Q) := q4
          obtain ⟨a', ws, ea, k1, k2⟩ := dct_ok R3 ra e3
          cases ea
          have ev := keyOf_ok rb ej
          obtain ⟨z1, z2⟩ := valD_ok j k2
          cases hv : valD kvs3 j with
          | some d =>
            obtain ⟨w, w1, w2⟩ := z1 d hv
            refine ⟨some w, .inl ⟨ws, j, k1, ev, w1.symm⟩, ?_⟩
            rw [hv] at q4
            exact q4 g3 H3 x3 R3 w w2 fun z => nomatch z
          | none =>
            refine ⟨none, .inl ⟨ws, j, k1, ev, (z2 hv).symm⟩, ?_⟩
            rw [hv] at q4
            exact q4 g3 H3 x3 R3 v3 rv3 fun z => nomatch z
end
theorem okMul_ok (i j : Int) (h : okMul i j = true) : CMul i j := by
  simp only [okMul, Bool.or_eq_true, Bool.and_eq_true, decide_eq_true_eq] at h
  exact h
end N

/-! N28: steps by lemmas; texts in order; least ones. -/
namespace N
open PySem PySem.Spec L2 PyProof.Rows
theorem seq_nx {S T : SM} {env e1 : En} {st s1 : Sto} (h : S env st = .ok (.nx, e1) s1) : dSeq S T env st = T e1 s1 := by
  unfold dSeq
  rw [M.bind_ok h]
theorem fnP_ret {n : Nat} {S : SM} {ds : List D} {st s : Sto} {r : R} {e : En} (h : S (env0 n ds) st = .ok (.ret r, e) s) : fnP n S ds st = .ok r s := by
  unfold fnP
  rw [h]
theorem dCall_ok {op : List R → M R} {fs : En → M (List R)} {env : En} {st s : Sto} {rs : List R} (h : fs env st = .ok rs s) : dCall op fs env st = op rs s := by
  unfold dCall
  rw [M.bind_ok h]
theorem dItS_ok {f : En → M R} {env : En} {st s : Sto} {r : R} (h : f env st = .ok r s) : dItS f env st = itemsS r s := by
  unfold dItS
  rw [M.bind_ok h]
theorem opC_ok {n : Nat} {F : List D → M R} {rs : List R} {ds : List D} {st s : Sto} {r : R} (h : kpAll rs = some ds) (hn : ds.length = n) (e : F ds [.c] = .ok r s) : opC n F rs st = .ok r st := by
  unfold opC
  rw [h]
  simp only [hn, if_true, e]
theorem dSet_ok {i : Nat} {sl : R → M R} {f : En → M R} {env : En} {st s s2 : Sto} {r r' : R} (h : f env st = .ok r s) (h2 : sl r s = .ok r' s2) : dSet i sl f env st = .ok (.nx, env.set i (some r')) s2 := by
  unfold dSet
  rw [M.bind_ok h, M.bind_ok h2]
  rfl
theorem if_no {t : En → M Bool} {S : SM} {env : En} {st s : Sto} (h : t env st = .ok false s) : dIfS t S dSkip env st = .ok (.nx, env) s := by
  unfold dIfS
  rw [M.bind_ok h]
  rfl
theorem tst_ok {f : En → M R} {env : En} {st s : Sto} {b : Bool} (h : f env st = .ok (.d (.bool b)) s) : dTst f env st = .ok b s := by
  unfold dTst
  rw [M.bind_ok h]
  rfl
theorem or_no {a b : En → M Bool} {env : En} {st s s2 : Sto} (h : a env st = .ok false s) (h2 : b env s = .ok false s2) : dOr a b env st = .ok false s2 := by
  unfold dOr
  rw [M.bind_ok h]
  exact h2
theorem and_l {a b : En → M Bool} {env : En} {st s : Sto} (h : a env st = .ok false s) : dAnd a b env st = .ok false s := by
  unfold dAnd
  rw [M.bind_ok h]
  rfl
theorem and_r {a b : En → M Bool} {env : En} {st s s2 : Sto} {t : Bool} (h : a env st = .ok true s) (h2 : b env s = .ok t s2) : dAnd a b env st = .ok t s2 := by
  unfold dAnd
  rw [M.bind_ok h]
  exact h2
theorem bin_ok {op : R → R → M R} {fa fb : En → M R} {env : En} {st s1 s2 s3 : Sto} {a b r : R} (h1 : fa env st = .ok a s1) (h2 : fb env s1 = .ok b s2) (h3 : op a b s2 = .ok r s3) : dBin op fa fb env st = .ok r s3 := by
  unfold dBin
  rw [M.bind_ok h1, M.bind_ok h2]
  exact h3
theorem un_ok {op : R → M R} {fa : En → M R} {env : En} {st s1 s3 : Sto} {a r : R} (h1 : fa env st = .ok a s1) (h3 : op a s1 = .ok r s3) : dUn op fa env st = .ok r s3 := by
  unfold dUn
  rw [M.bind_ok h1]
  exact h3
theorem cons_ok {f : En → M R} {fs : En → M (List R)} {env : En} {st s s2 : Sto} {r : R} {rs : List R} (h : f env st = .ok r s) (h2 : fs env s = .ok rs s2) : dCons f fs env st = .ok (r :: rs) s2 := by
  unfold dCons
  rw [M.bind_ok h, M.bind_ok h2]
  rfl
theorem dFor_it {it : En → M (List D)} {p : Pat} {S : SM} {env : En} {st s1 : Sto} {xs : List D} {q : Res (Fl × En)} (h : it env st = .ok xs s1) (e : forGo p S xs env s1 = q) : dFor it p S env st = q := (dFor_ok h).trans e
theorem dItE_ok {f : En → M R} {env : En} {st s : Sto} {r : R} (h : f env st = .ok r s) : dItE f env st = itemsE r s := by
  unfold dItE
  rw [M.bind_ok h]
theorem not_ok {t : En → M Bool} {env : En} {st s : Sto} {b : Bool} (h : t env st = .ok b s) : dNot t env st = .ok (!b) s := by
  unfold dNot
  rw [M.bind_ok h]
  rfl
theorem lst0 (env : En) (st : Sto) : dCall oLst dNil env st = .ok (.l true []) st := by
  refine (dCall_ok (rs := []) rfl).trans ?_
  rw [x_oLst, x_kpnil]
  show (if 0 ≤ sizeLine then _ else _) = _
  rw [if_pos (Nat.zero_le _)]
theorem app_ok {i : Nat} {f : En → M R} {env : En} {st : Sto} {b : Bool} {xs : List D} {x : D} (e : env[i]? = some (some (.l b xs))) (h : f env st = .ok (.d x) st) (hl : xs.length < 1000000) : dApp i f env st = .ok (.nx, env.set i (some (.l true (xs ++ [x])))) st := by
  unfold dApp
  rw [M.bind_ok (chk_own e), M.bind_ok h]
  show (toKp (.d x) >>= _) st = _
  rw [x_toKpd]
  exact mut_own e (push_d hl)
theorem cut_last (xs : List D) (x : D) : cutD (xs ++ [x]) none (some (-1)) = xs := by
  unfold cutD HT.sIx
  simp only [List.drop_zero, Nat.sub_zero]
  rw [if_pos (by omega), List.length_append]
  have : (-1 + ((xs.length + [x].length : Nat) : Int)).toNat = xs.length := by simp; omega
  rw [this]
  simp
theorem retE_ok {f : En → M R} {env : En} {st s : Sto} {r : R} (h : f env st = .ok r s) : dRet f env st = .ok (.ret r, env) s := by
  unfold dRet
  rw [M.bind_ok h]
  rfl
theorem andV_ok {fa fb : En → M R} {env : En} {st s s2 : Sto} {r : R} (h : fa env st = .ok (.d (.bool true)) s) (h2 : fb env s = .ok r s2) : dAndV fa fb env st = .ok r s2 := by
  unfold dAndV
  rw [M.bind_ok h]
  exact h2
theorem tup_ok' {fs : En → M (List R)} {env : En} {st s : Sto} {rs : List R} {ds : List D} (h : fs env st = .ok rs s) (k : kpAll rs = some ds) (l : ds.length ≤ 1000) : dCall oTup fs env st = .ok (.d (.tuple ds)) s := by
  refine (dCall_ok h).trans ?_
  unfold oTup
  simp only [k, if_pos (Nat.le_trans l (Nat.le_trans (by decide) sizeLine_big))]
theorem lst_ok' {fs : En → M (List R)} {env : En} {st s : Sto} {rs : List R} {ds : List D} (h : fs env st = .ok rs s) (k : kpAll rs = some ds) (l : ds.length ≤ 1000) : dCall oLst fs env st = .ok (.l true ds) s := by
  refine (dCall_ok h).trans ?_
  unfold oLst
  simp only [k, if_pos (Nat.le_trans l (Nat.le_trans (by decide) sizeLine_big))]
theorem dp_eStrs (a : List Str) : Dp 1 (eStrs a) := dp_tuple (dp_strs a)
theorem eqvAll_strs : ∀ a b : List Str, PyData.eqvAll (a.map .str) (b.map .str) = decide (a = b)
  | [], [] => rfl
  | [], _ :: _ => rfl
  | _ :: _, [] => rfl
  | x :: a, y :: b => by
    simp only [List.map_cons, PyData.eqvAll]
    rw [eqv_str, eqvAll_strs a b]
    by_cases h : x = y <;> by_cases h2 : a = b <;> simp [h, h2]
theorem eqv_strs (a b : List Str) : PyData.eqv (eStrs a) (eStrs b) = decide (a = b) := by
  show PyData.eqvAll (a.map .str) (b.map .str) = _
  exact eqvAll_strs a b
section
variable {st : Sto}
@[simp] theorem x_addll (b c : Bool) (xs ys : List D) : oAdd (.l b xs) (.l c ys) st = if xs.length + ys.length ≤ sizeLine then .ok (.l true (xs ++ ys)) st else .no := rfl
@[simp] theorem x_addT (xs ys : List D) : oAdd (.d (.tuple xs)) (.d (.tuple ys)) = if xs.length + ys.length ≤ sizeLine then M.ret (.d (.tuple (xs ++ ys))) else M.no := rfl
@[simp] theorem x_addS (x y : Str) : oAdd (.d (.str x)) (.d (.str y)) = if x.length + y.length ≤ sizeLine then M.ret (.d (.str (x ++ y))) else M.no := rfl
@[simp] theorem x_neg (i : Int) : oNeg (.d (.int i)) = M.ret (.d (.int (-i))) := rfl
@[simp] theorem x_revT (xs : List D) : oRev (.d (.tuple xs)) st = .ok (.d (.tuple xs.reverse)) st := rfl
@[simp] theorem x_revL (xs : List D) : oRev (.d (.list xs)) st = .ok (.l true xs.reverse) st := rfl
@[simp] theorem x_revl (b : Bool) (xs : List D) : oRev (.l b xs) st = .ok (.l true xs.reverse) st := rfl
@[simp] theorem x_minl (b : Bool) (x : D) (xs : List D) : oMinL (.l b (x :: xs)) st = if mmOk (x :: xs) = true then .ok (.d (PySem.W.minD x xs)) st else .no := rfl
@[simp] theorem x_minL (x : D) (xs : List D) : oMinL (.d (.list (x :: xs))) st = if mmOk (x :: xs) = true then .ok (.d (PySem.W.minD x xs)) st else .no := rfl
@[simp] theorem x_maxl (b : Bool) (x : D) (xs : List D) : oMaxL (.l b (x :: xs)) st = if mmOk (x :: xs) = true then .ok (.d (PySem.W.maxD x xs)) st else .no := rfl
@[simp] theorem x_maxL (x : D) (xs : List D) : oMaxL (.d (.list (x :: xs))) st = if mmOk (x :: xs) = true then .ok (.d (PySem.W.maxD x xs)) st else .no := rfl
@[simp] theorem x_dictl (b : Bool) (xs : List D) : oDict (.l b xs) st = (match pairsOf xs with
  | some ps => .ok (.k true (mergeD [] ps)) st
  | none => .no) := rfl
@[simp] theorem x_dictL (xs : List D) : oDict (.d (.list xs)) st = (match pairsOf xs with
  | some ps => .ok (.k true (mergeD [] ps)) st
  | none => .no) := rfl
end
/-! ### texts in order -/
def sortS (xs : List Str) : List Str := xs.mergeSort fun a b => dle (.str a) (.str b)
theorem srt_strs (xs : List Str) : srt (xs.map .str) = (sortS xs).map .str := by
  unfold srt sortS
  exact (List.map_mergeSort (r := fun a b => dle (.str a) (.str b)) (s := PySem.W.dataLe false fun x => x) (f := PyData.str) fun a _ b _ => rfl).symm
theorem sortS_perm (xs : List Str) : (sortS xs).Perm xs := List.mergeSort_perm xs _
theorem map_str_inj {a b : List Str} (h : a.map PyData.str = b.map PyData.str) : a = b := by
  induction a generalizing b with
  | nil => cases b with
    | nil => rfl
    | cons _ _ => cases h
  | cons x a ih => cases b with
    | nil => cases h
    | cons y b =>
      simp only [List.map_cons, List.cons.injEq, PyData.str.injEq] at h
      rw [h.1, ih h.2]
theorem strs_apart (xs : List Str) : Apart (xs.map .str) := by
  have := kD_apart (xs.map Sum.inr)
  rw [List.map_map] at this
  exact this
theorem sortS_congr {xs ys : List Str} (p : ys.Perm xs) : sortS ys = sortS xs := by
  have := srt_congr (strs_apart xs) (p.map PyData.str)
  rw [srt_strs, srt_strs] at this
  exact map_str_inj this
theorem sortS_len (xs : List Str) : (sortS xs).length = xs.length := (sortS_perm xs).length_eq
theorem oSorted_strsT {xs : List Str} {st : Sto} (h : xs.length ≤ 1000000) : oSorted (.d (eStrs xs)) st = .ok (.l true ((sortS xs).map .str)) st := by
  show (if srtOk (xs.map .str) = true then Res.ok (R.l true (srt (xs.map .str))) st else .no) = _
  rw [if_pos (srtOk_strs h), srt_strs]
theorem oSorted_strsl {xs : List Str} {st : Sto} {b : Bool} (h : xs.length ≤ 1000000) : oSorted (.l b (xs.map .str)) st = .ok (.l true ((sortS xs).map .str)) st := by
  show (if srtOk (xs.map .str) = true then Res.ok (R.l true (srt (xs.map .str))) st else .no) = _
  rw [if_pos (srtOk_strs h), srt_strs]
/-- sorted(set(names)), the names unlike -/
theorem uniq_nd {ks : List Key} (h : ks.Nodup) : (uniq ks).Perm ks := perm_of_nodup (uniq_nodup ks) h fun x => uniq_mem
theorem nameSort_nd {xs : List Str} (h : xs.Nodup) : nameSort xs = (sortS xs).map .str := by
  unfold nameSort
  have nd : (xs.map (Sum.inr : Str → Key)).Nodup := List.Pairwise.map (S := fun a b => a ≠ b) _ (fun a b hne e => hne (Sum.inr.inj e)) h
  rw [srt_congr (kD_apart (xs.map Sum.inr)) ((uniq_nd nd).map kD), List.map_map, ← srt_strs]
  rfl
/-! ### the least -/
theorem minD_min : ∀ (xs : List D) (x : D), PySem.W.minD x xs ∈ x :: xs ∧ ∀ y ∈ x :: xs, dle (PySem.W.minD x xs) y = true
  | [], x => ⟨List.mem_singleton.mpr rfl, fun y h => by
    rw [List.mem_singleton.mp h]
    have := dle_total x x
    rw [Bool.or_self] at this
    exact this⟩
  | z :: xs, x => by
    obtain ⟨h1, h2⟩ := minD_min xs (if PySem.W.dataLt z x then z else x)
    have e : PySem.W.minD x (z :: xs) = PySem.W.minD (if PySem.W.dataLt z x then z else x) xs := rfl
    rw [e]
    have h3 := h2 _ List.mem_cons_self
    refine ⟨?_, fun y hy => ?_⟩
    · rcases List.mem_cons.mp h1 with h | h
      · rw [h]; split <;> simp
      · exact List.mem_cons_of_mem _ (List.mem_cons_of_mem _ h)
    · have hz : dle (if PySem.W.dataLt z x then z else x) z = true ∧ dle (if PySem.W.dataLt z x then z else x) x = true := by
        cases q : PySem.W.dataLt z x with
        | true =>
          rw [if_pos rfl]
          refine ⟨by simpa using dle_total z z, ?_⟩
          have := dle_total z x
          rw [dle_lt x z, q] at this
          simpa using this
        | false =>
          rw [if_neg Bool.false_ne_true]
          refine ⟨?_, by simpa using dle_total x x⟩
          rw [dle_lt, q]; rfl
      rcases List.mem_cons.mp hy with rfl | hy
      · exact dle_trans _ _ _ h3 hz.2
      · rcases List.mem_cons.mp hy with rfl | hy
        · exact dle_trans _ _ _ h3 hz.1
        · exact h2 y (List.mem_cons_of_mem _ hy)
/-- two rows with an int ahead -/
theorem dle_int {i j : Int} {xs ys : List D} (h : dle (.tuple (.int i :: xs)) (.tuple (.int j :: ys)) = true) : i < j ∨ i = j ∧ dle (.tuple xs) (.tuple ys) = true := by
  rw [dle_lt, PySem.W.dataLt_tuple, PySem.W.dataLt_cons (by simp [PySem.W.alike]), eqv_int] at h
  by_cases e : j = i
  · subst e
    rw [decide_eq_true rfl, if_pos rfl] at h
    refine .inr ⟨rfl, ?_⟩
    rw [dle_lt, PySem.W.dataLt_tuple]
    exact h
  · rw [decide_eq_false e, if_neg Bool.false_ne_true, PySem.W.dataLt_int, Bool.not_eq_true', decide_eq_false_iff_not] at h
    left; omega
/-- the same signs ahead, the same int -/
theorem toks_int {i j : Int} {xs ys : List D} (h : PySem.W.keyToksAll (.int i :: xs) = PySem.W.keyToksAll (.int j :: ys)) : i = j ∧ PySem.W.keyToksAll xs = PySem.W.keyToksAll ys := by
  simp only [PySem.W.keyToksAll, PySem.W.keyToks] at h
  simpa using h
theorem toks_str {i j : Str} {xs ys : List D} (h : PySem.W.keyToksAll (.str i :: xs) = PySem.W.keyToksAll (.str j :: ys)) : i = j ∧ PySem.W.keyToksAll xs = PySem.W.keyToksAll ys := by
  simp only [PySem.W.keyToksAll, PySem.W.keyToks] at h
  simp only [List.cons_append, List.nil_append, List.cons.injEq, Sum.inr.injEq, true_and] at h
  exact ⟨PySem.W.str_of_cps h.1, h.2⟩
theorem toks_strs : ∀ {a b : List Str} {p q : List (Int ⊕ List Nat)}, PySem.W.keyToksAll (a.map .str) ++ p = PySem.W.keyToksAll (b.map .str) ++ q → a = b
  | [], [], _, _, _ => rfl
  | [], y :: b, p, q, h => by simp [PySem.W.keyToksAll, PySem.W.keyToks] at h
  | x :: a, [], p, q, h => by simp [PySem.W.keyToksAll, PySem.W.keyToks] at h
  | x :: a, y :: b, p, q, h => by
    simp only [List.map_cons, PySem.W.keyToksAll, PySem.W.keyToks, List.cons_append, List.nil_append, List.cons.injEq, Sum.inr.injEq, true_and] at h
    rw [PySem.W.str_of_cps h.1, toks_strs h.2]
/-! ### the greatest of ints -/
theorem mm_ints {ns : List Int} : mmOk (ns.map .int) = true := by
  simp only [mmOk, Bool.and_eq_true, List.all_eq_true]
  refine ⟨⟨fun x hx y hy => ?_, fun x hx => ?_⟩, fun x hx => ?_⟩
  · obtain ⟨i, _, rfl⟩ := List.mem_map.mp hx
    obtain ⟨j, _, rfl⟩ := List.mem_map.mp hy
    simp [PySem.W.alike]
  · obtain ⟨i, _, rfl⟩ := List.mem_map.mp hx
    rfl
  · obtain ⟨i, _, rfl⟩ := List.mem_map.mp hx
    rfl
theorem maxl_ints {b : Bool} {n : Int} {ns : List Int} {st : Sto} : oMaxL (.l b ((n :: ns).map .int)) st = .ok (.d (.int (ns.foldl max n))) st := by
  rw [List.map_cons, x_maxl, ← List.map_cons, if_pos mm_ints, PySem.W.maxD_ints]
theorem maxL_ints {n : Int} {ns : List Int} {st : Sto} : oMaxL (.d (.list ((n :: ns).map .int))) st = .ok (.d (.int (ns.foldl max n))) st := by
  rw [List.map_cons, x_maxL, ← List.map_cons, if_pos mm_ints, PySem.W.maxD_ints]
theorem ints_map (ns : List Int) : intsOf (ns.map .int) = some ns := by
  induction ns with
  | nil => rfl
  | cons n ns ih =>
    rw [List.map_cons]
    unfold intsOf
    rw [ih]
    rfl
theorem sum_ints {b : Bool} {ns : List Int} {st : Sto} : oSum (.l b (ns.map .int)) st = .ok (.d (.int ns.sum)) st := by
  unfold oSum
  simp only [lst_l, ints_map]
end N

/-! N29: more steps by lemmas. -/
namespace N
open PySem PySem.Spec L2
section
variable {env : En} {st s s2 : Sto} {f : En → M R} {i : Nat} {xs : List D} {x : D} {t : En → M Bool} {S T : SM}
theorem setF_l (h : f env st = .ok (.l true xs) s) : dSet i slF f env st = .ok (.nx, env.set i (some (.d (.list xs)))) s := dSet_ok h rfl
theorem setF_d (h : f env st = .ok (.d x) s) : dSet i slF f env st = .ok (.nx, env.set i (some (.d x))) s := dSet_ok h rfl
theorem setF_k {kvs : List (Key × D)} (h : f env st = .ok (.k true kvs) s) : dSet i slF f env st = .ok (.nx, env.set i (some (.d (.dict (kvs.map fun p => (kD p.1, p.2)))))) s := dSet_ok h rfl
theorem setO_l (h : f env st = .ok (.l true xs) s) : dSet i slO f env st = .ok (.nx, env.set i (some (.l true xs))) s := dSet_ok h rfl
theorem setO_k {kvs : List (Key × D)} (h : f env st = .ok (.k true kvs) s) : dSet i slO f env st = .ok (.nx, env.set i (some (.k true kvs))) s := dSet_ok h rfl
theorem if_yes {r : Res (Fl × En)} (h : t env st = .ok true s) (e : S env s = r) : dIfS t S T env st = r := by
  unfold dIfS
  rw [M.bind_ok h]
  exact e
theorem if_else {r : Res (Fl × En)} (h : t env st = .ok false s) (e : T env s = r) : dIfS t S T env st = r := by
  unfold dIfS
  rw [M.bind_ok h]
  exact e
theorem or_l {a b : En → M Bool} (h : a env st = .ok true s) : dOr a b env st = .ok true s := by
  unfold dOr
  rw [M.bind_ok h]
  rfl
theorem or_r {a b : En → M Bool} {v : Bool} (h : a env st = .ok false s) (h2 : b env s = .ok v s2) : dOr a b env st = .ok v s2 := by
  unfold dOr
  rw [M.bind_ok h]
  exact h2
theorem call1_ok {op : R → M R} {r q : R} (h : f env st = .ok r s) (e : op r s = .ok q s2) : dCall (op1 op) (dCons f dNil) env st = .ok q s2 := by
  rw [dCall_ok (cons_ok h rfl)]
  exact e
theorem opS_ok {n : Nat} {F : List D → M R} {rs : List R} {ds : List D} {r : R} (h : kpAll rs = some ds) (hn : ds.length = n) (e : F ds st = .ok r s) : opS n F rs st = .ok r s := by
  unfold opS
  simp only [h, hn, if_true, e]
theorem tupT (h : dCons f dNil env st = .ok [.d x] s) : dCall oTup (dCons f dNil) env st = .ok (.d (.tuple [x])) s := tup_ok' h rfl (by simp)
theorem ret_at {r : R} (h : f env st = .ok r s) : dRet f env st = .ok (.ret r, env) s := retE_ok h
theorem itR1_at {n : Nat} (h : f env st = .ok (.d (.int (n : Int))) s) (hn : n < 4611686018427387904 := by omega) : dItC itR1 (dCons f dNil) env st = .ok ((List.range n).map fun (i : Nat) => PyData.int (i : Int)) s := by
  have h1 := itR1_nat (n := n) (st := s) hn
  unfold dItC
  rw [M.bind_ok (cons_ok h rfl)]
  exact h1
theorem itR1_add {n : Nat} (h : f env st = .ok (.d (.int ((n : Int) + 1))) s) (hn : n < 4611686018427387903 := by omega) : dItC itR1 (dCons f dNil) env st = .ok ((List.range (n + 1)).map fun (i : Nat) => PyData.int (i : Int)) s :=
  itR1_at (n := n + 1) (by rw [h]; congr 3) (by omega)
end
end N

/-! N30: isinstance(x, (tuple, list)); defs that call themselves. -/
namespace N
open PySem PySem.Spec L2 PyProof.Rows
def tyN : D → String
  | .none => "NoneType"
  | .bool _ => "bool"
  | .int _ => "int"
  | .str _ => "str"
  | .list _ => "list"
  | .tuple _ => "tuple"
  | .dict _ => "dict"
theorem tyx_lst {K : PySem.W.Frag} {H : Hp} {a : Addr} {xs : List V} (h : SqL K H a xs) : TyX K H (.ref a) (.type "list") := by
  rcases h with (h | ⟨o, h⟩) | ⟨o, its, n, h1, h2, _⟩
  · exact .base (.lst h)
  · exact .base (.frz h)
  · exact .kList h1 h2
theorem tyx_tup {K : PySem.W.Frag} {H : Hp} {a : Addr} {xs : List V} (h : SqT K H a xs) : TyX K H (.ref a) (.type "tuple") := by
  rcases h with (h | ⟨o, h⟩) | ⟨o, its, n, h1, h2, _⟩
  · exact .base (.tup h)
  · exact .fTuple h
  · exact .kTuple h1 h2
theorem tyx_df {K : PySem.W.Frag} {g : Gh} {H : Hp} (hs : Sub g.G H) {v : V} {x : D} (h : Df K g v x) (hp : x.plain = true) : TyX K H v (.type (tyN x)) := by
  cases x with
  | none => rw [Df.non_inv h]; exact .base .non
  | bool b => rw [Df.bl_inv h]; exact .base (.bl b)
  | int b => rw [Df.int_inv h]; exact .base (.int b)
  | str b => rw [Df.str_inv h]; exact .base (.str b)
  | list xs =>
    obtain ⟨a, vs, rfl, h1, _⟩ := Df.list_inv h
    exact tyx_lst (hs.sql h1)
  | tuple xs =>
    obtain ⟨a, vs, rfl, h1, _⟩ := Df.tup_inv h
    exact tyx_tup (hs.sqt h1)
  | dict xs => simp [PyData.plain] at hp
def fTL : D → Bool
  | .list _ => true
  | .tuple _ => true
  | _ => false
theorem kitTL {K : PySem.W.Frag} (x : D) : PySem.W.kitAny K (.type (tyN x)) [.type "tuple", .type "list"] = some (fTL x) := by
  have e : ∀ T : String, ∀ b c : Bool, kitB T "tuple" = some b → kitB T "list" = some c → PySem.W.kitAny K (.type T) [.type "tuple", .type "list"] = some (b || c) := fun T b c h1 h2 => by
    cases b with
    | true => exact kitAny_cons (kit_ty h1) (fun z => nomatch z) fun _ => rfl
    | false =>
      refine kitAny_cons (kit_ty h1) (fun _ => kitAny_cons (kit_ty h2) (fun z => ?_) fun z => ?_) fun z => nomatch z
      · rw [z]; rfl
      · rw [z]; rfl
  cases x with
  | none => exact e "NoneType" false false (by decide +kernel) (by decide +kernel)
  | bool b => exact e "bool" false false (by decide +kernel) (by decide +kernel)
  | int b => exact e "int" false false (by decide +kernel) (by decide +kernel)
  | str b => exact e "str" false false (by decide +kernel) (by decide +kernel)
  | list b => exact e "list" false true (by decide +kernel) (by decide +kernel)
  | tuple b => exact e "tuple" true false (by decide +kernel) (by decide +kernel)
  | dict b => exact e "dict" false false (by decide +kernel) (by decide +kernel)
theorem e_isiTL {X : Cx} {W : String → L2.St → Hp → Prop} {a : Expr} {fa : En → M R} {p p2 p3 p4 pos : Pos} {k : Nat} (hg : Gl X "isinstance") (hm : X.mg "isinstance" = none)
    (hg1 : Gl X "tuple") (hm1 : X.mg "tuple" = none) (hg2 : Gl X "list") (hm2 : X.mg "list" = none) (ha : PE X a (tr (cx X W) fa))
    (hs : starEach [a, .Tuple [.Name "tuple" p2, .Name "list" p3] k p4] X.env = (false, eval a X.env) :: starEach [.Tuple [.Name "tuple" p2, .Name "list" p3] k p4] X.env := by rfl)
    (hs2 : starEach [.Tuple [.Name "tuple" p2, .Name "list" p3] k p4] X.env = (false, eval (.Tuple [.Name "tuple" p2, .Name "list" p3] k p4) X.env) :: starEach [] X.env := by rfl)
    (hs3 : starEach [.Name "tuple" p2, .Name "list" p3] X.env = (false, eval (.Name "tuple" p2) X.env) :: starEach [.Name "list" p3] X.env := by rfl)
    (hs4 : starEach [.Name "list" p3] X.env = (false, eval (.Name "list" p3) X.env) :: starEach [] X.env := by rfl)
    (h4 : (backTo pos (starEach [.Tuple [.Name "tuple" p2, .Name "list" p3] k p4] X.env)).any (·.1) = false := by rfl) :
    PE X (.Call (.Name "isinstance" p) [a, .Tuple [.Name "tuple" p2, .Name "list" p3] k p4] [] pos) (tr (cx X W) (dUn (oIsi fTL) fa)) := by
  refine PE.imp (pe_callB call_isiT hg hm (by decide +kernel) (pa_cons ha (pa_cons (pe_tup (pa_cons (pe_bltn (v := .ty "tuple") hg1 hm1 (by decide +kernel) rfl (by decide) (by decide)) (pa_cons (pe_bltn (v := .ty "list") hg2 hm2 (by decide +kernel) rfl (by decide) (by decide)) pa_nil hs4) hs3)) pa_nil hs2) hs) (by decide) (by decide) hs h4) fun σ H Q h => ?_
  have := tr1 h
  obtain ⟨env, st, g, R0, q⟩ := this
  refine ⟨env, st, g, R0, Post.mono q fun r g1 H1 q1 v rv fr => ?_⟩
  obtain ⟨env, σ', st', g', H0, g0, r', A⟩ := q1 v rv fr
  obtain ⟨B, v1, -, q⟩ := A
  refine ⟨by show 2 ≤ sizeLine; decide, fun p hp => ?_⟩
  unfold oIsi at q
  split at q
  · rename_i x e
    split at q
    · rename_i hpl
      obtain ⟨g2, le, s2, d2⟩ := pk_ok B.rel v1 e
      exact ⟨v, p, _, _, _, fTL x, rfl, upd_same, .cons (.ty _) (.cons (.ty _) .nil), tyx_df (Sub.new s2 hp) d2 hpl, kitTL x, (B.new hp).fin_d q (.bl _)⟩
    · exact q.elim
  · exact q.elim
/-- a def of which nothing is said -/
theorem fd_no {P : Program} {w : World} {K : PySem.W.Frag} {mg : Str → Option Value} {base : Heap} {x : Str} {sd : Stmt} {N ps : List Str} {k : Nat} (h : DefAt K mg x sd ps) (S : FnScope N ps (defScope sd)) :
    Fd P w K mg base (k + 1) x ps (fnP N.length dNoS) :=
  fd_mk h S fun f cdv A outer s H E hr H0 g0 => PSs.imp pss_never fun D σ H ⟨env, st, g, lo, R0, q⟩ => q
end N

/-! N31: for .. in zip(tuple, tuple); // by large divisors. -/
namespace N
open PySem PySem.Spec L2 PyProof.Rows
section
variable {X : Cx} {W : String → L2.St → Hp → Prop} {es : List Expr} {fs : En → M (List R)} {p pos : Pos} {a b : Expr}
def itZipS (rs : List R) : M (List D) := fun st => match rs with
  | [.d (.tuple xs), .d (.tuple ys)] => if noTup xs = true then .ok (zipD xs ys) st else .no
  | _ => .no
theorem i_zipS {elts : List Expr} {kk : Nat} {tpos : Pos} (hg : Gl X "zip") (hm : X.mg "zip" = none) (ha : PA X [a, b] (trA (cx X W) fs))
    (hs : starEach [a, b] X.env = (false, eval a X.env) :: starEach [b] X.env := by rfl) (hpl : (backTo pos (starEach [b] X.env)).any (·.1) = false := by rfl) : PI X (.Tuple elts kk tpos) (.Call (.Name "zip" p) [a, b] [] pos) (trI (cx X W) (dItC itZipS fs)) := by
  refine PI.imp (RZ.pi_zipA hg hm ha hs hpl) fun σ H Rr ⟨env, st, g, R0, q⟩ => ⟨env, st, g, R0, Post.mono (Post.bind (.refl H g) q) fun rs g1 H1 ⟨st1, _, R1, x, _, q⟩ vs rv fr => ?_⟩
  unfold itZipS at q
  split at q
  · rename_i xs ys
    split at q
    · rename_i ho
      obtain ⟨v, w, rfl, h1, h2⟩ := rvl2 rv
      obtain ⟨a, as, rfl, a1, a2⟩ := Df.tup_inv h1
      obtain ⟨b, bs, rfl, b1, b2⟩ := Df.tup_inv h2
      have st : ∀ g' H', Le g1 g' → Sub g'.G H' → SqT X.K H' a as ∧ SqT X.K H' b bs := fun g' H' x' s => ⟨s.sqt (sqt_le x' a1), s.sqt (sqt_le x' b1)⟩
      refine ⟨a, b, as, bs, rfl, .inr ⟨R1.sub.sqt a1, R1.sub.sqt b1, q g1 H1 x R1 _ ⟨fun g' H' i x' s hl => ?_, fun g' H' i z x' s e => ?_⟩⟩⟩
      · refine ⟨as, bs, (st g' H' x' s).1, (st g' H' x' s).2, ?_⟩
        rw [a2.length, b2.length]
        exact zipD_len hl
      · obtain ⟨y1, y2, f1, f2, rfl⟩ := zipD_get e
        obtain ⟨v1, l1, d1⟩ := a2.get f1
        obtain ⟨v2, l2, d2⟩ := b2.get f2
        refine ⟨⟨as, bs, v1, v2, (st g' H' x' s).1, (st g' H' x' s).2, l1, l2⟩, fun u H'' ⟨T, u1, u2, e1, e2, e3, e4, e5⟩ => ?_⟩
        have c1 := e4 as (st g' H' x' s).1
        have c2 := e5 bs (st g' H' x' s).2
        rw [l1] at c1; cases c1
        rw [l2] at c2; cases c2
        exact yd_pair (noTup_at ho f1 _) s e2 e1 e3 (Df.le x' d1) (Df.le x' d2)
    · exact q.elim
  · exact q.elim
def okDivW (j : Int) : Bool := decide (0 < j) && decide (j.natAbs.log2 < 9000)
def oFdivW : R → R → M R := oI (fun i j => .int (i / j)) fun _ j => okDivW j
theorem or_fdivW : OpR X (binaryOp .FloorDiv) (rr2 (cx X W) oFdivW) := oI_ok op_fdivW fun i j h => by
  simp only [okDivW, Bool.and_eq_true, decide_eq_true_eq] at h; exact h
theorem okDivW_of {j : Int} (h : 0 < j) (hb : j < 2 ^ 64) : okDivW j = true := by
  unfold okDivW
  rw [decide_eq_true h, Bool.true_and, decide_eq_true_eq]
  have h2 : j.natAbs < 2 ^ 64 := by omega
  exact Nat.lt_of_lt_of_le (PySem.Flt.log2_lt_of (by decide) h2) (by decide)
end
end N

/-! N32: dicts that are born frozen: dict(pairs), list(d). -/
namespace N
open PySem PySem.Spec L2 PyProof.Rows
theorem upd_upd {H : Hp} {p : Addr} {a b : HO} : upd (upd H p a) p b = upd H p b := by
  funext x
  by_cases h : x = p
  · rw [h, upd_same, upd_same]
  · rw [upd_ne h, upd_ne h, upd_ne h]
def markD (ds : List (Key × D)) : D := .dict ((.none, .bool true) :: ds.map fun p => (kD p.1, p.2))
@[simp] theorem dF_mark (ds : List (Key × D)) : dF? (markD ds) = some ds := by
  show unKeys (ds.map fun p => (kD p.1, p.2)) = some ds
  exact unKeys_map ds
@[simp] theorem dct_mark (ds : List (Key × D)) (st : Sto) : (R.d (markD ds)).dct? st = some ds := by
  have h : refOf (markD ds) = none := by
    unfold refOf markD
    cases ds <;> rfl
  unfold R.dct?
  simp only [h]
  exact unKeys_map ds
section
variable {X : Cx} {W : String → L2.St → Hp → Prop} {pos : Pos}
theorem ep_frz {pins : List (Addr × Obj)} {σ : L2.St} {H : Hp} {m : List (Key × V)} {u : Value} {s : Shared} {Q : VK} (h : EP X pins σ (fun v H' => ∃ p, v = .ref p ∧ H p = none ∧ H' = upd H p (.dK m)) u s) (q : ∀ p od, H p = none → Q (.ref p) (upd H p (.frz od (.dK m)))) : EP X pins σ Q u s := by
  obtain ⟨x, H', I, r, p, rfl, hp, rfl⟩ := h
  obtain ⟨od, I2⟩ := I.lock (d := p) (u := .dK m) upd_same trivial
  rw [upd_upd] at I2
  exact ⟨.ref p, _, I2, r, q p od hp⟩
def oDictF (r : R) : M R := fun st => match r.tup? with
  | some xs => if headW xs = true then .no else match pairsOf xs with
    | some ps => .ok (.d (markD (mergeD [] ps))) st
    | none => .no
  | none => match r.lst? st with
    | some xs => match pairsOf xs with
      | some ps => .ok (.d (markD (mergeD [] ps))) st
      | none => .no
    | none => .no
theorem Bs.fin_dF {c : Ct} {H : Hp} {env : En} {σ : L2.St} {st : Sto} {g g1 : Gh} {Q : VK} {H0 : Hp} {g0 : Gh} {ds : List (Key × D)} {vs : List (Key × V)} (b : Bs c H env σ st g H0 g0) (q : PostC c env σ H0 g0 g1 (.ok (.d (markD ds)) st) (qE c H0 Q)) (h : DfK c.K g vs ds) (le : Le g1 g := by exact Le.refl _) : ∀ p od, H p = none → Q (.ref p) (upd H p (.frz od (.dK vs))) := fun p o hp =>
  (b.newF hp).fin_d q (.dctF upd_same (DfK.le (Le.put (b.rel.nog hp)) h)) (le.trans (Le.put (b.rel.nog hp)))
theorem cr_dictF (hc : X.calm = true) : CallR X (.type "dict") (rrL (cx X W) (op1 oDictF)) := by
  refine cr1 fun pins s σ H x u Q I ru ⟨env, σ', st, g, H0, g0, r, A⟩ => ?_
  obtain ⟨B, v1, -, q⟩ := A
  unfold oDictF at q
  split at q
  · rename_i xs e
    split at q
    · exact q.elim
    · rename_i hw
      split at q
      · rename_i ps ep
        obtain ⟨a, vs, rfl, h1, h0, h2, hb⟩ := tup_ok B.rel v1 e
        obtain ⟨as, kvs, rfl, k1, k2⟩ := pairs_df B.rel.sub h2 ep
        rcases hb with ⟨o, x, b1, b2⟩ | hb
        · have hH : H a = some (.frz o x) := by
            rcases B.rel.sub a _ b1 with z | ⟨_, _, z, _⟩
            · exact z
            · cases z
          exact thn (call_dictT hc pins s σ H [_] _ (fun v H' => ∃ p, v = .ref p ∧ H p = none ∧ H' = upd H p (.dK (mergeK [] kvs))) I (.cons ru .nil) ⟨a, as, kvs, rfl, h1, ⟨o, x, hH, b2⟩, k1, fun p hp => ⟨p, rfl, hp, rfl⟩⟩) fun u s1 h => ep_frz h (B.fin_dF q (dfk_mergeK k2))
        · exact absurd hb hw
      · exact q.elim
  · split at q
    · rename_i xs e
      split at q
      · rename_i ps ep
        obtain ⟨a, vs, rfl, h1, h2⟩ := lst_ok B.rel v1 e
        obtain ⟨as, kvs, rfl, k1, k2⟩ := pairs_df B.rel.sub h2 ep
        exact thn (call_dictP hc pins s σ H [_] _ (fun v H' => ∃ p, v = .ref p ∧ H p = none ∧ H' = upd H p (.dK (mergeK [] kvs))) I (.cons ru .nil) ⟨a, as, kvs, rfl, h1, k1, fun p hp => ⟨p, rfl, hp, rfl⟩⟩) fun u s1 h => ep_frz h (B.fin_dF q (dfk_mergeK k2))
      · exact q.elim
    · exact q.elim
/-! ### list(d) -/
theorem call_list_rd {X : Cx} (hc : X.calm = true) : CallR X (.type "list") (fun xs H Q => ∃ p kvs, xs = [.ref p] ∧ Rd H p (.dK kvs) ∧ ∀ q, H q = none → Q (.ref q) (upd H q (.lst (kvs.map fun kv => kV kv.1)))) := by
  intro pins s σ H xs us Q I r h
  obtain ⟨p, kvs, e, hk, q⟩ := h
  subst e
  obtain ⟨u, eu, rx⟩ := vals1 r
  subst eu
  obtain rfl : u = Value.ref p := rx
  obtain ⟨z, lo, vs, rk, hd⟩ := (show ObjOk X.prog X.w H s.heap p (.dK kvs) from hk.ok I.hok)
  obtain ⟨ep, hat⟩ := hd.dictAt
  have hl : kvs.length = vs.length := Paired.length rk
  refine PySem.W.kdl_call (PySem.W.kdl_dict (knd := mixKind X.prog X.w) (kvs := vs) (ep := ep) lo) (I.ok.hd hc) hat (by rw [← hl]; exact z) fun h' tk acc' c' hkeep hS hacc => ?_
  refine ⟨.ref s.heap.objs.size, upd H s.heap.objs.size (.lst (kvs.map fun kv => kV kv.1)), I.laid hkeep (Nat.le_refl _) (show ObjOk X.prog X.w _ _ _ (.lst (kvs.map fun kv => kV kv.1)) from ⟨by rw [List.length_map]; exact z, acc'.toList, c', ?_, by rw [Array.toArray_toList]; exact hS⟩), rfl, q _ (I.hok.fresh (Nat.le_refl _))⟩
  have el : acc'.toList.length = acc'.size := by simp
  refine vals_of_at (by rw [List.length_map, el, hacc.1, hl]) fun j x w h1 h2 => ?_
  obtain ⟨k, y, hky, hi⟩ := hacc.2 j w (by rw [← Array.getElem?_toList]; exact h2)
  have e1 : (kvs.map (·.1))[j]? = some k := by
    rw [KV.keys rk, List.getElem?_map, hky] <;> rfl
  have e2 : (kvs.map fun kv => kV kv.1)[j]? = some (kV k) := by
    have e3 : (kvs.map fun kv => kV kv.1) = (kvs.map (·.1)).map kV := by rw [List.map_map] <;> rfl
    rw [e3, List.getElem?_map, e1] <;> rfl
  rw [e2] at h1
  cases h1
  exact keyIs_rel hi
theorem dfk_keys {K : PySem.W.Frag} {g : Gh} : ∀ {vs : List (Key × V)} {ds : List (Key × D)}, DfK K g vs ds → DfA K g (vs.map fun kv => kV kv.1) (keysD ds)
  | _, _, .nil => .nil
  | _, _, .cons (k := k) a t => .cons (by cases k <;> constructor) (dfk_keys t)
def oListK (r : R) : M R := fun st => match r.dct? st with
  | some ds => .ok (.l true (keysD ds)) st
  | none => .no
theorem cr_listK (hc : X.calm = true) : CallR X (.type "list") (rrL (cx X W) (op1 oListK)) := by
  refine cr1 fun pins s σ H x u Q I ru ⟨env, σ', st, g, H0, g0, r, A⟩ => ?_
  obtain ⟨B, v1, -, q⟩ := A
  unfold oListK at q
  split at q
  · rename_i ds e
    obtain ⟨a, vs, rfl, h1, h2⟩ := dct_ok B.rel v1 e
    exact call_list_rd hc pins s σ H [_] _ Q I (.cons ru .nil) ⟨a, vs, rfl, h1, fun p hp => B.fin_l q hp (dfk_keys h2)⟩
  · exact q.elim
end
end N

/-! N33: a new dict frozen where it is made; d.items(). -/
namespace N
open PySem PySem.Spec L2 PyProof.Rows
section
variable {X : Cx} {W : String → L2.St → Hp → Prop} {pos : Pos} {e : Expr} {f : En → M R}
/-- e, and then its result locked -/
def tLockV (te : TE) : TE := fun σ H Q => te σ H fun v H1 => (∃ d kvs, v = .ref d ∧ H1 d = some (.dK kvs) ∧ ∀ od, Q v (upd H1 d (.frz od (.dK kvs))))
theorem pe_lockV {te : TE} (he : PE X e te) : PE X e (tLockV te) := by
  refine ⟨fun pins s σ H Q I h => thn (he.run pins s σ H _ I h) fun u s1 ⟨v, H1, I1, r, d, kvs, ev, hd, q⟩ => ?_⟩
  obtain ⟨od, I2⟩ := I1.lock hd trivial
  exact ⟨v, _, I2, r, q od⟩
def oLock : R → M R
  | .k true kvs => M.ret (.d (markD kvs))
  | _ => M.no
theorem e_lock (he : PE X e (tr (cx X W) f)) : PE X e (tr (cx X W) (dUn oLock f)) := by
  refine PE.imp (pe_lockV he) fun σ H Q h => ?_
  obtain ⟨env, st, g, R0, q⟩ := tr1 h
  refine ⟨env, st, g, R0, Post.mono q fun r g1 H1 q1 v rv fr => ?_⟩
  obtain ⟨env, σ', st', g', H0, g0, r', B, v1, f1, q⟩ := q1 v rv fr
  unfold oLock at q
  split at q
  · rename_i kvs
    obtain ⟨a, vs, rfl, k1, k2, k3, k4⟩ := v1
    have h0 : H0 a = none := f1 rfl a rfl
    refine ⟨a, vs, rfl, k1, fun od => ?_⟩
    have B2 : Bs (cx X W) (upd H1 a (.frz od (.dK vs))) env σ' st' g' H0 g0 := ⟨B.e.upd h0, B.rel.upd k2 k3 fun i r e o z => B.sl i r a e o z h0, B.sl⟩
    exact (B2.frz upd_same h0 k2 k3).fin_d q (.dctF upd_same (DfK.le (Le.put k2) k4)) (Le.put k2)
  · exact q.elim
/-! ### d.items() -/
def itItems (r : R) : M (List D) := fun st => match r with
  | .d x => match dF? x with
    | some ds => .ok (ds.map fun p => .tuple [kD p.1, p.2]) st
    | none => .no
  | _ => .no
def dItI (f : En → M R) : En → M (List D) := fun env => f env >>= itItems
theorem dfk_get {K : PySem.W.Frag} {g : Gh} : ∀ {vs : List (Key × V)} {ds : List (Key × D)}, DfK K g vs ds → ∀ (i : Nat) (k : Key) (v : V), vs[i]? = some (k, v) → ∃ d, ds[i]? = some (k, d) ∧ Df K g v d
  | _, _, .nil => fun i k v e => by simp at e
  | _, _, .cons (k := k0) (d := d0) a t => fun i k v e => by
    cases i with
    | zero =>
      simp only [List.getElem?_cons_zero, Option.some.injEq, Prod.mk.injEq] at e
      obtain ⟨rfl, rfl⟩ := e
      exact ⟨d0, rfl, a⟩
    | succ i =>
      obtain ⟨d, e2, h⟩ := dfk_get t i k v (by simpa using e)
      exact ⟨d, by simpa using e2, h⟩
theorem walks_items {K : PySem.W.Frag} {g : Gh} {a : Addr} {o : Obj} {vs : List (Key × V)} {ds : List (Key × D)} (h1 : g.G a = some (.frz o (.dK vs))) (h2 : DfK K g vs ds) : Walks K (Iti a o vs) g (ds.map fun p => .tuple [kD p.1, p.2]) where
  stop := fun g' H' i le s hl => by
    refine ⟨?_, by rw [(dfk_at h2).1]; simpa using hl⟩
    rcases s _ _ (le.G _ _ h1) with z | ⟨_, _, z, _⟩
    · exact z
    · cases z
  go := fun g' H' i x le s e => by
    have hH : H' a = some (.frz o (.dK vs)) := by
      rcases s _ _ (le.G _ _ h1) with z | ⟨_, _, z, _⟩
      · exact z
      · cases z
    have hi : i < ds.length := by
      have := (List.getElem?_eq_some_iff.mp e).1
      simpa using this
    refine ⟨⟨hH, by rw [(dfk_at h2).1]; exact hi⟩, fun w H'' ⟨T, k, v, y1, y2, y3, y4⟩ => ?_⟩
    obtain ⟨d, e2, hd⟩ := dfk_get h2 i k v y1
    rw [List.getElem?_map, e2] at e
    cases e
    have hk : Df K g' (kV k) (kD k) := by cases k <;> constructor
    exact yd_pair (dx := kD k) (dy := d) (by cases k <;> rfl) s y3 y2 y4 hk (Df.le le hd)
theorem i_items {elts : List Expr} {kk : Nat} {tpos apos cpos : Pos} (he : PE X e (tr (cx X W) f)) (hbase : attributeBase e "items" X.env (eval e X.env) = eval e X.env := by rfl) (hline : (apos.endLine == cpos.line) = true := by rfl) :
    PI X (.Tuple elts kk tpos) (.Call (.Attribute e "items" apos) [] [] cpos) (trI (cx X W) (dItI f)) := by
  refine PI.imp (pi_items he hbase hline) fun σ H Rr ⟨env, st, g, R0, q⟩ => ⟨env, st, g, R0, Post.mono (Post.bind (.refl H g) q) fun r g1 H1 ⟨st1, _, R1, x, _, q⟩ v rv fr => ?_⟩
  unfold itItems at q
  split at q
  · split at q
    · rename_i ds ed
      obtain ⟨a, o, vs, rfl, h1, h2⟩ := dF_inv rv ed
      have hH : H1 a = some (.frz o (.dK vs)) := by
        rcases R1.sub _ _ h1 with z | ⟨_, _, z, _⟩
        · exact z
        · cases z
      exact ⟨a, o, vs, rfl, hH, q g1 H1 x R1 _ (walks_items h1 h2)⟩
    · exact q.elim
  · exact q.elim
end
end N

/-! N34: enumerate(a tuple), in comprehensions and for statements. -/
namespace N
open PySem PySem.Spec L2 PyProof.Rows
open AutoSeq1 (wpAny_loadPart')
theorem meets_enumT (l : Addr) (items : Array Value) (n : Nat) (dct : Option Addr) (sl : Array (Option Value)) :
    Meets (Builtin.«enumerate.__new__» ⟨[.type "enumerate", .ref l], []⟩) (fun _ R s => s.heap.get? l = some { cls := .type "tuple", dict := dct, data := .seq items n, slots := sl } ∧
      R (.ok (.ret (.ref (s.heap.push { cls := .type "tuple_iterator", data := .fields #[.ref l, .int 0 0] }).objs.size)))
        { s with heap := (s.heap.push { cls := .type "tuple_iterator", data := .fields #[.ref l, .int 0 0] }).push { cls := .type "enumerate", data := .fields #[.none, .bool false, .ref s.heap.objs.size, rawInt 0, .none, .none] } }) :=
  .of_wp fun prog w A R s h => by
    obtain ⟨hp, g, d, tk, os⟩ := s; obtain ⟨hl, h⟩ := h
    have hsub := sub_enumerate
    have hL : Heap.IsTuple (Shared.heap ⟨hp, g, d, tk, os⟩) l items := ⟨_, hl, rfl, n, rfl⟩
    wp_walk using wpAny_loadPart' hl
    refine wpAny_stack_any fun st => wpAny_pure ?_
    split
    · rename_i c _ _ _ _ _
      cases (c == Value.type "enumerate")
      · wp_walk using wpAny_loadPart' hl, wpAny_pyIter_tuple hL
        exact ⟨_, rfl, h⟩
      · wp_walk using wpAny_loadPart' hl, wpAny_pyIter_tuple hL
        exact ⟨_, rfl, h⟩
    · wp_walk using wpAny_loadPart' hl, wpAny_pyIter_tuple hL
      exact ⟨_, rfl, h⟩
section
variable {prog : Program} {w : World} {A : Around} {E : Value → Shared → Prop} {s : Shared}
theorem call_enumT {l : Addr} {items : Array Value} {Q : Value → Shared → Prop} (hL : s.heap.IsTuple l items)
    (h : ∀ h', IsEnum h' (s.heap.objs.size + 1) s.heap.objs.size 0 .none → h'.IsTupleIter s.heap.objs.size l 0 → h'.objs.size = s.heap.objs.size + 2 →
      (∀ b o, s.heap.get? b = some o → h'.get? b = some o) → Q (.ref (s.heap.objs.size + 1)) { s with heap := h' }) :
    wpAny (model prog w) A (call (.type "enumerate") [.ref l]) Q E s := by
  obtain ⟨⟨c, dct, dt, sl⟩, hl, hc, n, hd⟩ := hL
  replace hc : c = .type "tuple" := hc
  replace hd : dt = .seq items n := hd
  subst hc hd
  refine callType_new F.called_enumerate (by decide) (F.typeCall_enumerate_1 _) (F.newCall_enumerate_1 _) (fun obj => F.args_object_init_2 obj _) F.entry_enumerate_new
    (meets_enumT l items n dct sl) ⟨hl, ?_⟩
  have hz : (s.heap.push { cls := .type "tuple_iterator", data := .fields #[.ref l, .int 0 0] }).objs.size = s.heap.objs.size + 1 := Heap.size_push ..
  show _ ∧ _
  rw [hz]
  have he : IsEnum ((s.heap.push { cls := .type "tuple_iterator", data := .fields #[.ref l, .int 0 0] }).push
      { cls := .type "enumerate", data := .fields #[.none, .bool false, .ref s.heap.objs.size, rawInt 0, .none, .none] }) (s.heap.objs.size + 1) s.heap.objs.size 0 .none := by
    have := Heap.get?_push_size (s.heap.push { cls := .type "tuple_iterator", data := .fields #[.ref l, .int 0 0] })
      (o := { cls := .type "enumerate", data := .fields #[.none, .bool false, .ref s.heap.objs.size, rawInt 0, .none, .none] }) rfl
    rw [hz] at this; exact this
  refine ⟨⟨_, he, rfl⟩, h _ he ⟨_, Heap.get?_push_of_some _ (Heap.get?_push_size _ rfl), rfl, rfl⟩ (by rw [Heap.size_push, hz]) fun b o x => Heap.get?_push_of_some _ (Heap.get?_push_of_some _ x)⟩
end
theorem wpAny_pyNext_enum_endT {prog : Program} {w : World} {A : Around} {E : Value → Shared → Prop} {s : Shared} {e it l : Addr} {i : Nat} {items : Array Value} {old : Value} {Q : Option Value → Shared → Prop} (hh : A.handled = none)
    (he : IsEnum s.heap e it i old) (hit : s.heap.IsTupleIter it l i) (hl : s.heap.IsTuple l items) (hx : items[i]? = none)
    (hQ : ∀ h', Heap.ExtBut it s.heap h' → Q none { s with heap := h' }) : wpAny (model prog w) A (pyNext (.ref e)) Q E s := by
  have hT : s.TypeIs (.ref e) "enumerate" := ⟨_, he, rfl⟩
  unfold pyNext
  refine wpAny_bind (wpAny_attempt (wpAny_callSpecial?_slot (name := Str.ofString "__next__") hT F.slot_enumerate_next
    (wpAny_call_entry F.slot_enumerate_next hT F.entry_enumerate_next ?_ (F.args_enumerate_next_1 _))))
  show wpAny _ _ (field (.ref e) 2 >>= _) _ _ _
  refine wpAny_bind (wpAny_field he rfl (x := .ref it) rfl ?_)
  refine wpAny_bind (wpAny_nextOf_tuple_end hh hit hl hx fun h' x he' hx' => ?_)
  obtain ⟨o, ho, hc⟩ := hx'
  refine wpAny_bind (wpAny_isInstance (T := "StopIteration") (b := true) ⟨o, ho, hc⟩ isSubtype_stop ?_)
  exact wpAny_pure (hQ _ he')
def IteT (K : PySem.W.Frag) (a : Addr) : It :=
  ⟨fun i H => ∃ (xs : List V) (x : V), SqT K H a xs ∧ xs[i]? = some x, fun i H v H' => ∃ T x, v = .ref T ∧ H T = none ∧ H' = upd H T (.tup [.int (i : Nat), x]) ∧ ∀ xs, SqT K H a xs → xs[i]? = some x, fun i H => ∃ xs : List V, SqT K H a xs ∧ xs.length ≤ i⟩
theorem turn_enumT {P : Program} {w : World} {K : PySem.W.Frag} {elts : List Expr} {kk : Nat} {tpos : Pos} {a e it : Addr} (ha : a ≠ it) (hae : a ≠ e) :
    Turn P w K (.Tuple elts kk tpos) (IteT K a) [e, it] e (fun i h => (∃ old, IsEnum h e it ((i : Nat) : Int) old) ∧ h.IsTupleIter it a i ∧ e ≠ it) where
  mem := by simp
  obj := fun i h st b hb => by
    obtain ⟨⟨old, he⟩, ⟨o, ho, hc, hd⟩, _⟩ := st
    have e' : b = e ∨ b = it := by simpa using hb
    rcases e' with z | z
    · rw [z]; exact ⟨_, he, fun v q => nomatch q⟩
    · rw [z]; exact ⟨o, ho, fun v q => by rw [hd] at q; cases q⟩
  keep := fun i h h' st k => let ⟨⟨old, he⟩, hi, hne⟩ := st; ⟨⟨old, k e (by simp) _ he⟩, hi.at fun o q => k it (by simp) o q, hne⟩
  item := by
    intro X hP hw hK hc i pins s σ H E I hf st hg
    subst hP hw hK
    obtain ⟨⟨old, he⟩, hit, hne⟩ := st
    obtain ⟨xs, x, hq, hx⟩ := hg
    obtain ⟨its, rv, p, hz⟩ := I.tuple hq
    obtain ⟨u, hu, ru⟩ := rv.get hx
    have hel : e < s.heap.objs.size := Heap.lt_size he
    have hil : it < s.heap.objs.size := by obtain ⟨_, q, _⟩ := hit; exact Heap.lt_size q
    have hi : i < its.toArray.size := by rw [List.size_toArray]; exact (List.getElem?_eq_some_iff.mp hu).1
    refine wpAny_pyNext_enum_itemD (Draws.tuple (A := X.A.in1) (I.ok.hd hc) it a ha its.toArray) he ⟨hit, p⟩ hi hne (by simp [hne, Ne.symm hae]) fun y h' tk hy ho st' hT hsz hk => ?_
    have hyu : y = u := by
      have hy : its.toArray[i]? = some y := hy
      have h2 : its[i]? = some y := by simpa using hy
      rw [hu] at h2
      exact (Option.some.inj h2).symm
    subst hyu
    refine ⟨_, rfl, wpAny_letOwnedTupleGo_enum (s := { s with heap := h', toks := tk + 1 }) ho fun h'' he' sb => ?_⟩
    have hT2 : h''.get? s.heap.objs.size = some { cls := .type "tuple", data := .seq #[.int i tk, y] } := (sb.2 _ (Nat.ne_of_gt hel)).trans hT
    have new : ObjOk X.prog X.w (upd H s.heap.objs.size (.tup [.int (i : Nat), x])) h'' s.heap.objs.size (.tup [.int (i : Nat), x]) :=
      ⟨by show 2 ≤ sizeLine; decide, [.int i tk, y], .cons ⟨_, rfl⟩ (.cons ru .nil), ⟨_, hT2, rfl, _, rfl⟩⟩
    have I1 : L2.Inv X pins σ (upd H s.heap.objs.size (.tup [.int (i : Nat), x])) { s with heap := h'', toks := tk + 1 } :=
      I.turnedNew (ch := [e, it]) (fun b ob hb q => (sb.2 b (fun z => hb (by simp [z]))).trans (hk b ob (fun z => hb (by simp [z])) (fun z => hb (by simp [z])) q)) hf (Nat.le_refl _) new
    refine ⟨.ref s.heap.objs.size, _, I1, rfl, ⟨_, x, rfl, I.hok.fresh (Nat.le_refl _), rfl, fun ys hy => by rw [I.tuple_inj hy hq]; exact hx⟩, ⟨⟨y, ?_⟩, st'.1.at fun o q => (sb.2 it (Ne.symm hne)).trans q, hne⟩, fun b hb => ?_⟩
    · have e1 : ((i + 1 : Nat) : Int) = (i : Int) + 1 := by omega
      rw [e1]; exact he'
    · have hb' : b < s.heap.objs.size := by
        have e' : b = e ∨ b = it := by simpa using hb
        rcases e' with z | z
        · rw [z]; exact hel
        · rw [z]; exact hil
      rw [upd_ne (Nat.ne_of_lt hb')]
      exact (hf b hb).1
  done := by
    intro X hP hw hK hc i pins s σ H E I hf st hg
    subst hP hw hK
    obtain ⟨⟨old, he⟩, hit, hne⟩ := st
    obtain ⟨xs, hq, hx⟩ := hg
    obtain ⟨its, rv, p, hz⟩ := I.tuple hq
    obtain ⟨f0, f1, f2, f3, f4, f5⟩ := hf it (by simp)
    have hl := rv.length
    exact wpAny_pyNext_enum_endT (I.ok.hd hc) he hit p (by simp; omega) fun h' eb => ⟨rfl, I.turned (t' := s.toks) (fun b o hb q => eb b o hb q) f0 f1 f3 f4 f5⟩
  self := fun A i s Q E st h => let ⟨⟨_, he⟩, _⟩ := st; wpAny_pyIter_enum he h
def iEnumT (K : PySem.W.Frag) (ta : TA) : TI := fun σ H R => ta σ H fun vs H1 => ∃ a xs, vs = [.ref a] ∧ SqT K H1 a xs ∧ R (IteT K a) H1
theorem pi_enumT {X : Cx} {e : Expr} {ta : TA} {p pos tpos : Pos} {elts : List Expr} {kk : Nat} (hg : Gl X "enumerate") (hm : X.mg "enumerate" = none) (ha : PA X [e] ta) (hs : starEach [e] X.env = [(false, eval e X.env)] := by rfl) :
    PI X (.Tuple elts kk tpos) (.Call (.Name "enumerate" p) [e] [] pos) (iEnumT X.K ta) := by
  refine ⟨fun pins s σ H R I h => ?_⟩
  refine Call_ (ld_blt I hg hm boot_enumerate (PyProof.Rows.callWith_type1 (thn (ha.run pos pins s σ H _ I h) fun us s1 ⟨vs, H1, I1, r1, q1⟩ => ?_) hs rfl))
  obtain ⟨a, xs, ex, hq, q⟩ := q1
  subst ex
  cases r1 with
  | cons r rr =>
    cases rr
    cases r
    obtain ⟨its, rv, p', hz⟩ := I1.tuple hq
    refine call_enumT (show s1.heap.IsTuple a its.toArray from p') fun h' he hit hsz hk => wpAny_pyIter_enum he ?_
    have I2 : L2.Inv X pins σ H1 { s1 with heap := h' } := I1.kept (t' := s1.toks) hk
    have hlt : a < s1.heap.objs.size := p'.lt
    refine ⟨s1.heap.objs.size + 1, [s1.heap.objs.size + 1, s1.heap.objs.size], _, _, H1, rfl, I2, turn_enumT (a := a) (e := s1.heap.objs.size + 1) (it := s1.heap.objs.size) (Nat.ne_of_lt hlt) (Nat.ne_of_lt (Nat.lt_succ_of_lt hlt)), ⟨⟨.none, he⟩, hit, Nat.succ_ne_self _⟩, fun b hb => ?_, q⟩
    have e' : b = s1.heap.objs.size + 1 ∨ b = s1.heap.objs.size := by simpa using hb
    have hle : s1.heap.objs.size ≤ b := by
      rcases e' with z | z
      · rw [z]; exact Nat.le_add_right _ _
      · rw [z]; exact Nat.le_refl _
    exact I1.fpOk hle (I1.hok.fresh hle)
section
variable {X : Cx} {W : String → L2.St → Hp → Prop} {p pos : Pos} {a : Expr} {fs : En → M (List R)}
def itEnumT (rs : List R) : M (List D) := fun st => match rs with
  | [.d (.tuple xs)] => .ok (enumD 0 xs) st
  | _ => .no
theorem i_enumT {elts : List Expr} {kk : Nat} {tpos : Pos} (hg : Gl X "enumerate") (hm : X.mg "enumerate" = none) (ha : PA X [a] (trA (cx X W) fs)) (hs : starEach [a] X.env = [(false, eval a X.env)] := by rfl) :
    PI X (.Tuple elts kk tpos) (.Call (.Name "enumerate" p) [a] [] pos) (trI (cx X W) (dItC itEnumT fs)) := by
  refine PI.imp (pi_enumT hg hm ha hs) fun σ H Rr ⟨env, st, g, R0, q⟩ => ⟨env, st, g, R0, Post.mono (Post.bind (.refl H g) q) fun rs g1 H1 ⟨st1, _, R1, x, _, q⟩ vs rv fr => ?_⟩
  unfold itEnumT at q
  split at q
  · rename_i xs
    obtain ⟨v, rfl, h1⟩ := rvl1 rv
    obtain ⟨a, as, rfl, a1, a2⟩ := Df.tup_inv h1
    refine ⟨a, as, rfl, R1.sub.sqt a1, q g1 H1 x R1 _ ⟨fun g' H' i le s hl => ⟨as, s.sqt (sqt_le le a1), ?_⟩, fun g' H' i z le s e => ?_⟩⟩
    · rw [a2.length]
      rw [enumD_len] at hl; exact hl
    · obtain ⟨y, f1, rfl⟩ := enumD_get e
      obtain ⟨v1, l1, d1⟩ := a2.get f1
      refine ⟨⟨as, v1, s.sqt (sqt_le le a1), l1⟩, fun u H'' ⟨T, w, e1, e2, e3, e4⟩ => ?_⟩
      have c1 := e4 as (s.sqt (sqt_le le a1))
      rw [l1] at c1; cases c1
      have e5 : ((0 + i : Nat) : Int) = (i : Int) := by simp
      rw [e5]
      exact yd_pair rfl s e2 e1 e3 (.int _) (Df.le le d1)
  · exact q.elim
end
end N

namespace N
open PySem PySem.Spec L2 PyProof.Rows
variable {X : Cx} {W : String → L2.St → Hp → Prop}
/-! ### is True, is not True -/
def oIsB (neg : Bool) (a b : R) : M R := match a, b with
  | .d (.bool x), .d (.bool y) => M.ret (.d (.bool (neg ^^ decide (x = y))))
  | _, _ => M.no
theorem or_isB : OpR X (compareOp .Is) (rr2 (cx X W) (oIsB false)) := by
  intro pins s σ H x y v u Q I rx ry ⟨env, σ', st, g, H0, g0, r1, r2, A⟩
  obtain ⟨B, v1, -, v2, -, -, q⟩ := A
  unfold oIsB at q
  split at q
  · rename_i a b
    have v1' : Df X.K g x (.bool a) := v1
    have v2' : Df X.K g y (.bool b) := v2
    cases v1'
    cases v2'
    exact op_isBl pins s σ H _ _ v u Q I rx ry ⟨_, _, rfl, rfl, B.fin_d q (by rw [Bool.false_xor]; exact .bl _)⟩
  · exact q.elim
theorem or_notB : OpR X (compareOp .IsNot) (rr2 (cx X W) (oIsB true)) := by
  intro pins s σ H x y v u Q I rx ry ⟨env, σ', st, g, H0, g0, r1, r2, A⟩
  obtain ⟨B, v1, -, v2, -, -, q⟩ := A
  unfold oIsB at q
  split at q
  · rename_i a b
    have v1' : Df X.K g x (.bool a) := v1
    have v2' : Df X.K g y (.bool b) := v2
    cases v1'
    cases v2'
    exact op_notBl pins s σ H _ _ v u Q I rx ry ⟨_, _, rfl, rfl, B.fin_d q (by rw [Bool.true_xor]; exact .bl _)⟩
  · exact q.elim
end N

/-! N36: exceptions: raise, calls that let them out, calls of a def in a slot. -/
namespace N
open PySem PySem.Spec L2 PyProof.Rows

/-- a wish by the names of classes, as one of the hand layer -/
def wx (mg : Str → Option Value) (W : String → L2.St → Hp → Prop) : WX := fun cls d σ H => ∃ (n : String) (C : Addr), cls = .ref C ∧ d = Option.none ∧ mg (n : Str) = some (.ref C) ∧ W n σ H
/-- .. the other way about -/
def xw (mg : Str → Option Value) (W : WX) : String → L2.St → Hp → Prop := fun n σ H => ∀ C, mg (n : Str) = some (.ref C) → W (.ref C) Option.none σ H
/-- what leaves a body -/
def wE (mg : Str → Option Value) (E : XK) : String → L2.St → Hp → Prop := xw mg fun cls d _ H => E cls d H
abbrev TkX (X : Cx) (W : String → L2.St → Hp → Prop) : Prop := L2N.Takes X (wx X.mg W)
theorem TkX.of {X : Cx} {W : WX} (t : L2N.Takes X W) : TkX X (xw X.mg W) := t.imp fun c d σ H h => by
  obtain ⟨n, C, rfl, rfl, hm, h⟩ := h
  exact h C hm

/-! ### a def that may raise -/
def spX (K : PySem.W.Frag) (mg : Str → Option Value) (n : Nat) (F : List D → M R) : Sp := fun vs H Q E => ∃ g st ds, ds.length = n ∧ RelC K g st H ∧ DfA K g vs ds ∧ PostD K H g (F ds st) Q fun e H' => ∀ C, mg (e : Str) = some (.ref C) → E (.ref C) Option.none H'
theorem fn_okX {P : Program} {w : World} {K : PySem.W.Frag} {mg : Str → Option Value} {base : Heap} {x qual : Str} {sd : Stmt} {f : Addr} {fd : FuncData} {N ps : List Str} {k : Nat} (F : Fun K x qual sd f fd) (S : FnScope N ps (defScope sd)) {T : SM}
    (hb : ∀ (cdv : Value) (A : Around) (outer : List Env) (s : Shared) (H : Hp) (E : XK), Room k (A.deeper (envOfC qual (defScope sd) s.heap.objs.size f cdv)) → ∀ (H0 : Hp) (g0 : Gh),
      PSs (cxOf (L2N.CX P w) P w K mg base N qual (defScope sd) f cdv A outer s H E) (defBody sd) (trS ⟨K, wE mg E⟩ H0 g0 T)) :
    FnOk P w K mg base (L2N.CX P w) (k + 1) f fd ps (spX K mg ps.length (fnP N.length T)) := by
  obtain ⟨oc, od, kV, doc, pm, an, cdv, ct, osl, rfl, lk, hcd⟩ := F.ex
  refine fn_of lk hcd S (fun vs H Q E h => ?_) fun A outer s H vs Q E hr h => ?_
  · obtain ⟨g, st, ds, hn, _, hd, _⟩ := h
    rw [hd.length, hn]
  · obtain ⟨g, st, ds, hn, C, hd, q⟩ := h
    refine ⟨_, hb cdv A outer s H E hr H g, env0 N.length ds, st, g, g, ⟨C.start hd, .refl H g, .refl g, fun i r a e o => ?_⟩, ?_⟩
    · obtain ⟨x, _, rfl⟩ := env0_get e
      cases o
    · unfold fnP at q
      cases e : T (env0 N.length ds) st with
      | no => rw [e] at q; exact q
      | ex n s' =>
        rw [e] at q
        exact fun env σ H' g' R' => q H' g' R'.e R'.rel.toC
      | ok p s' =>
        obtain ⟨fl, env'⟩ := p
        rw [e] at q
        intro σ H' g' R'
        cases fl with
        | nx => exact q .non H' g' R'.e R'.rel.toC .non fun z => nomatch z
        | brk => exact q.elim
        | ct => exact q.elim
        | ret r => exact fun v rv fr => q v H' g' R'.e R'.rel.toC rv fr
/-- .. and its promise -/
def FdX (P : Program) (w : World) (K : PySem.W.Frag) (mg : Str → Option Value) (base : Heap) (k : Nat) (x : Str) (ps : List Str) (F : List D → M R) : Prop :=
  ∃ f fd, FnOk P w K mg base (L2N.CX P w) k f fd ps (spX K mg ps.length F) ∧ mg x = some (.ref f) ∧ PySem.W.keepIn K (.ref f) = true ∧ Binds K fd ps []
theorem tk_body {P : Program} {w : World} {K : PySem.W.Frag} {mg : Str → Option Value} {base : Heap} {N : List Str} {qual : Str} {scope : Scope} {f : Addr} {cdv : Value} {A : Around} {outer : List Env} {s : Shared} {H : Hp} {E : XK} :
    TkX (cxOf (L2N.CX P w) P w K mg base N qual scope f cdv A outer s H E) (wE mg E) := TkX.of (L2N.takes_of rfl rfl rfl rfl)
theorem po_body {P : Program} {w : World} {K : PySem.W.Frag} {mg : Str → Option Value} {base : Heap} {N : List Str} {qual : Str} {scope : Scope} {f : Addr} {cdv : Value} {A : Around} {outer : List Env} {s : Shared} {H : Hp} {E : XK} :
    PassesOwn (model (cxOf (L2N.CX P w) P w K mg base N qual scope f cdv A outer s H E).prog (cxOf (L2N.CX P w) P w K mg base N qual scope f cdv A outer s H E).w) (cxOf (L2N.CX P w) P w K mg base N qual scope f cdv A outer s H E).A (cxOf (L2N.CX P w) P w K mg base N qual scope f cdv A outer s H E).env (cxOf (L2N.CX P w) P w K mg base N qual scope f cdv A outer s H E).xe :=
  passes_of (K := fun e s'' => L2N.CX P w outer H s E e s'') rfl
theorem fdX_mk {P : Program} {w : World} {K : PySem.W.Frag} {mg : Str → Option Value} {base : Heap} {x : Str} {sd : Stmt} {N ps : List Str} {k : Nat} (h : DefAt K mg x sd ps) (S : FnScope N ps (defScope sd)) {T : SM}
    (hb : ∀ (f : Addr) (cdv : Value) (A : Around) (outer : List Env) (s : Shared) (H : Hp) (E : XK), Room k (A.deeper (envOfC x (defScope sd) s.heap.objs.size f cdv)) → ∀ (H0 : Hp) (g0 : Gh),
      PSs (cxOf (L2N.CX P w) P w K mg base N x (defScope sd) f cdv A outer s H E) (defBody sd) (trS ⟨K, wE mg E⟩ H0 g0 T)) :
    FdX P w K mg base (k + 1) x ps (fnP N.length T) := by
  obtain ⟨f, fd, F, b, m⟩ := h
  exact ⟨f, fd, fn_okX F S (hb f), m, F.kp, b⟩

/-! ### raise X() -/
def dRaise (n : String) : SM := fun _ st => .ex n st
/-- an exception class of the text -/
def ExcAt (K : PySem.W.Frag) (mg : Str → Option Value) (n : String) : Prop := ∃ C, mg (n : Str) = some (.ref C) ∧ PySem.W.excIn K C [.type "ValueError", .type "Exception", .type "BaseException", .type "object"] "ValueError.__new__" = true ∧ PySem.W.keepIn K (.ref C) = true ∧
  PySem.W.subIn K (.ref C) (.type "BaseException") = some true ∧ PySem.W.typeIn K (.ref C) = some (.type "type")
section
variable {X : Cx} {W : String → L2.St → Hp → Prop} {pos p : Pos} {H0 : Hp} {g0 : Gh} {e : Expr} {es : List Expr} {fs : En → M (List R)} {k n : Nat} {ps : List Str} {F : List D → M R} {x : Str}
theorem pmk0 {x : Str} {C : Addr} (q : PySem.W.excIn X.K C [.type "ValueError", .type "Exception", .type "BaseException", .type "object"] "ValueError.__new__" = true) (gC : X.mg x = some (.ref C)) (kC : PySem.W.keepIn X.K (.ref C) = true) (r : Raises X (.ref C)) (hg : Gl X x)
    (hdb : (x == ("__debug__" : Str)) = false := by decide) : L2N.PMk X (.Call (.Name x p) [] [] pos) (fun _ H Q => Q (.ref C) Option.none H) := by
  intro pins s σ H Q I h
  refine wpAny_Call_Name_kw (ld_glob I hg gC ?_ hdb)
  refine PySem.W.callWith_K0 I.kIn kC ?_
  obtain ⟨bm, N, nm, qn, bs, hdct, sn, sub, ab, col, dd, k0, k1, k2, k3, k5, mN, hC, hN, hni, T⟩ := exc_obj I.kIn q
  refine wpAny_call_exc_subT PySem.F.excBase_ValueError T hC hN hni (fun h' e hm => ?_) (by show 0 ≤ sizeLine; rw [sizeLine_eq]; omega)
  exact L2N.mk_of I hm r h (I.hok.gone hm.new)
theorem s_raise {n : String} (h : ExcAt X.K X.mg n) (hc : X.calm = true) (tk : TkX X W) (hg : Gl X (n : Str) := by rfl) (hdb : ((n : Str) == ("__debug__" : Str)) = false := by decide) : PS X (.Raise (some (.Call (.Name (n : Str) p) [] [] pos)) Option.none pos) (trS (cx X W) H0 g0 (dRaise n)) := by
  obtain ⟨C, hm, h1, h2, h3, h4⟩ := h
  exact PS.imp (L2N.ps_raise hc tk (pmk0 h1 hm h2 (raises_own h3 h4) hg hdb)) fun D σ H ⟨env, st, g, lo, R0, q⟩ => ⟨n, C, rfl, rfl, hm, q env σ H g R0⟩
theorem s_raise' {n : String} {pos2 : Pos} (h : ExcAt X.K X.mg n) (hc : X.calm = true) (tk : TkX X W) (hg : Gl X (n : Str) := by rfl) (hdb : ((n : Str) == ("__debug__" : Str)) = false := by decide) : PS X (.Raise (some (.Call (.Name (n : Str) p) [] [] pos)) Option.none pos2) (trS (cx X W) H0 g0 (dRaise n)) := by
  obtain ⟨C, hm, h1, h2, h3, h4⟩ := h
  exact PS.imp (L2N.ps_raise hc tk (pmk0 h1 hm h2 (raises_own h3 h4) hg hdb)) fun D σ H ⟨env, st, g, lo, R0, q⟩ => ⟨n, C, rfl, rfl, hm, q env σ H g R0⟩

/-! ### calls -/
def opSX (n : Nat) (F : List D → M R) (rs : List R) : M R := fun st => match kpAll rs with
  | some ds => if ds.length = n then F ds st else .no
  | none => .no
def opCX (n : Nat) (F : List D → M R) (rs : List R) : M R := fun st => match kpAll rs with
  | some ds => if ds.length = n then (match F ds [.c] with
    | .ok r _ => .ok r st
    | .ex m _ => .ex m st
    | .no => .no) else .no
  | none => .no
theorem callX_S {n : Nat} {c : Ct} {mg : Str → Option Value} {env : En} {σ : L2.St} {st : Sto} {g : Gh} {H H0 : Hp} {g0 : Gh} {Q : VK} {vs : List V} {rs : List R} (b : Bs c H env σ st g H0 g0) (rv : RvL c.K g H vs rs) (fr : FrL H0 vs rs) (q : PostC c env σ H0 g0 g (opSX n F rs st) (qE c H0 Q)) :
    spX c.K mg n F vs H Q (WE (wx mg c.W) σ) := by
  unfold opSX at q
  split at q
  · rename_i ds ek
    split at q
    · rename_i hn
      obtain ⟨g1, le, b1, hd⟩ := b.frzL rv fr ek
      refine ⟨g1, st, ds, hn, b1.rel.toC, hd, ?_⟩
      cases eF : F ds st with
      | ok r s =>
        rw [eF] at q
        exact fun v H' g' x C rv' fr' => q g' H' (b1.e.trans x) (le.trans x.le) (b1.rel.after x C) v rv' (fr'.ext b1.e)
      | ex m s =>
        rw [eF] at q
        exact fun H' g' x C D hm => ⟨m, D, rfl, rfl, hm, q g' H' (b1.e.trans x) (le.trans x.le) (b1.rel.after x C)⟩
      | no => rw [eF] at q; exact q
    · exact q.elim
  · exact q.elim
theorem callX_C {n : Nat} {c : Ct} {mg : Str → Option Value} {env : En} {σ : L2.St} {st : Sto} {g : Gh} {H H0 : Hp} {g0 : Gh} {Q : VK} {vs : List V} {rs : List R} (b : Bs c H env σ st g H0 g0) (rv : RvL c.K g H vs rs) (fr : FrL H0 vs rs) (q : PostC c env σ H0 g0 g (opCX n F rs st) (qE c H0 Q)) :
    spX c.K mg n F vs H Q (WE (wx mg c.W) σ) := by
  unfold opCX at q
  split at q
  · rename_i ds ek
    split at q
    · rename_i hn
      obtain ⟨g1, le, b1, hd⟩ := b.frzL rv fr ek
      refine ⟨g1.shut, [.c], ds, hn, b1.rel.toC.shut, DfA.grow (g := g1) (g2 := g1.shut) (fun _ _ e => e) rfl rfl hd, ?_⟩
      cases eF : F ds [.c] with
      | ok r s =>
        rw [eF] at q
        intro v H' g' x C rv' fr'
        obtain ⟨x', R'⟩ := b1.rel.opened x C
        exact q _ H' (b1.e.trans x') (le.trans x'.le) R' v (Rv.grow (g := g') (g2 := { g' with cl := g1.cl }) rfl rfl rfl rv') (fr'.ext b1.e)
      | ex m s =>
        rw [eF] at q
        intro H' g' x C D hm
        obtain ⟨x', R'⟩ := b1.rel.opened x C
        exact ⟨m, D, rfl, rfl, hm, q _ H' (b1.e.trans x') (le.trans x'.le) R'⟩
      | no => rw [eF] at q; exact q
    · exact q.elim
  · exact q.elim
/-- an operation that a callee of that promise may stand for -/
def CallX (n : Nat) (F : List D → M R) (op : List R → M R) : Prop := ∀ {c : Ct} {mg : Str → Option Value} {env : En} {σ : L2.St} {st : Sto} {g : Gh} {H H0 : Hp} {g0 : Gh} {Q : VK} {vs : List V} {rs : List R}, Bs c H env σ st g H0 g0 → RvL c.K g H vs rs → FrL H0 vs rs → PostC c env σ H0 g0 g (op rs st) (qE c H0 Q) → spX c.K mg n F vs H Q (WE (wx mg c.W) σ)
theorem e_callX {op : List R → M R} (hop : CallX ps.length F op) (h : FdX X.prog X.w X.K X.mg X.base k x ps F) (hr : Room k X.A) (tk : TkX X W) (ha : PA X (e :: es) (trA (cx X W) fs)) (hg : Gl X x := by rfl) (hdb : (x == ("__debug__" : Str)) = false := by decide) (he : starEach (e :: es) X.env = (false, eval e X.env) :: starEach es X.env := by rfl) (hpl : (backTo pos (starEach es X.env)).any (·.1) = false := by rfl) :
    PE X (.Call (.Name x p) (e :: es) [] pos) (tr (cx X W) (dCall op fs)) := by
  obtain ⟨f, fd, G, m, kp, b⟩ := h
  refine PE.imp (pe_callS (E := WE (wx X.mg W)) G hr hg m kp b (fun σ => L2N.passAt tk σ) ha hdb he hpl) fun σ H Q h => ?_
  obtain ⟨env, st, g, R0, h⟩ := h
  refine ⟨env, st, g, R0, Post.mono (Post.bind (.refl H g) h) fun rs g1 H1 ⟨st1, _, R1, x, _, q⟩ vs rv fr => ?_⟩
  exact hop (c := cx X W) ⟨x, R1, R0.sl⟩ rv fr q.toC
theorem e_SX (h : FdX X.prog X.w X.K X.mg X.base k x ps F) (hr : Room k X.A) (tk : TkX X W) (ha : PA X (e :: es) (trA (cx X W) fs)) (hn : ps.length = n := by rfl) (hg : Gl X x := by rfl) (hdb : (x == ("__debug__" : Str)) = false := by decide) (he : starEach (e :: es) X.env = (false, eval e X.env) :: starEach es X.env := by rfl) (hpl : (backTo pos (starEach es X.env)).any (·.1) = false := by rfl) :
    PE X (.Call (.Name x p) (e :: es) [] pos) (tr (cx X W) (dCall (opSX n F) fs)) := by
  subst hn
  exact e_callX (fun b rv fr q => callX_S b rv fr q) h hr tk ha hg hdb he hpl
theorem e_CX (h : FdX X.prog X.w X.K X.mg X.base k x ps F) (hr : Room k X.A) (tk : TkX X W) (ha : PA X (e :: es) (trA (cx X W) fs)) (hn : ps.length = n := by rfl) (hg : Gl X x := by rfl) (hdb : (x == ("__debug__" : Str)) = false := by decide) (he : starEach (e :: es) X.env = (false, eval e X.env) :: starEach es X.env := by rfl) (hpl : (backTo pos (starEach es X.env)).any (·.1) = false := by rfl) :
    PE X (.Call (.Name x p) (e :: es) [] pos) (tr (cx X W) (dCall (opCX n F) fs)) := by
  subst hn
  exact e_callX (fun b rv fr q => callX_C b rv fr q) h hr tk ha hg hdb he hpl
/-- .. where nothing is let out -/
theorem tk_no {X : Cx} : TkX X W0 := fun _ _ x => by
  obtain ⟨_, _, _, _, _, _, _, _, _, _, _, _, _, _, _, _, _, _, _, _, _, z⟩ := x
  exact z.elim
theorem spX_S {n : Nat} {c : Ct} {mg : Str → Option Value} {H : Hp} {Q : VK} {vs : List V} {E : XK} (h : rrL c (opS n F) vs H Q) : spX c.K mg n F vs H Q E := by
  obtain ⟨g, st, ds, h1, h2, h3, h4⟩ := call_S (σ := []) (E := E) h
  refine ⟨g, st, ds, h1, h2, h3, ?_⟩
  cases e : F ds st with
  | ok r s => rw [e] at h4; exact h4
  | ex m s => rw [e] at h4; exact fun H' g' x C D hm => (h4 H' g' x C).elim
  | no => rw [e] at h4; exact h4
theorem spX_C {n : Nat} {c : Ct} {mg : Str → Option Value} {H : Hp} {Q : VK} {vs : List V} {E : XK} (h : rrL c (opC n F) vs H Q) : spX c.K mg n F vs H Q E := by
  obtain ⟨g, st, ds, h1, h2, h3, h4⟩ := call_C (σ := []) (E := E) h
  refine ⟨g, st, ds, h1, h2, h3, ?_⟩
  cases e : F ds st with
  | ok r s => rw [e] at h4; exact h4
  | ex m s => rw [e] at h4; exact fun H' g' x C D hm => (h4 H' g' x C).elim
  | no => rw [e] at h4; exact h4
theorem pass_no {X : Cx} (σ : L2.St) : PassesAt (L2N.CX X.prog X.w) X σ E0 := fun _ _ _ _ _ _ h => by
  obtain ⟨_, _, _, _, _, _, _, _, _, _, _, _, z⟩ := h
  exact z.elim
theorem e_callN {op : List R → M R} (hop : ∀ {c : Ct} {mg : Str → Option Value} {H : Hp} {Q : VK} {vs : List V} {E : XK}, rrL c op vs H Q → spX c.K mg ps.length F vs H Q E) (h : FdX X.prog X.w X.K X.mg X.base k x ps F) (hr : Room k X.A) (ha : PA X (e :: es) (trA (cx X W) fs)) (hg : Gl X x := by rfl) (hdb : (x == ("__debug__" : Str)) = false := by decide) (he : starEach (e :: es) X.env = (false, eval e X.env) :: starEach es X.env := by rfl) (hpl : (backTo pos (starEach es X.env)).any (·.1) = false := by rfl) :
    PE X (.Call (.Name x p) (e :: es) [] pos) (tr (cx X W) (dCall op fs)) := by
  obtain ⟨f, fd, G, m, kp, b⟩ := h
  refine PE.imp (pe_callS (E := fun _ => E0) G hr hg m kp b pass_no ha hdb he hpl) fun σ H Q h => ?_
  obtain ⟨env, st, g, R0, q⟩ := trL h
  exact ⟨env, st, g, R0, Post.mono q fun rs g1 H1 q1 vs rv fr => hop (c := cx X W) (q1 vs rv fr)⟩
theorem e_SN (h : FdX X.prog X.w X.K X.mg X.base k x ps F) (hr : Room k X.A) (ha : PA X (e :: es) (trA (cx X W) fs)) (hn : ps.length = n := by rfl) (hg : Gl X x := by rfl) (hdb : (x == ("__debug__" : Str)) = false := by decide) (he : starEach (e :: es) X.env = (false, eval e X.env) :: starEach es X.env := by rfl) (hpl : (backTo pos (starEach es X.env)).any (·.1) = false := by rfl) :
    PE X (.Call (.Name x p) (e :: es) [] pos) (tr (cx X W) (dCall (opS n F) fs)) := by
  subst hn
  exact e_callN spX_S h hr ha hg hdb he hpl
theorem e_CN (h : FdX X.prog X.w X.K X.mg X.base k x ps F) (hr : Room k X.A) (ha : PA X (e :: es) (trA (cx X W) fs)) (hn : ps.length = n := by rfl) (hg : Gl X x := by rfl) (hdb : (x == ("__debug__" : Str)) = false := by decide) (he : starEach (e :: es) X.env = (false, eval e X.env) :: starEach es X.env := by rfl) (hpl : (backTo pos (starEach es X.env)).any (·.1) = false := by rfl) :
    PE X (.Call (.Name x p) (e :: es) [] pos) (tr (cx X W) (dCall (opC n F) fs)) := by
  subst hn
  exact e_callN spX_C h hr ha hg hdb he hpl

/-! ### defs as values -/
theorem e_fn {f : Addr} (h : PySem.W.nsIn X.K mainGlobals x = some (some (.ref f))) (hm : X.mg x = some (.ref f)) (hg : Gl X x := by rfl) (hdb : (x == ("__debug__" : Str)) = false := by decide) : PE X (.Name x pos) (tr (cx X W) (eC (fnD x))) :=
  PE.imp (pe_glob (v := .ref f) hg hm rfl hdb) (tr_c fun _ => .fn x h)
end
end N

/-! N37: calls of a def that a slot holds. -/
namespace N
open PySem PySem.Spec L2 PyProof.Rows
/-- a def of the text, where it stands -/
def FnV (K : PySem.W.Frag) (mg : Str → Option Value) (x : Str) : Prop := ∃ f, PySem.W.nsIn K mainGlobals x = some (some (.ref f)) ∧ mg x = some (.ref f)
def fnOf : D → Option Str
  | .dict [(.none, .str x)] => some x
  | _ => none
@[simp] theorem fnOf_fnD (x : Str) : fnOf (fnD x) = some x := rfl
theorem fnOf_some {K : PySem.W.Frag} {g : Gh} {v : V} {y : D} {x : Str} (h : Df K g v y) (e : fnOf y = some x) : ∃ f, v = .ref f ∧ PySem.W.nsIn K mainGlobals x = some (some (.ref f)) := by
  unfold fnOf at e
  split at e
  · rename_i z
    cases e
    generalize hx : PyData.dict [(.none, .str x)] = y at h
    cases h with
    | dct h1 h2 =>
      rename_i vs ds
      have hx' : [(PyData.none, PyData.str x)] = ds.map fun p => (kD p.1, p.2) := by simpa using hx
      cases ds with
      | nil => cases hx'
      | cons p t =>
        simp only [List.map_cons, List.cons.injEq, Prod.mk.injEq] at hx'
        exact absurd hx'.1.1.symm (kD_ne _)
    | fn z hz =>
      simp [fnD] at hx
      subst hx
      exact ⟨_, rfl, hz⟩
    | rf k hk => simp [rf] at hx
    | _ => cases hx
  · cases e
section
variable {X : Cx} {W : String → L2.St → Hp → Prop} {pos p : Pos} {H0 : Hp} {g0 : Gh} {e : Expr} {es : List Expr} {fs : En → M (List R)} {k n i : Nat} {ps : List Str} {F : List D → M R} {x : Str}
theorem pe_slot {CX : CXT} {E : L2.St → XK} {f : Addr} {fd : FuncData} {sp : Sp} {t : TA} (F : FnOk X.prog X.w X.K X.mg X.base CX k f fd ps sp) (hr : Room k X.A) (hN : X.N[i]? = some x) (hv : Vis X.env.scope x) (hk : PySem.W.keepIn X.K (.ref f) = true) (hb : Binds X.K fd ps []) (hx : ∀ σ, PassesAt CX X σ (E σ)) (ha : PA X (e :: es) t)
    (hdb : (x == ("__debug__" : Str)) = false := by decide) (hcd : (x == ("__classdict__" : Str)) = false := by decide)
    (he : starEach (e :: es) X.env = (false, eval e X.env) :: starEach es X.env := by rfl) (hpl : (backTo pos (starEach es X.env)).any (·.1) = false := by rfl) :
    PE X (.Call (.Name x p) (e :: es) [] pos) (fun σ H Q => σ[i]? = some (some (.ref f)) ∧ tCallS sp E t σ H Q) := by
  refine ⟨fun pins s σ H Q I ⟨hs, ht⟩ => ?_⟩
  refine wpAny_Call_Name_kw (thn ((pe_var (pos := p) hN hv hdb hcd).run pins s σ H (fun v H1 => v = .ref f ∧ H1 = H) I ⟨.ref f, hs, rfl, rfl⟩) fun u s1 ⟨v, H1, I1, r1, q1⟩ => ?_)
  obtain ⟨rfl, rfl⟩ := q1
  cases r1
  refine PySem.W.callWith_K (h₀ := X.base) I.ok.mod.kin hk (thn (ha.run pos pins s1 σ _ _ I1 ht) fun us s2 ⟨vs, H2, I2, r, q⟩ => ⟨I2.kIn, ?_⟩) he hpl
  exact run_fnS F hr hb (hx σ) I2 r q
/-- x(..), slot i holds one of some defs -/
def dCallV (i : Nat) (tab : Str → Option (List R → M R)) (fs : En → M (List R)) : En → M R := fun env st => match env[i]? with
  | some (some (.d y)) => match fnOf y with
    | some x => match tab x with
      | some op => dCall op fs env st
      | none => .no
    | none => .no
  | _ => .no
/-- what stands for a def in such a table -/
def TabOk (X : Cx) (k : Nat) (n : Nat) (tab : Str → Option (List R → M R)) : Prop := ∀ y op, tab y = some op → FnV X.K X.mg y ∧ ∃ (ps : List Str) (F : List D → M R), ps.length = n ∧ CallX n F op ∧ FdX X.prog X.w X.K X.mg X.base k y ps F
theorem e_callV {tab : Str → Option (List R → M R)} (hT : TabOk X k n tab) (hr : Room k X.A) (tk : TkX X W) (ha : PA X (e :: es) (trA (cx X W) fs)) (i : Nat) (hN : X.N[i]? = some x := by rfl) (hv : Vis X.env.scope x := by first | exact Or.inl rfl | exact Or.inr (Or.inl rfl) | exact Or.inr (Or.inr rfl)) (hdb : (x == ("__debug__" : Str)) = false := by decide) (hcd : (x == ("__classdict__" : Str)) = false := by decide)
    (he : starEach (e :: es) X.env = (false, eval e X.env) :: starEach es X.env := by rfl) (hpl : (backTo pos (starEach es X.env)).any (·.1) = false := by rfl) :
    PE X (.Call (.Name x p) (e :: es) [] pos) (tr (cx X W) (dCallV i tab fs)) := by
  refine ⟨fun pins s σ H Q I ⟨env, st, g, R0, q⟩ => ?_⟩
  unfold dCallV at q
  split at q
  · rename_i y ey
    split at q
    · rename_i z ez
      split at q
      · rename_i op eo
        obtain ⟨⟨f, n1, m1⟩, ps, F, hn, hop, f2, fd, G, m2, kp, b⟩ := hT z op eo
        subst hn
        rw [m1] at m2
        cases m2
        obtain ⟨v, s1, hv'⟩ := R0.slot _ _ ey
        obtain ⟨f3, rfl, n3⟩ := fnOf_some hv' ez
        rw [n1] at n3
        cases n3
        refine (pe_slot (E := WE (wx X.mg W)) G hr hN hv kp b (fun σ => L2N.passAt tk σ) ha hdb hcd he hpl).run pins s σ H Q I ⟨s1, ?_⟩
        refine ⟨env, st, g, R0, Post.mono (Post.bind (.refl H g) q) fun rs g1 H1 ⟨st1, _, R1, x, _, q⟩ vs rv fr => ?_⟩
        exact hop (c := cx X W) ⟨x, R1, R0.sl⟩ rv fr q.toC
      · exact q.elim
    · exact q.elim
  · exact q.elim
end
end N

set_option maxHeartbeats 2000000
/-! N38: while an exception is handled: the end of a list, a comprehension over a list, isinstance of the exception. -/
namespace N
open PySem PySem.Spec L2 L2H HotX PyProof.Rows
section
variable {prog : Program} {w : World} {A : Around} {E : Value → Shared → Prop} {s : Shared}
theorem listEnd_hot {it l x1 : Addr} {i : Nat} {items : Array Value} {o1 : Obj} {vs1 : Array Value} {Q : Option Value → Shared → Prop} (hh : A.handled = some (.ref x1)) (h1 : s.heap.get? x1 = some o1) (d1 : o1.data = .fields vs1) (c1 : vs1[2]? = some .none) (ne : it ≠ x1)
    (hit : s.heap.IsListIter it l i) (hl : s.heap.IsList l items) (hx : items[i]? = none)
    (hQ : ∀ h', (∀ b o, b ≠ it → s.heap.get? b = some o → h'.get? b = some o) → Q none { s with heap := h' }) : wpAny (model prog w) A (pyNext (.ref it)) Q E s := by
  obtain ⟨oI, hoI, cI, dI⟩ := id hit
  obtain ⟨oL, hoL, _, nL, dL⟩ := hl
  unfold pyNext
  refine wpAny_bind (wpAny_attempt (wpAny_callSpecial?_slot (name := Str.ofString "__next__") hit.typeIs slot_listiter_next (wpAny_call_entry slot_listiter_next hit.typeIs entry_listiter_next ?_ (args_listiter_next _))))
  show wpAny _ _ (field (.ref it) 0 >>= _) _ _ s
  refine wpAny_bind (wpAny_field hoI dI (x := .ref l) rfl ?_)
  show wpAny _ _ (if (Value.ref l == Value.none) = true then _ else _) _ _ s
  rw [if_neg (show ¬ ((Value.ref l == Value.none) = true) from Bool.false_ne_true)]
  show wpAny _ _ (field (.ref it) 1 >>= _) _ _ s
  refine wpAny_bind (wpAny_field hoI dI (x := .int i 0) rfl ?_)
  show wpAny _ _ (seqItems? (.ref l) >>= _) _ _ s
  refine wpAny_bind (wpAny_seqItems hoL dL ?_)
  simp only [Int.toNat_natCast, hx]
  refine wpAny_bind (wpAny_rule (wpAny_bind (wpAny_setField hoI dI (by simp) ?_)))
  show wpAny _ _ (newExc (.type "StopIteration") [] >>= _) _ _ _
  refine wpAny_bind ?_
  simp only [newExc, newTuple]
  refine wpAny_bind (wpAny_newObj_type ?_ (by size_fits))
  refine wpAny_bind (m := firstArgMember _ _) (wpAny_of_eq (a := Value.none) (by first | rfl | (simp only [firstArgMember]; rfl)) ?_)
  refine wpAny_newObj_type ?_ (by size_fits)
  have h1' := (Heap.get?_update_other s.heap (Obj.mapFields (·.setIfInBounds 0 Value.none)) ne).trans h1
  refine raiseNew_hot ⟨hh, o1, vs1, Heap.get?_push_of_some _ (Heap.get?_push_of_some _ h1'), d1, c1⟩ (Nat.ne_of_lt (Heap.lt_size (Heap.get?_push_of_some _ h1'))) (Heap.get?_push_size _ rfl) rfl (by first | (simp; done) | (simp; omega) | (simp only [Array.size_append]; simp; omega)) ?_
  refine wpAny_bind (wpAny_isInstance (T := "StopIteration") (b := true) ⟨_, Heap.get?_update_self _ (Heap.get?_push_size _ rfl) rfl, rfl⟩ isSubtype_stop ?_)
  refine wpAny_pure (hQ _ fun b o nb eb => ?_)
  have eb' := (Heap.get?_update_other s.heap (Obj.mapFields (·.setIfInBounds 0 Value.none)) (Ne.symm nb)).trans eb
  rw [Heap.get?_update_other _ _ (Nat.ne_of_gt (Heap.lt_size (Heap.get?_push_of_some _ eb')))]
  exact Heap.get?_push_of_some _ (Heap.get?_push_of_some _ eb')
end
/-- the exception that is handled stands in the state -/
def Held1 (A : Around) (a : Addr) (oe : Obj) (h : Heap) : Prop := Hot1 A (a, oe) ∧ h.get? a = some oe
section
variable {prog : Program} {w : World} {A : Around} {E : Value → Shared → Prop} {s : Shared}
theorem tupEnd_hot {it l x1 : Addr} {i : Nat} {items : Array Value} {o1 : Obj} {vs1 : Array Value} {Q : Option Value → Shared → Prop} (hh : A.handled = some (.ref x1)) (h1 : s.heap.get? x1 = some o1) (d1 : o1.data = .fields vs1) (c1 : vs1[2]? = some .none) (ne : it ≠ x1)
    (hit : IsTupIter s.heap it l i) (hl : IsTup s.heap l items) (hx : items[i]? = none)
    (hQ : ∀ h', (∀ b o, b ≠ it → s.heap.get? b = some o → h'.get? b = some o) → Q none { s with heap := h' }) : wpAny (model prog w) A (pyNext (.ref it)) Q E s := by
  obtain ⟨oI, hoI, cI, dI⟩ := id hit
  obtain ⟨oL, hoL, _, nL, dL⟩ := hl
  unfold pyNext
  refine wpAny_bind (wpAny_attempt (wpAny_callSpecial?_slot (name := Str.ofString "__next__") hit.typeIs slot_tupleiter_next (wpAny_call_entry slot_tupleiter_next hit.typeIs entry_tupleiter_next ?_ (args_tupleiter_next _))))
  show wpAny _ _ (field (.ref it) 0 >>= _) _ _ s
  refine wpAny_bind (wpAny_field hoI dI (x := .ref l) rfl ?_)
  show wpAny _ _ (if (Value.ref l == Value.none) = true then _ else _) _ _ s
  rw [if_neg (show ¬ ((Value.ref l == Value.none) = true) from Bool.false_ne_true)]
  show wpAny _ _ (field (.ref it) 1 >>= _) _ _ s
  refine wpAny_bind (wpAny_field hoI dI (x := .int i 0) rfl ?_)
  show wpAny _ _ (seqItems? (.ref l) >>= _) _ _ s
  refine wpAny_bind (wpAny_seqItems hoL dL ?_)
  simp only [Int.toNat_natCast, hx]
  refine wpAny_bind (wpAny_rule (wpAny_bind (wpAny_setField hoI dI (by simp) ?_)))
  show wpAny _ _ (newExc (.type "StopIteration") [] >>= _) _ _ _
  refine wpAny_bind ?_
  simp only [newExc, newTuple]
  refine wpAny_bind (wpAny_newObj_type ?_ (by size_fits))
  refine wpAny_bind (m := firstArgMember _ _) (wpAny_of_eq (a := Value.none) (by first | rfl | (simp only [firstArgMember]; rfl)) ?_)
  refine wpAny_newObj_type ?_ (by size_fits)
  have h1' := (Heap.get?_update_other s.heap (Obj.mapFields (·.setIfInBounds 0 Value.none)) ne).trans h1
  refine raiseNew_hot ⟨hh, o1, vs1, Heap.get?_push_of_some _ (Heap.get?_push_of_some _ h1'), d1, c1⟩ (Nat.ne_of_lt (Heap.lt_size (Heap.get?_push_of_some _ h1'))) (Heap.get?_push_size _ rfl) rfl (by first | (simp; done) | (simp; omega) | (simp only [Array.size_append]; simp; omega)) ?_
  refine wpAny_bind (wpAny_isInstance (T := "StopIteration") (b := true) ⟨_, Heap.get?_update_self _ (Heap.get?_push_size _ rfl) rfl, rfl⟩ isSubtype_stop ?_)
  refine wpAny_pure (hQ _ fun b o nb eb => ?_)
  have eb' := (Heap.get?_update_other s.heap (Obj.mapFields (·.setIfInBounds 0 Value.none)) (Ne.symm nb)).trans eb
  rw [Heap.get?_update_other _ _ (Nat.ne_of_gt (Heap.lt_size (Heap.get?_push_of_some _ eb')))]
  exact Heap.get?_push_of_some _ (Heap.get?_push_of_some _ eb')
theorem unpack_hot {t a : Addr} {oe : Obj} {items : Array Value} {targets : List (Bool × (Value → Sem Unit))} {Q : Unit → Shared → Prop} (hot : Held1 A a oe s.heap) (ht : IsTup s.heap t items)
    (hn : targets.length = items.size) (hstar : targets.findIdx? (·.1) = none)
    (h : ∀ h', (∀ b o, s.heap.get? b = some o → h'.get? b = some o) → wpAny (model prog w) A (assignInOrder (targets.map (·.2)) items.toList) Q E { s with heap := h' }) : wpAny (model prog w) A (unpack (.ref t) targets) Q E s := by
  obtain ⟨⟨hh, vs1, d1, c1⟩, ha⟩ := hot
  have hlt : t ≠ s.heap.objs.size := by obtain ⟨o, ho, _⟩ := ht; exact Nat.ne_of_lt (Heap.lt_size ho)
  have hla : a ≠ s.heap.objs.size := Nat.ne_of_lt (Heap.lt_size ha)
  unfold unpack
  rw [hn, hstar]
  refine wpAny_bind (wpAny_holding ?_)
  unfold unpackItems notIterableAtAll
  refine wpAny_bind (wpAny_bind (wpAny_specialOf ht.typeIs slot_tuple_iter.lookup (wpAny_pure ?_)))
  simp only [Bool.false_eq_true, if_false]
  refine wpAny_bind (wpAny_holding (iter_tuple ht ?_))
  refine wpAny_bind (wpAny_holding (draw_tuple hlt items.size 0 _ _ ⟨_, Heap.get?_push_size _ rfl, rfl, rfl⟩ (ht.push _) (by omega) fun k1 it1 sb1 => ?_))
  have hall : List.take items.size (List.drop 0 items.toList) = items.toList := by rw [List.drop_zero]; exact List.take_of_length_le (by simp)
  rw [hall, if_neg (by simp)]
  have t1 : IsTup k1 t items := (ht.push _).extBut sb1.extBut hlt
  have a1 : k1.get? a = some oe := sb1.extBut a oe hla (Heap.get?_push_of_some _ ha)
  refine wpAny_bind (wpAny_holding (tupEnd_hot hh a1 d1 c1 (Ne.symm hla) it1 t1 (by simp) fun k2 e2 => ?_))
  simp only [Option.isSome_none, Bool.false_eq_true, if_false]
  refine wpAny_pure (h k2 fun b o e => e2 b o (Nat.ne_of_lt (Heap.lt_size e)) (sb1.extBut b o (Nat.ne_of_lt (Heap.lt_size e)) (Heap.get?_push_of_some _ e)))
end
/-- a, b = a tuple, in a context that bears the handled exception -/
theorem pg_tupH {X : Cx} {a : Addr} {oe : Obj} {pos : Pos} {es : List Expr} {k : Nat} {t : TGs} {n : Nat} (hc : ∀ {pins : List (Addr × Obj)} {σ : L2.St} {H : Hp} {s : Shared}, Inv X pins σ H s → Held1 X.A a oe s.heap) (h : PGs X es t)
    (hn : (assignEach es X.env).length = n := by rfl) (hst : (assignEach es X.env).findIdx? (·.1) = none := by rfl) : PG X (.Tuple es k pos) (gTup X.K n t) := by
  refine ⟨fun pins s σ H v u Q I r ⟨b, xs, e1, hq, hl, hw⟩ => ?_⟩
  subst e1
  cases r
  obtain ⟨its, rv, ht, hz⟩ := I.tuple hq
  rw [PyProof.Rows.assign_Tuple]
  refine wpAny_bind (wpAny_standAt (unpack_hot (hc I) ht (by simp [hn, ← hl, rv.length]) hst fun h' hx => ?_))
  have I1 : Inv X pins σ H { s with heap := h' } := I.kept (t' := s.toks) fun b o e => hx b o e
  exact h.run pins _ σ H xs _ Q I1 (by simpa using rv) hw
/-- [elt for tg in e if ..] over a list, while the exception at a is handled -/
theorem lc_hot {X : Cx} {a : Addr} {oe : Obj} (hot : Hot1 X.A (a, oe)) (hpn : (a, oe) ∈ X.pn) {pos : Pos} {elt tg ex : Expr} {ifs : List Expr} {scope : Scope} {own : List (Str × Nat)} {te0 te : TE} {g : TG} {tt : TT} (hN : X.N.Nodup) (h0 : PE X ex te0) (ok : BlkOk X.N X.env.scope scope own)
    (hg : ∀ (z : Shared) (G : Hp) (C : Addr) (cl : List (Str × Addr)) (fp : List Addr), (∀ {pins : List (Addr × Obj)} {τ : L2.St} {G' : Hp} {z' : Shared}, Inv (X.blk z G scope (compEnvC scope cl C X.env) fp) pins τ G' z' → Held1 X.A a oe z'.heap) → PG (X.blk z G scope (compEnvC scope cl C X.env) fp) tg g) (ht : ∀ (z : Shared) (G : Hp) (C : Addr) (cl : List (Str × Addr)) (fp : List Addr), PTs (X.blk z G scope (compEnvC scope cl C X.env) fp) ifs tt)
    (he : ∀ (z : Shared) (G : Hp) (C : Addr) (cl : List (Str × Addr)) (fp : List Addr), PE (X.blk z G scope (compEnvC scope cl C X.env) fp) elt te) (hs : ∀ x, foldedSetIterable ex X.env x = pure x := by intro _; rfl) :
    PE X (.ListComp elt [⟨tg, ex, ifs, 0⟩] scope pos) (tLc (iList X.K te0) g tt te (own.map (·.2))) := by
  refine ⟨fun pins s σ H Q I h => ?_⟩
  rw [eval_ListComp]
  have hfree : ∀ y ∈ scope.names, y.2 = .free → ∃ c, X.env.cells.lookup y.1 = some c := fun y hy e => (ok.free y hy e).elim (fun k => I.ok.has _ (.inl k)) fun k => I.ok.has _ (.inr k)
  refine wpAny_comprehension_free (use := Option.none) rfl hs (closure_ok hfree) ok.kind (fun y hy e => by rw [ok.uniq y hy, e]) (thn (h0.run pins s σ H _ I h) fun xv s1 ⟨xv', H2, J1, rx, l, el, ⟨ls, hls⟩, q⟩ => ?_)
  subst el
  cases rx
  obtain ⟨its, rv, pl, hz⟩ := J1.list hls
  refine wpAny_pyIter_list pl.isList ?_
  generalize hit : s1.heap.objs.size = it
  generalize es2 : ({ s1 with heap := s1.heap.push { cls := .type "list_iterator", data := .fields #[.ref l, .int 0 0] } } : Shared) = s2
  have J2 : Inv X pins σ H2 s2 := by
    rw [← es2]
    exact J1.kept (t' := s1.toks) fun b o e => Heap.get?_push_of_some _ e
  have st2 : s2.heap.IsListIter it l 0 := by
    rw [← es2, ← hit]
    exact ⟨_, Heap.get?_push_size _ rfl, rfl, rfl⟩
  have nIt : H2 it = Option.none := J1.hok.fresh (Nat.le_of_eq hit)
  have fIt : FpOk X pins H2 it := J1.fpOk (Nat.le_of_eq hit) nIt
  have ltIt : it < s2.heap.objs.size := by
    obtain ⟨_, e, _⟩ := st2
    exact Heap.lt_size e
  refine wpAny_newObj_type (newEnv_comp ?_) (by show 0 ≤ sizeLine; decide)
  generalize hD : s2.heap.objs.size = D
  have hDn : H2 D = Option.none := J2.hok.fresh (Nat.le_of_eq hD)
  obtain ⟨V, ⟨m0, v0⟩, turn⟩ := q D hDn
  generalize hs3 : ({ s2 with heap := s2.heap.push { cls := .type "list", data := .seq ([] : List Value).toArray } } : Shared) = s3
  have J3 : Inv X pins σ (upd H2 D (.lst [])) s3 := by
    rw [← hs3]
    refine J2.laid (t' := s2.toks) (fun b o e => Heap.get?_push_of_some _ e) (Nat.le_of_eq hD) ⟨Nat.zero_le _, [], 0, .nil, ?_⟩
    rw [← hD]
    exact Heap.get?_push_size _ rfl
  have h3 : s3.heap = s2.heap.push { cls := .type "list", data := .seq ([] : List Value).toArray } := by rw [← hs3]
  have neD : it ≠ D := by rw [← hD]; exact Nat.ne_of_lt ltIt
  have f3 : ∀ b ∈ [it], FpOk X pins (upd H2 D (.lst [])) b ∧ b < s3.heap.objs.size := fun b hb => by
    have eb : b = it := by simpa using hb
    subst eb
    exact ⟨⟨by rw [upd_ne neD]; exact nIt, fIt.2⟩, by rw [h3, Heap.size_push]; exact Nat.lt_succ_of_lt ltIt⟩
  have st3 : s3.heap.IsListIter it l 0 := by rw [h3]; exact st2.at fun o e => Heap.get?_push_of_some _ e
  have J4 := block_start J3 ok hN f3
  have pa := J3.pin (a, oe) (List.mem_append_left _ hpn)
  obtain ⟨hh, vs1, d1, c1⟩ := id hot
  have aStk : a ∉ frs X.stack := fun hm => (List.mem_cons.mp (J3.stkSub a hm)).elim pa.2.2.1 pa.2.2.2.1
  have neA : it ≠ a := fun z => fIt.2.2.2.2.2 (a, oe) (List.mem_append_left _ hpn) z.symm
  have pg := hg s3 (upd H2 D (.lst [])) s3.heap.objs.size (cellsFrom (s3.heap.objs.size + 1) scope.names (cloFrom X.env.cells scope.names [])) [it] fun J => ⟨hot, J.base.keep a oe pa.1 pa.2.1 aStk (by simpa using Ne.symm neA)⟩
  have pt := ht s3 (upd H2 D (.lst [])) s3.heap.objs.size (cellsFrom (s3.heap.objs.size + 1) scope.names (cloFrom X.env.cells scope.names [])) [it]
  have pe := he s3 (upd H2 D (.lst [])) s3.heap.objs.size (cellsFrom (s3.heap.objs.size + 1) scope.names (cloFrom X.env.cells scope.names [])) [it]
  show codeAny _ _ (.compStart (.ListComp elt [⟨tg, ex, ifs, 0⟩] scope pos) 0 (.ref it) (.ref D) (compEnvC scope (cellsFrom (s3.heap.objs.size + 1) scope.names (cloFrom X.env.cells scope.names [])) s3.heap.objs.size X.env)) (compPost (model X.prog X.w) X.A X.xe Option.none _ (.ref D) s3.heap.objs.size) { s3 with heap := pushCells (s3.heap.push { cls := .type "dict", data := .dict #[] }) scope.names }
  generalize hce : compEnvC scope (cellsFrom (s3.heap.objs.size + 1) scope.names (cloFrom X.env.cells scope.names [])) s3.heap.objs.size X.env = ce at J4 pg pt pe ⊢
  have cL : ce.locals = s3.heap.objs.size := by subst hce; rfl
  have n3 : (upd H2 D (.lst [])) it = Option.none := (f3 it (by simp)).1.1
  generalize hH3 : upd H2 D (.lst []) = H3 at J3 J4 pg pt pe v0 f3 n3 pa
  -- the exception's object, through the loop
  have keepA : ∀ {τ : L2.St} {G : Hp} {z : Shared}, Inv (X.blk s3 H3 scope ce [it]) [] τ G z → z.heap.get? a = some oe := fun {τ G z} J => J.base.keep a oe pa.1 pa.2.1 aStk (by simpa using Ne.symm neA)
  generalize hs4 : ({ s3 with heap := pushCells (s3.heap.push { cls := .type "dict", data := .dict #[] }) scope.names } : Shared) = s4 at J4 ⊢
  have st4 : s4.heap.IsListIter it l 0 := st3.at fun o e => by rw [← hs4]; exact pushCells_keeps _ _ _ _ (Heap.get?_push_of_some _ e)
  have stat : ∀ {τ : L2.St} {G : Hp} {z : Shared}, Inv (X.blk s3 H3 scope ce [it]) [] τ G z → G it = Option.none → FpOk (X.blk s3 H3 scope ce [it]) [] G it := fun {τ G z} J hn =>
    ⟨hn, (J.ok.exf it (by simp)).1, J.ok.exfs it (by simp), .inl (by simp), fun x c e => (J.ok.exf it (by simp)).2 x c e, fun p hp => absurd (show p ∈ ([] : List (Addr × Obj)) ++ [] from hp) (by simp)⟩
  have loop : codeAny (model X.prog X.w) X.A (.compLoop (.ListComp elt [⟨tg, ex, ifs, 0⟩] scope pos) 0 (.ref it) (.ref D) ce) (compPost (model X.prog X.w) X.A X.xe Option.none (EP X pins σ Q) (.ref D) s3.heap.objs.size) s4 := by
    refine compLoop_any (fun n z => ∃ i G, Inv (X.blk s3 H3 scope ce [it]) [] (wipe σ (own.map (·.2))) G z ∧ z.heap.IsListIter it l i ∧ G it = Option.none ∧ V i n G) ?_ m0 ⟨0, H3, J4, st4, n3, v0⟩
    rintro n s5 ⟨i, H5, J5, st5, n5, v5⟩
    rcases turn i n H5 v5 with ⟨⟨ls5, hl5, hlen⟩, qq⟩ | ⟨⟨ls5, x5, hl5, hx5⟩, Nx, hNx, step⟩
    · obtain ⟨its5, rv5, pl5, hz5⟩ := J5.list hl5
      have hlen' := rv5.length
      obtain ⟨g0, g1, g2, g3, g4, g5⟩ := stat J5 n5
      refine thnF (listEnd_hot (Q := fun r z => r = Option.none ∧ Inv (X.blk s3 H3 scope ce [it]) [] (wipe σ (own.map (·.2))) H5 z) hh (keepA J5) d1 c1 neA st5 pl5.isList (by simp; omega) fun h' eb => ⟨rfl, J5.turned (t' := s5.toks) (fun b o hb e => eb b o hb e) g0 g1 g3 g4 g5⟩) fun r s6 ⟨hr, J6⟩ => ?_
      subst hr
      have J7 : Inv X pins σ H5 s6 := J3.call' (ch := [it]) J6.os J6.base J6.hok J6.bare fun b hb => ⟨(f3 b hb).1.2.2.2.1, (f3 b hb).1.2.1, (f3 b hb).1.2.2.2.2.1, (f3 b hb).1.2.2.2.2.2⟩
      have nC : H5 s3.heap.objs.size = Option.none := by
        have z : H5 ce.locals = Option.none := J6.free
        rw [cL] at z
        exact z
      obtain ⟨m, hn, _⟩ := J6.loc
      have hn : s6.heap.Ns ce.locals m := hn
      rw [cL] at hn
      refine ⟨m, hn, fun h'' sb => ?_⟩
      obtain ⟨k0, k1, k2, k3, k4, k5⟩ := J3.fpOk (Nat.le_refl _) nC
      exact ⟨.ref D, H5, J7.turned (t' := s6.toks) (fun b o hb e => (sb.2 b hb).trans e) k0 k1 k3 k4 k5, rfl, qq⟩
    · obtain ⟨its5, rv5, pl5, hz5⟩ := J5.list hl5
      obtain ⟨u, hu, ru⟩ := rv5.get hx5
      obtain ⟨g0, g1, g2, g3, g4, g5⟩ := stat J5 n5
      refine wpAny_pyNext_list_item st5 pl5.isList (x := u) (by simpa using hu) fun h' st' sb => ?_
      have J6 : Inv (X.blk s3 H3 scope ce [it]) [] (wipe σ (own.map (·.2))) H5 { s5 with heap := h' } := J5.turned (t' := s5.toks) (fun b o hb e => (sb.2 b hb).trans e) g0 g1 g3 g4 g5
      obtain ⟨oI, eI, cI, dI⟩ := id st'
      refine go_of (s := { s5 with heap := h' }) eI cI dI (by decide) ?_
      have tobj : ∀ b ∈ [it], ∃ o, (({ s5 with heap := h' } : Shared).heap).get? b = some o ∧ ∀ v, o.data ≠ .cell v := fun b hb => by
        have eb : b = it := by simpa using hb
        subst eb
        exact ⟨oI, eI, fun v z => by rw [dI] at z; cases z⟩
      have J6' := J6.pinned (fun b hb => by
        have eb : b = it := by simpa using hb
        subst eb
        exact stat J6 n5) tobj
      have yy : (Itl X.K l).yld i H5 x5 H5 := ⟨rfl, fun ys hy => by rw [J5.list_inj hy hl5]; exact hx5⟩
      refine thnF (pg.run _ _ _ H5 x5 u _ J6' ru (step x5 H5 yy)) fun _ s8 ⟨σ8, H8, J8, hw8, q8⟩ => ?_
      refine thnF (pt.run _ s8 σ8 H8 _ J8 q8) fun b s9 ⟨H9, J9, q9⟩ => ?_
      have fin : ∀ {z : Shared} {G : Hp}, Inv (X.blk s3 H3 scope ce [it]) ([] ++ pinsAt [it] h') σ8 G z → Nx G → ∃ m, m < n ∧ ∃ j G', Inv (X.blk s3 H3 scope ce [it]) [] (wipe σ (own.map (·.2))) G' z ∧ z.heap.IsListIter it l j ∧ G' it = Option.none ∧ V j m G' := fun {z G} J' nx => by
        obtain ⟨m', hm, w'⟩ := hNx G nx
        have pin' := J'.pin (it, oI) (List.mem_append_right _ (List.mem_append_right _ (mem_pinsAt (by simp) eI)))
        have hl : (wipe σ (own.map (·.2))).length = σ8.length := by rw [← hw8, wipe_length]
        exact ⟨m', hm, i + 1, G, (J'.unpinned (pins := [])).weak hl (fun j v e => by rw [← hw8] at e; exact (wipe_some e).1), ⟨oI, pin'.1, cI, dI⟩, pin'.2.1, w'⟩
      cases b with
      | false =>
        simp only [Bool.false_eq_true, if_false] at q9 ⊢
        exact fin J9 q9
      | true =>
        simp only [if_true] at q9 ⊢
        refine thnF (pe.run _ s9 σ8 H9 _ J9 q9) fun z s10 ⟨yv, H10, J10, r10, acc, hD10, hz10, nx⟩ => ?_
        exact L2.app_ok (X := X.blk s3 H3 scope ce [it]) J10 hD10 hz10 r10 fun s11 J11 => fin J11 nx
  exact codeAny_compStart_list loop (wpAny_pyIter_listiter st4 loop)
/-- isinstance(e, c) of an exception that the context holds -/
theorem call_isEx {X : Cx} {a D : Addr} {oe : Obj} (C : ExcC X.K D) (hz : Zc (.ref D) Option.none oe) (hf : ∃ vs, oe.data = .fields vs) (hpn : (a, oe) ∈ X.pn) : CallR X (.builtin "isinstance") (rIsE X.K D a) := by
  intro pins s σ H xs us Q I r h
  obtain ⟨c, cv, b, rfl, hcv, e, q⟩ := h
  cases r with
  | cons rx rr =>
    cases rr with
    | cons rt rr =>
      cases rr
      cases rx
      have ec := hcv _ rt
      subst ec
      obtain ⟨hget, _⟩ := I.pin (a, oe) (List.mem_append.mpr (.inl hpn))
      obtain ⟨vs, hv⟩ := hf
      have J : PySem.W.InstAt s.heap a oe D Option.none := by
        obtain ⟨oc, od, oda, osl⟩ := oe
        obtain ⟨h1, h2⟩ := hz
        dsimp only at h1 h2 hv
        subst h1 h2 hv
        exact ⟨hget, rfl, rfl, trivial⟩
      exact PySem.W.kia_one (PySem.W.handS_kitx_exc C.hg C.hk C.hs C.hd C.ha C.hn C.ht C.hm) I.kIn J e (fun z => nomatch z) fun tk => ⟨.bl b, H, I.kept (t' := tk) fun _ _ z => z, rfl, q⟩
end N

set_option maxHeartbeats 2000000
/-! N39: the law's def that tells the classes of a refusal; try: .. except X as e: k = it(e). -/
namespace N
open PySem PySem.Spec L2 L2H HotX PyProof.Rows

/-! ### the names of all classes that an exception is of -/
structure KinL (H H' : Hp) (vs : List V) (l : List (Str × Bool)) : Prop where
  keep : ∀ a o, H a = some o → H' a = some o
  its : Paired (fun v (p : Str × Bool) => ∃ t, v = V.ref t ∧ H' t = some (.tup [.str p.1, .bl p.2])) vs l
def tIse (a : Addr) (b : Bool) : TE := fun σ H Q => σ[0]? = some (some (.ref a)) ∧ Q (.bl b) H
def tKin (a : Addr) (l : List (Str × Bool)) : TA := fun σ H Q => σ[0]? = some (some (.ref a)) ∧ ∀ vs H', KinL H H' vs l → Q vs H'
theorem Paired.impP {α β : Type} {P P' : α → β → Prop} (h : ∀ a b, P a b → P' a b) : ∀ {xs : List α} {ys : List β}, Paired P xs ys → Paired P' xs ys
  | _, _, .nil => .nil
  | _, _, .cons a t => .cons (h _ _ a) (Paired.impP h t)
section
variable {X : Cx} {pos p q : Pos} {e ei : Expr} {es : List Expr} {a D : Addr} {oe : Obj} {l : List (Str × Bool)} {b : Bool}
theorem kin_nil : PA X [] (tKin a []) := PA.imp pa_nil fun σ H Q h => h.2 [] H ⟨fun _ _ h => h, .nil⟩
theorem kin_cons {n : Str} {j k} (hi : PE X ei (tIse a b)) (hr : PA X es (tKin a l)) (h1 : starEach ((.Tuple [.Constant (.str n) j p, ei] k pos) :: es) X.env = (false, eval (.Tuple [.Constant (.str n) j p, ei] k pos) X.env) :: starEach es X.env := by rfl)
    (h2 : starEach (.Constant (.str n) j p :: [ei]) X.env = (false, eval (.Constant (.str n) j p) X.env) :: starEach [ei] X.env := by rfl) (h3 : starEach (ei :: []) X.env = (false, eval ei X.env) :: starEach [] X.env := by rfl) :
    PA X ((.Tuple [.Constant (.str n) j p, ei] k pos) :: es) (tKin a ((n, b) :: l)) := by
  refine PA.imp (pa_cons (pe_tup (pa_cons pe_str (pa_cons hi pa_nil h3) h2)) hr h1) fun σ H Q h => ?_
  refine ⟨h.1, by show 2 ≤ sizeLine; decide, fun t ht => ⟨h.1, fun vs H' kl => ?_⟩⟩
  refine h.2 (V.ref t :: vs) H' ⟨fun b o e => kl.keep b o ?_, .cons ⟨t, rfl, kl.keep t _ upd_same⟩ kl.its⟩
  rw [upd_ne (ne_of_none e ht)]
  exact e
/-- isinstance(e, c) -/
theorem ise_own {c x : Str} {Ca : Addr} {cpos : Pos} (C : ExcC X.K D) (hz : Zc (.ref D) Option.none oe) (hf : ∃ vs, oe.data = .fields vs) (hpn : (a, oe) ∈ X.pn) (hx : X.N[0]? = some x) (hv : Vis X.env.scope x) (hm : X.mg "isinstance" = Option.none) (hc : X.mg c = some (.ref Ca)) (hk : PySem.W.kitOne X.K (.ref D) (.ref Ca) = some b)
    (hg : Gl X c := by rfl) (hgi : Gl X "isinstance" := by rfl) (hd : (x == ("__debug__" : Str)) = false := by decide) (hcd : (x == ("__classdict__" : Str)) = false := by decide) (hdc : (c == ("__debug__" : Str)) = false := by decide) : PE X (.Call (.Name "isinstance" p) [.Name x q, .Name c pos] [] cpos) (tIse a b) := by
  refine PE.imp (pe_callB (call_isEx C hz hf hpn) hgi hm (by decide +kernel) (pa_cons (pe_var (i := 0) hx hv hd hcd) (pa_cons (pe_glob (v := .ref Ca) hg hc rfl hdc) pa_nil))) fun σ H Q h => ?_
  exact ⟨_, h.1, .ref Ca, .ref Ca, b, rfl, fun u r => r, hk, h.2⟩
theorem ise_blt {c x : Str} {T : String} {cpos : Pos} (C : ExcC X.K D) (hz : Zc (.ref D) Option.none oe) (hf : ∃ vs, oe.data = .fields vs) (hpn : (a, oe) ∈ X.pn) (hx : X.N[0]? = some x) (hv : Vis X.env.scope x) (hm : X.mg "isinstance" = Option.none) (hc : X.mg c = Option.none) (hb : bootBuiltins c = some (.type T)) (hk : PySem.W.kitOne X.K (.ref D) (.type T) = some b)
    (hn : c ≠ "__name__" := by decide) (hg : Gl X c := by rfl) (hgi : Gl X "isinstance" := by rfl) (hd : (x == ("__debug__" : Str)) = false := by decide) (hcd : (x == ("__classdict__" : Str)) = false := by decide) (hdc : (c == ("__debug__" : Str)) = false := by decide) : PE X (.Call (.Name "isinstance" p) [.Name x q, .Name c pos] [] cpos) (tIse a b) := by
  refine PE.imp (pe_callB (call_isEx C hz hf hpn) hgi hm (by decide +kernel) (pa_cons (pe_var (i := 0) hx hv hd hcd) (pa_cons (pe_bltn (v := .ty T) hg hc hb rfl hn hdc) pa_nil))) fun σ H Q h => ?_
  exact ⟨_, h.1, .ty T, .type T, b, rfl, fun u r => r, hk, h.2⟩
end

/-! ### a def called in an except suite with the exception that is handled -/
def spKin (a : Addr) (ds : List Str) : Sp := fun vs H Q _ => vs = [.ref a] ∧ ∀ H' p, (∀ b o, H b = some o → H' b = some o) → H p = Option.none → H' p = some (.lst (ds.map V.str)) → Q (.ref p) H'
def HotFn (P : Program) (w : World) (K : PySem.W.Frag) (mg : Str → Option Value) (base : Heap) (k : Nat) (f : Addr) (fd : FuncData) (y : Str) (a : Addr) (oe : Obj) (ds : List Str) : Prop :=
  ∀ (A : Around) (outer : List Env) (s : Shared) (H : Hp) (args : Args) (us : List Value) (vs : List V) (Q : VK) (E : XK), RoomH k A → Hot1 A (a, oe) → PinOk outer H s (a, oe) → Env0 P w K mg base A outer s H → BindsTo s fd args ([y].zip us) → Vals vs us → spKin a ds vs H Q E →
    codeAny (model P w) A (.call (.ref f) args) (CR CX0 outer P w H s Q E) s
theorem hot_fn {P : Program} {w : World} {K : PySem.W.Frag} {mg : Str → Option Value} {base : Heap} {x y : Str} {sd : Stmt} {f : Addr} {fd : FuncData} {N : List Str} {k : Nat} {a : Addr} {oe : Obj} {ds : List Str} (F : Fun K x x sd f fd) (S : FnScope N [y] (defScope sd))
    (hb : ∀ (cdv : Value) (A : Around) (outer : List Env) (s : Shared) (H : Hp) (Q : VK) (E : XK), Hot1 A (a, oe) → (∀ H' p, (∀ b o, H b = some o → H' b = some o) → H p = Option.none → H' p = some (.lst (ds.map V.str)) → Q (.ref p) H') →
      ∃ t, PSs (cxH CX0 P w K mg base N x (defScope sd) f cdv A outer s H E (a, oe)) (defBody sd) t ∧ t { nx := fun _ H' => Q .non H', rt := Q } (L2.start N [.ref a]) H) : HotFn P w K mg base (k + 1) f fd y a oe ds := by
  obtain ⟨oc, od, kV, doc, pm, an, cdv, ct, osl, rfl, lk, hcd⟩ := F.ex
  intro A outer s H args us vs Q E hr hot hpin e0 hbi r ⟨ev, hq⟩
  subst ev
  have KX : K.In s.heap := e0.mod.kin.keeps fun b o e => (e0.bs b o e).1
  have lim : s.heap.NoLimit := e0.mod.nolimit.keeps fun b o e => (e0.bs b o e).1
  have hkind : ∀ z ∈ [y].zip us, (defScope sd).names.lookup z.1 = some .local ∨ ((defScope sd).names.lookup z.1 = some .cell ∧ ((cellsFrom (s.heap.objs.size + 1) (defScope sd).names []).lookup z.1).isSome = true) := fun ⟨n, v⟩ hz => by
    rcases S.par n (List.of_mem_zip hz).1 with q | q
    · exact .inl q
    · exact .inr ⟨q, PySem.W.cellsFrom_some _ _ _ (.inl q)⟩
  refine codeAny_call_function hr.depth (KX _ _ lk) rfl S.co S.gen rfl (PySem.W.codeRec_of KX hcd) (hbi _ _ _ _ ?_)
  refine wpAny_newFunctionEnv_cells S.kind hkind fun env he s1 x => ?_
  subst he
  refine ⟨lim.keeps x.toInCall.keep, codeAny_func ?_⟩
  obtain ⟨t, ht, hq'⟩ := hb cdv A outer s H Q E hot hq
  have J : Inv (cxH CX0 P w K mg base N _ (defScope sd) f cdv A outer s H E (a, oe)) [] (L2.start N [.ref a]) H s1 := inv_startH S hpin e0 rfl r x
  refine wpAny_mono (ht.run [] s1 _ H _ J hq') (fun fl s' hs => ?_) fun e s' hs => hs
  cases fl with
  | ret u =>
    obtain ⟨v, τ, G, J2, rv, q⟩ := hs
    exact ⟨v, G, J2.os, J2.bare, J2.base, J2.hok, rv, q⟩
  | next =>
    obtain ⟨τ, G, J2, q⟩ := hs
    exact ⟨V.non, G, J2.os, J2.bare, J2.base, J2.hok, rfl, q⟩
  | brk => exact hs.elim fun _ z => z.elim fun _ z => z.2.elim
  | cont => exact hs.elim fun _ z => z.elim fun _ z => z.2.elim
/-- .. of any exception of the class named n -/
def FdK (P : Program) (w : World) (K : PySem.W.Frag) (mg : Str → Option Value) (base : Heap) (k : Nat) (x y : Str) (n : String) (ds : List Str) : Prop :=
  ∃ C f fd, mg (n : Str) = some (.ref C) ∧ mg x = some (.ref f) ∧ PySem.W.keepIn K (.ref f) = true ∧ Binds K fd [y] [] ∧ ∀ (a : Addr) (oe : Obj), L2N.Zn (.ref C) Option.none oe → (∃ vs, oe.data = .fields vs) → HotFn P w K mg base k f fd y a oe ds
section
variable {X : Cx} {W : String → L2.St → Hp → Prop} {pos p q : Pos} {a : Addr} {oe : Obj} {ds : List Str} {k i : Nat} {x y : Str} {n : String} {pn : List (Addr × Obj)}
/-- the call in the suite -/
theorem pe_kin {C f : Addr} {fd : FuncData} {z : Str} (hm : X.mg x = some (.ref f)) (hk : PySem.W.keepIn X.K (.ref f) = true) (hb : Binds X.K fd [z] []) (hz : PXN.CtxN oe) (hf : ∃ vs, oe.data = .fields vs) (F : HotFn X.prog X.w X.K X.mg X.base k f fd z a oe ds) (hr : Room k X.A)
    (hN : X.N[i]? = some y) (hv : Vis X.env.scope y) (hg : Gl X x) (hdb : (x == ("__debug__" : Str)) = false := by decide) (hd : (y == ("__debug__" : Str)) = false := by decide) (hcd : (y == ("__classdict__" : Str)) = false := by decide) :
    PE (X.suite a ((a, oe) :: pn)) (.Call (.Name x p) [.Name y q] [] pos) (fun σ H Q => σ[i]? = some (some (.ref a)) ∧ ∀ H' p, (∀ b o, H b = some o → H' b = some o) → H p = Option.none → H' p = some (.lst (ds.map V.str)) → Q (.ref p) H') := by
  refine ⟨fun pins s σ H Q I ⟨hs, h⟩ => ?_⟩
  refine wpAny_Call_Name_kw (ld_glob I hg hm ?_ hdb)
  have ha : PA (X.suite a ((a, oe) :: pn)) [.Name y q] (tCons _ tNil) := pa_cons (pe_var (i := i) hN hv hd hcd) pa_nil
  refine PySem.W.callWith_K (h₀ := X.base) I.ok.mod.kin hk (thn (ha.run pos pins s σ H (fun vs H1 => vs = [.ref a] ∧ H1 = H) I ⟨.ref a, hs, rfl, rfl⟩) fun us s1 ⟨vs, H1, I1, r, ev, eH⟩ => ⟨I1.kIn, ?_⟩) rfl rfl
  subst ev eH
  have hl : us.length = 1 := by rw [← r.length]; rfl
  have b := hb s1 us I1.kIn (by rw [List.append_nil]; exact hl)
  rw [List.append_nil] at b
  have P1 := I1.pin (a, oe) (List.mem_append_left _ List.mem_cons_self)
  have hpin : PinOk (X.suite a ((a, oe) :: pn)).stack H1 s1 (a, oe) := ⟨P1.1, P1.2.1, fun hm => (List.mem_cons.mp (I1.stkSub a hm)).elim P1.2.2.1 P1.2.2.2.1, P1.2.2.2.2⟩
  obtain ⟨vs, hvs⟩ := hf
  refine wpAny_call (codeAny_mono (F _ _ s1 H1 ⟨us, []⟩ us [.ref a] Q E0 (RoomH.mono (k := k) ⟨hr.dp, hr.un⟩ (Nat.le_refl _)) ⟨rfl, vs, hvs, hz vs hvs⟩ hpin I1.env0 b r ⟨rfl, h⟩) fun r s' hq => ?_)
  cases r with
  | error e => exact hq.elim
  | ok fl =>
    cases fl with
    | ret u => exact I1.after hq
    | next => exact hq.elim
    | brk => exact hq.elim
    | cont => exact hq.elim
end

/-! ### try: .. except X as e: kin = f(e) -/
/-- the handler of exceptions: what the slot ik then holds -/
def caught (ik ie : Nat) (tab : String → Option (List Str)) (env : En) : Res R → (R → M (Fl × En)) → Res (Fl × En)
  | .ok r st, post => post r st
  | .ex n st, _ => match tab n with
    | some ds => .ok (.nx, ((env.set ie Option.none).set ik (some (.d (.list (ds.map .str))))).set ie Option.none) st
    | none => .no
  | .no, _ => .no
def dTryA (i : Nat) (sl : R → M R) (ik ie : Nat) (tab : String → Option (List Str)) (f : En → M R) : SM := fun env st => caught ik ie tab env (f env st) fun r => sl r >>= fun r' => M.ret (.nx, env.set i (some r'))
def dTryE (ik ie : Nat) (tab : String → Option (List Str)) (f : En → M R) : SM := fun env st => caught ik ie tab env (f env st) fun _ => M.ret (.nx, env)
theorem df_strs {K : PySem.W.Frag} {g : Gh} : ∀ ds : List Str, DfA K g (ds.map V.str) (ds.map PyData.str)
  | [] => .nil
  | d :: ds => .cons (.str d) (df_strs ds)
section
variable {c : Ct} {env : En} {σ : L2.St} {H H1 H0 : Hp} {g g0 g1 lo : Gh} {st st1 : Sto} {De : Ends} {i : Nat}
theorem RelS.setN {w : Option V} (h : RelS c H0 g0 lo env st σ H g) : RelS c H0 g0 lo (env.set i Option.none) st (σ.set i w) H g where
  rel :=
    { sub := h.rel.sub
      slot := fun j r' e => by
        rcases set_get e with ⟨rfl, e, hl⟩ | ⟨hj, e⟩
        · cases e
        · obtain ⟨u, h1, h2⟩ := h.rel.slot j r' e
          exact ⟨u, by rw [List.getElem?_set_ne (Ne.symm hj)]; exact h1, h2⟩
      own := fun j k r1 r2 a e1 e2 o1 o2 s1 s2 => by
        rcases set_get e1 with ⟨rfl, q1, _⟩ | ⟨hj, q1⟩
        · cases q1
        · rcases set_get e2 with ⟨rfl, q2, _⟩ | ⟨hk, q2⟩
          · cases q2
          · rw [List.getElem?_set_ne (Ne.symm hj)] at s1
            rw [List.getElem?_set_ne (Ne.symm hk)] at s2
            exact h.rel.own j k r1 r2 a q1 q2 o1 o2 s1 s2
      lb := h.rel.lb
      obj := h.rel.obj
      inj := h.rel.inj
      refs := h.rel.refs
      len := by rw [List.length_set, List.length_set]; exact h.rel.len }
  e := h.e
  lo := h.lo
  new := fun j r' a e o s => by
    rcases set_get e with ⟨rfl, q, _⟩ | ⟨hj, q⟩
    · cases q
    · rw [List.getElem?_set_ne (Ne.symm hj)] at s
      exact h.new j r' a q o s
/-- the heap grows -/
theorem RelS.grown {H' : Hp} (h : RelS c H0 g0 lo env st σ H g) (kp : ∀ b o, H b = some o → H' b = some o) : Ext H g H' g ∧ RelS c H0 g0 lo env st σ H' g := by
  have stay : ∀ b, H b ≠ Option.none → H' b ≠ Option.none := fun b hb => by
    cases e : H b with
    | none => exact absurd e hb
    | some o => rw [kp b o e]; simp
  have x' : Ext H g H' g := ⟨.refl g, fun a o e _ => kp a o e, stay, fun a h => .inl h, fun n h1 h2 => absurd h2 (Nat.not_lt.mpr h1)⟩
  refine ⟨x', h.later x' (h.rel.after x' ⟨fun a o e => ?_, fun n ob e lv => ?_, h.rel.lb, h.rel.inj, fun n hn => stay _ (h.rel.refs n hn)⟩)⟩
  · rcases h.rel.sub a o e with h | ⟨kvs, ob, h1, h2⟩
    · exact .inl (kp a o h)
    · exact .inr ⟨kvs, ob, h1, kp _ _ h2⟩
  · obtain ⟨h1, h2⟩ := h.rel.obj n ob e lv
    exact ⟨h1, h2.ext (.refl g) (kp _) (stay _) fun h => h⟩
/-- what the layer asks of a table of refusals -/
def KinTab (X : Cx) (k : Nat) (x y : Str) (cls : Value) (tab : String → Option (List Str)) : Prop := ∀ n ds, tab n = some ds → FdK X.prog X.w X.K X.mg X.base k x y n ds ∧ ∀ C, X.mg (n : Str) = some (.ref C) → PySem.W.exmOne X.K (.ref C) cls = some true
end
section
variable {X : Cx} {W : String → L2.St → Hp → Prop} {H0 : Hp} {g0 : Gh} {e : Expr} {f : En → M R} {k i ik ie : Nat} {x xc yn z yk fx : Str} {cls : Value} {tab : String → Option (List Str)} {pos p1 np hpos pk kpos q pe cpos py : Pos}
/-- the suite's reading -/
def tSu (X : Cx) (ik ie : Nat) (tab : String → Option (List Str)) (a : Addr) (cl : Value) (d : Option Addr) : TS := fun D σ H => ∃ (n : String) (ds : List Str) (C : Addr), cl = .ref C ∧ d = Option.none ∧ X.mg (n : Str) = some (.ref C) ∧ tab n = some ds ∧
  σ[ie]? = some (some (.ref a)) ∧ ∀ H' p, (∀ b o, H b = some o → H' b = some o) → H p = Option.none → H' p = some (.lst (ds.map V.str)) → D.nx (σ.set ik (some (.ref p))) H'
theorem ps_suite (hT : KinTab X k fx z cls tab) (hr : Room k X.A) (hN : X.N.Nodup) (hk : X.N[ik]? = some yk) (he : X.N[ie]? = some yn) (hvk : X.env.scope.names.lookup yk = some .local) (hve : X.env.scope.names.lookup yn = some .local) (hg : Gl X fx) (hdb : (fx == ("__debug__" : Str)) = false) (hd : (yn == ("__debug__" : Str)) = false) (hcd : (yn == ("__classdict__" : Str)) = false)
    (hsw : swapsWith (.Call (.Name fx q) [.Name yn pe] [] cpos) (some (.Name yk pk)) kpos.line X.env = pure false) (a : Addr) (oe : Obj) (cl : Value) (d : Option Addr) (pn : List (Addr × Obj)) (hz : L2N.Zn cl d oe) (hf : ∃ vs, oe.data = .fields vs) :
    PSs (X.suite a ((a, oe) :: pn)) [.Assign [.Name yk pk] (.Call (.Name fx q) [.Name yn pe] [] cpos) kpos] (tSu X ik ie tab a cl d) := by
  refine pss_one ⟨fun pins s σ H D I ⟨n, ds, C, h1, h2, h3, h4, h5, h6⟩ => ?_⟩
  subst h1 h2
  obtain ⟨⟨C', f', fd, m1, m2, m3, m4, F⟩, _⟩ := hT n ds h4
  rw [h3] at m1
  cases m1
  have hkf : PE (X.suite a ((a, oe) :: pn)) (.Call (.Name fx q) [.Name yn pe] [] cpos) _ := pe_kin (i := ie) (C := C) m2 m3 m4 hz.2.2 hf (F a oe hz hf) hr he (.inl hve) hg hdb hd hcd
  exact (ps_set (X := X.suite a ((a, oe) :: pn)) (i := ik) hN hk (.inl hvk) hkf hsw (.inr hvk)).run pins s σ H D I ⟨h5, h6⟩
/-- the caught exception: from the layer's end to the hand layer's -/
theorem catch_ok {c : Ct} {env : En} {st1 : Sto} {σ : L2.St} {H1 : Hp} {g1 lo : Gh} {D : Ends} {n : String} {post : R → M (Fl × En)} (hT : KinTab X k fx z cls tab) (hK : c.K = X.K) (hlen : ie < X.N.length) (hsl : env.length = X.N.length) (R1 : RelS c H0 g0 lo env st1 σ H1 g1)
    (q : PostS c H0 g0 lo (caught ik ie tab env (.ex n st1) post) D) : xw X.mg (wAs X.K cls ie (tSu X ik ie tab) (fun _ _ _ _ => False) D) n σ H1 := by
  intro C hm
  unfold caught at q
  dsimp only at q
  cases et : tab n with
  | none => rw [et] at q; exact q.elim
  | some ds =>
    rw [et] at q
    obtain ⟨_, hx⟩ := hT n ds et
    refine ⟨true, hx C hm, fun _ a na => ?_, fun z => nomatch z⟩
    refine ⟨n, ds, C, rfl, rfl, hm, et, ?_, fun H' p kp hp hl => ?_⟩
    · rw [List.getElem?_set_self (by rw [← R1.rel.len, hsl]; exact hlen)]
    · obtain ⟨x2, R2⟩ := R1.grown kp
      have b := Bs.frz (⟨x2, R2.rel, R1.rel.sl⟩ : Bs c H' env σ st1 g1 H1 g1) hl hp (R1.rel.nog hp) (R1.rel.noι hp)
      have R3 : RelS c H0 g0 lo env st1 σ H' (g1.put p (.lst (ds.map V.str))) := ⟨b.rel, R1.e.trans b.e, R1.lo.trans b.e.le, R1.new⟩
      have R4 := (((R3.setN (i := ie) (w := some (.ref a))).setD (i := ik) (Df.lst (sql_put) (df_strs ds))).setN (i := ie) (w := Option.none))
      exact q _ _ _ R4
theorem tk_false {X : Cx} : L2N.Takes X (fun _ _ _ _ => False) := fun _ _ x => by
  obtain ⟨_, _, _, _, _, _, _, _, _, _, _, _, _, _, _, _, z⟩ := x
  exact z.elim
theorem s_tryA {sl : R → M R} (ok : SlOk sl) (i ik ie : Nat) (hT : KinTab X k fx z cls tab) (hr : Room k X.A) (hc : Names X xc cls) (hN : X.N.Nodup)
    (he : ∀ (pn : List (Addr × Obj)) (xe : Value → Shared → Prop) (W' : String → L2.St → Hp → Prop), TkX (X.tr pn xe) W' → PassesOwn (model X.prog X.w) X.A X.env xe → PE (X.tr pn xe) e (tr (cx (X.tr pn xe) W') f))
    (hs : X.stack = X.env :: X.outer := by rfl) (hf : X.env.frame = some X.env.locals := by rfl) (hi : X.N[i]? = some x := by rfl) (hk : X.N[ik]? = some yk := by rfl) (hie : X.N[ie]? = some yn := by rfl)
    (hvi : X.env.scope.names.lookup x = some .local := by rfl) (hvk : X.env.scope.names.lookup yk = some .local := by rfl) (hve : X.env.scope.names.lookup yn = some .local := by rfl) (hg : Gl X fx := by rfl) (hdb : (fx == ("__debug__" : Str)) = false := by decide) (hd : (yn == ("__debug__" : Str)) = false := by decide) (hcd : (yn == ("__classdict__" : Str)) = false := by decide)
    (hsw : swapsWith (.Call (.Name fx q) [.Name yn pe] [] cpos) (some (.Name yk pk)) kpos.line X.env = pure false := by rfl) (hsx : swapsWith e (some (.Name x py)) p1.line X.env = pure false := by rfl) :
    PS X (.Try [.Assign [.Name x py] e p1] [.ExceptHandler (some (.Name xc np)) (some yn) [.Assign [.Name yk pk] (.Call (.Name fx q) [.Name yn pe] [] cpos) kpos] hpos] [] [] pos) (trS (cx X W) H0 g0 (dTryA i sl ik ie tab f)) := by
  refine ⟨fun pins s σ H D I h => ?_⟩
  have hlen : σ.length = X.N.length := I.len
  refine (L2N.ps_try_as (tb := fun W' => tAsg (tr ⟨X.K, xw X.mg W'⟩ f) (gName i)) (ts := tSu X ik ie tab) hs hf hN hie hve hc tk_false (fun W' pn xe tk po => pss_one (ps_set (X := X.tr pn xe) hN hi (.inl hvi) (he pn xe (xw X.mg W') (TkX.of tk) po) hsx (.inr hvi))) (fun a oe cl d pn hz hf => ps_suite hT hr hN hk hie hvk hve hg hdb hd hcd hsw a oe cl d pn hz hf)).run pins s σ H D I ?_
  obtain ⟨env, st, g, lo, R0, q⟩ := h
  have hsl : env.length = X.N.length := R0.rel.len.trans hlen
  have hlt : ie < X.N.length := (List.getElem?_eq_some_iff.mp hie).1
  refine ⟨env, st, g, R0.rel, ?_⟩
  unfold dTryA at q
  cases ef : f env st with
  | no => rw [ef] at q; exact q
  | ex n st1 => rw [ef] at q; exact fun g1 H1 x R1 => catch_ok (X := X) (c := cx X W) hT rfl hlt hsl (R0.later x R1) q
  | ok r st1 =>
    rw [ef] at q
    intro g1 H1 x R1 v rv fr
    have R1' := R0.later x R1
    obtain ⟨r', g', x', le, R2, rv', hn, q2, _⟩ := ok.run R1' x (.inr R0.rel.sl) rv fr R0.e q
    refine q2 _ _ g' (R2.setR rv' (fun o a ev => R0.e.nothing ((hn o).2 a ev)) fun o j r'' a hj ej oj sj ev => ?_)
    exact R0.rel.sl j r'' a ej oj sj ((hn o).2 a ev)
theorem s_tryE (ik ie : Nat) (hT : KinTab X k fx z cls tab) (hr : Room k X.A) (hc : Names X xc cls) (hN : X.N.Nodup)
    (he : ∀ (pn : List (Addr × Obj)) (xe : Value → Shared → Prop) (W' : String → L2.St → Hp → Prop), TkX (X.tr pn xe) W' → PassesOwn (model X.prog X.w) X.A X.env xe → PE (X.tr pn xe) e (tr (cx (X.tr pn xe) W') f))
    (hs : X.stack = X.env :: X.outer := by rfl) (hf : X.env.frame = some X.env.locals := by rfl) (hk : X.N[ik]? = some yk := by rfl) (hie : X.N[ie]? = some yn := by rfl)
    (hvk : X.env.scope.names.lookup yk = some .local := by rfl) (hve : X.env.scope.names.lookup yn = some .local := by rfl) (hg : Gl X fx := by rfl) (hdb : (fx == ("__debug__" : Str)) = false := by decide) (hd : (yn == ("__debug__" : Str)) = false := by decide) (hcd : (yn == ("__classdict__" : Str)) = false := by decide)
    (hsw : swapsWith (.Call (.Name fx q) [.Name yn pe] [] cpos) (some (.Name yk pk)) kpos.line X.env = pure false := by rfl) (hsx : swapsWith e Option.none p1.line X.env = pure false := by rfl) :
    PS X (.Try [.Expr e p1] [.ExceptHandler (some (.Name xc np)) (some yn) [.Assign [.Name yk pk] (.Call (.Name fx q) [.Name yn pe] [] cpos) kpos] hpos] [] [] pos) (trS (cx X W) H0 g0 (dTryE ik ie tab f)) := by
  refine ⟨fun pins s σ H D I h => ?_⟩
  have hlen : σ.length = X.N.length := I.len
  refine (L2N.ps_try_as (tb := fun W' => tDrop (tr ⟨X.K, xw X.mg W'⟩ f)) (ts := tSu X ik ie tab) hs hf hN hie hve hc tk_false (fun W' pn xe tk po => pss_one (ps_expr (X := X.tr pn xe) (he pn xe (xw X.mg W') (TkX.of tk) po) hsx)) (fun a oe cl d pn hz hf => ps_suite hT hr hN hk hie hvk hve hg hdb hd hcd hsw a oe cl d pn hz hf)).run pins s σ H D I ?_
  obtain ⟨env, st, g, lo, R0, q⟩ := h
  have hsl : env.length = X.N.length := R0.rel.len.trans hlen
  have hlt : ie < X.N.length := (List.getElem?_eq_some_iff.mp hie).1
  refine ⟨env, st, g, R0.rel, ?_⟩
  unfold dTryE at q
  cases ef : f env st with
  | no => rw [ef] at q; exact q
  | ex n st1 => rw [ef] at q; exact fun g1 H1 x R1 => catch_ok (X := X) (c := cx X W) hT rfl hlt hsl (R0.later x R1) q
  | ok r st1 =>
    rw [ef] at q
    intro g1 H1 x R1 v rv fr
    exact q _ _ _ (R0.later x R1)
end
end N

set_option maxHeartbeats 2000000
/-! N40: the def that tells the classes of a refusal. -/
namespace N
open PySem PySem.Spec L2 L2H HotX PyProof.Rows
def yesL (l : List (Str × Bool)) : List Str := (l.filter (·.2)).map (·.1)
section
variable {X : Cx} {a : Addr} {oe : Obj} {l : List (Str × Bool)} {pos : Pos}
/-- [name for name, there in kin if there]: slots 1 kin, 2 name, 3 there -/
def tYes4 (l : List (Str × Bool)) : TE := fun σ H Q => ∃ L vs, σ[1]? = some (some (.ref L)) ∧ H L = some (.lst vs) ∧ 3 < σ.length ∧ vs.length ≤ sizeLine ∧ Paired (fun v (p : Str × Bool) => ∃ t, v = V.ref t ∧ H t = some (.tup [.str p.1, .bl p.2])) vs l ∧
  ∀ H' p, (∀ b o, H b = some o → H' b = some o) → H p = Option.none → H' p = some (.lst ((yesL l).map V.str)) → Q (.ref p) H'
theorem paired_get {α β : Type} {P : α → β → Prop} : ∀ {xs : List α} {ys : List β} {i : Nat} {x : α}, Paired P xs ys → xs[i]? = some x → ∃ y, ys[i]? = some y ∧ P x y
  | _, _, _, _, .nil, e => by simp at e
  | _, _, 0, _, .cons h t, e => by cases e; exact ⟨_, rfl, h⟩
  | _, _, i + 1, _, .cons h t, e => by
    obtain ⟨y, e2, h2⟩ := paired_get (i := i) t (by simpa using e)
    exact ⟨y, by simpa using e2, h2⟩
theorem paired_len {α β : Type} {P : α → β → Prop} : ∀ {xs : List α} {ys : List β}, Paired P xs ys → xs.length = ys.length
  | _, _, .nil => rfl
  | _, _, .cons h t => by simp [paired_len t]
theorem yes_take {l : List (Str × Bool)} {i : Nat} {p : Str × Bool} (e : l[i]? = some p) : yesL (l.take (i + 1)) = yesL (l.take i) ++ (if p.2 = true then [p.1] else []) := by
  unfold yesL
  rw [List.take_add_one, e]
  simp only [Option.toList_some, List.filter_append, List.map_append]
  cases h : p.2 <;> simp [h]
theorem kin_comp {n y z : Str} {p1 p2 p3 p4 p5 p6 : Pos} {k : Nat} {scope : Scope} (hot : Hot1 X.A (a, oe)) (hpn : (a, oe) ∈ X.pn) (hN : X.N.Nodup) (h1 : X.N[1]? = some n) (h2 : X.N[2]? = some y) (h3 : X.N[3]? = some z) (hv : Vis X.env.scope n) (hdn : (n == ("__debug__" : Str)) = false) (hcn : (n == ("__classdict__" : Str)) = false)
    (ok : BlkOk X.N X.env.scope scope [(y, 2), (z, 3)])
    (gy : ∀ (s : Shared) (H : Hp) (C : Addr) (cl : List (Str × Addr)) (fp : List Addr), PG (X.blk s H scope (compEnvC scope cl C X.env) fp) (.Name y p1) (gName 2)) (gz : ∀ (s : Shared) (H : Hp) (C : Addr) (cl : List (Str × Addr)) (fp : List Addr), PG (X.blk s H scope (compEnvC scope cl C X.env) fp) (.Name z p2) (gName 3))
    (ty : ∀ (s : Shared) (H : Hp) (C : Addr) (cl : List (Str × Addr)) (fp : List Addr), PE (X.blk s H scope (compEnvC scope cl C X.env) fp) (.Name y p3) (tVar 2)) (tz : ∀ (s : Shared) (H : Hp) (C : Addr) (cl : List (Str × Addr)) (fp : List Addr), PE (X.blk s H scope (compEnvC scope cl C X.env) fp) (.Name z p4) (tVar 3)) :
    PE X (.ListComp (.Name y p3) [⟨.Tuple [.Name y p1, .Name z p2] k p5, .Name n p6, [.Name z p4], 0⟩] scope pos) (tYes4 l) := by
  refine PE.imp (lc_hot (g := gTup X.K 2 (gCons (gName 2) (gCons (gName 3) gNil))) (tt := tB (tVar 3)) (te := tVar 2) hot hpn hN (pe_var (i := 1) h1 hv hdn hcn) ok (fun s H C cl fp hld => pg_tupH (n := 2) hld (pgs_cons (gy s H C cl fp) (pgs_cons (gz s H C cl fp) pgs_nil))) (fun s H C cl fp => pts_one (pt_val (tz s H C cl fp))) (fun s H C cl fp => ty s H C cl fp)) fun σ H Q h => ?_
  obtain ⟨L, vs, s1, hL, hσ, hz, pr, q⟩ := h
  refine ⟨_, s1, L, rfl, ⟨vs, .inl (.inl hL)⟩, fun D hD => ?_⟩
  have len := paired_len pr
  have nL : L ≠ D := ne_of_none hL hD
  refine lc_list (xs := vs) (fun i H' => (∀ b o, b ≠ D → H b = some o → H' b = some o) ∧ H' D = some (.lst ((yesL (l.take i)).map V.str))) ⟨fun b o nb e => by rw [upd_ne nb]; exact e, by rw [upd_same]; rfl⟩ (fun i H' _ hp => .inl (.inl (hp.1 _ _ nL hL))) (fun i x H' ex hp => ?_) fun H' hp => ?_
  · obtain ⟨⟨s, b⟩, e2, t, rfl, ht⟩ := paired_get pr ex
    have nt : t ≠ D := ne_of_none ht hD
    refine ⟨t, _, rfl, .inl (.inl (hp.1 _ _ nt ht)), rfl, _, _, rfl, _, _, rfl, rfl, ?_, ?_⟩
    · show wipe ((((wipe σ [2, 3]).set 2 _).set 3 _)) [2, 3] = wipe σ [2, 3]
      apply List.ext_getElem?
      intro j
      rw [wipe_at, wipe_at]
      have hl : (((wipe σ [2, 3]).set 2 (some (V.str s))).set 3 (some (V.bl b))).length = σ.length := by rw [List.length_set, List.length_set, wipe_length]
      by_cases hj : j ∈ [2, 3]
      · rw [if_pos hj, if_pos hj, hl]
      · rw [if_neg hj, if_neg hj]
        have h2 : 2 ≠ j := fun z => hj (by simp [← z])
        have h3 : 3 ≠ j := fun z => hj (by simp [← z])
        rw [List.getElem?_set_ne h3, List.getElem?_set_ne h2, wipe_off hj]
    · refine ⟨.bl b, ?_, ?_⟩
      · rw [List.getElem?_set_self (by rw [List.length_set, wipe_length]; exact hσ)]
      · refine ⟨b, rfl, ?_⟩
        have yt := yes_take (l := l) (i := i) e2
        cases b with
        | false =>
          simp only [Bool.false_eq_true, if_false] at yt ⊢
          refine ⟨hp.1, ?_⟩
          rw [yt, List.append_nil]
          exact hp.2
        | true =>
          simp only [if_true] at yt ⊢
          refine ⟨.str s, ?_, _, hp.2, ?_, fun b o nb e => ?_, ?_⟩
          · rw [List.getElem?_set_ne (by decide), List.getElem?_set_self (by rw [wipe_length]; omega)]
          · rw [List.length_map]
            have hle : (yesL (l.take i)).length ≤ i := by
              unfold yesL
              rw [List.length_map]
              exact Nat.le_trans (List.length_filter_le _ _) (by rw [List.length_take]; omega)
            have hi : i < vs.length := (List.getElem?_eq_some_iff.mp ex).1
            omega
          · rw [upd_ne nb]; exact hp.1 b o nb e
          · rw [upd_same, yt, List.map_append]
            rfl
  · refine q H' D (fun b o e => hp.1 b o (ne_of_none e hD) e) hD ?_
    rw [hp.2, len, List.take_length]
end

theorem kin_read {a : Addr} {l : List (Str × Bool)} {σ : L2.St} {H : Hp} {D : Ends} (h0 : σ[0]? = some (some (.ref a))) (h3 : 3 < σ.length) (hl : l.length ≤ sizeLine)
    (q : ∀ H' p, (∀ b o, H b = some o → H' b = some o) → H p = Option.none → H' p = some (.lst ((yesL l).map V.str)) → D.rt (.ref p) H') : tSeq (tAsg (tLst (tKin a l)) (gName 1)) (tRet (tYes4 l)) D σ H := by
  refine ⟨h0, fun vs H' kl => ⟨by rw [paired_len kl.its]; exact hl, fun p hp => ?_⟩⟩
  refine ⟨p, vs, ?_, upd_same, ?_, by rw [paired_len kl.its]; exact hl, ?_, fun H2 r kp hr hl' => ?_⟩
  · rw [List.getElem?_set_self (by omega)]
  · rw [List.length_set]; exact h3
  · refine Paired.impP (fun v p' hv => ?_) kl.its
    obtain ⟨t, e, ht⟩ := hv
    exact ⟨t, e, by rw [upd_ne (ne_of_none ht hp)]; exact ht⟩
  · refine q H2 r (fun b o e => kp b o ?_) ?_ hl'
    · have e' := kl.keep b o e
      rw [upd_ne (ne_of_none e' hp)]
      exact e'
    · cases e : H r with
      | none => rfl
      | some o =>
        have e' := kl.keep r o e
        by_cases z : r = p
        · rw [z, upd_same] at hr; cases hr
        · rw [upd_ne z, e'] at hr; cases hr

/-! ### facts of an exception class, looked up at once -/
def excCk (K : PySem.W.Frag) (C : Addr) : Bool :=
  PySem.W.findIn K (.ref C) "__getattribute__" == some (some (.builtin "BaseException.__getattribute__")) && PySem.W.findIn K (.ref C) "__getattr__" == some Option.none && PySem.W.subIn K (.ref C) (.type "BaseException") == some true && PySem.W.hasDictIn K C &&
  PySem.W.findIn K (.ref C) "__class__" == some (some (.builtin "object.__class__")) && PySem.W.specialIn K (.builtin "object.__class__") "__get__" == some (some (.builtin "getset_descriptor.__get__")) && PySem.W.takesIn K (.builtin "object.__class__") == some true && PySem.W.mroIn K C (.type "object") == some true &&
  PySem.W.excIn K C [.type "ValueError", .type "Exception", .type "BaseException", .type "object"] "ValueError.__new__" && PySem.W.keepIn K (.ref C) && PySem.W.typeIn K (.ref C) == some (.type "type")
structure ExcF (K : PySem.W.Frag) (C : Addr) : Prop where
  c : ExcC K C
  q : PySem.W.excIn K C [.type "ValueError", .type "Exception", .type "BaseException", .type "object"] "ValueError.__new__" = true
  k : PySem.W.keepIn K (.ref C) = true
  s : PySem.W.subIn K (.ref C) (.type "BaseException") = some true
  t : PySem.W.typeIn K (.ref C) = some (.type "type")
theorem excCk_ok {K : PySem.W.Frag} {C : Addr} (h : excCk K C = true) : ExcF K C := by
  unfold excCk at h
  simp only [Bool.and_eq_true, beq_iff_eq] at h
  obtain ⟨⟨⟨⟨⟨⟨⟨⟨⟨⟨h1, h2⟩, h3⟩, h4⟩, h5⟩, h6⟩, h7⟩, h8⟩, h9⟩, h10⟩, h11⟩ := h
  exact ⟨⟨h1, h2, h3, h4, h5, h6, h7, h8⟩, h9, h10, h3, h11⟩
/-- what isinstance answers of an instance of C, of the classes Ds and of ValueError; C stands at place i; the clause's class takes it -/
def kinCk (K : PySem.W.Frag) (C B : Addr) (Ds : List Addr) (i : Nat) : Bool :=
  excCk K C && (Ds.zipIdx.all fun p => PySem.W.kitOne K (.ref C) (.ref p.1) == some (decide (p.2 = i))) && PySem.W.kitOne K (.ref C) (.type "ValueError") == some true && PySem.W.exmOne K (.ref C) (.ref B) == some true
structure KinF (K : PySem.W.Frag) (C B : Addr) (Ds : List Addr) (i : Nat) : Prop where
  f : ExcF K C
  d : ∀ j D, Ds[j]? = some D → PySem.W.kitOne K (.ref C) (.ref D) = some (decide (j = i))
  v : PySem.W.kitOne K (.ref C) (.type "ValueError") = some true
  b : PySem.W.exmOne K (.ref C) (.ref B) = some true
theorem kinCk_ok {K : PySem.W.Frag} {C B : Addr} {Ds : List Addr} {i : Nat} (h : kinCk K C B Ds i = true) : KinF K C B Ds i := by
  unfold kinCk at h
  simp only [Bool.and_eq_true, beq_iff_eq, List.all_eq_true] at h
  obtain ⟨⟨⟨h1, h2⟩, h3⟩, h4⟩ := h
  refine ⟨excCk_ok h1, fun j D e => ?_, h3, h4⟩
  have := h2 (D, j) (by
    rw [List.mem_iff_getElem?]
    exact ⟨j, by simp [e]⟩)
  exact this
theorem excAt_of {K : PySem.W.Frag} {mg : Str → Option Value} {n : String} {C : Addr} (h : ExcF K C) (hm : mg (n : Str) = some (.ref C)) : ExcAt K mg n := ⟨C, hm, h.q, h.k, h.s, h.t⟩
end N

/-! N41: == of things that hold lists of the store; e.append(x); tables of defs. -/
namespace N
open PySem PySem.Spec L2 PyProof.Rows
/-! ### data with the store's lists put in -/
def allSome {α : Type} : List (Option α) → Option (List α)
  | [] => some []
  | some x :: t => (allSome t).map (x :: ·)
  | none :: _ => none
def deep (st : Sto) : Nat → D → Option D
  | 0, _ => none
  | n + 1, .list xs => (allSome (xs.map (deep st n))).map .list
  | n + 1, .tuple xs => (allSome (xs.map (deep st n))).map .tuple
  | n + 1, .dict kvs => match refOf (.dict kvs) with
    | some k => match st[k]? with
      | some (.l xs) => (allSome (xs.map (deep st n))).map .list
      | _ => none
    | none => none
  | _ + 1, .none => some .none
  | _ + 1, .bool b => some (.bool b)
  | _ + 1, .int i => some (.int i)
  | _ + 1, .str x => some (.str x)
def R.dk (r : R) (st : Sto) : Option D := match r with
  | .d x => deep st 12 x
  | .l _ xs => (allSome (xs.map (deep st 12))).map .list
  | .k _ _ => none
section
variable {K : PySem.W.Frag} {g : Gh} {H : Hp} {env : En} {st : Sto} {σ : L2.St}
theorem deep_nt {n : Nat} {d x : D} (e : deep st n d = some x) (h : ∀ ys, d ≠ .tuple ys) : ∀ ys, x ≠ .tuple ys := by
  cases n with
  | zero => cases e
  | succ n =>
    intro ys z
    subst z
    cases d with
    | tuple xs => exact h _ rfl
    | list xs => unfold deep at e; obtain ⟨_, _, z⟩ := Option.map_eq_some_iff.mp e; cases z
    | dict kvs =>
      unfold deep at e
      split at e
      · split at e
        · obtain ⟨_, _, z⟩ := Option.map_eq_some_iff.mp e; cases z
        · cases e
      · cases e
    | none => unfold deep at e; cases e
    | bool b => unfold deep at e; cases e
    | int i => unfold deep at e; cases e
    | str i => unfold deep at e; cases e
theorem headW_nt {ds : List D} (h : headW ds = true) : ∀ d, ds[0]? = some d → ∀ ys, d ≠ .tuple ys := by
  intro d e ys z
  subst z
  cases ds with
  | nil => cases e
  | cons a t => cases e; cases h
theorem headW_of {ds : List D} (h : ∀ d, ds[0]? = some d → ∀ ys, d ≠ .tuple ys) : headW ds = true := by
  cases ds with
  | nil => rfl
  | cons a t => cases a with
    | tuple ys => exact absurd rfl (h _ rfl ys)
    | _ => rfl
theorem allSome_get {α : Type} : ∀ {os : List (Option α)} {xs : List α}, allSome os = some xs → os = xs.map some
  | [], _, e => by cases e; rfl
  | some x :: t, _, e => by
    unfold allSome at e
    obtain ⟨ys, h1, rfl⟩ := Option.map_eq_some_iff.mp e
    rw [allSome_get h1]; rfl
  | none :: _, _, e => by cases e
theorem allSome_map {α : Type} : ∀ (xs : List α), allSome (xs.map some) = some xs
  | [] => rfl
  | x :: t => by
    show (allSome (t.map some)).map (x :: ·) = _
    rw [allSome_map t]; rfl
theorem deepA_ok {n : Nat} (ih : ∀ {v : V} {d x : D}, Df K g v d → deep st n d = some x → Df K (g.snap H) v x) : ∀ {vs : List V} {ds xs : List D}, DfA K g vs ds → ds.map (deep st n) = xs.map some → DfA K (g.snap H) vs xs
  | _, _, [], .nil, _ => .nil
  | _, _, _ :: _, .nil, e => by cases e
  | _, _, [], .cons _ _, e => by cases e
  | _, _, x :: xs, .cons a t, e => by
    simp only [List.map_cons, List.cons.injEq] at e
    exact .cons (ih a e.1) (deepA_ok ih t e.2)
theorem deep_ok (R0 : Rel K g env st σ H) : ∀ {n : Nat} {v : V} {d x : D}, Df K g v d → deep st n d = some x → Df K (g.snap H) v x := by
  intro n
  have gr : ∀ a o, g.G a = some o → (g.snap H).G a = some o := fun a o => snap_le
  induction n with
  | zero => intro v d x _ e; cases e
  | succ n ih =>
    intro v d x h e
    have lists : ∀ {a : Addr} {vs : List V} {ds xs : List D}, (g.snap H).G a = some (.lst vs) → DfA K g vs ds → allSome (ds.map (deep st n)) = some xs → Df K (g.snap H) (.ref a) (.list xs) := fun h1 h2 e => .lst (.inl (.inl h1)) (deepA_ok ih h2 (allSome_get e))
    cases h with
    | non => unfold deep at e; cases e; exact .non
    | bl b => unfold deep at e; cases e; exact .bl b
    | int i => unfold deep at e; cases e; exact .int i
    | str s => unfold deep at e; cases e; exact .str s
    | lst h1 h2 =>
      unfold deep at e
      obtain ⟨xs, e1, rfl⟩ := Option.map_eq_some_iff.mp e
      exact .lst (by
        rcases h1 with (h | ⟨o, h⟩) | h
        · exact .inl (.inl (gr _ _ h))
        · exact .inl (.inr ⟨o, gr _ _ h⟩)
        · exact .inr h) (deepA_ok ih h2 (allSome_get e1))
    | tup h1 hb h2 =>
      rename_i a vs ds
      unfold deep at e
      obtain ⟨xs, e1, rfl⟩ := Option.map_eq_some_iff.mp e
      have e2 := allSome_get e1
      refine .tup (by
        rcases h1 with (h | ⟨o, h⟩) | h
        · exact .inl (.inl (gr _ _ h))
        · exact .inl (.inr ⟨o, gr _ _ h⟩)
        · exact .inr h) ?_ (deepA_ok ih h2 e2)
      rcases hb with ⟨o, y, k1, k2⟩ | hw
      · exact .inl ⟨o, y, gr _ _ k1, k2⟩
      · refine .inr (headW_of fun d ed => ?_)
        have ed' : (xs.map some)[0]? = some (some d) := by rw [List.getElem?_map, ed]; rfl
        rw [← e2, List.getElem?_map] at ed'
        cases e0 : ds[0]? with
        | none => rw [e0] at ed'; cases ed'
        | some d0 =>
          rw [e0] at ed'
          have ed2 : deep st n d0 = some d := by simpa using ed'
          exact deep_nt ed2 (headW_nt hw d0 e0)
    | dct h1 h2 =>
      rename_i a vs ds
      unfold deep at e
      split at e
      · rename_i k hk
        unfold refOf at hk
        split at hk
        · rename_i m hm
          exfalso
          simp only [PyData.dict.injEq] at hm
          cases ds with
          | nil => cases hm
          | cons p t =>
            simp only [List.map_cons, List.cons.injEq, Prod.mk.injEq] at hm
            exact kD_ne _ hm.1.1
        · cases hk
      · cases e
    | dctF h1 h2 =>
      unfold deep at e
      split at e
      · rename_i k hk
        unfold refOf at hk
        split at hk
        · rename_i m hm
          exfalso
          simp at hm
        · cases hk
      · cases e
    | rf k hk =>
      unfold rf deep at e
      rw [show refOf (PyData.dict [(.none, .int (k : Int))]) = some k from refOf_rf k] at e
      dsimp only at e
      split at e
      · rename_i xs es
        obtain ⟨ys, e1, rfl⟩ := Option.map_eq_some_iff.mp e
        obtain ⟨_, vs, h1, h2, h3⟩ := R0.obj k _ es rfl
        exact lists (snap_new h2 h1) h3 e1
      · cases e
    | fn y hy =>
      unfold deep at e
      cases e
theorem dk_ok (R0 : Rel K g env st σ H) {v : V} {r : R} {x : D} (h : Rv K g H v r) (e : r.dk st = some x) : Df K (g.snap H) v x := by
  cases r with
  | d y => exact deep_ok R0 h e
  | l f xs =>
    obtain ⟨ys, e1, rfl⟩ := Option.map_eq_some_iff.mp e
    obtain ⟨a, vs, rfl, h1, h2, _, h4⟩ := h
    exact .lst (.inl (.inl (snap_new h2 h1))) (deepA_ok (deep_ok R0) h4 (allSome_get e1))
  | k f xs => cases e
end
section
variable {X : Cx} {W : String → L2.St → Hp → Prop}
theorem reads_dk {pins : List (Addr × Obj)} {σ σ' : L2.St} {H : Hp} {s : Shared} {env : En} {st : Sto} {g : Gh} {v : V} {u : Value} {r : R} {x : D} (I : Inv X pins σ H s) (R0 : Rel X.K g env st σ' H) (h : Rv X.K g H v r) (e : r.dk st = some x) (p : x.plain = true) (ru : RelV v u) : ∃ a, Reads s.heap u x a :=
  Dp.reads I x v u (Df.dp R0.toC.snap.sub x (dk_ok R0 h e) p) ru
def oEqD (neg : Bool) (a b : R) : M R := fun st => match a.dk st, b.dk st with
  | some x, some y => if okD x = true ∧ okD y = true then .ok (.d (.bool (neg ^^ PyData.eqv x y))) st else .no
  | _, _ => .no
theorem or_eqD (hu : X.A.units + 64 < cLine) : OpR X (compareOp .Eq) (rr2 (cx X W) (oEqD false)) := by
  intro pins s σ H x y v u Q I rx ry ⟨env, σ', st, g, H0, g0, r1, r2, A⟩
  obtain ⟨B, v1, -, v2, -, -, q⟩ := A
  unfold oEqD at q
  split at q
  · rename_i a b e1 e2
    split at q
    · rename_i ho
      obtain ⟨as, h1⟩ := reads_dk I B.rel v1 e1 (okD_plain ho.1) rx
      obtain ⟨bs, h2⟩ := reads_dk I B.rel v2 e2 (okD_plain ho.2) ry
      have k1 := okD_depth ho.1
      refine SeqAt.eq_plain h1 h2 (okD_plain ho.1) (okD_plain ho.2) (by have := Nat.min_le_left a.depth b.depth; omega) ?_
      exact ⟨.bl _, H, I, rfl, by have := B.fin_d (v := .bl (PyData.eqv a b)) q (by rw [Bool.false_xor]; exact .bl _); exact this⟩
    · exact q.elim
  · exact q.elim
theorem or_neD (hu : X.A.units + 64 < cLine) : OpR X (compareOp .NotEq) (rr2 (cx X W) (oEqD true)) := by
  intro pins s σ H x y v u Q I rx ry ⟨env, σ', st, g, H0, g0, r1, r2, A⟩
  obtain ⟨B, v1, -, v2, -, -, q⟩ := A
  unfold oEqD at q
  split at q
  · rename_i a b e1 e2
    split at q
    · rename_i ho
      obtain ⟨as, h1⟩ := reads_dk I B.rel v1 e1 (okD_plain ho.1) rx
      obtain ⟨bs, h2⟩ := reads_dk I B.rel v2 e2 (okD_plain ho.2) ry
      have k1 := okD_depth ho.1
      refine SeqAt.ne_plain h1 h2 (okD_plain ho.1) (okD_plain ho.2) (by have := Nat.min_le_left a.depth b.depth; omega) ?_
      exact ⟨.bl _, H, I, rfl, by have := B.fin_d (v := .bl (!PyData.eqv a b)) q (by rw [Bool.true_xor]; exact .bl _); exact this⟩
    · exact q.elim
  · exact q.elim
end

/-! ### o.append(e), o a list of the store -/
def toRef : R → M Nat := fun r st => match r with
  | .d x => match refOf x with
    | some n => match st[n]? with
      | some (.l _) => .ok n st
      | _ => .no
    | none => .no
  | _ => .no
def mutR (n : Nat) (up : List D → Option (List D)) (env : En) : M (Fl × En) := fun st => match st[n]? with
  | some (.l xs) => match up xs with
    | some ys => .ok (.nx, env) (st.set n (.l ys))
    | none => .no
  | _ => .no
def dAppE (fo f : En → M R) : SM := fun env => fo env >>= fun o => toRef o >>= fun n => f env >>= fun r => toKp r >>= fun x => mutR n (pushL x) env
section
variable {c : Ct} {env : En} {σ : L2.St} {H H1 H0 : Hp} {g g0 g1 lo : Gh} {st st1 : Sto} {De : Ends}
theorem toRef_ok {v : V} {r : R} {k : Nat → M (Fl × En)} (h : RelS c H0 g0 lo env st σ H g) (rv : Rv c.K g H v r) (q : PostS c H0 g0 lo ((toRef r >>= k) st) De) : ∃ n xs, n < g.L ∧ v = .ref (g.ι n) ∧ st[n]? = some (.l xs) ∧ PostS c H0 g0 lo (k n st) De := by
  rw [M.bind_ap] at q
  unfold toRef at q
  cases r with
  | d x =>
    dsimp only at q
    cases er : refOf x with
    | none => rw [er] at q; exact q.elim
    | some n =>
      rw [er] at q
      dsimp only at q
      obtain ⟨hn, rfl⟩ := refOf_some rv er
      cases es : st[n]? with
      | none => rw [es] at q; exact q.elim
      | some ob =>
        rw [es] at q
        cases ob with
        | l xs => exact ⟨n, xs, hn, rfl, es, q⟩
        | _ => exact q.elim
  | _ => exact q.elim
theorem mutR_ok {n : Nat} {up : List D → Option (List D)} (h : RelS c H0 g0 lo env st σ H g) (q : PostS c H0 g0 lo (mutR n up env st) De) :
    ∃ vs xs ys, n < g.L ∧ H (g.ι n) = some (.lst vs) ∧ DfA c.K g vs xs ∧ up xs = some ys ∧ ∀ ws, DfA c.K g ws ys → De.nx σ (upd H (g.ι n) (.lst ws)) := by
  unfold mutR at q
  split at q
  · rename_i xs es
    split at q
    · rename_i ys eu
      obtain ⟨hn, vs, h1, h2, h4⟩ := h.rel.obj n _ es rfl
      refine ⟨vs, xs, ys, hn, h1, h4, eu, fun ws hw => q σ _ g (h.mut h1 h2 (h.e.back (lb_open h.rel.lb es) hn) (fun j r ej => ?_) (fun j r ej o => ⟨r, ej, o⟩) (fun m ob em lv => ?_) (lb_set h.rel.lb es) rfl)⟩
      · obtain ⟨v, k1, k2⟩ := h.rel.slot j r ej
        refine ⟨v, k1, k2.mut fun o z => ?_⟩
        subst z
        cases r with
        | d _ => cases o
        | l f ds => obtain ⟨a, _, z, _, _, z2, _⟩ := k2; cases z; exact z2 n hn rfl
        | k f ds => obtain ⟨a, _, z, _, _, z2, _⟩ := k2; cases z; exact z2 n hn rfl
      · rcases set_get em with ⟨rfl, em, _⟩ | ⟨hm, em⟩
        · cases em
          exact ⟨hn, ws, upd_same, h2, hw⟩
        · obtain ⟨k1, k2⟩ := h.rel.obj m ob em lv
          exact ⟨k1, k2.mut fun z => hm (h.rel.inj m n k1 hn z)⟩
    · exact q.elim
  · exact q.elim
end
section
variable {X : Cx} {W : String → L2.St → Hp → Prop} {pos : Pos} {H0 : Hp} {g0 : Gh} {e o : Expr} {f fo : En → M R}
theorem s_appendE {apos cpos : Pos} (ho : PE X o (tr (cx X W) fo)) (he : PE X e (tr (cx X W) f))
    (h1 : attributeBase o "append" X.env (eval o X.env) = eval o X.env := by rfl)
    (h2 : ((backTo cpos (starEach [e] X.env)).all (fun y => !y.1) && (backToKw cpos (keywordEach [] X.env)).all (fun y => y.1.isSome) && decide ([e].length + ([] : List Keyword).length + (if ([] : List Keyword).isEmpty then 0 else 1) < 30)) = true := by rfl)
    (h3 : (apos.endLine == cpos.line) = true := by rfl) (h4 : starEach [e] X.env = (false, eval e X.env) :: starEach [] X.env := by rfl) (h5 : (backTo cpos (starEach [] X.env)).any (·.1) = false := by rfl)
    (hs : swapsWith (.Call (.Attribute o "append" apos) [e] [] cpos) none pos.line X.env = pure false := by rfl) :
    PS X (.Expr (.Call (.Attribute o "append" apos) [e] [] cpos) pos) (trS (cx X W) H0 g0 (dAppE fo f)) := by
  refine PS.imp (ps_expr (pe_bm PySem.F.plainAttrs_list PySem.F.slot_list_append PySem.F.type_list_append mt_append ho (pa_cons he pa_nil h4) h1 h2 h3 h4 h5) hs) fun D σ H ⟨env, st, g, lo, R0, q⟩ => ?_
  refine ⟨env, st, g, R0.rel, Post.mono (R0.part q) fun r0 g1 H1 ⟨st1, x, R1, q1⟩ v0 rv0 fr0 => ?_⟩
  obtain ⟨n, xs, hn, rfl, es, q2⟩ := toRef_ok R1 rv0 q1
  obtain ⟨_, vs0, hl0, _, _⟩ := R1.rel.obj n _ es rfl
  refine ⟨  .inl ⟨rfl, vs0, .inl (.inl hl0)⟩, env, st1, g1, R1.rel, Post.mono (R1.part q2) fun r g2 H2 ⟨st2, x2, R2, q3⟩ v rv fr => ?_⟩
  obtain ⟨d, ek, q4⟩ := toKp_ok q3
  obtain ⟨g3, le, _, R3, hd3⟩ := R2.frz x2 R1.e R1.rel.sl rv fr ek
  obtain ⟨ws, xs', ys, hn3, k1, k2, k3, k4⟩ := mutR_ok R3 q4
  have ei : g3.ι n = g1.ι n := (le.ι n (Nat.lt_of_lt_of_le hn x2.le.L)).trans (x2.le.ι n hn)
  unfold pushL at k3
  split at k3
  · rename_i hz
    cases k3
    rw [ei] at k1 k4
    exact ⟨_, ws, v, rfl, rfl, k1, by rw [k2.length]; exact hz, k4 _ (k2.append (.cons hd3 .nil))⟩
  · cases k3
end

/-! ### tables of defs -/
def tabN : Str → Option (List R → M R) := fun _ => none
def tabC (x : Str) (op : List R → M R) (t : Str → Option (List R → M R)) : Str → Option (List R → M R) := fun y => if y = x then some op else t y
section
variable {X : Cx} {W : String → L2.St → Hp → Prop} {k n : Nat}
theorem tab_nil : TabOk X k n tabN := fun y op e => by cases e
theorem tab_cons {x : Str} {op : List R → M R} {t : Str → Option (List R → M R)} {ps : List Str} {F : List D → M R} {j : Nat} (v : FnV X.K X.mg x) (h : FdX X.prog X.w X.K X.mg X.base j x ps F) (hop : CallX n F op) (ht : TabOk X k n t) (hn : ps.length = n := by rfl) (hj : j ≤ k := by decide) : TabOk X k n (tabC x op t) := fun y op' e => by
  unfold tabC at e
  split at e
  · rename_i ey
    subst ey
    cases e
    obtain ⟨f, fd, G, m, kp, b⟩ := h
    exact ⟨v, ps, F, hn, hop, f, fd, G.mono hj, m, kp, b⟩
  · exact ht y op' e
theorem callX_C' {n : Nat} {F : List D → M R} : CallX n F (opCX n F) := fun b rv fr q => callX_C b rv fr q
theorem callX_S' {n : Nat} {F : List D → M R} : CallX n F (opSX n F) := fun b rv fr q => callX_S b rv fr q
theorem e_fnV {x : Str} {pos : Pos} (v : FnV X.K X.mg x) (hg : Gl X x := by rfl) (hdb : (x == ("__debug__" : Str)) = false := by decide) : PE X (.Name x pos) (tr (cx X W) (eC (fnD x))) := by
  obtain ⟨f, h1, h2⟩ := v
  exact e_fn h1 h2 hg hdb
/-- a table of refusals -/
def kinTab (l : List (String × List Str)) : String → Option (List Str) := fun n => (l.find? fun p => p.1 == n).map (·.2)
theorem kinTab_ok {P : Program} {w : World} {K : PySem.W.Frag} {mg : Str → Option Value} {base : Heap} {k : Nat} {x y : Str} {B : Addr} {l : List (String × List Str)} (h : ∀ p ∈ l, FdK P w K mg base k x y p.1 p.2 ∧ ∀ C, mg (p.1 : Str) = some (.ref C) → PySem.W.exmOne K (.ref C) (.ref B) = some true) :
    ∀ n ds, kinTab l n = some ds → FdK P w K mg base k x y n ds ∧ ∀ C, mg (n : Str) = some (.ref C) → PySem.W.exmOne K (.ref C) (.ref B) = some true := fun n ds e => by
  unfold kinTab at e
  obtain ⟨p, e1, rfl⟩ := Option.map_eq_some_iff.mp e
  have e2 := List.find?_some e1
  simp only [beq_iff_eq] at e2
  subst e2
  exact h p (List.mem_of_find?_eq_some e1)
end
end N

/-! N42: computing with oEqD, exceptions. -/
namespace N
open PySem PySem.Spec L2
theorem dp_inv : ∀ {n : Nat} {xs : List D}, PyData.plainAll xs = true → PyData.depthAll xs ≤ n → ∀ x ∈ xs, Dp n x
  | n, [], _, _, x, h => by simp at h
  | n, y :: ys, h1, h2, x, h => by
    simp only [PyData.plainAll, Bool.and_eq_true] at h1
    simp only [PyData.depthAll] at h2
    have := Nat.max_le.mp h2
    rcases List.mem_cons.mp h with rfl | h
    · exact ⟨h1.1, this.1⟩
    · exact dp_inv h1.2 this.2 x h
theorem map_some {α β : Type} {f : α → Option β} {g : α → β} : ∀ {xs : List α}, (∀ x ∈ xs, f x = some (g x)) → xs.map f = (xs.map g).map some
  | [], _ => rfl
  | x :: xs, h => by
    rw [List.map_cons, List.map_cons, List.map_cons, h x List.mem_cons_self, map_some fun y hy => h y (List.mem_cons_of_mem _ hy)]
theorem allSome_id {f : D → Option D} {xs : List D} (h : ∀ x ∈ xs, f x = some x) : allSome (xs.map f) = some xs := by
  rw [map_some (g := fun x => x) h, List.map_id', allSome_map]
theorem deep_dp {st : Sto} : ∀ (n : Nat) (x : D), Dp n x → deep st (n + 1) x = some x
  | n, .none, _ => by unfold deep; rfl
  | n, .bool b, _ => by unfold deep; rfl
  | n, .int i, _ => by unfold deep; rfl
  | n, .str i, _ => by unfold deep; rfl
  | n, .dict kvs, h => by
    have := h.1
    simp [PyData.plain] at this
  | 0, .list xs, h => by
    have := h.2
    simp only [PyData.depth] at this
    omega
  | 0, .tuple xs, h => by
    have := h.2
    simp only [PyData.depth] at this
    omega
  | n + 1, .list xs, h => by
    have h1 : PyData.plainAll xs = true := by simpa [PyData.plain] using h.1
    have h2 := h.2
    simp only [PyData.depth] at h2
    unfold deep
    rw [allSome_id fun x hx => deep_dp n x (dp_inv h1 (by omega) x hx)]
    rfl
  | n + 1, .tuple xs, h => by
    have h1 : PyData.plainAll xs = true := by simpa [PyData.plain] using h.1
    have h2 := h.2
    simp only [PyData.depth] at h2
    unfold deep
    rw [allSome_id fun x hx => deep_dp n x (dp_inv h1 (by omega) x hx)]
    rfl
theorem deep_dp' {st : Sto} {n m : Nat} {x : D} (h : Dp n x) (hn : n < m := by decide) : deep st m x = some x := by
  cases m with
  | zero => omega
  | succ m => exact deep_dp m x (h.mono (by omega))
theorem deep_rf {st : Sto} {n k : Nat} {xs : List D} (h : st[k]? = some (.l xs)) (hx : ∀ x ∈ xs, Dp n x) {m : Nat} (hm : n + 1 < m := by decide) : deep st m (rf k) = some (.list xs) := by
  cases m with
  | zero => omega
  | succ m =>
    unfold rf deep
    rw [show refOf (PyData.dict [(.none, .int (k : Int))]) = some k from refOf_rf k]
    simp only [h]
    rw [allSome_id fun x hx' => deep_dp' (hx x hx') (by omega)]
    rfl
theorem dk_d {st : Sto} {n : Nat} {x : D} (h : Dp n x) (hn : n < 12 := by decide) : (R.d x).dk st = some x := deep_dp' h hn
theorem dk_l {st : Sto} {n : Nat} {b : Bool} {xs : List D} (h : ∀ x ∈ xs, Dp n x) (hn : n < 12 := by decide) : (R.l b xs).dk st = some (.list xs) := by
  unfold R.dk
  simp only [allSome_id fun x hx => deep_dp' (h x hx) hn]
  rfl
theorem oEqD_dk {neg : Bool} {a b : R} {x y : D} {st : Sto} (ha : a.dk st = some x) (hb : b.dk st = some y) (hx : okD x = true) (hy : okD y = true) : oEqD neg a b st = .ok (.d (.bool (neg ^^ PyData.eqv x y))) st := by
  unfold oEqD
  simp only [ha, hb, hx, hy, and_self, if_true]
theorem oEqD_same {neg : Bool} {a b : R} {x : D} {n : Nat} {st : Sto} (ha : a.dk st = some x) (hb : b.dk st = some x) (hx : Dp n x) (hn : n ≤ 60 := by decide) : oEqD neg a b st = .ok (.d (.bool (!neg))) st := by
  rw [oEqD_dk ha hb (hx.ok hn) (hx.ok hn), PySem.SeqAt.eqv_refl_plain x hx.1]
  cases neg <;> rfl
section
variable {env : En} {st s s2 : Sto} {f : En → M R}
theorem dCall_ex {op : List R → M R} {fs : En → M (List R)} {rs : List R} {n : String} (h : fs env st = .ok rs s) (e : op rs s = .ex n s2) : dCall op fs env st = .ex n s2 := by
  unfold dCall
  rw [M.bind_ok h]
  exact e
theorem opCX_ok {n : Nat} {F : List D → M R} {rs : List R} {ds : List D} {r : R} (h : kpAll rs = some ds) (hn : ds.length = n) (e : F ds [.c] = .ok r s) : opCX n F rs st = .ok r st := by
  unfold opCX
  simp only [h, hn, if_true, e]
theorem opCX_ex {n : Nat} {F : List D → M R} {rs : List R} {ds : List D} {m : String} (h : kpAll rs = some ds) (hn : ds.length = n) (e : F ds [.c] = .ex m s) : opCX n F rs st = .ex m st := by
  unfold opCX
  simp only [h, hn, if_true, e]
theorem opSX_ok {n : Nat} {F : List D → M R} {rs : List R} {ds : List D} {r : R} (h : kpAll rs = some ds) (hn : ds.length = n) (e : F ds st = .ok r s) : opSX n F rs st = .ok r s := by
  unfold opSX
  simp only [h, hn, if_true, e]
theorem opSX_ex {n : Nat} {F : List D → M R} {rs : List R} {ds : List D} {m : String} (h : kpAll rs = some ds) (hn : ds.length = n) (e : F ds st = .ex m s) : opSX n F rs st = .ex m s := by
  unfold opSX
  simp only [h, hn, if_true, e]
theorem fnP_ex {n : Nat} {S : SM} {ds : List D} {m : String} (h : S (env0 n ds) st = .ex m s) : fnP n S ds st = .ex m s := by
  unfold fnP
  rw [h]
theorem seq_ex {S T : SM} {n : String} (h : S env st = .ex n s) : dSeq S T env st = .ex n s := by
  unfold dSeq
  rw [M.bind_ap, h]
theorem drop_ex {n : String} (h : f env st = .ex n s) : dDrop f env st = .ex n s := by
  unfold dDrop
  rw [M.bind_ap, h]
theorem tryE_ok {ik ie : Nat} {tab : String → Option (List Str)} {r : R} (h : f env st = .ok r s) : dTryE ik ie tab f env st = .ok (.nx, env) s := by
  unfold dTryE caught
  rw [h]
  rfl
theorem tryE_ex {ik ie : Nat} {tab : String → Option (List Str)} {n : String} {ds : List Str} (h : f env st = .ex n s) (ht : tab n = some ds) : dTryE ik ie tab f env st = .ok (.nx, ((env.set ie none).set ik (some (.d (.list (ds.map .str))))).set ie none) s := by
  unfold dTryE caught
  rw [h]
  simp only [ht]
theorem tryA_ok {i ik ie : Nat} {sl : R → M R} {tab : String → Option (List Str)} {r r' : R} (h : f env st = .ok r s) (hs : sl r s = .ok r' s2) : dTryA i sl ik ie tab f env st = .ok (.nx, env.set i (some r')) s2 := by
  unfold dTryA caught
  rw [h]
  dsimp only
  rw [M.bind_ok hs]
  rfl
theorem tryA_ex {i ik ie : Nat} {sl : R → M R} {tab : String → Option (List Str)} {n : String} {ds : List Str} (h : f env st = .ex n s) (ht : tab n = some ds) : dTryA i sl ik ie tab f env st = .ok (.nx, ((env.set ie none).set ik (some (.d (.list (ds.map .str))))).set ie none) s := by
  unfold dTryA caught
  rw [h]
  simp only [ht]
theorem callV_at {i : Nat} {x : Str} {tab : Str → Option (List R → M R)} {op : List R → M R} {fs : En → M (List R)} (h : env[i]? = some (some (.d (fnD x)))) (ht : tab x = some op) : dCallV i tab fs env st = dCall op fs env st := by
  unfold dCallV
  simp only [h, fnOf_fnD, ht]
theorem new_l {xs : List D} (h : f env st = .ok (.l true xs) s) (ho : opn s = true) : dNew f env st = .ok (.d (rf s.length)) (s ++ [.l xs]) := by
  unfold dNew
  rw [M.bind_ok h]
  show (if opn s = true then _ else _) = _
  rw [if_pos ho]
theorem appE_ok {fo : En → M R} {k : Nat} {xs : List D} {x : D} (h : fo env st = .ok (.d (rf k)) s) (hk : s[k]? = some (.l xs)) (h2 : f env s = .ok (.d x) s) (hl : xs.length < 1000000) : dAppE fo f env st = .ok (.nx, env) (s.set k (.l (xs ++ [x]))) := by
  unfold dAppE
  rw [M.bind_ok h]
  have t : toRef (.d (rf k)) s = .ok k s := by
    show (match refOf (rf k) with
      | some n => match s[n]? with
        | some (.l _) => Res.ok n s
        | _ => .no
      | none => .no) = _
    rw [refOf_rf]
    simp only [hk]
  rw [M.bind_ok t, M.bind_ok h2]
  have t2 : toKp (.d x) s = .ok x s := rfl
  rw [M.bind_ok t2]
  show mutR k (pushL x) env s = _
  unfold mutR pushL
  simp only [hk, if_pos (Nat.lt_of_lt_of_le hl sizeLine_big)]
end
end N

/-! N43: x or y, x a list or None. -/
namespace N
open PySem PySem.Spec L2 PyProof.Rows
def truR (r : R) : M Bool := fun st => match r with
  | .d .none => .ok false st
  | .l _ xs => .ok (!xs.isEmpty) st
  | _ => .no
/-- x or y, by truth -/
def dOrT (f k : En → M R) : En → M R := fun env => f env >>= fun r => truR r >>= fun b => if b = true then M.ret r else k env
section
variable {X : Cx} {W : String → L2.St → Hp → Prop} {pos : Pos} {a b : Expr} {fa fb : En → M R} {rest : List Expr}
theorem e_orT (h : PE X a (tr (cx X W) fa)) (h2 : PE X (.BoolOp .Or (b :: rest) pos) (tr (cx X W) fb)) : PE X (.BoolOp .Or (a :: b :: rest) pos) (tr (cx X W) (dOrT fa fb)) :=
  PE.imp (pe_orT h h2) fun σ H Q ⟨env, st, g, R0, h⟩ => ⟨env, st, g, R0, Post.mono (Post.bind (.refl H g) h) fun r g1 H1 ⟨st1, _, R1, x, _, q⟩ v rv fr => by
    cases r with
    | d y =>
      cases y with
      | none =>
        refine ⟨false, ?_, ?_⟩
        · cases rv
          rfl
        · exact iteF (Bs.tr ⟨x, R1, R0.sl⟩ q)
      | _ => exact q.elim
    | l o xs =>
      obtain ⟨p, vs, rfl, h1, h3⟩ := lst_ok (ds := xs) R1 rv rfl
      have e : vs.isEmpty = xs.isEmpty := by
        have := h3.length
        cases vs <;> cases xs <;> simp_all
      refine ⟨!xs.isEmpty, .inl ⟨vs, h1, by rw [e]⟩, ?_⟩
      have q2 : Post (cx X W) env σ H g ((if (!xs.isEmpty) = true then M.ret (.l o xs) else fb env) st1) (qE (cx X W) H Q) := q
      cases hx : (!xs.isEmpty) with
      | true =>
        rw [hx] at q2
        exact iteT (q2 g1 H1 x R1 _ rv fr)
      | false =>
        rw [hx] at q2
        exact iteF (Bs.tr ⟨x, R1, R0.sl⟩ q2)
    | k o xs => exact q.elim⟩
/-- x is None, x is not None, where x may be a list of one's own -/
def oIsNL (neg : Bool) (a b : R) : M R := match a, b with
  | .d x, .d .none => M.ret (.d (.bool (neg ^^ isNoneD x)))
  | .l _ _, .d .none => M.ret (.d (.bool neg))
  | _, _ => M.no
theorem or_isNL : OpR X (compareOp .Is) (rr2 (cx X W) (oIsNL false)) := by
  intro pins s σ H x y v u Q I rx ry ⟨env, σ', st, g, H0, g0, r1, r2, A⟩
  obtain ⟨B, v1, -, v2, -, -, q⟩ := A
  unfold oIsNL at q
  split at q
  · rename_i d
    have v1' : Df X.K g x d := v1
    exact op_isN pins s σ H _ _ v u Q I rx ry ⟨Df.non_inv v2, by rw [df_none v1']; exact B.fin_d q (by rw [Bool.false_xor]; exact .bl _)⟩
  · obtain ⟨p, vs, rfl, _⟩ := v1
    exact op_isN pins s σ H _ _ v u Q I rx ry ⟨Df.non_inv v2, B.fin_d q (.bl _)⟩
  · exact q.elim
theorem or_notNL : OpR X (compareOp .IsNot) (rr2 (cx X W) (oIsNL true)) := by
  intro pins s σ H x y v u Q I rx ry ⟨env, σ', st, g, H0, g0, r1, r2, A⟩
  obtain ⟨B, v1, -, v2, -, -, q⟩ := A
  unfold oIsNL at q
  split at q
  · rename_i d
    have v1' : Df X.K g x d := v1
    exact op_notN pins s σ H _ _ v u Q I rx ry ⟨Df.non_inv v2, by rw [df_none v1']; exact B.fin_d q (by rw [Bool.true_xor]; exact .bl _)⟩
  · obtain ⟨p, vs, rfl, _⟩ := v1
    exact op_notN pins s σ H _ _ v u Q I rx ry ⟨Df.non_inv v2, B.fin_d q (.bl _)⟩
  · exact q.elim
end
end N

/-! N44: sum(lists, []). -/
namespace N
open PySem PySem.Spec L2 PyProof.Rows
/-- the items of the first i lists -/
def preL (L : Nat → List Value) (i : Nat) : List Value := (List.range i).flatMap L
theorem preL_succ (L : Nat → List Value) (i : Nat) : preL L (i + 1) = preL L i ++ L i := by
  unfold preL
  rw [List.range_succ, List.flatMap_append]
  simp
abbrev lob (items : List Value) (c : Nat) : Obj := { cls := .type "list", data := .seq items.toArray c }
section
variable {prog : Program} {w : World} {A : Around} {Res_ : Result → Shared → Prop} {I : Addr} {fp wr : List Addr} {n : Nat} {P : Nat → Value → Prop} {St : Nat → Heap → Prop}
theorem sum_lists_go (W : PySem.Walks prog w A.in1 I fp wr n P St) (L : Nat → List Value) (h₀ : Heap) (S : Addr) (hS : ∀ b ∈ fp, b < S)
    (hval : ∀ i v, i < n → P i v → ∃ l m d sl, v = .ref l ∧ l ∉ wr ∧ l ≠ S ∧ h₀.get? l = some { cls := .type "list", dict := d, data := .seq (L i).toArray m, slots := sl }) (hz : ∀ i, i ≤ n → (preL L i).length ≤ sizeLine) :
    ∀ (k i : Nat) (s : Shared) (t c ct : Nat), n - i = k → i ≤ n → St i s.heap → s.heap.get? S = some (lob [.ref t] c) → t ≠ S → t ∉ wr → s.heap.get? t = some (lob (preL L i) ct) →
    (∀ b o, b ∉ wr → b ≠ S → h₀.get? b = some o → s.heap.get? b = some o) →
    (∀ h' tk t' c', (∀ b o, b ∉ wr → b ≠ S → h₀.get? b = some o → h'.get? b = some o) → h'.get? t' = some (lob (preL L n) c') → (i = n ∧ t' = t ∨ i < n ∧ S < t') → Res_ (.ok (.ret (.ref t'))) { s with heap := h', toks := tk }) →
    codeAny (model prog w) A (.builtin "sum.loop" ⟨[.ref I, .ref S, rawInt 2, rawInt 0], []⟩) Res_ s := by
  have hSf : S ∉ fp := fun h => Nat.lt_irrefl _ (hS S h)
  have hSw : S ∉ wr := fun h => hSf (W.sub _ h)
  intro k
  induction k with
  | zero =>
    intro i s t c ct hk hi hst hSo htS htw hto hold hR
    have hin : i = n := by omega
    subst hin
    refine codeAny_builtin F.entry_sum_loop ?_
    rw [Around.under_plainId F.plain_sum_loop _]
    show wpAny _ A.in1 (seqItems? (.ref S) >>= _) _ _ s
    refine wpAny_bind (wpAny_seqItems hSo rfl ?_)
    show wpAny _ A.in1 (tryCatch (pyNext (.ref I)) _ >>= _) _ _ s
    refine wpAny_bind (wpAny_tryCatch (W.done s _ _ hst fun h' tk hk' => ?_))
    exact wpAny_pure (hR h' tk t ct (fun b o hb hb2 e => hk' b o hb (hold b o hb hb2 e)) (hk' t _ htw hto) (.inl ⟨rfl, rfl⟩))
  | succ k ih =>
    intro i s t c ct hk hi hst hSo htS htw hto hold hR
    have hlt : i < n := by omega
    refine codeAny_builtin F.entry_sum_loop ?_
    rw [Around.under_plainId F.plain_sum_loop _]
    show wpAny _ A.in1 (seqItems? (.ref S) >>= _) _ _ s
    refine wpAny_bind (wpAny_seqItems hSo rfl ?_)
    show wpAny _ A.in1 (tryCatch (pyNext (.ref I)) _ >>= _) _ _ s
    refine wpAny_bind (wpAny_tryCatch (W.item i s _ _ hlt hst fun v h' tk hP hst' hk' => ?_))
    obtain ⟨l, m, d, sl, rfl, hlw, hlS, hlo⟩ := hval i v hlt hP
    have hS' := hk' S _ hSw hSo
    have ht' := hk' t _ htw hto
    have hl' := hk' l _ hlw (hold l _ hlw hlS hlo)
    have hsz := hz (i + 1) hlt
    rw [preL_succ, List.length_append] at hsz
    show wpAny _ A.in1 ((holding [Value.ref l] (binaryOp .Add (.ref t) (.ref l))).attempt >>= _) _ _ _
    refine wpAny_bind (wpAny_attempt (wpAny_holding ?_))
    refine PySem.concat_meets ⟨_, ht', rfl⟩ ⟨_, hl', rfl⟩ PySem.noFill_list_add PySem.seq_list_add PySem.F.slot_list_add PySem.F.entry_list_add (PySem.F.args_list_add_2 _ _) (PyProof.Rows.list_addW t l (preL L i).toArray (L i).toArray ct m none d #[] sl (by simp; omega)) ⟨ht', hl', ?_⟩
    have hSlt : S < h'.objs.size := Heap.lt_size hS'
    have hp := Heap.get?_push_of_some { cls := Value.type "list", data := Data.seq ((preL L i).toArray ++ (L i).toArray) } hS'
    show wpAny _ A.in1 (updateSeq S (fun _ => #[.ref h'.objs.size]) >>= _) _ _ _
    refine wpAny_bind (wpAny_updateSeq hp rfl ?_)
    have hS2 := Heap.get?_update_self (Obj.mapSeq fun _ => #[Value.ref h'.objs.size]) hp rfl
    refine wpAny_bind (wpAny_letGo ?_)
    refine wpAny_bind ?_
    have far : ∀ b o, b ≠ S → h'.get? b = some o → (((h'.push { cls := Value.type "list", data := Data.seq ((preL L i).toArray ++ (L i).toArray) }).update S (Obj.mapSeq fun _ => #[Value.ref h'.objs.size])).update S (Obj.mapSeq fun _ => #[Value.ref h'.objs.size])).get? b = some o := fun b o hb e =>
      (Heap.get?_update_other _ _ (Ne.symm hb)).trans ((Heap.get?_update_other _ _ (Ne.symm hb)).trans (Heap.get?_push_of_some _ e))
    refine wpAny_updateSeq hS2 rfl (wpAny_pure ⟨plainId_quiet F.plain_sum_loop _, ih (i + 1) _ h'.objs.size _ 0 (by omega) hlt (W.frame _ _ _ hst' fun b hb o e => far b o (fun q => hSf (q ▸ hb)) e) (Heap.get?_update_self _ hS2 rfl) (Nat.ne_of_gt hSlt) (fun q => Nat.lt_asymm hSlt (hS _ (W.sub _ q))) ?_ (fun b o hb hb2 e => far b o hb2 (hk' b o hb (hold b o hb hb2 e))) fun h'' tk'' t' c' hk2 ht2 hor => ?_⟩)
    · refine (Heap.get?_update_other _ _ (Nat.ne_of_lt hSlt)).trans ((Heap.get?_update_other _ _ (Nat.ne_of_lt hSlt)).trans ((Heap.get?_push_size _ rfl).trans ?_))
      rw [preL_succ]
      congr 2
      simp
    · refine hR h'' tk'' t' c' hk2 ht2 (.inr ⟨hlt, ?_⟩)
      rcases hor with ⟨_, rfl⟩ | ⟨_, q⟩
      · exact hSlt
      · exact q
end
theorem sub_lst_bytes : isSubtype (.type "list") (.type "bytes") = pure false := by rw [isSubtype_type]; kernel_rfl
theorem sub_lst_barr : isSubtype (.type "list") (.type "bytearray") = pure false := by rw [isSubtype_type]; kernel_rfl
theorem sub_lst_str : isSubtype (.type "list") (.type "str") = pure false := by rw [isSubtype_type]; kernel_rfl
theorem args_sum2 (a b : Value) : argsOk "sum" ⟨[a, b], []⟩ := by unfold argsOk; kernel_rfl
section
variable {prog : Program} {w : World} {A : Around} {E : Value → Shared → Prop} {s : Shared} {l b : Addr} {its : List Value} {Q : Value → Shared → Prop}
theorem sum_lists_raw {L : Nat → List Value} {cb : Nat} (hh : A.handled = none) (hl : s.heap.IsList l its.toArray) (hb : s.heap.get? b = some (lob [] cb))
    (hits : ∀ i v, its[i]? = some v → ∃ a m d sl, v = .ref a ∧ s.heap.get? a = some { cls := .type "list", dict := d, data := .seq (L i).toArray m, slots := sl }) (hz : ∀ i, i ≤ its.length → (preL L i).length ≤ sizeLine)
    (h : ∀ h' tk t' c', (∀ b o, s.heap.get? b = some o → h'.get? b = some o) → h'.get? t' = some (lob (preL L its.length) c') → (its.length = 0 ∧ t' = b ∨ 0 < its.length ∧ s.heap.objs.size ≤ t') → Q (.ref t') { s with heap := h', toks := tk }) :
    wpAny (model prog w) A (call (.builtin "sum") [.ref l, .ref b]) Q E s := by
  have hlt : l < s.heap.objs.size := by obtain ⟨_, e, _⟩ := hl; exact Heap.lt_size e
  have hbt : b < s.heap.objs.size := Heap.lt_size hb
  refine call_function_tree F.kind_sum F.plain_sum F.entry_sum (args_sum2 _ _) ?_
  unfold PySem.Builtin.«sum»
  simp only [List.length_cons, List.length_nil]
  rw [if_neg (by decide)]
  refine wpAny_bind (wpAny_of_eq (show PySem.Builtin.Builtins.bindParams "sum" ["start"] 0 { pos := [Value.ref b] } = pure [some (.ref b)] from rfl) ?_)
  refine wpAny_bind (wpAny_pyIter_list hl ?_)
  refine wpAny_bind (wpAny_pure ?_)
  have hb1 := Heap.get?_push_of_some { cls := .type "list_iterator", data := .fields #[.ref l, .int 0 0] } hb
  have ty : ∀ s' : Shared, s'.heap = s.heap.push { cls := .type "list_iterator", data := .fields #[.ref l, .int 0 0] } → s'.TypeIs (.ref b) "list" := fun s' e => ⟨_, by rw [e]; exact hb1, rfl⟩
  simp only [List.forIn_cons, List.forIn_nil]
  refine wpAny_bind (wpAny_bind (wpAny_bind (wpAny_isInstance (T := "list") (b := false) (ty _ rfl) sub_lst_str ?_)))
  simp only [Bool.false_eq_true, if_false]
  refine wpAny_pure (wpAny_bind (wpAny_bind (wpAny_isInstance (T := "list") (b := false) (ty _ rfl) sub_lst_bytes ?_)))
  simp only [Bool.false_eq_true, if_false]
  refine wpAny_pure (wpAny_bind (wpAny_bind (wpAny_isInstance (T := "list") (b := false) (ty _ rfl) sub_lst_barr ?_)))
  simp only [Bool.false_eq_true, if_false]
  refine wpAny_pure (wpAny_pure ?_)
  refine wpAny_bind (wpAny_newObj_type ?_)
  have hl1 : (s.heap.push { cls := .type "list_iterator", data := .fields #[.ref l, .int 0 0] }).IsList l its.toArray := hl.push _
  have hI : (s.heap.push { cls := .type "list_iterator", data := .fields #[.ref l, .int 0 0] }).IsListIter s.heap.objs.size l 0 := ⟨_, Heap.get?_push_size _ rfl, rfl, rfl⟩
  have hsz1 : (s.heap.push { cls := .type "list_iterator", data := .fields #[.ref l, .int 0 0] }).objs.size = s.heap.objs.size + 1 := Heap.size_push _ _
  have W := Walks.list (prog := prog) (w := w) (A := A.in1) hh s.heap.objs.size l (Nat.ne_of_lt hlt) its.toArray
  refine wpAny_pure ⟨plainId_quiet F.plain_sum_loop _, sum_lists_go W L s.heap (s.heap.push { cls := .type "list_iterator", data := .fields #[.ref l, .int 0 0] }).objs.size (fun b hb => ?_) (fun i v _ hv => ?_) (fun i hi => hz i (by simpa using hi)) its.toArray.size 0 _ b 0 cb (by simp) (Nat.zero_le _) (W.frame _ _ _ ⟨hI, hl1⟩ fun b _ o e => Heap.get?_push_of_some _ e) ?_ (by rw [hsz1]; exact Nat.ne_of_lt (Nat.lt_succ_of_lt hbt)) (fun q => ?_) ?_ (fun b o _ _ e => Heap.get?_push_of_some _ (Heap.get?_push_of_some _ e)) fun h' tk t' c' hk ht hor => ?_⟩
  · rw [hsz1]
    simp only [List.mem_cons, List.not_mem_nil, or_false] at hb
    rcases hb with rfl | rfl
    · exact Nat.lt_succ_self _
    · exact Nat.lt_succ_of_lt hlt
  · have hv : its[i]? = some v := by simpa using hv
    obtain ⟨a, m, d, sl, rfl, ha⟩ := hits i v hv
    have hal : a < s.heap.objs.size := Heap.lt_size ha
    refine ⟨a, m, d, sl, rfl, fun q => ?_, ?_, ha⟩
    · rw [List.mem_singleton.mp q] at hal
      exact Nat.lt_irrefl _ hal
    · rw [hsz1]
      exact Nat.ne_of_lt (Nat.lt_succ_of_lt hal)
  · exact Heap.get?_push_size _ rfl
  · rw [List.mem_singleton.mp q] at hbt
    exact Nat.lt_irrefl _ hbt
  · exact Heap.get?_push_of_some _ hb1
  · refine h h' tk t' c' (fun b o e => ?_) (by simpa using ht) ?_
    · have hbl : b < s.heap.objs.size := Heap.lt_size e
      refine hk b o (fun q => ?_) ?_ e
      · rw [List.mem_singleton.mp q] at hbl
        exact Nat.lt_irrefl _ hbl
      · rw [hsz1]
        exact Nat.ne_of_lt (Nat.lt_succ_of_lt hbl)
    · rw [hsz1, List.size_toArray] at hor
      rcases hor with ⟨h1, h2⟩ | ⟨h1, h2⟩
      · exact .inl ⟨h1.symm, h2⟩
      · exact .inr ⟨h1, Nat.le_of_lt (Nat.lt_of_succ_lt h2)⟩
end
end N
namespace N
open PySem PySem.Spec L2 PyProof.Rows
def listsOf : List D → Option (List (List D))
  | [] => some []
  | .list ys :: t => (listsOf t).map (ys :: ·)
  | _ => none
/-- sum(r, []) -/
def oSumL (rs : List R) : M R := fun st => match rs with
  | [r, .l true []] => match r.lst? st with
    | some xs => match listsOf xs with
      | some yss => if yss.flatten.length ≤ sizeLine then .ok (.l true yss.flatten) st else .no
      | none => .no
    | none => .no
  | _ => .no
theorem preL_at {ls : List (List Value)} : ∀ {i : Nat}, i ≤ ls.length → preL (fun i => (ls[i]?).getD []) i = (ls.take i).flatten
  | 0, _ => rfl
  | i + 1, h => by
    rw [preL_succ, preL_at (Nat.le_of_succ_le h), List.take_add_one, List.flatten_append]
    congr 1
    rw [List.getElem?_eq_getElem (by omega)]
    simp
theorem flat_take (ls : List (List Value)) (i : Nat) : (ls.take i).flatten.length ≤ ls.flatten.length := by
  have h : ls.flatten.length = (ls.take i ++ ls.drop i).flatten.length := by rw [List.take_append_drop]
  rw [h, List.flatten_append, List.length_append]
  omega
section
variable {X : Cx} {W : String → L2.St → Hp → Prop} {pos : Pos}
theorem lists_ok {pins : List (Addr × PySem.Obj)} {σ : L2.St} {H : Hp} {s : Shared} {g : Gh} (I : L2.Inv X pins σ H s) (sub : ∀ {a : Addr} {vs : List V}, SqL X.K g.G a vs → SqL X.K H a vs) : ∀ {vs : List V} {xs : List D} {its : List Value} {yss : List (List D)}, DfA X.K g vs xs → Vals vs its → listsOf xs = some yss →
    ∃ (wss : List (List V)) (ls : List (List Value)), ls.length = its.length ∧ DfA X.K g wss.flatten yss.flatten ∧ Vals wss.flatten ls.flatten ∧ ∀ (i : Nat) (v : Value), its[i]? = some v → ∃ a m d sl, v = .ref a ∧ s.heap.get? a = some { cls := .type "list", dict := d, data := .seq ((ls[i]?).getD []).toArray m, slots := sl }
  | _, _, _, _, .nil, .nil, e => by
    cases e
    exact ⟨[], [], rfl, .nil, .nil, fun i v h => by simp at h⟩
  | _, _, _, _, .cons (d := x) h1 h2, .cons r1 r2, e => by
    cases x with
    | list ys =>
      unfold listsOf at e
      rw [Option.map_eq_some_iff] at e
      obtain ⟨yss', e, rfl⟩ := e
      obtain ⟨a, vs, rfl, k1, k2⟩ := Df.list_inv h1
      obtain ⟨its0, rv0, ⟨⟨cls, dd, data, sl⟩, n, ho, hc, hd, hs⟩, z⟩ := I.list (sub k1)
      simp only at hc hd hs
      subst hc hd hs
      cases r1
      obtain ⟨wss, ls, hl, d, w, hit⟩ := lists_ok I sub h2 r2 e
      refine ⟨vs :: wss, its0 :: ls, by simp [hl], by simpa using k2.append d, by simpa using rv0.append w, fun i v h => ?_⟩
      cases i with
      | zero =>
        simp only [List.getElem?_cons_zero, Option.some.injEq] at h
        subst h
        exact ⟨a, n, _, _, rfl, by simpa using ho⟩
      | succ i => simpa using hit i v (by simpa using h)
    | _ => cases e
theorem cr_sumL (hc : X.calm = true) : CallR X (.builtin "sum") (rrL (cx X W) oSumL) := by
  intro pins s σ H xs us Q I r ⟨env, σ', st, g, H0, g0, rs, A⟩
  obtain ⟨B, v1, f1, q⟩ := A
  unfold oSumL at q
  split at q
  · rename_i r1
    obtain ⟨x, y, rfl, h1, h2⟩ := rvl2 v1
    split at q
    · rename_i xs e
      split at q
      · rename_i yss el
        split at q
        · rename_i hz
          obtain ⟨a, vs, rfl, k1, k2⟩ := lst_ok B.rel h1 e
          obtain ⟨b, ws, rfl, hb, hbn, hbi, hbd⟩ := id h2
          have hw : ws = [] := by cases hbd; rfl
          subst hw
          cases r with
          | cons ru r2 =>
            cases r2 with
            | cons ru2 r3 =>
              cases r3
              cases ru
              cases ru2
              obtain ⟨its, rv, hl, _⟩ := I.list k1
              obtain ⟨hz0, its0, n0, rv0, hob⟩ := I.hok b _ hb
              have hi0 : its0 = [] := by cases rv0; rfl
              subst hi0
              obtain ⟨wss, ls, hll, d, w, hit⟩ := lists_ok I (fun h => B.rel.sub.sql h) k2 rv el
              have hlen : ls.flatten.length ≤ sizeLine := by
                have e1 := w.length
                have e2 := d.length
                omega
              refine sum_lists_raw (L := fun i => (ls[i]?).getD []) (I.ok.hd hc) hl.isList hob hit (fun i hi => by rw [preL_at (by omega)]; exact Nat.le_trans (flat_take ls i) hlen) fun h' tk t' c' hk ht hor => ?_
              rw [← hll, preL_at (Nat.le_refl _), List.take_length] at ht
              rcases hor with ⟨hn, rfl⟩ | ⟨_, hp⟩
              · have hits : its = [] := List.length_eq_zero_iff.mp hn
                subst hits
                have hvs : vs = [] := by cases rv; rfl
                subst hvs
                have hxs : xs = [] := by cases k2; rfl
                subst hxs
                cases el
                exact ⟨.ref t', H, I.kept hk, rfl, q g H B.e (Le.refl _) B.rel _ h2 f1.2.1.1⟩
              · exact ⟨.ref t', upd H t' (.lst wss.flatten), I.laid hk hp ⟨by have := w.length; omega, ls.flatten, c', w, ht⟩, rfl, B.fin_l q (I.hok.fresh hp) d⟩
        · exact q.elim
      · exact q.elim
    · exact q.elim
  · exact q.elim
end
end N

namespace N
open PySem PySem.Spec L2 PyProof.Rows N
abbrev n_is_whole : List Str := [("thing" : Str)]
abbrev p_is_whole : List Str := [("thing" : Str)]
def D_is_whole : SM :=
    (dRet (dAndV (dUn (oIsi PyData.isInt) (eVar 0)) (dNotV (dUn (oIsi PyData.isBool) (eVar 0)))))
def F_is_whole : List D → M R := fnP 1 D_is_whole
abbrev n_is_within : List Str := [("thing" : Str), ("low" : Str), ("high" : Str)]
abbrev p_is_within : List Str := [("thing" : Str), ("low" : Str), ("high" : Str)]
def D_is_within : SM :=
    (dRet (dAndV (dCall (opC 1 F_is_whole) (dCons (eVar 0) dNil)) (dChain (dOnly (oCmp fLe)) (oCmp fLe) (eVar 1) (eVar 0) (eVar 2))))
def F_is_within : List D → M R := fnP 3 D_is_within
abbrev n_is_name : List Str := [("thing" : Str), ("sign" : Str)]
abbrev p_is_name : List Str := [("thing" : Str)]
def C_is_name_1 : En → M R :=
    (dLc (dItE (eVar 0)) (.nm 1) [1] dYes (dBin (oIn false) (eVar 1) (eC (.str ("abcdefghijklmnopqrstuvwxyz" : Str)))))
def D_is_name : SM :=
    (dRet (dAndV (dUn (oIsi PyData.isStr) (eVar 0)) (dAndV (dChain (dOnly (oCmp fLe)) (oCmp fLe) (eC (.int 1)) (dCall (op1 oLen) (dCons (eVar 0) dNil)) (eC (.int 8))) (dCall (op1 oAll) (dCons C_is_name_1 dNil)))))
def F_is_name : List D → M R := fnP 2 D_is_name
abbrev n_is_row : List Str := [("thing" : Str)]
abbrev p_is_row : List Str := [("thing" : Str)]
def D_is_row : SM :=
    (dSeq (dIfS (dOr (dNot (dTst (dUn (oIsi PyData.isTuple) (eVar 0)))) (dOr (dTst (dBin (oEq true) (dCall (op1 oLen) (dCons (eVar 0) dNil)) (eC (.int 3)))) (dNot (dTst (dCall (opC 1 F_is_name) (dCons (dBin oIx (eVar 0) (eC (.int 0))) dNil)))))) (dRet (eC (.bool false))) dSkip)
    (dRet (dAndV (dCall (opC 3 F_is_within) (dCons (dBin oIx (eVar 0) (eC (.int 1))) (dCons (eC (.int 0)) (dCons (eC (.int 100)) dNil)))) (dCall (opC 3 F_is_within) (dCons (dBin oIx (eVar 0) (eC (.int 2))) (dCons (eC (.int 1)) (dCons (eC (.int 60)) dNil)))))))
def F_is_row : List D → M R := fnP 1 D_is_row
abbrev n_are_rows : List Str := [("thing" : Str), ("row" : Str)]
abbrev p_are_rows : List Str := [("thing" : Str)]
def C_are_rows_1 : En → M R :=
    (dLc (dItE (eVar 0)) (.nm 1) [1] dYes (dCall (opC 1 F_is_row) (dCons (eVar 1) dNil)))
def C_are_rows_2 : En → M R :=
    (dDc (dItE (eVar 0)) (.nm 1) [1] dYes (dBin oIx (eVar 1) (eC (.int 0))) (eC (.bool true)))
def D_are_rows : SM :=
    (dSeq (dIfS (dOr (dNot (dTst (dUn (oIsi PyData.isTuple) (eVar 0)))) (dOr (dTst (dBin (oCmp fGt) (dCall (op1 oLen) (dCons (eVar 0) dNil)) (eC (.int 10)))) (dNot (dTst (dCall (op1 oAll) (dCons C_are_rows_1 dNil)))))) (dRet (eC (.bool false))) dSkip)
    (dRet (dBin (oEq false) (dCall (op1 oLen) (dCons C_are_rows_2 dNil)) (dCall (op1 oLen) (dCons (eVar 0) dNil)))))
def F_are_rows : List D → M R := fnP 2 D_are_rows
abbrev n_lots_of : List Str := [("rows" : Str), ("space" : Str), ("found" : Str), ("name" : Str), ("rank" : Str), ("lines" : Str), ("more" : Str), ("ranks" : Str), ("long" : Str), ("names" : Str), ("lot" : Str)]
abbrev p_lots_of : List Str := [("rows" : Str), ("space" : Str)]
def C_lots_of_1 : En → M R :=
    (dLc (dItE (eVar 2)) (.tp [(.nm 7), (.nm 8), (.nm 9)]) [7, 8, 9] dYes (dCall oTup (dCons (dBin oAdd (eVar 7) (eVar 4)) (dCons (dBin oAdd (eVar 8) (eVar 5)) (dCons (dBin oAdd (eVar 9) (dCall oTup (dCons (eVar 3) dNil))) dNil)))))
def C_lots_of_2 : En → M R :=
    (dLc (dItE (eVar 6)) (.nm 10) [10] (dTst (dBin (oCmp fLe) (dBin oIx (eVar 10) (eC (.int 1))) (eVar 1))) (eVar 10))
def B_lots_of_1 : SM :=
    (dSeq (dSet 6 slF C_lots_of_1)
    (dSet 2 slF (dBin oAdd (eVar 2) C_lots_of_2)))
def L_lots_of_1 : SM :=
    (dFor (dItS (eVar 0)) (.tp [(.nm 3), (.nm 4), (.nm 5)]) B_lots_of_1)
def D_lots_of : SM :=
    (dSeq (dSet 2 slF (dCall oLst (dCons (dCall oTup (dCons (eC (.int 0)) (dCons (eC (.int 0)) (dCons (dCall oTup dNil) dNil)))) dNil)))
    (dSeq L_lots_of_1
    (dRetVar 2)))
def F_lots_of : List D → M R := fnP 11 D_lots_of
abbrev n_choice : List Str := [("rows" : Str), ("space" : Str), ("some" : Str), ("ranks" : Str), ("lines" : Str), ("names" : Str)]
abbrev p_choice : List Str := [("rows" : Str), ("space" : Str)]
def C_choice_1 : En → M R :=
    (dLc (dItE (dCall (opC 2 F_lots_of) (dCons (eVar 0) (dCons (eVar 1) dNil)))) (.tp [(.nm 3), (.nm 4), (.nm 5)]) [3, 4, 5] dYes (dCall oTup (dCons (dBin oSub (eC (.int 0)) (eVar 3)) (dCons (eVar 4) (dCons (dCall (op1 oTuple) (dCons (dCall (op1 oSorted) (dCons (eVar 5) dNil)) dNil)) dNil)))))
def D_choice : SM :=
    (dSeq (dSet 2 slF C_choice_1)
    (dRet (dBin oIx (dCall (op1 oMinL) (dCons (eVar 2) dNil)) (eC (.int 2)))))
def F_choice : List D → M R := fnP 6 D_choice
abbrev n_gain : List Str := [("rows" : Str), ("space" : Str), ("some" : Str), ("lot" : Str), ("room" : Str)]
abbrev p_gain : List Str := [("rows" : Str), ("space" : Str)]
def C_gain_1 : En → M R :=
    (dLc (dItE (eVar 2)) (.nm 3) [3] (dTst (dBin (oCmp fLe) (dBin oIx (eVar 3) (eC (.int 1))) (eVar 4))) (dBin oIx (eVar 3) (eC (.int 0))))
def C_gain_2 : En → M R :=
    (dLc (dItC itR1 (dCons (dBin oAdd (eVar 1) (eC (.int 1))) dNil)) (.nm 4) [4] dYes (dCall (op1 oMaxL) (dCons C_gain_1 dNil)))
def D_gain : SM :=
    (dSeq (dSet 2 slF (dCall (opC 2 F_lots_of) (dCons (eVar 0) (dCons (eVar 1) dNil))))
    (dRet (dCall (op1 oTuple) (dCons C_gain_2 dNil))))
def F_gain : List D → M R := fnP 5 D_gain
abbrev n__law_odd : List Str := [("picks" : Str), ("odd" : Str)]
abbrev p__law_odd : List Str := [("picks" : Str)]
def D__law_odd : SM :=
    (dSeq (dSet 1 slF (dCall oLst (dCons (eC .none) (dCons (eC (.bool true)) (dCons (eC (.bool false)) (dCons (dUn oNeg (eC (.int 1))) (dCons (eC (.int 0)) (dCons (eC (.int 1)) (dCons (eC (.int 2)) (dCons (eC (.int 3)) (dCons (eC (.int 40)) (dCons (eC (.int 60)) (dCons (eC (.int 61)) dNil)))))))))))))
    (dSeq (dSet 1 slF (dBin oAdd (eVar 1) (dCall oLst (dCons (eC (.int 100)) (dCons (eC (.int 101)) (dCons (eC (.int 200)) (dCons (eC (.int 201)) (dCons (eC (.str ("" : Str))) (dCons (eC (.str ("ada" : Str))) (dCons (eC (.str ("fire" : Str))) (dCons (eC (.str ("zed" : Str))) (dCons (eC (.str ("Ab" : Str))) (dCons (eC (.str ("abcdefghi" : Str))) dNil)))))))))))))
    (dSeq (dSet 1 slF (dBin oAdd (eVar 1) (dCall oLst (dCons (dCall oTup dNil) (dCons (dCall oLst dNil) (dCons (dCall oTup (dCons (eC (.str ("ada" : Str))) dNil)) (dCons (dCall oLst (dCons (eC (.str ("ada" : Str))) dNil)) (dCons (dCall oTup (dCons (eC (.int 1)) (dCons (eC (.int 2)) dNil))) dNil))))))))
    (dSeq (dSet 1 slF (dBin oAdd (eVar 1) (dCall oLst (dCons (dCall oTup (dCons (eC (.str ("b" : Str))) (dCons (eC (.str ("a" : Str))) dNil))) (dCons (dCall oTup (dCons (dCall oTup dNil) (dCons (dCall oTup dNil) dNil))) (dCons (dCall oTup (dCons (dCall oTup (dCons (eC (.str ("ada" : Str))) dNil)) (dCons (dCall oTup dNil) dNil))) (dCons (dCall oTup (dCons (dCall oTup (dCons (eC (.str ("fire" : Str))) (dCons (eC (.int 0)) dNil))) dNil)) (dCons (dCall oLst (dCons (dCall oTup (dCons (eC (.str ("fire" : Str))) (dCons (eC (.int 0)) dNil))) dNil)) dNil))))))))
    (dSeq (dSet 1 slF (dBin oAdd (eVar 1) (dCall oLst (dCons (dCall oTup (dCons (eC (.int 1)) (dCons (eC (.int 2)) (dCons (eC (.int 3)) dNil)))) (dCons (dCall oTup (dCons (eC (.str ("map" : Str))) (dCons (eC (.int 0)) (dCons (eC (.int 5)) dNil)))) (dCons (dCall oTup (dCons (dCall oTup (dCons (eC (.str ("map" : Str))) (dCons (eC (.int 0)) (dCons (eC (.int 5)) dNil)))) dNil)) (dCons (dCall oTup (dCons (dCall oTup (dCons (eC (.str ("a" : Str))) (dCons (eC (.int 1)) (dCons (eC (.int 1)) dNil)))) dNil)) dNil)))))))
    (dSeq (dSet 1 slF (dBin oAdd (eVar 1) (dCall oLst (dCons (dCall oTup (dCons (dCall oTup (dCons (eC (.int 1)) (dCons (eC (.int 2)) dNil))) dNil)) (dCons (dCall oTup (dCons (dCall oTup (dCons (eC (.int 0)) (dCons (eC (.int 1)) dNil))) dNil)) (dCons (dCall oTup (dCons (dCall oTup (dCons (eC (.str ("ada" : Str))) dNil)) (dCons (dCall oTup (dCons (eC (.str ("bea" : Str))) dNil)) dNil))) dNil))))))
    (dSeq (dSet 1 slF (dBin oAdd (eVar 1) (dCall oLst (dCons (dCall oTup (dCons (dCall oTup (dCons (eC (.str ("fire" : Str))) (dCons (dCall oTup (dCons (dCall oTup (dCons (eC (.str ("ada" : Str))) dNil)) dNil)) dNil))) dNil)) (dCons (dCall oTup (dCons (eC (.str ("a" : Str))) (dCons (eC (.int 1)) (dCons (eC (.int 1)) dNil)))) (dCons (dBin oPow (eC (.int 10)) (eC (.int 20))) (dCons (eC (.str ("a b" : Str))) dNil)))))))
    (dRet (dBin oIx (eVar 1) (dBin oMod (dBin oAdd (dBin oIx (eVar 0) (eC (.int 0))) (dBin oMul (eC (.int 7)) (dBin oIx (eVar 0) (eC (.int 1))))) (dCall (op1 oLen) (dCons (eVar 1) dNil))))))))))))
def F__law_odd : List D → M R := fnP 2 D__law_odd
abbrev n__law_spoilt : List Str := [("thing" : Str), ("picks" : Str), ("parts" : Str), ("at" : Str), ("turn_by" : Str)]
abbrev p__law_spoilt : List Str := [("thing" : Str), ("picks" : Str)]
def D__law_spoilt (rec_ : List D → M R) : SM :=
    (dSeq (dIfS (dOr (dNot (dTst (dUn (oIsi fTL) (eVar 0)))) (dOr (dTst (dBin (oEq false) (dCall (op1 oLen) (dCons (eVar 0) dNil)) (eC (.int 0)))) (dOr (dTst (dBin (oCmp fLt) (dCall (op1 oLen) (dCons (eVar 1) dNil)) (eC (.int 9)))) (dTst (dBin (oEq false) (dBin oMod (dBin oIx (eVar 1) (eC (.int 0))) (eC (.int 9))) (eC (.int 0))))))) (dRet (dCall (opC 1 F__law_odd) (dCons (dSl oSl (eVar 1) (some (eC (.int 1))) none) dNil))) dSkip)
    (dSeq (dSet 2 slO (dCall (op1 oList) (dCons (eVar 0) dNil)))
    (dSeq (dSet 3 slF (dBin oMod (dBin oIx (eVar 1) (eC (.int 1))) (dCall (op1 oLen) (dCons (eVar 2) dNil))))
    (dSeq (dSet 4 slF (dBin oMod (dBin oIx (eVar 1) (eC (.int 2))) (eC (.int 12))))
    (dSeq (dIfS (dTst (dBin (oEq false) (eVar 4) (eC (.int 0)))) (dSet 2 slO (dBin oAdd (dSl oSl (eVar 2) none (some (eVar 3))) (dSl oSl (eVar 2) (some (dBin oAdd (eVar 3) (eC (.int 1)))) none))) (dIfS (dTst (dBin (oEq false) (eVar 4) (eC (.int 1)))) (dSet 2 slO (dBin oAdd (dSl oSl (eVar 2) none (some (dBin oAdd (eVar 3) (eC (.int 1))))) (dSl oSl (eVar 2) (some (eVar 3)) none))) (dIfS (dTst (dBin (oEq false) (eVar 4) (eC (.int 2)))) (dSet 2 slO (dBin oAdd (dSl oSl (eVar 2) (some (eVar 3)) none) (dSl oSl (eVar 2) none (some (eVar 3))))) (dIfS (dTst (dBin (oEq false) (eVar 4) (eC (.int 3)))) (dSet 2 slO (dBin oAdd (dBin oAdd (dSl oSl (eVar 2) none (some (eVar 3))) (dCall oLst (dCons (dCall (opC 1 F__law_odd) (dCons (dSl oSl (eVar 1) (some (eC (.int 3))) none) dNil)) dNil))) (dSl oSl (eVar 2) (some (eVar 3)) none))) (dIfS (dTst (dBin (oCmp fGt) (eVar 4) (eC (.int 4)))) (dSetIx 2 (eVar 3) (dCall (opC 2 rec_) (dCons (dBin oIx (eVar 2) (eVar 3)) (dCons (dSl oSl (eVar 1) (some (eC (.int 4))) none) dNil)))) dSkip)))))
    (dSeq (dIfS (dTst (dBin (oEq false) (dUn (oIsi PyData.isTuple) (eVar 0)) (dBin (oEq false) (eVar 4) (eC (.int 4))))) (dRetVar 2) dSkip)
    (dRet (dCall (op1 oTuple) (dCons (eVar 2) dNil)))))))))
def F__law_spoilt : Nat → List D → M R
  | 0 => fnP 5 dNoS
  | k + 1 => fnP 5 (D__law_spoilt (F__law_spoilt k))
abbrev n__law_from : List Str := [("thing" : Str), ("least" : Str), ("top" : Str)]
abbrev p__law_from : List Str := [("thing" : Str), ("least" : Str), ("top" : Str)]
def D__law_from : SM :=
    (dRet (dAndV (dUn (oIsi PyData.isInt) (eVar 0)) (dAndV (dNotV (dUn (oIsi PyData.isBool) (eVar 0))) (dAndV (dBin (oCmp fLe) (eVar 1) (eVar 0)) (dBin (oCmp fLe) (eVar 0) (eVar 2))))))
def F__law_from : List D → M R := fnP 3 D__law_from
abbrev n__law_is_name : List Str := [("thing" : Str), ("sign" : Str)]
abbrev p__law_is_name : List Str := [("thing" : Str)]
def C__law_is_name_1 : En → M R :=
    (dLc (dItE (eVar 0)) (.nm 1) [1] dYes (dBin (oIn false) (eVar 1) (eC (.str ("abcdefghijklmnopqrstuvwxyz" : Str)))))
def D__law_is_name : SM :=
    (dSeq (dIfS (dOr (dNot (dTst (dUn (oIsi PyData.isStr) (eVar 0)))) (dOr (dTst (dBin (oCmp fLt) (dCall (op1 oLen) (dCons (eVar 0) dNil)) (eC (.int 1)))) (dTst (dBin (oCmp fGt) (dCall (op1 oLen) (dCons (eVar 0) dNil)) (eC (.int 8)))))) (dRet (eC (.bool false))) dSkip)
    (dRet (dCall (op1 oAll) (dCons C__law_is_name_1 dNil))))
def F__law_is_name : List D → M R := fnP 2 D__law_is_name
abbrev n__law_rows : List Str := [("bag" : Str), ("most" : Str), ("many" : Str), ("found" : Str), ("k" : Str), ("name" : Str), ("rank" : Str), ("lines" : Str)]
abbrev p__law_rows : List Str := [("bag" : Str), ("most" : Str)]
def B__law_rows_1 : SM :=
    (dSeq (dSet 5 slF (dBin oAdd (dBin oIx (eC (.str ("abcdefghij" : Str))) (dBin oMod (dBin oAdd (dBin oMul (eC (.int 7)) (eVar 4)) (eC (.int 3))) (eC (.int 10)))) (dBin oIx (dCall oLst (dCons (eC (.str ("" : Str))) (dCons (eC (.str ("x" : Str))) dNil))) (dCall (opS 2 F__law_take) (dCons (eVar 0) (dCons (eC (.int 2)) dNil))))))
    (dSeq (dPar 6 7 slF slF (dCons (dCall (opS 2 F__law_take) (dCons (eVar 0) (dCons (dBin oIx (dCall oLst (dCons (eC (.int 9)) (dCons (eC (.int 101)) dNil))) (dBin oMod (eVar 4) (eC (.int 2)))) dNil))) (dCons (dBin oAdd (eC (.int 1)) (dCall (opS 2 F__law_take) (dCons (eVar 0) (dCons (dBin oIx (dCall oLst (dCons (eC (.int 6)) (dCons (eC (.int 20)) (dCons (eC (.int 60)) dNil)))) (dBin oMod (eVar 4) (eC (.int 3)))) dNil)))) dNil)))
    (dApp 3 (dCall oTup (dCons (eVar 5) (dCons (eVar 6) (dCons (eVar 7) dNil)))))))
def L__law_rows_1 : SM :=
    (dFor (dItC itR1 (dCons (eVar 2) dNil)) (.nm 4) B__law_rows_1)
def D__law_rows : SM :=
    (dSeq (dSet 2 slF (dCall (opS 2 F__law_take) (dCons (eVar 0) (dCons (dBin oAdd (eVar 1) (eC (.int 1))) dNil))))
    (dSeq (dSet 3 slO (dCall oLst dNil))
    (dSeq L__law_rows_1
    (dRet (dCall (op1 oTuple) (dCons (eVar 3) dNil))))))
def F__law_rows : List D → M R := fnP 8 D__law_rows
end N

/-! NS: odd things, spoilt things. -/
namespace N
open PySem PySem.Spec L2
/-! ### things whose parts are few -/
mutual
def fine (m : Nat) : D → Bool
  | .none => true
  | .bool _ => true
  | .int _ => true
  | .str z => decide (z.length ≤ 1000)
  | .list xs => decide (xs.length ≤ m) && fineA m xs
  | .tuple xs => decide (xs.length ≤ m) && fineA m xs
  | .dict _ => false
def fineA (m : Nat) : List D → Bool
  | [] => true
  | x :: xs => fine m x && fineA m xs
end
theorem fineA_all {m : Nat} : ∀ {xs : List D}, fineA m xs = true ↔ ∀ x ∈ xs, fine m x = true
  | [] => by simp [fineA]
  | x :: xs => by
    rw [fineA, Bool.and_eq_true, fineA_all]
    simp
mutual
theorem fine_plain {m : Nat} : ∀ {x : D}, fine m x = true → x.plain = true
  | .none, _ => rfl
  | .bool _, _ => rfl
  | .int _, _ => rfl
  | .str _, _ => rfl
  | .list xs, h => by
    rw [fine, Bool.and_eq_true] at h
    rw [PyData.plain]
    exact fineA_plain h.2
  | .tuple xs, h => by
    rw [fine, Bool.and_eq_true] at h
    rw [PyData.plain]
    exact fineA_plain h.2
  | .dict _, h => by simp [fine] at h
theorem fineA_plain {m : Nat} : ∀ {xs : List D}, fineA m xs = true → PyData.plainAll xs = true
  | [], _ => rfl
  | x :: xs, h => by
    rw [fineA, Bool.and_eq_true] at h
    rw [PyData.plainAll, fine_plain h.1, fineA_plain h.2]
    rfl
end
mutual
theorem fine_mono {m k : Nat} (hk : m ≤ k) : ∀ {x : D}, fine m x = true → fine k x = true
  | .none, _ => rfl
  | .bool _, _ => rfl
  | .int _, _ => rfl
  | .str _, h => h
  | .list xs, h => by
    rw [fine, Bool.and_eq_true, decide_eq_true_eq] at h ⊢
    exact ⟨Nat.le_trans h.1 hk, fineA_mono hk h.2⟩
  | .tuple xs, h => by
    rw [fine, Bool.and_eq_true, decide_eq_true_eq] at h ⊢
    exact ⟨Nat.le_trans h.1 hk, fineA_mono hk h.2⟩
  | .dict _, h => by simp [fine] at h
theorem fineA_mono {m k : Nat} (hk : m ≤ k) : ∀ {xs : List D}, fineA m xs = true → fineA k xs = true
  | [], _ => rfl
  | x :: xs, h => by
    rw [fineA, Bool.and_eq_true] at h ⊢
    exact ⟨fine_mono hk h.1, fineA_mono hk h.2⟩
end
/-- of few parts, not deep -/
structure Sp (m n : Nat) (x : D) : Prop where
  fine : fine m x = true
  deep : x.depth ≤ n
theorem Sp.dp {m n : Nat} {x : D} (h : Sp m n x) : Dp n x := ⟨fine_plain h.fine, h.deep⟩
theorem Sp.mono {m n m' n' : Nat} {x : D} (h : Sp m n x) (hm : m ≤ m') (hn : n ≤ n') : Sp m' n' x := ⟨fine_mono hm h.fine, Nat.le_trans h.deep hn⟩
theorem depthAll_le {n : Nat} : ∀ {xs : List D}, PyData.depthAll xs ≤ n ↔ ∀ x ∈ xs, x.depth ≤ n
  | [] => by simp [PyData.depthAll]
  | x :: xs => by
    rw [PyData.depthAll, Nat.max_le, depthAll_le]
    simp
theorem sp_list {m n : Nat} {xs : List D} : Sp m (n + 1) (.list xs) ↔ xs.length ≤ m ∧ ∀ x ∈ xs, Sp m n x := by
  constructor
  · rintro ⟨h1, h2⟩
    rw [N.fine, Bool.and_eq_true, decide_eq_true_eq, fineA_all] at h1
    rw [PyData.depth] at h2
    have h3 := depthAll_le.mp (show PyData.depthAll xs ≤ n by omega)
    exact ⟨h1.1, fun x hx => ⟨h1.2 x hx, h3 x hx⟩⟩
  · rintro ⟨h1, h2⟩
    refine ⟨?_, ?_⟩
    · rw [N.fine, Bool.and_eq_true, decide_eq_true_eq, fineA_all]
      exact ⟨h1, fun x hx => (h2 x hx).fine⟩
    · rw [PyData.depth]
      have := depthAll_le.mpr fun x hx => (h2 x hx).deep
      omega
theorem sp_tuple {m n : Nat} {xs : List D} : Sp m (n + 1) (.tuple xs) ↔ xs.length ≤ m ∧ ∀ x ∈ xs, Sp m n x := by
  constructor
  · rintro ⟨h1, h2⟩
    rw [N.fine, Bool.and_eq_true, decide_eq_true_eq, fineA_all] at h1
    rw [PyData.depth] at h2
    have h3 := depthAll_le.mp (show PyData.depthAll xs ≤ n by omega)
    exact ⟨h1.1, fun x hx => ⟨h1.2 x hx, h3 x hx⟩⟩
  · rintro ⟨h1, h2⟩
    refine ⟨?_, ?_⟩
    · rw [N.fine, Bool.and_eq_true, decide_eq_true_eq, fineA_all]
      exact ⟨h1, fun x hx => (h2 x hx).fine⟩
    · rw [PyData.depth]
      have := depthAll_le.mpr fun x hx => (h2 x hx).deep
      omega
theorem sp_bool {m n : Nat} (b : Bool) : Sp m n (.bool b) := ⟨rfl, Nat.zero_le _⟩
theorem sp_int {m n : Nat} (b : Int) : Sp m n (.int b) := ⟨rfl, Nat.zero_le _⟩
theorem sp_str {m n : Nat} {z : Str} (h : z.length ≤ 1000) : Sp m n (.str z) := ⟨by rw [N.fine]; exact decide_eq_true h, Nat.zero_le _⟩
/-- the parts of a list or a tuple -/
def partsD : D → Option (List D)
  | .list xs => some xs
  | .tuple xs => some xs
  | _ => none
theorem sp_parts {m n : Nat} {x : D} {xs : List D} (h : Sp m n x) (e : partsD x = some xs) : ∃ k, n = k + 1 ∧ xs.length ≤ m ∧ ∀ y ∈ xs, Sp m k y := by
  cases x with
  | list ys =>
    cases e
    cases n with
    | zero => have := h.deep; rw [PyData.depth] at this; omega
    | succ k => obtain ⟨h1, h2⟩ := sp_list.mp h; exact ⟨k, rfl, h1, h2⟩
  | tuple ys =>
    cases e
    cases n with
    | zero => have := h.deep; rw [PyData.depth] at this; omega
    | succ k => obtain ⟨h1, h2⟩ := sp_tuple.mp h; exact ⟨k, rfl, h1, h2⟩
  | _ => cases e
/-! ### odd things -/
def odd1 : List D := [.none, .bool true, .bool false, .int (-1), .int 0, .int 1, .int 2, .int 3, .int 40, .int 60, .int 61]
def odd2 : List D := [.int 100, .int 101, .int 200, .int 201, .str ("" : Str), .str ("ada" : Str), .str ("fire" : Str), .str ("zed" : Str), .str ("Ab" : Str), .str ("abcdefghi" : Str)]
def odd3 : List D := [.tuple [], .list [], .tuple [.str ("ada" : Str)], .list [.str ("ada" : Str)], .tuple [.int 1, .int 2]]
def odd4 : List D := [.tuple [.str ("b" : Str), .str ("a" : Str)], .tuple [.tuple [], .tuple []], .tuple [.tuple [.str ("ada" : Str)], .tuple []], .tuple [.tuple [.str ("fire" : Str), .int 0]], .list [.tuple [.str ("fire" : Str), .int 0]]]
def odd5 : List D := [.tuple [.int 1, .int 2, .int 3], .tuple [.str ("map" : Str), .int 0, .int 5], .tuple [.tuple [.str ("map" : Str), .int 0, .int 5]], .tuple [.tuple [.str ("a" : Str), .int 1, .int 1]]]
def odd6 : List D := [.tuple [.tuple [.int 1, .int 2]], .tuple [.tuple [.int 0, .int 1]], .tuple [.tuple [.str ("ada" : Str)], .tuple [.str ("bea" : Str)]]]
def odd7 : List D := [.tuple [.tuple [.str ("fire" : Str), .tuple [.tuple [.str ("ada" : Str)]]]], .tuple [.str ("a" : Str), .int 1, .int 1], .int (10 ^ 20), .str ("a b" : Str)]
def odds : List D := odd1 ++ odd2 ++ odd3 ++ odd4 ++ odd5 ++ odd6 ++ odd7
theorem odds_sp : ∀ x ∈ odds, Sp 3 5 x := by
  have h : odds.all (fun x => fine 3 x && decide (x.depth ≤ 5)) = true := by decide +kernel
  intro x hx
  have := List.all_eq_true.mp h x hx
  rw [Bool.and_eq_true, decide_eq_true_eq] at this
  exact ⟨this.1, this.2⟩
theorem odd_step {p : D} {xs ys : List D} {f : En → M R} {st : Sto} (h : f [some (.d p), some (.d (.list xs))] st = .ok (.l true ys) st) (hl : xs.length + ys.length ≤ 1000) :
    dSet 1 slF (dBin oAdd (eVar 1) f) [some (.d p), some (.d (.list xs))] st = .ok (.nx, [some (.d p), some (.d (.list (xs ++ ys)))]) st := by
  refine setF_l (i := 1) (bin_ok (a := .d (.list xs)) rfl h ?_)
  rw [x_addLl, if_pos (Nat.le_trans (Nat.le_trans hl (by decide)) sizeLine_big)]
theorem odd_ok {a b : Int} {ps : List Int} {st : Sto} : ∃ x ∈ odds, F__law_odd [.list ((a :: b :: ps).map .int)] st = .ok (.d x) st := by
  have hq : 0 ≤ (a + 7 * b) % (42 : Int) := Int.emod_nonneg _ (by decide)
  have hq2 : (a + 7 * b) % (42 : Int) < 42 := Int.emod_lt_of_pos _ (by decide)
  have hl : odds.length = 42 := by decide +kernel
  have hi : ((a + 7 * b) % 42).toNat < odds.length := by omega
  refine ⟨odds[((a + 7 * b) % 42).toNat], List.getElem_mem hi, ?_⟩
  have m7 : okMul 7 b = true := okMul_of (by omega)
  unfold F__law_odd
  refine fnP_ret (e := [some (.d (.list ((a :: b :: ps).map .int))), some (.d (.list odds))]) ?_
  unfold D__law_odd
  rw [show env0 2 [PyData.list ((a :: b :: ps).map .int)] = [some (.d (.list ((a :: b :: ps).map .int))), none] from rfl]
  rw [seq_nx (setF_l (xs := odd1) (lst_ok' (s := st) rfl rfl (by decide)))]
  rw [show [some (R.d (.list ((a :: b :: ps).map PyData.int))), none].set 1 (some (.d (.list odd1))) = [some (.d (.list ((a :: b :: ps).map .int))), some (.d (.list odd1))] from rfl]
  rw [seq_nx (odd_step (ys := odd2) (lst_ok' (s := st) rfl rfl (by decide)) (by decide)), seq_nx (odd_step (ys := odd3) (lst_ok' (s := st) rfl rfl (by decide)) (by decide)),
    seq_nx (odd_step (ys := odd4) (lst_ok' (s := st) rfl rfl (by decide)) (by decide)), seq_nx (odd_step (ys := odd5) (lst_ok' (s := st) rfl rfl (by decide)) (by decide)),
    seq_nx (odd_step (ys := odd6) (lst_ok' (s := st) rfl rfl (by decide)) (by decide)), seq_nx (odd_step (ys := odd7) (lst_ok' (s := st) rfl rfl (by decide)) (by decide))]
  refine retE_ok (bin_ok (a := .d (.list odds)) (b := .d (.int ((a + 7 * b) % 42))) (s2 := st) rfl ?_ ?_)
  · have h42 : ((odds.length : Nat) : Int) = 42 := by rw [hl]; rfl
    refine bin_ok (a := .d (.int (a + 7 * b))) (b := .d (.int 42)) (s2 := st) ?_ (call1_ok (r := .d (.list odds)) rfl (by rw [x_lenL, h42])) (by rw [x_mod, if_pos (by decide), M.ret_ap])
    refine bin_ok (a := .d (.int a)) (b := .d (.int (7 * b))) (s1 := st) (s2 := st) (bin_ok (a := .d (.list ((a :: b :: ps).map .int))) (b := .d (.int 0)) (s1 := st) (s2 := st) rfl rfl (by rw [x_ixL]; simp)) (bin_ok (a := .d (.int 7)) (b := .d (.int b)) (s1 := st) (s2 := st) rfl (bin_ok (a := .d (.list ((a :: b :: ps).map .int))) (b := .d (.int 1)) (s1 := st) (s2 := st) rfl rfl (by rw [x_ixL]; simp)) (by rw [x_mul, if_pos m7, M.ret_ap])) rfl
  · rw [x_ixL, atI_ok hq (List.getElem?_eq_getElem hi)]
/-! ### spoilt things -/
theorem cut_from (xs : List D) (k : Nat) : cutD xs (some (k : Int)) none = xs.drop k := by
  unfold cutD HT.sIx
  simp only
  rw [if_neg (by omega), Int.toNat_natCast, List.take_of_length_le (by rw [List.length_drop]; omega)]
  rcases Nat.le_total k xs.length with h | h
  · rw [Nat.min_eq_left h]
  · rw [Nat.min_eq_right h, List.drop_of_length_le (Nat.le_refl _), List.drop_of_length_le h]
theorem odd_ok' {ps : List Int} {st : Sto} (h : 2 ≤ ps.length) : ∃ x ∈ odds, F__law_odd [.list (ps.map .int)] st = .ok (.d x) st := by
  match ps, h with
  | a :: b :: ps, _ => exact odd_ok
theorem oddcall {e : En → M R} {env : En} {st : Sto} {ps : List Int} (h : e env st = .ok (.l true (ps.map .int)) st) (hl : 2 ≤ ps.length) : ∃ x ∈ odds, dCall (opC 1 F__law_odd) (dCons e dNil) env st = .ok (.d x) st := by
  obtain ⟨x, hx, ex⟩ := odd_ok' (ps := ps) (st := [.c]) hl
  refine ⟨x, hx, ?_⟩
  rw [dCall_ok (cons_ok h rfl)]
  exact opC_ok rfl rfl ex
theorem cutp {ps : List Int} {env : En} {st : Sto} {i : Int} (k : Nat) (h : env[1]? = some (some (.d (.list (ps.map .int))))) (hi : i = (k : Int) := by rfl) : dSl oSl (eVar 1) (some (eC (.int i))) none env st = .ok (.l true ((ps.drop k).map .int)) st := by
  have : eVar 1 env st = .ok (.d (.list (ps.map .int))) st := by rw [x_var, h]
  subst hi
  rw [x_sl, bind_at, this]
  show Res.ok (R.l true (cutD (ps.map PyData.int) (some (k : Int)) none)) st = _
  rw [cut_from, List.map_drop]
theorem pick_ok {ps : List Int} {env : En} {st : Sto} {i : Int} (k : Nat) (h : env[1]? = some (some (.d (.list (ps.map .int))))) (hk : k < ps.length) (hi : i = (k : Int) := by rfl) : dBin oIx (eVar 1) (eC (.int i)) env st = .ok (.d (.int ps[k])) st := by
  subst hi
  have : eVar 1 env st = .ok (.d (.list (ps.map .int))) st := by rw [x_var, h]
  refine bin_ok this rfl ?_
  rw [x_ixL, atI_ok (x := .int ps[k]) (by omega) (by rw [Int.toNat_natCast, List.getElem?_map, List.getElem?_eq_getElem hk]; rfl)]
/-- what a spoilt thing's parts may be -/
structure Pt (m n : Nat) (xs : List D) : Prop where
  len : xs.length ≤ m
  each : ∀ x ∈ xs, Sp m n x
theorem Pt.sub {m n : Nat} {xs ys : List D} (h : Pt m n xs) (hl : ys.length ≤ m + 1) (hs : ∀ y ∈ ys, y ∈ xs ∨ Sp (m + 1) (n + 5) y) : Pt (m + 1) (n + 5) ys :=
  ⟨hl, fun y hy => (hs y hy).elim (fun q => (h.each y q).mono (Nat.le_succ _) (by omega)) id⟩
theorem Pt.list {m n : Nat} {xs : List D} (h : Pt m n xs) : Sp m (n + 1) (.list xs) := sp_list.mpr ⟨h.len, h.each⟩
theorem Pt.tuple {m n : Nat} {xs : List D} (h : Pt m n xs) : Sp m (n + 1) (.tuple xs) := sp_tuple.mpr ⟨h.len, h.each⟩
abbrev spEnv (x : D) (ps : List Int) (j2 j3 j4 : Option R) : En := [some (.d x), some (.d (.list (ps.map .int))), j2, j3, j4]
theorem add_ll {a b : En → M R} {env : En} {st : Sto} {xs ys : List D} (h1 : a env st = .ok (.l true xs) st) (h2 : b env st = .ok (.l true ys) st) (hl : xs.length + ys.length ≤ 100000) : dBin oAdd a b env st = .ok (.l true (xs ++ ys)) st := by
  refine bin_ok h1 h2 ?_
  rw [x_addll, if_pos (Nat.le_trans hl (Nat.le_trans (by decide) sizeLine_big))]
section
variable {m n at_ tb : Nat} {x : D} {xs : List D} {ps : List Int} {st : Sto} {rec_ : List D → M R}
theorem sl_to {e : En → M R} {env : En} {k : Nat} (h2 : env[2]? = some (some (.l true xs))) (he : e env st = .ok (.d (.int k)) st) : dSl oSl (eVar 2) none (some e) env st = .ok (.l true (xs.take k)) st := by
  have : eVar 2 env st = .ok (.l false xs) st := by rw [x_var, h2]
  rw [x_sl, bind_at, this]
  simp only [bind_at, x_p0, x_p1, he, x_toI, M.ret_ap, x_oSll]
  rw [cut_nat]
theorem sl_from {e : En → M R} {env : En} {k : Nat} (h2 : env[2]? = some (some (.l true xs))) (he : e env st = .ok (.d (.int k)) st) : dSl oSl (eVar 2) (some e) none env st = .ok (.l true (xs.drop k)) st := by
  have : eVar 2 env st = .ok (.l false xs) st := by rw [x_var, h2]
  rw [x_sl, bind_at, this]
  simp only [bind_at, x_p0, x_p1, he, x_toI, M.ret_ap, x_oSll]
  rw [cut_from]
def spBody (rec_ : List D → M R) : SM := (dIfS (dTst (dBin (oEq false) (eVar 4) (eC (.int 0)))) (dSet 2 slO (dBin oAdd (dSl oSl (eVar 2) none (some (eVar 3))) (dSl oSl (eVar 2) (some (dBin oAdd (eVar 3) (eC (.int 1)))) none))) (dIfS (dTst (dBin (oEq false) (eVar 4) (eC (.int 1)))) (dSet 2 slO (dBin oAdd (dSl oSl (eVar 2) none (some (dBin oAdd (eVar 3) (eC (.int 1))))) (dSl oSl (eVar 2) (some (eVar 3)) none))) (dIfS (dTst (dBin (oEq false) (eVar 4) (eC (.int 2)))) (dSet 2 slO (dBin oAdd (dSl oSl (eVar 2) (some (eVar 3)) none) (dSl oSl (eVar 2) none (some (eVar 3))))) (dIfS (dTst (dBin (oEq false) (eVar 4) (eC (.int 3)))) (dSet 2 slO (dBin oAdd (dBin oAdd (dSl oSl (eVar 2) none (some (eVar 3))) (dCall oLst (dCons (dCall (opC 1 F__law_odd) (dCons (dSl oSl (eVar 1) (some (eC (.int 3))) none) dNil)) dNil))) (dSl oSl (eVar 2) (some (eVar 3)) none))) (dIfS (dTst (dBin (oCmp fGt) (eVar 4) (eC (.int 4)))) (dSetIx 2 (eVar 3) (dCall (opC 2 rec_) (dCons (dBin oIx (eVar 2) (eVar 3)) (dCons (dSl oSl (eVar 1) (some (eC (.int 4))) none) dNil)))) dSkip)))))
theorem spBody_ok (P : Pt m n xs) (hm : 3 ≤ m) (hm2 : m ≤ 900) (ha : at_ < xs.length) (hp : 9 ≤ ps.length)
    (hrec : ∀ y ∈ xs, ∃ r d, rec_ [y, .list ((ps.drop 4).map .int)] [.c] = .ok r [.c] ∧ kp r = some d ∧ Sp (m + 1) (n + 5) d) :
    ∃ ys, spBody rec_ (spEnv x ps (some (.l true xs)) (some (.d (.int (at_ : Nat)))) (some (.d (.int (tb : Nat))))) st = .ok (.nx, spEnv x ps (some (.l true ys)) (some (.d (.int (at_ : Nat)))) (some (.d (.int (tb : Nat))))) st ∧ Pt (m + 1) (n + 5) ys := by
  have hl := P.len
  obtain ⟨E, hE⟩ : ∃ E, E = spEnv x ps (some (.l true xs)) (some (.d (.int (at_ : Nat)))) (some (.d (.int (tb : Nat)))) := ⟨_, rfl⟩
  rw [← hE]
  have h1 : E[1]? = some (some (.d (.list (ps.map .int)))) := by rw [hE]; rfl
  have h2 : E[2]? = some (some (.l true xs)) := by rw [hE]; rfl
  have v3 : eVar 3 E st = .ok (.d (.int (at_ : Nat))) st := by rw [hE]; rfl
  have v4 : eVar 4 E st = .ok (.d (.int (tb : Nat))) st := by rw [hE]; rfl
  have w3 : dBin oAdd (eVar 3) (eC (.int 1)) E st = .ok (.d (.int ((at_ + 1 : Nat) : Int))) st := bin_ok (b := .d (.int 1)) (s2 := st) v3 rfl rfl
  have t : ∀ k : Nat, dTst (dBin (oEq false) (eVar 4) (eC (.int (k : Int)))) E st = .ok (decide (tb = k)) st := fun k => by
    refine tst_ok (bin_ok (b := .d (.int (k : Int))) (s2 := st) v4 rfl ?_)
    rw [oEq_int]
    by_cases q : tb = k
    · rw [decide_eq_true q, decide_eq_true (by omega)]; rfl
    · rw [decide_eq_false q, decide_eq_false (by omega)]; rfl
  have fin : ∀ ys, E.set 2 (some (.l true ys)) = spEnv x ps (some (.l true ys)) (some (.d (.int (at_ : Nat)))) (some (.d (.int (tb : Nat)))) := fun ys => by rw [hE]; rfl
  unfold spBody
  by_cases q0 : tb = 0
  · refine ⟨xs.take at_ ++ xs.drop (at_ + 1), ?_, P.sub ?_ fun y hy => .inl ?_⟩
    · rw [if_yes (by have := t 0; rwa [decide_eq_true q0] at this) (setO_l (add_ll (sl_to h2 v3) (sl_from h2 w3) (by simp; omega))), fin]
    · simp; omega
    · rcases List.mem_append.mp hy with h | h
      · exact List.mem_of_mem_take h
      · exact List.mem_of_mem_drop h
  by_cases q1 : tb = 1
  · refine ⟨xs.take (at_ + 1) ++ xs.drop at_, ?_, P.sub ?_ fun y hy => .inl ?_⟩
    · rw [if_else (r := _) (by have := t 0; rwa [decide_eq_false q0] at this) (if_yes (by have := t 1; rwa [decide_eq_true q1] at this) (setO_l (add_ll (sl_to h2 w3) (sl_from h2 v3) (by simp; omega)))), fin]
    · simp; omega
    · rcases List.mem_append.mp hy with h | h
      · exact List.mem_of_mem_take h
      · exact List.mem_of_mem_drop h
  by_cases q2 : tb = 2
  · refine ⟨xs.drop at_ ++ xs.take at_, ?_, P.sub ?_ fun y hy => .inl ?_⟩
    · rw [if_else (by have := t 0; rwa [decide_eq_false q0] at this) (if_else (by have := t 1; rwa [decide_eq_false q1] at this) (if_yes (by have := t 2; rwa [decide_eq_true q2] at this) (setO_l (add_ll (sl_from h2 v3) (sl_to h2 v3) (by simp; omega))))), fin]
    · simp; omega
    · rcases List.mem_append.mp hy with h | h
      · exact List.mem_of_mem_drop h
      · exact List.mem_of_mem_take h
  by_cases q3 : tb = 3
  · obtain ⟨o, ho, eo⟩ := oddcall (ps := ps.drop 3) (cutp (i := 3) 3 h1) (by simp; omega)
    refine ⟨xs.take at_ ++ [o] ++ xs.drop at_, ?_, P.sub ?_ fun y hy => ?_⟩
    · rw [if_else (by have := t 0; rwa [decide_eq_false q0] at this) (if_else (by have := t 1; rwa [decide_eq_false q1] at this) (if_else (by have := t 2; rwa [decide_eq_false q2] at this) (if_yes (by have := t 3; rwa [decide_eq_true q3] at this)
        (setO_l (add_ll (add_ll (sl_to h2 v3) (lst_ok' (rs := [.d o]) (ds := [o]) (cons_ok eo rfl) rfl (by simp)) (by simp; omega)) (sl_from h2 v3) (by simp; omega)))))), fin]
    · simp; omega
    · rcases List.mem_append.mp hy with h | h
      · rcases List.mem_append.mp h with h | h
        · exact .inl (List.mem_of_mem_take h)
        · rw [List.mem_singleton.mp h]
          exact .inr ((odds_sp o ho).mono (by omega) (by omega))
      · exact .inl (List.mem_of_mem_drop h)
  have tg : dTst (dBin (oCmp fGt) (eVar 4) (eC (.int 4))) E st = .ok (decide (4 < tb)) st := by
    refine tst_ok (bin_ok (b := .d (.int 4)) (s2 := st) v4 rfl ?_)
    rw [x_cmp, fGt_int]
    by_cases q : 4 < tb
    · rw [decide_eq_true q, decide_eq_true (by omega)]
    · rw [decide_eq_false q, decide_eq_false (by omega)]
  have up : ∀ {r}, dIfS (dTst (dBin (oCmp fGt) (eVar 4) (eC (.int 4)))) (dSetIx 2 (eVar 3) (dCall (opC 2 rec_) (dCons (dBin oIx (eVar 2) (eVar 3)) (dCons (dSl oSl (eVar 1) (some (eC (.int 4))) none) dNil)))) dSkip E st = r → spBody rec_ E st = r := fun {r} h =>
    if_else (by have := t 0; rwa [decide_eq_false q0] at this) (if_else (by have := t 1; rwa [decide_eq_false q1] at this) (if_else (by have := t 2; rwa [decide_eq_false q2] at this) (if_else (by have := t 3; rwa [decide_eq_false q3] at this) h)))
  by_cases q4 : 4 < tb
  · obtain ⟨r, d, e1, e2, e3⟩ := hrec xs[at_] (List.getElem_mem ha)
    refine ⟨xs.set at_ d, up (if_yes (by rwa [decide_eq_true q4] at tg) ?_), P.sub (by rw [List.length_set]; omega) fun y hy => ?_⟩
    · have c1 : dCall (opC 2 rec_) (dCons (dBin oIx (eVar 2) (eVar 3)) (dCons (dSl oSl (eVar 1) (some (eC (.int 4))) none) dNil)) E st = .ok r st := by
        have v2 : eVar 2 E st = .ok (.l false xs) st := by rw [x_var, h2]
        have ix : dBin oIx (eVar 2) (eVar 3) E st = .ok (.d xs[at_]) st := bin_ok v2 v3 (by rw [x_ixl, atI_ok (x := xs[at_]) (by omega) (by rw [Int.toNat_natCast, List.getElem?_eq_getElem ha])])
        rw [dCall_ok (cons_ok ix (cons_ok (cutp 4 h1) rfl))]
        exact opC_ok rfl rfl e1
      have k1 : toKp r st = .ok d st := by unfold toKp; rw [e2]
      have ch : chkL 2 E st = .ok () st := chk_own h2
      have su : setL ((at_ : Nat) : Int) d xs = some (xs.set at_ d) := by
        unfold setL ixN
        rw [if_pos (by omega), if_pos (by omega)]
        rfl
      rw [x_setIx, M.bind_ok c1, M.bind_ok k1, M.bind_ok ch, M.bind_ok v3]
      show (toInt (.d (.int ((at_ : Nat) : Int))) >>= _) st = _
      rw [x_toInt, M.bind_ok (M.ret_ap _ _), mut_own h2 su, fin]
    · rcases List.mem_or_eq_of_mem_set hy with h | h
      · exact .inl h
      · exact .inr (h ▸ e3)
  · refine ⟨xs, up ?_, P.sub (by omega) fun y hy => .inl hy⟩
    rw [if_else (by rwa [decide_eq_false q4] at tg) (x_skip (env := E) (st := st)), hE]
theorem isi_ok {f : D → Bool} {env : En} {i : Nat} {y : D} (h : env[i]? = some (some (.d y))) (hp : y.plain = true) : dUn (oIsi f) (eVar i) env st = .ok (.d (.bool (f y))) st := by
  have v : eVar i env st = .ok (.d y) st := by rw [x_var, h]
  refine un_ok v ?_
  unfold oIsi
  rw [pk_d hp]
  show (if y.plain = true then _ else _) = _
  rw [if_pos hp]
theorem len_ok {env : En} {i : Nat} {y : D} {ys : List D} (h : env[i]? = some (some (.d y))) (hp : partsD y = some ys) : dCall (op1 oLen) (dCons (eVar i) dNil) env st = .ok (.d (.int ys.length)) st := by
  have v : eVar i env st = .ok (.d y) st := by rw [x_var, h]
  refine call1_ok v ?_
  cases y with
  | list zs => cases hp; rfl
  | tuple zs => cases hp; rfl
  | _ => cases hp
def spStart : En → M Bool := (dOr (dNot (dTst (dUn (oIsi fTL) (eVar 0)))) (dOr (dTst (dBin (oEq false) (dCall (op1 oLen) (dCons (eVar 0) dNil)) (eC (.int 0)))) (dOr (dTst (dBin (oCmp fLt) (dCall (op1 oLen) (dCons (eVar 1) dNil)) (eC (.int 9)))) (dTst (dBin (oEq false) (dBin oMod (dBin oIx (eVar 1) (eC (.int 0))) (eC (.int 9))) (eC (.int 0)))))))
theorem spStart_ok {j2 j3 j4 : Option R} (hx : x.plain = true) (hp : 3 ≤ ps.length) : ∃ b, spStart (spEnv x ps j2 j3 j4) st = .ok b st ∧ (b = false → ∃ ys, partsD x = some ys ∧ ys ≠ [] ∧ 9 ≤ ps.length) := by
  unfold spStart
  have i0 : dNot (dTst (dUn (oIsi fTL) (eVar 0))) (spEnv x ps j2 j3 j4) st = .ok (!fTL x) st := not_ok (tst_ok (isi_ok rfl hx))
  cases hf : fTL x with
  | false =>
    rw [hf] at i0
    exact ⟨true, or_l i0, fun z => nomatch z⟩
  | true =>
    rw [hf] at i0
    obtain ⟨ys, hy⟩ : ∃ ys, partsD x = some ys := by
      cases x with
      | list zs => exact ⟨zs, rfl⟩
      | tuple zs => exact ⟨zs, rfl⟩
      | _ => cases hf
    have i1 : dTst (dBin (oEq false) (dCall (op1 oLen) (dCons (eVar 0) dNil)) (eC (.int 0))) (spEnv x ps j2 j3 j4) st = .ok (decide (ys = [])) st := by
      refine tst_ok (bin_ok (b := .d (.int 0)) (s2 := st) (len_ok rfl hy) rfl ?_)
      rw [oEq_int]
      cases ys with
      | nil => rfl
      | cons y ys =>
        rw [decide_eq_false (show ¬ (((y :: ys).length : Nat) : Int) = 0 by simp; omega), decide_eq_false (by simp)]
        rfl
    by_cases q1 : ys = []
    · rw [decide_eq_true q1] at i1
      exact ⟨true, or_r i0 (or_l i1), fun z => nomatch z⟩
    rw [decide_eq_false q1] at i1
    have i2 : dTst (dBin (oCmp fLt) (dCall (op1 oLen) (dCons (eVar 1) dNil)) (eC (.int 9))) (spEnv x ps j2 j3 j4) st = .ok (decide (ps.length < 9)) st := by
      refine tst_ok (bin_ok (a := .d (.int ps.length)) (b := .d (.int 9)) (s2 := st) ?_ rfl ?_)
      · have := len_ok (st := st) (env := spEnv x ps j2 j3 j4) (i := 1) (y := .list (ps.map .int)) rfl rfl
        rwa [List.length_map] at this
      · rw [x_cmp, fLt_int]
        by_cases q : ps.length < 9
        · rw [decide_eq_true q, decide_eq_true (by omega)]
        · rw [decide_eq_false q, decide_eq_false (by omega)]
    by_cases q2 : ps.length < 9
    · rw [decide_eq_true q2] at i2
      exact ⟨true, or_r i0 (or_r i1 (or_l i2)), fun z => nomatch z⟩
    rw [decide_eq_false q2] at i2
    refine ⟨decide (ps[0] % 9 = 0), or_r i0 (or_r i1 (or_r i2 ?_)), fun _ => ⟨ys, hy, q1, by omega⟩⟩
    refine tst_ok (bin_ok (b := .d (.int 0)) (s2 := st) (bin_ok (b := .d (.int 9)) (s2 := st) (pick_ok (i := 0) 0 rfl (by omega)) rfl (by rw [x_mod, if_pos (by decide), M.ret_ap])) rfl ?_)
    rw [oEq_int]
    simp
theorem spoilt_ok : ∀ (k n : Nat) (x : D) (ps : List Int), n < k → 3 ≤ m → m ≤ 900 → Sp m n x → 3 ≤ ps.length → ∃ r d, F__law_spoilt k [x, .list (ps.map .int)] [.c] = .ok r [.c] ∧ kp r = some d ∧ Sp (m + 1) (n + 5) d
  | 0, n, x, ps, h, _, _, _, _ => absurd h (Nat.not_lt_zero _)
  | k + 1, n, x, ps, h, hm, hm2, hx, hp => by
    obtain ⟨b, es, hb⟩ := spStart_ok (x := x) (ps := ps) (st := [.c]) (j2 := none) (j3 := none) (j4 := none) hx.dp.1 hp
    show ∃ r d, fnP 5 (D__law_spoilt (F__law_spoilt k)) [x, .list (ps.map .int)] [.c] = .ok r [.c] ∧ _
    cases b with
    | true =>
      obtain ⟨o, ho, eo⟩ := oddcall (env := spEnv x ps none none none) (st := [.c]) (ps := ps.drop 1) (cutp (i := 1) 1 rfl) (by simp; omega)
      refine ⟨.d o, o, fnP_ret (e := spEnv x ps none none none) ?_, rfl, (odds_sp o ho).mono (by omega) (by omega)⟩
      unfold D__law_spoilt
      have e1 := if_yes (T := dSkip) es (retE_ok eo)
      show dSeq (dIfS spStart _ _) _ (spEnv x ps none none none) [.c] = _
      unfold dSeq
      rw [M.bind_ok e1]
      rfl
    | false =>
      obtain ⟨ys, hy, hne, hp9⟩ := hb rfl
      obtain ⟨n', rfl, hl, hs⟩ := sp_parts hx hy
      have hpos : 0 < ys.length := List.length_pos_iff.mpr hne
      obtain ⟨at_, hat⟩ : ∃ a : Nat, (a : Int) = ps[1] % ys.length := ⟨(ps[1] % ys.length).toNat, Int.toNat_of_nonneg (Int.emod_nonneg _ (by omega))⟩
      have hat2 : at_ < ys.length := by have := Int.emod_lt_of_pos ps[1] (show (0 : Int) < ys.length by omega); omega
      obtain ⟨tb, htb⟩ : ∃ a : Nat, (a : Int) = ps[2] % 12 := ⟨(ps[2] % 12).toNat, Int.toNat_of_nonneg (Int.emod_nonneg _ (by omega))⟩
      have a1 : dSet 2 slO (dCall (op1 oList) (dCons (eVar 0) dNil)) (spEnv x ps none none none) [.c] = .ok (.nx, spEnv x ps (some (.l true ys)) none none) [.c] := by
        refine setO_l (call1_ok (r := .d x) rfl ?_)
        cases x with
        | list zs => cases hy; rfl
        | tuple zs => cases hy; rfl
        | _ => cases hy
      have a2 : dSet 3 slF (dBin oMod (dBin oIx (eVar 1) (eC (.int 1))) (dCall (op1 oLen) (dCons (eVar 2) dNil))) (spEnv x ps (some (.l true ys)) none none) [.c] = .ok (.nx, spEnv x ps (some (.l true ys)) (some (.d (.int (at_ : Nat)))) none) [.c] := by
        rw [hat]
        exact setF_d (i := 3) (bin_ok (s2 := [.c]) (b := .d (.int ys.length)) (pick_ok (i := 1) 1 rfl (by omega)) (call1_ok (r := .l false ys) rfl rfl) (by rw [x_mod, if_pos (by omega), M.ret_ap]))
      have a3 : dSet 4 slF (dBin oMod (dBin oIx (eVar 1) (eC (.int 2))) (eC (.int 12))) (spEnv x ps (some (.l true ys)) (some (.d (.int (at_ : Nat)))) none) [.c] = .ok (.nx, spEnv x ps (some (.l true ys)) (some (.d (.int (at_ : Nat)))) (some (.d (.int (tb : Nat))))) [.c] := by
        rw [htb]
        exact setF_d (i := 4) (bin_ok (s2 := [.c]) (b := .d (.int 12)) (pick_ok (i := 2) 2 rfl (by omega)) rfl (by rw [x_mod, if_pos (by decide), M.ret_ap]))
      obtain ⟨zs, a4, P⟩ := spBody_ok (x := x) (ps := ps) (tb := tb) (st := [.c]) (rec_ := F__law_spoilt k) (Pt.mk hl hs) hm hm2 hat2 hp9 fun y hy => spoilt_ok k n' y (ps.drop 4) (by omega) hm hm2 (hs y hy) (by simp; omega)
      have a5 : dTst (dBin (oEq false) (dUn (oIsi PyData.isTuple) (eVar 0)) (dBin (oEq false) (eVar 4) (eC (.int 4)))) (spEnv x ps (some (.l true zs)) (some (.d (.int (at_ : Nat)))) (some (.d (.int (tb : Nat))))) [.c] = .ok (PyData.isTuple x == decide ((tb : Int) = 4)) [.c] := by
        refine tst_ok (bin_ok (a := .d (.bool (PyData.isTuple x))) (b := .d (.bool (decide ((tb : Int) = 4)))) (s2 := [.c]) (isi_ok rfl hx.dp.1) (bin_ok (b := .d (.int 4)) (s2 := [.c]) rfl rfl (by rw [oEq_int, Bool.false_xor])) ?_)
        rw [oEq_pk (x := .bool (PyData.isTuple x)) (y := .bool (decide ((tb : Int) = 4))) rfl rfl rfl rfl, Bool.false_xor]
        simp only [PyData.eqv]
      unfold D__law_spoilt
      have st0 : fnP 5 (D__law_spoilt (F__law_spoilt k)) [x, .list (ps.map .int)] [.c] = fnP 5 (D__law_spoilt (F__law_spoilt k)) [x, .list (ps.map .int)] [.c] := rfl
      cases hb : (PyData.isTuple x == decide ((tb : Int) = 4)) with
      | true =>
        rw [hb] at a5
        refine ⟨.l true zs, .list zs, fnP_ret (e := spEnv x ps (some (.l true zs)) (some (.d (.int (at_ : Nat)))) (some (.d (.int (tb : Nat))))) ?_, rfl, by simpa using P.list⟩
        show dSeq (dIfS spStart _ _) _ (spEnv x ps none none none) [.c] = _
        rw [seq_nx (if_no es), seq_nx a1, seq_nx a2, seq_nx a3]
        show dSeq (spBody (F__law_spoilt k)) _ _ _ = _
        rw [seq_nx a4]
        unfold dSeq
        rw [M.bind_ok (if_yes (T := dSkip) a5 (r := .ok (.ret (.l true zs), spEnv x ps (some (.l true zs)) (some (.d (.int (at_ : Nat)))) (some (.d (.int (tb : Nat))))) [.c]) rfl)]
        rfl
      | false =>
        rw [hb] at a5
        refine ⟨.d (.tuple zs), .tuple zs, fnP_ret (e := spEnv x ps (some (.l true zs)) (some (.d (.int (at_ : Nat)))) (some (.d (.int (tb : Nat))))) ?_, rfl, by simpa using P.tuple⟩
        show dSeq (dIfS spStart _ _) _ (spEnv x ps none none none) [.c] = _
        rw [seq_nx (if_no es), seq_nx a1, seq_nx a2, seq_nx a3]
        show dSeq (spBody (F__law_spoilt k)) _ _ _ = _
        rw [seq_nx a4, seq_nx (if_no a5)]
        exact retE_ok (call1_ok (r := .l false zs) rfl rfl)
end
end N

/-! NS2: names, numbers within bounds, rows. -/
namespace N
open PySem PySem.Spec L2
section
variable {env : En} {st s s2 s3 : Sto} {fa fb fc : En → M R}
theorem andV_l (h : fa env st = .ok (.d (.bool false)) s) : dAndV fa fb env st = .ok (.d (.bool false)) s := by
  unfold dAndV
  rw [M.bind_ok h]
  rfl
theorem andV_r {b : Bool} {r : R} (h : fa env st = .ok (.d (.bool b)) s) (h2 : b = true → fb env s = .ok r s2) (h3 : b = false → r = .d (.bool false) ∧ s2 = s) : dAndV fa fb env st = .ok r s2 := by
  cases b with
  | true => exact andV_ok h (h2 rfl)
  | false =>
    obtain ⟨rfl, rfl⟩ := h3 rfl
    exact andV_l h
/-- both are looked at where the first is true -/
theorem andV_b {a b : Bool} (h : fa env st = .ok (.d (.bool a)) st) (h2 : a = true → fb env st = .ok (.d (.bool b)) st) : dAndV fa fb env st = .ok (.d (.bool (a && b))) st :=
  andV_r h (fun e => by rw [h2 e, e]; rfl) fun e => by rw [e]; exact ⟨rfl, rfl⟩
theorem notV_ok {b : Bool} (h : fa env st = .ok (.d (.bool b)) s) : dNotV fa env st = .ok (.d (.bool (!b))) s := by
  unfold dNotV
  rw [M.bind_ok h]
  rfl
theorem chain_no {op op' : R → R → M R} {a : R} {b : D} (h1 : fa env st = .ok a s) (h2 : fb env s = .ok (.d b) s2) (h3 : op a (.d b) s2 = .ok (.d (.bool false)) s3) : dChain (dOnly op) op' fa fb fc env st = .ok (.d (.bool false)) s3 := by
  unfold dChain
  rw [M.bind_ok h1, M.bind_ok h2]
  show (op a (.d b) >>= _) s2 = _
  rw [M.bind_ok h3]
  rfl
theorem chain_yes {op op' : R → R → M R} {a c r : R} {b : D} {s4 s5 : Sto} (h1 : fa env st = .ok a s) (h2 : fb env s = .ok (.d b) s2) (h3 : op a (.d b) s2 = .ok (.d (.bool true)) s3) (h4 : fc env s3 = .ok c s4) (h5 : op' (.d b) c s4 = .ok r s5) : dChain (dOnly op) op' fa fb fc env st = .ok r s5 := by
  unfold dChain
  rw [M.bind_ok h1, M.bind_ok h2]
  show (op a (.d b) >>= _) s2 = _
  rw [M.bind_ok h3]
  show (fc env >>= _) s3 = _
  rw [M.bind_ok h4]
  exact h5
/-- lo <= x <= hi -/
theorem chain_le {lo x hi : Int} (h1 : fa env st = .ok (.d (.int lo)) st) (h2 : fb env st = .ok (.d (.int x)) st) (h3 : fc env st = .ok (.d (.int hi)) st) : dChain (dOnly (oCmp fLe)) (oCmp fLe) fa fb fc env st = .ok (.d (.bool (decide (lo ≤ x) && decide (x ≤ hi)))) st := by
  by_cases q : lo ≤ x
  · rw [decide_eq_true q, Bool.true_and]
    exact chain_yes h1 h2 (by rw [x_cmp, fLe_int, decide_eq_true q]) h3 (by rw [x_cmp, fLe_int])
  · rw [decide_eq_false q, Bool.false_and]
    exact chain_no h1 h2 (by rw [x_cmp, fLe_int, decide_eq_false q])
theorem or_b {a b : En → M Bool} {u v : Bool} (h : a env st = .ok u st) (h2 : u = false → b env st = .ok v st) : dOr a b env st = .ok (u || v) st := by
  cases u with
  | true => exact or_l h
  | false => exact or_r h (h2 rfl)
theorem var_ok {i : Nat} {x : D} (h : env[i]? = some (some (.d x))) : eVar i env st = .ok (.d x) st := by rw [x_var, h]
end
def wholeD : D → Bool
  | .int _ => true
  | _ => false
def withinD (lo hi : Int) : D → Bool
  | .int i => decide (lo ≤ i) && decide (i ≤ hi)
  | _ => false
theorem whole_eq (x : D) : (PyData.isInt x && !PyData.isBool x) = wholeD x := by cases x <;> rfl
theorem is_whole_ok {x : D} {st : Sto} (h : x.plain = true) : F_is_whole [x] st = .ok (.d (.bool (wholeD x))) st := by
  unfold F_is_whole
  refine fnP_ret (e := [some (.d x)]) (retE_ok ?_)
  rw [← whole_eq]
  exact andV_b (isi_ok rfl h) fun _ => notV_ok (isi_ok rfl h)
theorem is_within_ok {x : D} {lo hi : Int} {st : Sto} (h : x.plain = true) : F_is_within [x, .int lo, .int hi] st = .ok (.d (.bool (withinD lo hi x))) st := by
  unfold F_is_within
  refine fnP_ret (e := [some (.d x), some (.d (.int lo)), some (.d (.int hi))]) (retE_ok ?_)
  have e : withinD lo hi x = (wholeD x && match x with
    | .int i => decide (lo ≤ i) && decide (i ≤ hi)
    | _ => false) := by cases x <;> rfl
  rw [e]
  refine andV_b (by rw [dCall_ok (cons_ok (r := .d x) rfl rfl)]; exact opC_ok rfl rfl (is_whole_ok h)) fun hw => ?_
  cases x with
  | int i => exact chain_le rfl rfl rfl
  | _ => cases hw
theorem law_from_ok {x : D} {lo hi : Int} {st : Sto} (h : x.plain = true) : F__law_from [x, .int lo, .int hi] st = .ok (.d (.bool (withinD lo hi x))) st := by
  unfold F__law_from
  refine fnP_ret (e := [some (.d x), some (.d (.int lo)), some (.d (.int hi))]) (retE_ok ?_)
  have e : withinD lo hi x = (PyData.isInt x && (!PyData.isBool x && match x with
    | .int i => decide (lo ≤ i) && decide (i ≤ hi)
    | _ => false)) := by cases x <;> rfl
  rw [e]
  refine andV_b (isi_ok rfl h) fun h1 => andV_b (notV_ok (isi_ok rfl h)) fun h2 => ?_
  cases x with
  | int i => exact andV_b (bin_ok (a := .d (.int lo)) (b := .d (.int i)) (s2 := st) rfl rfl (by rw [x_cmp, fLe_int])) fun _ => bin_ok (a := .d (.int i)) (b := .d (.int hi)) (s2 := st) rfl rfl (by rw [x_cmp, fLe_int])
  | bool _ => cases h2
  | _ => cases h1
/-! ### names -/
abbrev letters : Str := "abcdefghijklmnopqrstuvwxyz"
def signIn (c : Nat) : Bool := !(Builtin.Str.occurrences letters ⟨#[c]⟩ 0 letters.length 1).isEmpty
def isNameD : D → Bool
  | .str z => (decide (1 ≤ (z.length : Int)) && decide ((z.length : Int) ≤ 8)) && z.cps.toList.all signIn
  | _ => false
theorem signs_all {it : En → M (List D)} {p : Pat} {vs : List Nat} {tst : En → M Bool} {elt : En → M R} {env : En} {st : Sto} {z : Str} (h1 : it env st = .ok (signs z) st) (hz : z.length ≤ 1000)
    (h : ∀ c ∈ z.cps.toList, lcStep p vs tst elt env (.str ⟨#[c]⟩) st = .ok (some (.bool (signIn c))) st) : dCall (op1 oAll) (dCons (dLc it p vs tst elt) dNil) env st = .ok (.d (.bool (z.cps.toList.all signIn))) st := by
  have e : dLc it p vs tst elt env st = .ok (.l true ((z.cps.toList.map signIn).map .bool)) st := by
    rw [List.map_map]
    exact dLc_map (enc := fun c => PyData.str ⟨#[c]⟩) _ h1 (by have : z.cps.toList.length = z.length := rfl; omega) h
  rw [dCall_ok (cons_ok e rfl)]
  show oAll (.l true ((z.cps.toList.map signIn).map .bool)) st = _
  rw [x_all, List.all_map]
  rfl
theorem in_letters (c : Nat) (st : Sto) : oIn false (.d (.str ⟨#[c]⟩)) (.d (.str letters)) st = .ok (.d (.bool (signIn c))) st := by
  unfold oIn
  show Res.ok (R.d (.bool (false ^^ _))) st = _
  rw [Bool.false_xor]
  rfl
theorem len_str {env : En} {i : Nat} {z : Str} {st : Sto} (h : env[i]? = some (some (.d (.str z)))) (hz : z.length ≤ 1000) : dCall (op1 oLen) (dCons (eVar i) dNil) env st = .ok (.d (.int z.length)) st := by
  refine call1_ok (var_ok h) ?_
  show (if z.length ≤ sizeLine then _ else _) = _
  rw [if_pos (Nat.le_trans (Nat.le_trans hz (by decide)) sizeLine_big)]
theorem is_name_ok {m n : Nat} {x : D} {st : Sto} (h : Sp m n x) : F_is_name [x] st = .ok (.d (.bool (isNameD x))) st := by
  unfold F_is_name
  refine fnP_ret (e := [some (.d x), none]) (retE_ok ?_)
  have e : isNameD x = (PyData.isStr x && isNameD x) := by cases x <;> rfl
  rw [e]
  refine andV_b (isi_ok rfl h.dp.1) fun hs => ?_
  cases x with
  | str z =>
    have hz : z.length ≤ 1000 := by have := h.fine; rw [fine] at this; exact of_decide_eq_true this
    refine andV_b (chain_le rfl (len_str rfl hz) rfl) fun _ => signs_all rfl hz fun c _ => ?_
    exact lcStep_ok (r := .d (.bool (signIn c))) (s1 := st) (e1 := [some (.d (.str z)), some (.d (.str ⟨#[c]⟩))]) rfl rfl (bin_ok (a := .d (.str ⟨#[c]⟩)) (b := .d (.str letters)) (s2 := st) rfl rfl (in_letters c st)) rfl
  | _ => cases hs
theorem law_is_name_ok {m n : Nat} {x : D} {st : Sto} (h : Sp m n x) : F__law_is_name [x] st = .ok (.d (.bool (isNameD x))) st := by
  unfold F__law_is_name
  have e : isNameD x = (PyData.isStr x && isNameD x) := by cases x <;> rfl
  have i0 : dNot (dTst (dUn (oIsi PyData.isStr) (eVar 0))) [some (.d x), none] st = .ok (!PyData.isStr x) st := not_ok (tst_ok (isi_ok rfl h.dp.1))
  unfold D__law_is_name
  cases hs : PyData.isStr x with
  | false =>
    rw [hs] at i0 e
    rw [e]
    refine fnP_ret (e := [some (.d x), none]) ?_
    unfold dSeq
    rw [show env0 2 [x] = [some (.d x), none] from rfl, M.bind_ok (if_yes (T := dSkip) (or_l i0) (retE_ok (r := .d (.bool false)) rfl))]
    rfl
  | true =>
    rw [hs] at i0
    cases x with
    | str z =>
      have hz : z.length ≤ 1000 := by have := h.fine; rw [fine] at this; exact of_decide_eq_true this
      have i1 : dTst (dBin (oCmp fLt) (dCall (op1 oLen) (dCons (eVar 0) dNil)) (eC (.int 1))) [some (.d (.str z)), none] st = .ok (decide ((z.length : Int) < 1)) st :=
        tst_ok (bin_ok (b := .d (.int 1)) (s2 := st) (len_str rfl hz) rfl (by rw [x_cmp, fLt_int]))
      have i2 : dTst (dBin (oCmp fGt) (dCall (op1 oLen) (dCons (eVar 0) dNil)) (eC (.int 8))) [some (.d (.str z)), none] st = .ok (decide ((8 : Int) < (z.length : Int))) st :=
        tst_ok (bin_ok (b := .d (.int 8)) (s2 := st) (len_str rfl hz) rfl (by rw [x_cmp, fGt_int]))
      have i3 := or_b i0 fun _ => or_b i1 fun _ => i2
      by_cases q : 1 ≤ (z.length : Int) ∧ (z.length : Int) ≤ 8
      · have e2 : isNameD (.str z) = z.cps.toList.all signIn := by
          show ((decide (1 ≤ (z.length : Int)) && decide ((z.length : Int) ≤ 8)) && _) = _
          rw [decide_eq_true q.1, decide_eq_true q.2]; rfl
        rw [decide_eq_false (show ¬ (z.length : Int) < 1 by omega), decide_eq_false (show ¬ (8 : Int) < (z.length : Int) by omega)] at i3
        refine fnP_ret (e := [some (.d (.str z)), none]) ?_
        rw [show env0 2 [.str z] = [some (.d (.str z)), none] from rfl, seq_nx (if_no i3), e2]
        refine retE_ok (signs_all rfl hz fun c _ => ?_)
        exact lcStep_ok (r := .d (.bool (signIn c))) (s1 := st) (e1 := [some (.d (.str z)), some (.d (.str ⟨#[c]⟩))]) rfl rfl (bin_ok (a := .d (.str ⟨#[c]⟩)) (b := .d (.str letters)) (s2 := st) rfl rfl (in_letters c st)) rfl
      · have e2 : isNameD (.str z) = false := by
          show ((decide (1 ≤ (z.length : Int)) && decide ((z.length : Int) ≤ 8)) && _) = _
          rw [show (decide (1 ≤ (z.length : Int)) && decide ((z.length : Int) ≤ 8)) = false from by
            rw [← Bool.decide_and, decide_eq_false q]]
          rfl
        have e3 : (!true || (decide ((z.length : Int) < 1) || decide ((8 : Int) < (z.length : Int)))) = true := by
          rw [Bool.not_true, Bool.false_or, ← Bool.decide_or, decide_eq_true (by omega)]
        rw [e3] at i3
        refine fnP_ret (e := [some (.d (.str z)), none]) ?_
        unfold dSeq
        rw [show env0 2 [.str z] = [some (.d (.str z)), none] from rfl, M.bind_ok (if_yes (T := dSkip) i3 (retE_ok (r := .d (.bool false)) rfl)), e2]
        rfl
    | _ => cases hs
end N

/-! NS3: rows of a page, as the program reads them. -/
namespace N
open PySem PySem.Spec L2
theorem seq_early {t : En → M Bool} {S : SM} {env env' : En} {st : Sto} {b v : Bool} (h : t env st = .ok b st) (h2 : b = false → ∃ e, S env st = .ok (.ret (.d (.bool v)), e) st) :
    ∃ e, dSeq (dIfS t (dRet (eC (.bool false))) dSkip) S env st = .ok (.ret (.d (.bool (!b && v))), e) st := by
  cases b with
  | true =>
    refine ⟨env, ?_⟩
    unfold dSeq
    rw [M.bind_ok (if_yes (T := dSkip) h (retE_ok (r := .d (.bool false)) rfl))]
    rfl
  | false =>
    obtain ⟨e, he⟩ := h2 rfl
    exact ⟨e, by rw [seq_nx (if_no h)]; exact he⟩
theorem dcStep_ok {p : Pat} {vs : List Nat} {tst : En → M Bool} {fk fv : En → M R} {env e1 : En} {x y d : D} {st : Sto} {k : Key} {r : R} (ha : asg p x (wipeE env vs) = some e1) (ht : tst e1 st = .ok true st) (hk : fk e1 st = .ok (.d y) st) (ek : keyOf y = some k) (hv : fv e1 st = .ok r st) (er : kp r = some d) :
    dcStep p vs tst fk fv env x st = .ok (some (k, d)) st := by
  unfold dcStep
  simp only [ha, ht, hk, ek, hv, er]
theorem callC1 {F : List D → M R} {f : En → M R} {env : En} {st : Sto} {x : D} {r : R} (h : f env st = .ok (.d x) st) (e : F [x] [.c] = .ok r [.c]) : dCall (opC 1 F) (dCons f dNil) env st = .ok r st := by
  rw [dCall_ok (cons_ok h rfl)]
  exact opC_ok rfl rfl e
theorem callC3 {F : List D → M R} {f f2 f3 : En → M R} {env : En} {st : Sto} {x y z : D} {r : R} (h : f env st = .ok (.d x) st) (h2 : f2 env st = .ok (.d y) st) (h3 : f3 env st = .ok (.d z) st) (e : F [x, y, z] [.c] = .ok r [.c]) : dCall (opC 3 F) (dCons f (dCons f2 (dCons f3 dNil))) env st = .ok r st := by
  rw [dCall_ok (cons_ok h (cons_ok h2 (cons_ok h3 rfl)))]
  exact opC_ok rfl rfl e
def isRowD : D → Bool
  | .tuple [a, b, c] => isNameD a && (withinD 0 100 b && withinD 1 60 c)
  | _ => false
theorem row_cases (x : D) : (∃ a b c, x = .tuple [a, b, c]) ∨ (∃ xs, x = .tuple xs ∧ xs.length ≠ 3) ∨ PyData.isTuple x = false := by
  cases x with
  | tuple xs =>
    match xs with
    | [a, b, c] => exact .inl ⟨a, b, c, rfl⟩
    | [] => exact .inr (.inl ⟨_, rfl, by simp⟩)
    | [_] => exact .inr (.inl ⟨_, rfl, by simp⟩)
    | [_, _] => exact .inr (.inl ⟨_, rfl, by simp⟩)
    | _ :: _ :: _ :: _ :: _ => exact .inr (.inl ⟨_, rfl, by simp⟩)
  | _ => exact .inr (.inr rfl)
theorem isRow_len {xs : List D} (h : xs.length ≠ 3) : isRowD (.tuple xs) = false := by
  match xs, h with
  | [a, b, c], h => exact absurd rfl h
  | [], _ => rfl
  | [_], _ => rfl
  | [_, _], _ => rfl
  | _ :: _ :: _ :: _ :: _, _ => rfl
theorem isRow_tup {x : D} (h : PyData.isTuple x = false) : isRowD x = false := by
  cases x with
  | tuple xs => cases h
  | _ => rfl
theorem len_ne {env : En} {st : Sto} {i : Nat} {xs : List D} {k : Int} (h : env[i]? = some (some (.d (.tuple xs)))) : dTst (dBin (oEq true) (dCall (op1 oLen) (dCons (eVar i) dNil)) (eC (.int k))) env st = .ok (!decide ((xs.length : Int) = k)) st :=
  tst_ok (bin_ok (b := .d (.int k)) (s2 := st) (len_ok h rfl) rfl (by rw [oEq_int, Bool.true_xor]))
theorem ix_var {env : En} {st : Sto} {i : Nat} {xs : List D} {k : Int} {x : D} (h : env[i]? = some (some (.d (.tuple xs)))) (hx : atI xs k = some x) : dBin oIx (eVar i) (eC (.int k)) env st = .ok (.d x) st :=
  bin_ok (b := .d (.int k)) (s2 := st) (var_ok h) rfl (by rw [x_ixT, hx])
theorem at30 {a b c : D} : atI [a, b, c] 0 = some a := rfl
theorem at31 {a b c : D} : atI [a, b, c] 1 = some b := rfl
theorem at32 {a b c : D} : atI [a, b, c] 2 = some c := rfl
theorem is_row_ok {m n : Nat} {x : D} {st : Sto} (h : Sp m n x) : F_is_row [x] st = .ok (.d (.bool (isRowD x))) st := by
  have i0 : dNot (dTst (dUn (oIsi PyData.isTuple) (eVar 0))) [some (.d x)] st = .ok (!PyData.isTuple x) st := not_ok (tst_ok (isi_ok rfl h.dp.1))
  unfold F_is_row D_is_row
  rcases row_cases x with ⟨a, b, c, rfl⟩ | ⟨xs, rfl, hl⟩ | ht
  · obtain ⟨n', rfl, _, hs⟩ := sp_parts h rfl
    have ha := hs a (by simp)
    have hb := hs b (by simp)
    have hc := hs c (by simp)
    have x0 := ix_var (env := [some (.d (.tuple [a, b, c]))]) (st := st) (i := 0) (k := 0) (xs := [a, b, c]) rfl at30
    have l0 := len_ne (env := [some (.d (.tuple [a, b, c]))]) (st := st) (i := 0) (k := 3) (xs := [a, b, c]) rfl
    have t := or_b i0 fun _ => or_b l0 fun _ => not_ok (tst_ok (callC1 x0 (is_name_ok ha)))
    obtain ⟨e, he⟩ := seq_early (env' := [some (.d (.tuple [a, b, c]))]) (v := withinD 0 100 b && withinD 1 60 c) t (S := dRet (dAndV (dCall (opC 3 F_is_within) (dCons (dBin oIx (eVar 0) (eC (.int 1))) (dCons (eC (.int 0)) (dCons (eC (.int 100)) dNil)))) (dCall (opC 3 F_is_within) (dCons (dBin oIx (eVar 0) (eC (.int 2))) (dCons (eC (.int 1)) (dCons (eC (.int 60)) dNil)))))) fun _ =>
      ⟨_, retE_ok (andV_b (callC3 (ix_var (i := 0) (xs := [a, b, c]) (k := 1) rfl at31) rfl rfl (is_within_ok hb.dp.1)) fun _ => callC3 (ix_var (i := 0) (xs := [a, b, c]) (k := 2) rfl at32) rfl rfl (is_within_ok hc.dp.1))⟩
    rw [fnP_ret he]
    congr 4
    show (!(!true || (!decide (((3 : Nat) : Int) = 3) || !isNameD a))) = isNameD a
    simp
  · have t := or_l (b := dOr (dTst (dBin (oEq true) (dCall (op1 oLen) (dCons (eVar 0) dNil)) (eC (.int 3)))) (dNot (dTst (dCall (opC 1 F_is_name) (dCons (dBin oIx (eVar 0) (eC (.int 0))) dNil))))) (a := dNot (dTst (dUn (oIsi PyData.isTuple) (eVar 0)))) (env := [some (.d (.tuple xs))]) (st := st) (s := st)
    have l := len_ne (env := [some (.d (.tuple xs))]) (st := st) (i := 0) (k := 3) rfl
    rw [decide_eq_false (by omega)] at l
    have t := or_r (v := true) i0 (or_l (b := dNot (dTst (dCall (opC 1 F_is_name) (dCons (dBin oIx (eVar 0) (eC (.int 0))) dNil)))) l)
    obtain ⟨e, he⟩ := seq_early (env' := []) (v := false) t (S := dRet (dAndV (dCall (opC 3 F_is_within) (dCons (dBin oIx (eVar 0) (eC (.int 1))) (dCons (eC (.int 0)) (dCons (eC (.int 100)) dNil)))) (dCall (opC 3 F_is_within) (dCons (dBin oIx (eVar 0) (eC (.int 2))) (dCons (eC (.int 1)) (dCons (eC (.int 60)) dNil)))))) fun z => nomatch z
    rw [fnP_ret he, isRow_len hl]
    rfl
  · rw [ht] at i0
    obtain ⟨e, he⟩ := seq_early (env' := []) (v := false) (or_l i0) (S := dRet (dAndV (dCall (opC 3 F_is_within) (dCons (dBin oIx (eVar 0) (eC (.int 1))) (dCons (eC (.int 0)) (dCons (eC (.int 100)) dNil)))) (dCall (opC 3 F_is_within) (dCons (dBin oIx (eVar 0) (eC (.int 2))) (dCons (eC (.int 1)) (dCons (eC (.int 60)) dNil)))))) fun z => nomatch z
    rw [fnP_ret he, isRow_tup ht]
    rfl
/-! ### unlike names -/
def keyD : D → Key
  | .tuple (.str z :: _) => .inr z
  | _ => .inl 0
def unlike (xs : List D) : Bool := decide ((uniq (xs.map keyD)).length = xs.length)
theorem putD_keys (kvs : List (Key × D)) (k : Key) (d : D) : (putD kvs k d).map (·.1) = if k ∈ kvs.map (·.1) then kvs.map (·.1) else kvs.map (·.1) ++ [k] := by
  unfold putD
  by_cases h : k ∈ kvs.map (·.1)
  · rw [if_pos h, if_pos]
    · rw [List.map_map]
      apply List.map_congr_left
      intro p _
      simp only [Function.comp_apply]
      split <;> rfl
    · obtain ⟨p, hp, e⟩ := List.mem_map.mp h
      exact List.any_eq_true.mpr ⟨p, hp, decide_eq_true e⟩
  · rw [if_neg h, if_neg]
    · rw [List.map_append]; rfl
    · intro e
      obtain ⟨p, hp, e2⟩ := List.any_eq_true.mp e
      exact h (List.mem_map.mpr ⟨p, hp, of_decide_eq_true e2⟩)
theorem mergeD_keys : ∀ (ps kvs : List (Key × D)), (kvs.map (·.1)).Nodup → ((mergeD kvs ps).map (·.1)).Nodup ∧ ∀ k, k ∈ (mergeD kvs ps).map (·.1) ↔ k ∈ kvs.map (·.1) ∨ k ∈ ps.map (·.1)
  | [], kvs, h => ⟨h, fun k => by simp [mergeD]⟩
  | p :: ps, kvs, h => by
    have hk := putD_keys kvs p.1 p.2
    have nd : ((putD kvs p.1 p.2).map (·.1)).Nodup := by
      rw [hk]
      split
      · exact h
      · rename_i q
        exact List.nodup_append.mpr ⟨h, by simp, fun a ha b hb e => by
          rw [List.mem_singleton] at hb
          subst hb e
          exact q ha⟩
    obtain ⟨h1, h2⟩ := mergeD_keys ps (putD kvs p.1 p.2) nd
    refine ⟨h1, fun k => ?_⟩
    show k ∈ (mergeD (putD kvs p.1 p.2) ps).map (·.1) ↔ _
    rw [h2 k, hk, List.map_cons, List.mem_cons]
    split
    · rename_i q
      constructor
      · rintro (z | z)
        · exact .inl z
        · exact .inr (.inr z)
      · rintro (z | z | z)
        · exact .inl z
        · exact .inl (z ▸ q)
        · exact .inr z
    · rw [List.mem_append, List.mem_singleton]
      constructor
      · rintro ((z | z) | z)
        · exact .inl z
        · exact .inr (.inl z)
        · exact .inr (.inr z)
      · rintro (z | z | z)
        · exact .inl (.inl z)
        · exact .inl (.inr z)
        · exact .inr z
theorem merge_len (ks : List Key) (d : D) : (mergeD [] (ks.map fun k => (k, d))).length = (uniq ks).length := by
  obtain ⟨h1, h2⟩ := mergeD_keys (ks.map fun k => (k, d)) [] List.nodup_nil
  have p := perm_of_nodup h1 (uniq_nodup ks) fun k => by
    rw [h2 k, uniq_mem, List.map_map]
    simp [Function.comp_def]
  have := p.length_eq
  rwa [List.length_map] at this
theorem row_key {x : D} (h : isRowD x = true) : ∃ z ys, x = .tuple (.str z :: ys) ∧ ys.length = 2 := by
  rcases row_cases x with ⟨a, b, c, rfl⟩ | ⟨xs, rfl, hl⟩ | ht
  · have ha : isNameD a = true := by
      have : (isNameD a && _) = true := h
      rw [Bool.and_eq_true] at this
      exact this.1
    cases a with
    | str z => exact ⟨z, [b, c], rfl, rfl⟩
    | _ => cases ha
  · rw [isRow_len hl] at h; cases h
  · rw [isRow_tup ht] at h; cases h
def areRowsD : D → Bool
  | .tuple xs => decide ((xs.length : Int) ≤ 10) && (xs.all isRowD && unlike xs)
  | _ => false
theorem all_call {m n : Nat} {env : En} {st : Sto} {xs : List D} {C : En → M R} {f : D → Bool} (h : C env st = .ok (.l true ((xs.map f).map .bool)) st) : dCall (op1 oAll) (dCons C dNil) env st = .ok (.d (.bool (xs.all f))) st := by
  rw [dCall_ok (cons_ok h rfl)]
  show oAll (.l true ((xs.map f).map .bool)) st = _
  rw [x_all, List.all_map]
  rfl
theorem are_rows_ok {m n : Nat} {x : D} {st : Sto} (h : Sp m n x) (hm : m ≤ 1000) : F_are_rows [x] st = .ok (.d (.bool (areRowsD x))) st := by
  have i0 : dNot (dTst (dUn (oIsi PyData.isTuple) (eVar 0))) [some (.d x), none] st = .ok (!PyData.isTuple x) st := not_ok (tst_ok (isi_ok rfl h.dp.1))
  unfold F_are_rows D_are_rows
  cases ht : PyData.isTuple x with
  | false =>
    rw [ht] at i0
    obtain ⟨e, he⟩ := seq_early (env' := []) (v := false) (or_l (b := dOr (dTst (dBin (oCmp fGt) (dCall (op1 oLen) (dCons (eVar 0) dNil)) (eC (.int 10)))) (dNot (dTst (dCall (op1 oAll) (dCons C_are_rows_1 dNil))))) i0) (S := dRet (dBin (oEq false) (dCall (op1 oLen) (dCons C_are_rows_2 dNil)) (dCall (op1 oLen) (dCons (eVar 0) dNil)))) fun z => nomatch z
    rw [fnP_ret he]
    cases x with
    | tuple xs => cases ht
    | _ => rfl
  | true =>
    cases x with
    | tuple xs =>
      rw [ht] at i0
      obtain ⟨n', rfl, hl, hs⟩ := sp_parts h rfl
      have hl2 : xs.length ≤ 1000000 := by omega
      have i1 : dTst (dBin (oCmp fGt) (dCall (op1 oLen) (dCons (eVar 0) dNil)) (eC (.int 10))) [some (.d (.tuple xs)), none] st = .ok (decide ((10 : Int) < xs.length)) st :=
        tst_ok (bin_ok (b := .d (.int 10)) (s2 := st) (len_ok rfl rfl) rfl (by rw [x_cmp, fGt_int]))
      have e1 : C_are_rows_1 [some (.d (.tuple xs)), none] st = .ok (.l true ((xs.map isRowD).map .bool)) st := by
        rw [List.map_map]
        refine dLc_map (enc := id) (xs := xs) _ (by rw [List.map_id]; rfl) hl2 fun y hy => ?_
        exact lcStep_ok (r := .d (.bool (isRowD y))) (s1 := st) (e1 := [some (.d (.tuple xs)), some (.d y)]) rfl rfl (callC1 (x := y) rfl (is_row_ok (hs y hy))) rfl
      have t := or_b i0 fun _ => or_b i1 fun _ => not_ok (tst_ok (all_call (m := m) (n := n') e1))
      obtain ⟨e, he⟩ := seq_early (env' := []) (v := unlike xs) t (S := dRet (dBin (oEq false) (dCall (op1 oLen) (dCons C_are_rows_2 dNil)) (dCall (op1 oLen) (dCons (eVar 0) dNil)))) fun hb => by
        have hall : xs.all isRowD = true := by
          cases q : xs.all isRowD with
          | true => rfl
          | false => rw [q] at hb; simp at hb
        rw [List.all_eq_true] at hall
        have e2 : C_are_rows_2 [some (.d (.tuple xs)), none] st = .ok (.k true (mergeD [] ((xs.map keyD).map fun k => (k, .bool true)))) st := by
          unfold C_are_rows_2
          rw [dDc_pure (enc := id) (xs := xs) (st1 := st) (fun y => some (keyD y, .bool true)) (by rw [List.map_id]; rfl) (Nat.le_trans hl2 sizeLine_big) fun y hy => ?_]
          · rw [List.filterMap_eq_map', List.map_map]; rfl
          · obtain ⟨z, ys, e, hy2⟩ := row_key (hall y hy)
            have hk : keyD y = .inr z := by rw [e]; rfl
            rw [hk]
            refine dcStep_ok (e1 := [some (.d (.tuple xs)), some (.d y)]) (y := .str z) (r := .d (.bool true)) rfl rfl ?_ rfl rfl rfl
            rw [e]
            exact ix_var (k := 0) rfl (at0 _ _)
        refine ⟨_, retE_ok (bin_ok (s1 := st) (s2 := st) (a := .d (.int (uniq (xs.map keyD)).length)) (call1_ok e2 ?_) (len_ok rfl rfl) ?_)⟩
        · rw [x_lenk, merge_len]
        · rw [oEq_int, Bool.false_xor]
          unfold unlike
          congr 4
          exact propext ⟨fun h => by omega, fun h => by omega⟩
      rw [fnP_ret he]
      congr 3
      show (!(!true || (decide ((10 : Int) < xs.length) || !xs.all isRowD)) && unlike xs) = (decide ((xs.length : Int) ≤ 10) && (xs.all isRowD && unlike xs))
      by_cases q : (xs.length : Int) ≤ 10
      · rw [decide_eq_true q, decide_eq_false (by omega)]; simp
      · rw [decide_eq_false q, decide_eq_true (by omega)]; simp
    | _ => cases ht
end N

namespace N
open PySem PySem.Spec L2 PyProof.Rows N
abbrev n_is_open : List Str := [("way" : Str), ("sources" : Str), ("struck" : Str), ("came" : Str), ("name" : Str)]
abbrev p_is_open : List Str := [("way" : Str), ("sources" : Str), ("struck" : Str), ("came" : Str)]
def C_is_open_1 : En → M R :=
    (dLc (dItE (eVar 0)) (.nm 4) [4] dYes (dIf (dTst (dBin (oIn false) (eVar 4) (eVar 1))) (dBin (oIn true) (eVar 4) (eVar 2)) (dBin (oIn false) (eVar 4) (eVar 3))))
def D_is_open : SM :=
    (dRet (dCall (op1 oAll) (dCons C_is_open_1 dNil)))
def F_is_open : List D → M R := fnP 5 D_is_open
abbrev n_any_open : List Str := [("ways" : Str), ("sources" : Str), ("struck" : Str), ("came" : Str), ("way" : Str)]
abbrev p_any_open : List Str := [("ways" : Str), ("sources" : Str), ("struck" : Str), ("came" : Str)]
def C_any_open_1 : En → M R :=
    (dLc (dItE (eVar 0)) (.nm 4) [4] dYes (dCall (opC 4 F_is_open) (dCons (eVar 4) (dCons (eVar 1) (dCons (eVar 2) (dCons (eVar 3) dNil))))))
def D_any_open : SM :=
    (dRet (dCall (op1 oAny) (dCons C_any_open_1 dNil)))
def F_any_open : List D → M R := fnP 5 D_any_open
abbrev n_rounds : List Str := [("book" : Str), ("struck" : Str), ("sources" : Str), ("facts" : Str), ("found" : Str), ("number" : Str), ("fresh" : Str), ("fact" : Str), ("ways" : Str)]
abbrev p_rounds : List Str := [("book" : Str), ("struck" : Str)]
def C_rounds_1 : En → M R :=
    (dLc (dItE (eVar 3)) (.tp [(.nm 7), (.nm 8)]) [7, 8] (dAnd (dTst (dBin (oIn true) (eVar 7) (eVar 4))) (dTst (dCall (opP 4 F_any_open) (dCons (eVar 8) (dCons (eVar 2) (dCons (eVar 1) (dCons (eVar 4) dNil))))))) (eVar 7))
def C_rounds_2 : En → M R :=
    (dDc (dItE (eVar 6)) (.nm 7) [7] dYes (eVar 7) (eVar 5))
def B_rounds_1 : SM :=
    (dSeq (dSet 6 slF C_rounds_1)
    (dSeq (dUpd 4 C_rounds_2)
    (dAug 5 (fun i j => i + j) (fun _ _ => true) (eC (.int 1)))))
def L_rounds_1 : SM :=
    (whileGo (dTst (dBin (oEq true) (eVar 6) (dCall oLst dNil))) B_rounds_1 1000)
def D_rounds : SM :=
    (dSeq (dAsgP (.tp [(.nm 2), (.nm 3)]) (eVar 0))
    (dSeq (dPar 4 5 slO slF (dCons eNewK (dCons (eC (.int 1)) dNil)))
    (dSeq (dSet 6 slF (dCall oLst (dCons (eC (.bool true)) dNil)))
    (dSeq L_rounds_1
    (dRetVar 4)))))
def F_rounds : List D → M R := fnP 9 D_rounds
abbrev n_standing : List Str := [("book" : Str), ("struck" : Str)]
abbrev p_standing : List Str := [("book" : Str), ("struck" : Str)]
def D_standing : SM :=
    (dRet (dUn oSortedItems (dCall (opC 2 F_rounds) (dCons (eVar 0) (dCons (eVar 1) dNil)))))
def F_standing : List D → M R := fnP 2 D_standing
abbrev n_ways_of : List Str := [("book" : Str), ("fact" : Str), ("rows" : Str), ("name" : Str), ("ways" : Str)]
abbrev p_ways_of : List Str := [("book" : Str), ("fact" : Str)]
def C_ways_of_1 : En → M R :=
    (dLc (dItE (dBin oIx (eVar 0) (eC (.int 1)))) (.tp [(.nm 3), (.nm 4)]) [3, 4] (dTst (dBin (oEq false) (eVar 3) (eVar 1))) (eVar 4))
def D_ways_of : SM :=
    (dSeq (dSet 2 slF C_ways_of_1)
    (dSeq (dIfS (dTst (dBin (oEq false) (eVar 2) (dCall oLst dNil))) dNoS dSkip)
    (dRet (dBin oIx (eVar 2) (eC (.int 0))))))
def F_ways_of : List D → M R := fnP 5 D_ways_of
abbrev n_lots : List Str := [("names" : Str), ("found" : Str), ("name" : Str), ("lot" : Str), ("size" : Str)]
abbrev p_lots : List Str := [("names" : Str)]
def C_lots_1 : En → M R :=
    (dLc (dItE (eVar 1)) (.nm 3) [3] dYes (dBin oAdd (eVar 3) (dCall oTup (dCons (eVar 2) dNil))))
def B_lots_1 : SM :=
    (dSet 1 slF (dBin oAdd (eVar 1) C_lots_1))
def L_lots_1 : SM :=
    (dFor (dItS (eVar 0)) (.nm 2) B_lots_1)
def C_lots_2 : En → M R :=
    (dLc (dItE (eVar 1)) (.nm 3) [3] dYes (dCall oTup (dCons (dCall (op1 oLen) (dCons (eVar 3) dNil)) (dCons (eVar 3) dNil))))
def C_lots_3 : En → M R :=
    (dLc (dItE (dCall (op1 oSorted) (dCons C_lots_2 dNil))) (.tp [(.nm 4), (.nm 3)]) [4, 3] dYes (eVar 3))
def D_lots : SM :=
    (dSeq (dSet 1 slF (dCall oLst (dCons (dCall oTup dNil) dNil)))
    (dSeq L_lots_1
    (dRet C_lots_3)))
def F_lots : List D → M R := fnP 5 D_lots
abbrev n_others_of : List Str := [("book" : Str), ("lot" : Str), ("name" : Str)]
abbrev p_others_of : List Str := [("book" : Str), ("lot" : Str)]
def C_others_of_1 : En → M R :=
    (dLc (dItE (dBin oIx (eVar 0) (eC (.int 0)))) (.nm 2) [2] (dTst (dBin (oIn true) (eVar 2) (eVar 1))) (eVar 2))
def D_others_of : SM :=
    (dRet (dCall (op1 oTuple) (dCons C_others_of_1 dNil)))
def F_others_of : List D → M R := fnP 3 D_others_of
abbrev n_least_ones : List Str := [("some" : Str), ("found" : Str), ("lot" : Str), ("name" : Str), ("other" : Str)]
abbrev p_least_ones : List Str := [("some" : Str)]
def C_least_ones_1 : En → M R :=
    (dLc (dItE (eVar 4)) (.nm 3) [3] dYes (dBin (oIn false) (eVar 3) (eVar 2)))
def C_least_ones_2 : En → M R :=
    (dLc (dItE (eVar 1)) (.nm 4) [4] dYes (dCall (op1 oAll) (dCons C_least_ones_1 dNil)))
def B_least_ones_1 : SM :=
    (dIfS (dNot (dTst (dCall (op1 oAny) (dCons C_least_ones_2 dNil)))) (dApp 1 (eVar 2)) dSkip)
def L_least_ones_1 : SM :=
    (dFor (dItS (eVar 0)) (.nm 2) B_least_ones_1)
def D_least_ones : SM :=
    (dSeq (dSet 1 slO (dCall oLst dNil))
    (dSeq L_least_ones_1
    (dRetVar 1)))
def F_least_ones : List D → M R := fnP 5 D_least_ones
abbrev n_carriers : List Str := [("book" : Str), ("fact" : Str), ("lot" : Str)]
abbrev p_carriers : List Str := [("book" : Str), ("fact" : Str)]
def C_carriers_1 : En → M R :=
    (dLc (dItE (dCall (opC 1 F_lots) (dCons (dBin oIx (eVar 0) (eC (.int 0))) dNil))) (.nm 2) [2] (dTst (dBin (oIn false) (eVar 1) (dCall (opC 2 F_rounds) (dCons (eVar 0) (dCons (dCall (opC 2 F_others_of) (dCons (eVar 0) (dCons (eVar 2) dNil))) dNil))))) (eVar 2))
def D_carriers : SM :=
    (dSeq (dDrop (dCall (opC 2 F_ways_of) (dCons (eVar 0) (dCons (eVar 1) dNil))))
    (dRet (dCall (opC 1 F_least_ones) (dCons C_carriers_1 dNil))))
def F_carriers : List D → M R := fnP 3 D_carriers
abbrev n_fellers : List Str := [("book" : Str), ("fact" : Str), ("lot" : Str)]
abbrev p_fellers : List Str := [("book" : Str), ("fact" : Str)]
def C_fellers_1 : En → M R :=
    (dLc (dItE (dCall (opC 1 F_lots) (dCons (dBin oIx (eVar 0) (eC (.int 0))) dNil))) (.nm 2) [2] (dTst (dBin (oIn true) (eVar 1) (dCall (opC 2 F_rounds) (dCons (eVar 0) (dCons (eVar 2) dNil))))) (eVar 2))
def D_fellers : SM :=
    (dSeq (dDrop (dCall (opC 2 F_ways_of) (dCons (eVar 0) (dCons (eVar 1) dNil))))
    (dRet (dCall (opC 1 F_least_ones) (dCons C_fellers_1 dNil))))
def F_fellers : List D → M R := fnP 3 D_fellers
abbrev n_common : List Str := [("one" : Str), ("other" : Str)]
abbrev p_common : List Str := [("one" : Str), ("other" : Str)]
def B_common_1 : SM :=
    (dPar 0 1 slF slF (dCons (eVar 1) (dCons (dBin oMod (eVar 0) (eVar 1)) dNil)))
def L_common_1 : SM :=
    (whileGo (dTst (dBin (oCmp fGt) (eVar 1) (eC (.int 0)))) B_common_1 1000)
def D_common : SM :=
    (dSeq L_common_1
    (dRetVar 0))
def F_common : List D → M R := fnP 2 D_common
abbrev n_weight_of : List Str := [("book" : Str), ("odds" : Str), ("bad" : Str), ("found" : Str), ("name" : Str), ("top" : Str), ("bottom" : Str)]
abbrev p_weight_of : List Str := [("book" : Str), ("odds" : Str), ("bad" : Str)]
def B_weight_of_1 : SM :=
    (dAug 3 (fun i j => i * j) okMul (dIf (dTst (dBin (oIn false) (eVar 4) (eVar 2))) (dBin oSub (eVar 6) (eVar 5)) (eVar 5)))
def L_weight_of_1 : SM :=
    (dFor (dItC itZipS (dCons (dBin oIx (eVar 0) (eC (.int 0))) (dCons (eVar 1) dNil))) (.tp [(.nm 4), (.tp [(.nm 5), (.nm 6)])]) B_weight_of_1)
def D_weight_of : SM :=
    (dSeq (dSet 3 slF (eC (.int 1)))
    (dSeq L_weight_of_1
    (dRetVar 3)))
def F_weight_of : List D → M R := fnP 7 D_weight_of
abbrev n_chance : List Str := [("book" : Str), ("odds" : Str), ("fact" : Str), ("top" : Str), ("bottom" : Str), ("one" : Str), ("lot" : Str), ("by" : Str)]
abbrev p_chance : List Str := [("book" : Str), ("odds" : Str), ("fact" : Str)]
def B_chance_1 : SM :=
    (dAug 4 (fun i j => i * j) okMul (dBin oIx (eVar 5) (eC (.int 1))))
def L_chance_1 : SM :=
    (dFor (dItS (eVar 1)) (.nm 5) B_chance_1)
def B_chance_2 : SM :=
    (dIfS (dTst (dBin (oIn false) (eVar 2) (dCall (opC 2 F_rounds) (dCons (eVar 0) (dCons (eVar 6) dNil))))) (dAug 3 (fun i j => i + j) (fun _ _ => true) (dCall (opC 3 F_weight_of) (dCons (eVar 0) (dCons (eVar 1) (dCons (eVar 6) dNil))))) dSkip)
def L_chance_2 : SM :=
    (dFor (dItS (dCall (opC 1 F_lots) (dCons (dBin oIx (eVar 0) (eC (.int 0))) dNil))) (.nm 6) B_chance_2)
def D_chance : SM :=
    (dSeq (dDrop (dCall (opC 2 F_ways_of) (dCons (eVar 0) (dCons (eVar 2) dNil))))
    (dSeq (dAsgP (.tp [(.nm 3), (.nm 4)]) (dCall oTup (dCons (eC (.int 0)) (dCons (eC (.int 1)) dNil))))
    (dSeq L_chance_1
    (dSeq L_chance_2
    (dSeq (dSet 7 slF (dCall (opC 2 F_common) (dCons (eVar 3) (dCons (eVar 4) dNil))))
    (dRet (dCall oTup (dCons (dBin oFdivW (eVar 3) (eVar 7)) (dCons (dBin oFdivW (eVar 4) (eVar 7)) dNil)))))))))
def F_chance : List D → M R := fnP 8 D_chance
end N

namespace N
open PySem PySem.Spec L2 PyProof.Rows N
abbrev n_is_lead : List Str := [("book" : Str), ("struck" : Str), ("fact" : Str), ("thing" : Str), ("ahead" : Str), ("last" : Str), ("table" : Str), ("row" : Str)]
abbrev p_is_lead : List Str := [("book" : Str), ("struck" : Str), ("fact" : Str), ("thing" : Str)]
def B_is_lead_1 : SM :=
    (dSeq (dIfS (dOr (dNot (dTst (dUn (oIsi PyData.isTuple) (eVar 7)))) (dOr (dTst (dBin (oEq true) (dCall (op1 oLen) (dCons (eVar 7) dNil)) (eC (.int 2)))) (dOr (dNot (dTst (dUn (oIsi PyData.isStr) (dBin oIx (eVar 7) (eC (.int 0)))))) (dTst (dBin (oIn true) (dBin oIx (eVar 7) (eC (.int 0))) (eVar 6)))))) (dRet (eC (.bool false))) dSkip)
    (dSeq (dIfS (dOr (dTst (dBin (oIn false) (dBin oIx (eVar 7) (eC (.int 0))) (eVar 4))) (dNot (dTst (dCall (opC 3 F_is_within) (dCons (dBin oIx (eVar 7) (eC (.int 1))) (dCons (eC (.int 0)) (dCons (dBin oSub (dCall (op1 oLen) (dCons (dBin oIx (eVar 6) (dBin oIx (eVar 7) (eC (.int 0)))) dNil)) (eC (.int 1))) dNil))))))) (dRet (eC (.bool false))) dSkip)
    (dSeq (dIfS (dNot (dTst (dCall (opP 4 F_is_open) (dCons (dBin oIx (dBin oIx (eVar 6) (dBin oIx (eVar 7) (eC (.int 0)))) (dBin oIx (eVar 7) (eC (.int 1)))) (dCons (dBin oIx (eVar 0) (eC (.int 0))) (dCons (eVar 1) (dCons (eVar 4) dNil))))))) (dRet (eC (.bool false))) dSkip)
    (dSeq (dPut 4 (dBin oIx (eVar 7) (eC (.int 0))) (eC (.bool true)))
    (dSet 5 slF (dBin oIx (eVar 7) (eC (.int 0))))))))
def L_is_lead_1 : SM :=
    (dFor (dItS (eVar 3)) (.nm 7) B_is_lead_1)
def D_is_lead : SM :=
    (dSeq (dIfS (dNot (dTst (dUn (oIsi PyData.isList) (eVar 3)))) (dRet (eC (.bool false))) dSkip)
    (dSeq (dPar 4 5 slO slF (dCons eNewK (dCons (eC .none) dNil)))
    (dSeq (dSet 6 slF (dCall (op1 oDictF) (dCons (dBin oIx (eVar 0) (eC (.int 1))) dNil)))
    (dSeq L_is_lead_1
    (dRet (dBin (oEq false) (eVar 5) (eVar 2)))))))
def F_is_lead : List D → M R := fnP 8 D_is_lead
abbrev n_within : List Str := [("book" : Str), ("lot" : Str), ("known" : Str), ("rows" : Str), ("fact" : Str), ("ways" : Str), ("way" : Str), ("name" : Str)]
abbrev p_within : List Str := [("book" : Str), ("lot" : Str)]
def C_within_1 : En → M R :=
    (dLc (dItE (eVar 6)) (.nm 7) [7] dYes (dBin (oIn false) (eVar 7) (eVar 2)))
def C_within_2 : En → M R :=
    (dLc (dItE (eVar 5)) (.nm 6) [6] (dTst (dCall (op1 oAll) (dCons C_within_1 dNil))) (eVar 6))
def B_within_1 : SM :=
    (dIfS (dTst (dBin (oIn false) (eVar 4) (eVar 1))) (dApp 3 (dCall oTup (dCons (eVar 4) (dCons (dCall (op1 oTuple) (dCons C_within_2 dNil)) dNil)))) dSkip)
def L_within_1 : SM :=
    (dFor (dItS (dBin oIx (eVar 0) (eC (.int 1)))) (.tp [(.nm 4), (.nm 5)]) B_within_1)
def D_within : SM :=
    (dSeq (dSet 2 slF (dBin oAdd (dBin oIx (eVar 0) (eC (.int 0))) (eVar 1)))
    (dSeq (dSet 3 slO (dCall oLst dNil))
    (dSeq L_within_1
    (dRet (dCall oTup (dCons (dBin oIx (eVar 0) (eC (.int 0))) (dCons (dCall (op1 oTuple) (dCons (eVar 3) dNil)) dNil)))))))
def F_within : List D → M R := fnP 8 D_within
abbrev n_lots_with : List Str := [("others" : Str), ("fact" : Str), ("some" : Str), ("lot" : Str), ("size" : Str)]
abbrev p_lots_with : List Str := [("others" : Str), ("fact" : Str)]
def C_lots_with_1 : En → M R :=
    (dLc (dItE (dCall (opC 1 F_lots) (dCons (eVar 0) dNil))) (.nm 3) [3] dYes (dCall (op1 oTuple) (dCons (dCall (op1 oSorted) (dCons (dBin oAdd (eVar 3) (dCall oTup (dCons (eVar 1) dNil))) dNil)) dNil)))
def C_lots_with_2 : En → M R :=
    (dLc (dItE (eVar 2)) (.nm 3) [3] dYes (dCall oTup (dCons (dCall (op1 oLen) (dCons (eVar 3) dNil)) (dCons (eVar 3) dNil))))
def C_lots_with_3 : En → M R :=
    (dLc (dItE (dCall (op1 oSorted) (dCons C_lots_with_2 dNil))) (.tp [(.nm 4), (.nm 3)]) [4, 3] dYes (eVar 3))
def D_lots_with : SM :=
    (dSeq (dSet 2 slF C_lots_with_1)
    (dRet C_lots_with_3))
def F_lots_with : List D → M R := fnP 5 D_lots_with
abbrev n_in_order : List Str := [("came" : Str), ("name" : Str), ("number" : Str)]
abbrev p_in_order : List Str := [("came" : Str)]
def C_in_order_1 : En → M R :=
    (dLc (dItI (eVar 0)) (.tp [(.nm 1), (.nm 2)]) [1, 2] dYes (dCall oTup (dCons (eVar 2) (dCons (eVar 1) dNil))))
def D_in_order : SM :=
    (dRet (dCall (op1 oSorted) (dCons C_in_order_1 dNil)))
def F_in_order : List D → M R := fnP 3 D_in_order
abbrev n_place_of : List Str := [("book" : Str), ("struck" : Str), ("came" : Str), ("fact" : Str), ("ahead" : Str), ("name" : Str), ("number" : Str), ("ways" : Str), ("at" : Str), ("way" : Str)]
abbrev p_place_of : List Str := [("book" : Str), ("struck" : Str), ("came" : Str), ("fact" : Str)]
def C_place_of_1 : En → M R :=
    (dDc (dItI (eVar 2)) (.tp [(.nm 5), (.nm 6)]) [5, 6] (dTst (dBin (oCmp fLt) (eVar 6) (dBin oIx (eVar 2) (eVar 3)))) (eVar 5) (eC (.bool true)))
def C_place_of_2 : En → M R :=
    (dLc (dItC itEnumT (dCons (eVar 7) dNil)) (.tp [(.nm 8), (.nm 9)]) [8, 9] (dTst (dCall (opC 4 F_is_open) (dCons (eVar 9) (dCons (dBin oIx (eVar 0) (eC (.int 0))) (dCons (eVar 1) (dCons (eVar 4) dNil)))))) (eVar 8))
def D_place_of : SM :=
    (dSeq (dSet 4 slF C_place_of_1)
    (dSeq (dSet 7 slF (dCall (opC 2 F_ways_of) (dCons (eVar 0) (dCons (eVar 3) dNil))))
    (dRet (dBin oIx C_place_of_2 (eC (.int 0))))))
def F_place_of : List D → M R := fnP 10 D_place_of
abbrev n_lead : List Str := [("book" : Str), ("struck" : Str), ("fact" : Str), ("came" : Str), ("others" : Str), ("name" : Str), ("lot" : Str), ("here" : Str), ("number" : Str)]
abbrev p_lead : List Str := [("book" : Str), ("struck" : Str), ("fact" : Str)]
def C_lead_1 : En → M R :=
    (dLc (dItE (dCall (op1 oSorted) (dCons (eVar 3) dNil))) (.nm 5) [5] (dTst (dBin (oEq true) (eVar 5) (eVar 2))) (eVar 5))
def C_lead_2 : En → M R :=
    (dLc (dItE (dCall (opC 1 F_in_order) (dCons (eVar 7) dNil))) (.tp [(.nm 8), (.nm 5)]) [8, 5] dYes (dCall oTup (dCons (eVar 5) (dCons (dCall (opC 4 F_place_of) (dCons (eVar 0) (dCons (eVar 1) (dCons (eVar 7) (dCons (eVar 5) dNil))))) dNil))))
def B_lead_1 : SM :=
    (dSeq (dSet 7 slF (dUn oLock (dCall (opC 2 F_rounds) (dCons (dCall (opC 2 F_within) (dCons (eVar 0) (dCons (eVar 6) dNil))) (dCons (eVar 1) dNil)))))
    (dIfS (dTst (dBin (oIn false) (eVar 2) (eVar 7))) (dRet C_lead_2) dSkip))
def L_lead_1 : SM :=
    (dFor (dItS (dCall (opC 2 F_lots_with) (dCons (eVar 4) (dCons (eVar 2) dNil)))) (.nm 6) B_lead_1)
def D_lead : SM :=
    (dSeq (dDrop (dCall (opC 2 F_ways_of) (dCons (eVar 0) (dCons (eVar 2) dNil))))
    (dSeq (dSet 3 slF (dUn oLock (dCall (opC 2 F_rounds) (dCons (eVar 0) (dCons (eVar 1) dNil)))))
    (dSeq (dIfS (dTst (dBin (oIn true) (eVar 2) (eVar 3))) (dRet (eC .none)) dSkip)
    (dSeq (dSet 4 slF C_lead_1)
    (dSeq L_lead_1
    (dRet (eC .none)))))))
def F_lead : List D → M R := fnP 9 D_lead
end N

namespace KD
open PySem PySem.Spec L2 N
/-! ### the program's rounds -/
def opens (src struck came : List Str) (w : List Str) : Bool := w.all fun n => if n ∈ src then decide (n ∉ struck) else decide (n ∈ came)
theorem is_open_ok {w src struck : List Str} {found : List (Str × Int)} {st : Sto} (hw : w.length ≤ 1000) :
    F_is_open [eStrs w, eStrs src, eStrs struck, dictD found] st = .ok (.d (.bool (opens src struck (found.map (·.1)) w))) st := by
  have e : C_is_open_1 [some (.d (eStrs w)), some (.d (eStrs src)), some (.d (eStrs struck)), some (.d (dictD found)), none] st = .ok (.l true ((w.map fun n => if n ∈ src then decide (n ∉ struck) else decide (n ∈ found.map (·.1))).map .bool)) st := by
    rw [List.map_map]
    refine dLc_map (enc := PyData.str) _ (by simp) (by omega) fun n _ => ?_
    refine lcStep_ok (r := .d (.bool (if n ∈ src then decide (n ∉ struck) else decide (n ∈ found.map (·.1))))) (s1 := st) (e1 := [some (.d (eStrs w)), some (.d (eStrs src)), some (.d (eStrs struck)), some (.d (dictD found)), some (.d (.str n))]) rfl rfl ?_ rfl
    by_cases h : n ∈ src
    · simp [h]
    · have := x_ind (st := st) false n (kv found)
      rw [valD_kv] at this
      simp [h, dictD, this]
  simp [-List.map_map, F_is_open, fnP, D_is_open, env0, e, opens]
theorem any_open_ok {ws : List (List Str)} {src struck : List Str} {found : List (Str × Int)} {st : Sto} (hw : ws.length ≤ 1000) (hw2 : ∀ w ∈ ws, w.length ≤ 1000) :
    F_any_open [.tuple (ws.map eStrs), eStrs src, eStrs struck, dictD found] st = .ok (.d (.bool (ws.any (opens src struck (found.map (·.1)))))) st := by
  have e : C_any_open_1 [some (.d (.tuple (ws.map eStrs))), some (.d (eStrs src)), some (.d (eStrs struck)), some (.d (dictD found)), none] st = .ok (.l true ((ws.map (opens src struck (found.map (·.1)))).map .bool)) st := by
    rw [List.map_map]
    refine dLc_map (enc := eStrs) _ (by simp) (by omega) fun w hw => ?_
    refine lcStep_ok (r := .d (.bool (opens src struck (found.map (·.1)) w))) (s1 := st) (e1 := [some (.d (.tuple (ws.map eStrs))), some (.d (eStrs src)), some (.d (eStrs struck)), some (.d (dictD found)), some (.d (eStrs w))]) rfl rfl ?_ rfl
    have := is_open_ok (src := src) (struck := struck) (found := found) (st := [.c]) (hw2 w hw)
    simp [this]
  simp [-List.map_map, F_any_open, fnP, D_any_open, env0, e]
abbrev Fact := Str × List (List Str)
/-- what opens in a round -/
def fresh (src struck : List Str) (fs : List Fact) (came : List Str) : List Str := (fs.filter fun f => !decide (f.1 ∈ came) && f.2.any (opens src struck came)).map (·.1)
structure Small (fs : List Fact) : Prop where
  nd : (fs.map (·.1)).Nodup
  few : fs.length ≤ 900
  ways : ∀ f ∈ fs, f.2.length ≤ 1000
  way : ∀ f ∈ fs, ∀ w ∈ f.2, w.length ≤ 1000
def renv (bk src fs struck : D) (found : List (Str × Int)) (n : Int) (j6 j7 j8 : Option R) : En := [some (.d bk), some (.d struck), some (.d src), some (.d fs), some (.k true (kv found)), some (.d (.int n)), j6, j7, j8]
theorem fresh_ok {fs : List Fact} {src struck : List Str} {found : List (Str × Int)} {n : Int} {bk : D} {j6 j7 j8 : Option R} {st : Sto} (S : Small fs) :
    C_rounds_1 (renv bk (eStrs src) (.tuple (fs.map eFact)) (eStrs struck) found n j6 j7 j8) st = .ok (.l true ((fresh src struck fs (found.map (·.1))).map .str)) st := by
  unfold fresh
  rw [List.map_map]
  refine dLc_filter (enc := eFact) _ _ (by simp [renv]) (Nat.le_trans S.few (by decide)) fun f hf => ?_
  refine lcStep_if (r := .d (.str f.1)) (e1 := [some (.d bk), some (.d (eStrs struck)), some (.d (eStrs src)), some (.d (.tuple (fs.map eFact))), some (.k true (kv found)), some (.d (.int n)), j6, some (.d (.str f.1)), some (.d (.tuple (f.2.map eStrs)))]) (by simp [renv, eFact]) ?_ (fun _ => rfl) rfl
  have h1 := any_open_ok (src := src) (struck := struck) (found := found) (st := [.c]) (S.ways f hf) (S.way f hf)
  have h2 := valD_kv f.1 found
  by_cases h : f.1 ∈ found.map (·.1)
  · have h3 : (valD (kv found) (.inr f.1)).isSome = true := by rw [h2]; simpa using h
    rw [show (!decide (f.1 ∈ found.map (·.1)) && f.2.any (opens src struck (found.map (·.1)))) = false from by rw [decide_eq_true h]; rfl]
    simp [h3]
  · have h3 : (valD (kv found) (.inr f.1)).isSome = false := by rw [h2]; simpa using h
    rw [show (!decide (f.1 ∈ found.map (·.1)) && f.2.any (opens src struck (found.map (·.1)))) = f.2.any (opens src struck (found.map (·.1))) from by rw [decide_eq_false h]; rfl]
    generalize f.2.any (opens src struck (found.map (·.1))) = t at h1 ⊢
    unfold dictD at h1
    simp [h3, h1]
/-- the rounds to the end -/
def rnds (src struck : List Str) (fs : List Fact) : Nat → List (Str × Int) → Int → List (Str × Int)
  | 0, found, _ => found
  | k + 1, found, n => let fr := fresh src struck fs (found.map (·.1))
    if fr = [] then found else rnds src struck fs k (found ++ fr.map fun x => (x, n)) (n + 1)
theorem fresh_nd {fs : List Fact} (S : Small fs) (src struck came : List Str) : (fresh src struck fs came).Nodup := by
  unfold fresh
  exact List.Sublist.nodup (List.Sublist.map _ List.filter_sublist) S.nd
theorem fresh_new {fs : List Fact} {src struck came : List Str} {x : Str} (h : x ∈ fresh src struck fs came) : x ∉ came ∧ x ∈ fs.map (·.1) := by
  unfold fresh at h
  obtain ⟨f, hf, rfl⟩ := List.mem_map.mp h
  obtain ⟨h1, h2⟩ := List.mem_filter.mp hf
  simp only [Bool.and_eq_true, Bool.not_eq_true', decide_eq_false_iff_not] at h2
  exact ⟨h2.1, List.mem_map_of_mem h1⟩
structure Inn (fs : List Fact) (came : List Str) : Prop where
  nd : came.Nodup
  sub : ∀ x ∈ came, x ∈ fs.map (·.1)
theorem Inn.len {fs : List Fact} {came : List Str} (h : Inn fs came) : came.length ≤ fs.length := by
  have := h.nd.length_le_of_subset fun x hx => h.sub x hx
  simpa using this
theorem Inn.more {fs : List Fact} {came : List Str} (h : Inn fs came) (S : Small fs) (src struck : List Str) : Inn fs (came ++ fresh src struck fs came) where
  nd := List.nodup_append.mpr ⟨h.nd, fresh_nd S _ _ _, fun x hx y hy e => (fresh_new hy).1 (e ▸ hx)⟩
  sub := fun x hx => by
    rcases List.mem_append.mp hx with h' | h'
    · exact h.sub x h'
    · exact (fresh_new h').2
theorem Inn.nil (fs : List Fact) : Inn fs [] := ⟨List.nodup_nil, fun x h => by simp at h⟩
theorem names_snd (fr : List Str) (n : Int) : (fr.map fun x => (x, n)).map (·.1) = fr := by simp [Function.comp_def]
theorem kv_nd {xs : List (Str × Int)} (h : (xs.map (·.1)).Nodup) : ((kv xs).map (·.1)).Nodup := by
  unfold kv
  rw [List.map_map]
  have := List.Pairwise.map (S := fun a b : Key => a ≠ b) (fun x : Str => (Sum.inr x : Key)) (fun a b hne e => hne (Sum.inr.inj e)) h
  rw [List.map_map] at this
  exact this
theorem round_body {fs : List Fact} {src struck : List Str} {found : List (Str × Int)} {n : Int} {bk : D} {j6 j7 j8 : Option R} {st : Sto} (S : Small fs) (I : Inn fs (found.map (·.1))) :
    ∃ j7' j8', B_rounds_1 (renv bk (eStrs src) (.tuple (fs.map eFact)) (eStrs struck) found n j6 j7 j8) st =
      .ok (.nx, renv bk (eStrs src) (.tuple (fs.map eFact)) (eStrs struck) (found ++ (fresh src struck fs (found.map (·.1))).map fun x => (x, n)) (n + 1) (some (.d (.list ((fresh src struck fs (found.map (·.1))).map .str)))) j7' j8') st := by
  refine ⟨j7, j8, ?_⟩
  have e1 := fresh_ok (src := src) (struck := struck) (found := found) (n := n) (bk := bk) (j6 := j6) (j7 := j7) (j8 := j8) (st := st) S
  have I2 := I.more S src struck
  have nd := fresh_nd S src struck (found.map (·.1))
  have nw := fun x => fresh_new (fs := fs) (src := src) (struck := struck) (came := found.map (·.1)) (x := x)
  have hl := I2.len
  generalize fresh src struck fs (found.map (·.1)) = fr at e1 I2 nd nw hl ⊢
  have hfew := S.few
  have hlen : found.length + fr.length ≤ 900 := by simp at hl; omega
  have e2 : C_rounds_2 [some (.d bk), some (.d (eStrs struck)), some (.d (eStrs src)), some (.d (.tuple (fs.map eFact))), some (.k true (kv found)), some (.d (.int n)), some (.d (.list (fr.map .str))), j7, j8] st = .ok (.k true (mergeD [] (kv (fr.map fun x => (x, n))))) st := by
    unfold C_rounds_2
    rw [dDc_pure (enc := PyData.str) (xs := fr) (st1 := st) (fun x => some ((Sum.inr x : Key), PyData.int n)) (by simp) (Nat.le_trans (by omega) sizeLine_big) fun x _ => ?_]
    · simp [List.filterMap_eq_map', kv, Function.comp_def]
    · rfl
  have nk : ((kv (fr.map fun x => (x, n))).map (·.1)).Nodup := kv_nd (by rw [names_snd]; exact nd)
  rw [mergeD_new _ _ nk (by simp)] at e2
  have e3 : addK? ([] ++ kv (fr.map fun x => (x, n))) (kv found) = some (kv (found ++ fr.map fun x => (x, n))) := by
    unfold addK?
    rw [if_pos (by simp [kv]; exact Nat.le_trans hlen (Nat.le_trans (by decide) sizeLine_big)), mergeD_new]
    · simp [kv]
    · exact nk
    · intro k hk
      simp [kv] at hk ⊢
      obtain ⟨x, hx, rfl⟩ := hk
      intro y m hm e
      cases e
      exact (nw x hx).1 (List.mem_map.mpr ⟨_, hm, rfl⟩)
  have e4 : dUpd 4 C_rounds_2 [some (.d bk), some (.d (eStrs struck)), some (.d (eStrs src)), some (.d (.tuple (fs.map eFact))), some (.k true (kv found)), some (.d (.int n)), some (.d (.list (fr.map .str))), j7, j8] st =
      .ok (.nx, [some (.d bk), some (.d (eStrs struck)), some (.d (eStrs src)), some (.d (.tuple (fs.map eFact))), some (.k true (kv (found ++ fr.map fun x => (x, n)))), some (.d (.int n)), some (.d (.list (fr.map .str))), j7, j8]) st := by
    unfold dUpd
    have c : chkK 4 [some (.d bk), some (.d (eStrs struck)), some (.d (eStrs src)), some (.d (.tuple (fs.map eFact))), some (.k true (kv found)), some (.d (.int n)), some (.d (.list (fr.map .str))), j7, j8] st = .ok () st := rfl
    rw [M.bind_ok c]
    show (C_rounds_2 _ >>= _) st = _
    rw [M.bind_ok e2]
    show mutK 4 (addK? _) _ st = _
    unfold mutK
    simp [e3]
    simp at e3
    simp [e3]
  unfold renv at e1 ⊢
  have e5 := x_aug (i := 5) (fn := fun i j => i + j) (f := eC (.int 1)) (m := 1) (s := st) (st := st) (env := [some (.d bk), some (.d (eStrs struck)), some (.d (eStrs src)), some (.d (.tuple (fs.map eFact))), some (.k true (kv (found ++ fr.map fun x => (x, n)))), some (.d (.int n)), some (.d (.list (fr.map .str))), j7, j8]) (n := n) rfl rfl
  simp [-List.map_map, B_rounds_1, e1, e4, e5]

theorem test_ne {l : List D} {env : En} {st : Sto} {b : Bool} (e : env[6]? = some (some (.d (.list l)))) (ok : okD (.list l) = true) (hb : b = !l.isEmpty) : dTst (dBin (oEq true) (eVar 6) (dCall oLst dNil)) env st = .ok b st := by
  have h : oEq true (.d (.list l)) (.l true []) st = .ok (.d (.bool b)) st := by
    rw [oEq_pk (x := .list l) (y := .list []) rfl rfl ok rfl, hb]
    cases l <;> simp [PyData.eqv, PyData.eqvAll]
  simp [e, h]
theorem okD_strs (xs : List Str) : okD (.list (xs.map .str)) = true := (dp_list (dp_strs xs)).ok
theorem while_ok {fs : List Fact} {src struck : List Str} {bk : D} {st : Sto} (S : Small fs) : ∀ (m k : Nat) (found : List (Str × Int)) (n : Int) (l : List D) (j7 j8 : Option R), Inn fs (found.map (·.1)) → fs.length - found.length + 2 ≤ m → fs.length - found.length + 1 ≤ k → l ≠ [] → okD (.list l) = true →
    ∃ n' j6' j7' j8', whileGo (dTst (dBin (oEq true) (eVar 6) (dCall oLst dNil))) B_rounds_1 m (renv bk (eStrs src) (.tuple (fs.map eFact)) (eStrs struck) found n (some (.d (.list l))) j7 j8) st =
      .ok (.nx, renv bk (eStrs src) (.tuple (fs.map eFact)) (eStrs struck) (rnds src struck fs k found n) n' j6' j7' j8') st
  | 0, _, _, _, _, _, _, _, hm, _, _, _ => absurd hm (by omega)
  | m + 1, 0, _, _, _, _, _, _, _, hk, _, _ => absurd hk (by omega)
  | m + 1, k + 1, found, n, l, j7, j8, I, hm, hk, hl, hok => by
    obtain ⟨j7', j8', hB⟩ := round_body (bk := bk) (src := src) (struck := struck) (found := found) (n := n) (j6 := some (.d (.list l))) (j7 := j7) (j8 := j8) (st := st) S I
    rw [whileGo_go (st1 := st) (test_ne (b := true) rfl hok (by cases l with | nil => exact absurd rfl hl | cons _ _ => rfl)) hB]
    unfold rnds
    have nw := fun x => fresh_new (fs := fs) (src := src) (struck := struck) (came := found.map (·.1)) (x := x)
    have I2 := I.more S src struck
    have hlen := I2.len
    generalize fresh src struck fs (found.map (·.1)) = fr at nw I2 hlen ⊢
    cases fr with
    | nil =>
      refine ⟨n + 1, some (.d (.list [])), j7', j8', ?_⟩
      cases m with
      | zero => exact absurd hm (by omega)
      | succ m =>
        rw [whileGo_stop (st1 := st) (test_ne (b := false) rfl rfl rfl)]
        simp [renv]
    | cons x fr =>
      have hlen' : found.length + (fr.length + 1) ≤ fs.length := by simpa using hlen
      have := while_ok (src := src) (struck := struck) (bk := bk) (st := st) S m k (found ++ (x :: fr).map fun x => (x, n)) (n + 1) ((x :: fr).map .str) j7' j8' (by rw [List.map_append, names_snd]; exact I2) (by simp; omega) (by simp; omega) (by simp) (okD_strs _)
      simpa using this
theorem rounds_ok {B : Book} {struck : List Str} {st : Sto} (S : Small B.facts) {k : Nat} (hk : B.facts.length + 1 ≤ k) : F_rounds [eBook B, eStrs struck] st = .ok (.k true (kv (rnds B.src struck B.facts k [] 1))) st := by
  have hfew := S.few
  obtain ⟨n', j6', j7', j8', e⟩ := while_ok (src := B.src) (struck := struck) (bk := eBook B) (st := st) S 1000 k [] 1 [.bool true] none none (Inn.nil _) (by simp; omega) (by simp; omega) (by simp) rfl
  have e' : L_rounds_1 (renv (eBook B) (eStrs B.src) (.tuple (B.facts.map eFact)) (eStrs struck) [] 1 (some (.d (.list [.bool true]))) none none) st = .ok (.nx, renv (eBook B) (eStrs B.src) (.tuple (B.facts.map eFact)) (eStrs struck) (rnds B.src struck B.facts k [] 1) n' j6' j7' j8') st := by
    unfold L_rounds_1
    exact e
  generalize rnds B.src struck B.facts k [] 1 = rs at e' ⊢
  unfold renv at e'
  have hk : kv [] = [] := rfl
  rw [hk] at e'
  have z1 : 1 ≤ sizeLine := by decide
  unfold F_rounds fnP D_rounds
  have hB : eBook B = .tuple [eStrs B.src, .tuple (B.facts.map eFact)] := rfl
  simp only [hB] at e' ⊢
  simp [-List.map_map, env0, R.own, R.fr, z1, e']
end KD

namespace KD
open PySem PySem.Spec L2 N
def pairs (xs : List (Str × Int)) : List D := xs.map fun p => .tuple [.str p.1, .int p.2]
theorem pairs_dp (xs : List (Str × Int)) : ∀ y ∈ pairs xs, Dp 1 y := fun y hy => by
  obtain ⟨p, _, rfl⟩ := List.mem_map.mp hy
  refine dp_tuple fun z hz => ?_
  simp at hz
  rcases hz with rfl | rfl
  · exact dp_str _
  · exact dp_int _
theorem srtOk_pairs {xs : List (Str × Int)} (h : xs.length ≤ 1000000) : srtOk (pairs xs) = true := by
  have h2 : xs.length ≤ sizeLine := Nat.le_trans h sizeLine_big
  simp only [srtOk, srtKinds, Bool.and_eq_true, Bool.or_eq_true, List.all_eq_true, decide_eq_true_eq]
  refine ⟨⟨⟨fun a ha b hb => ?_, .inl fun a ha => ?_⟩, fun a ha => (pairs_dp xs a ha).ok⟩, by unfold pairs; rw [List.length_map]; exact h2⟩
  · obtain ⟨x, _, rfl⟩ := List.mem_map.mp ha
    obtain ⟨y, _, rfl⟩ := List.mem_map.mp hb
    simp [PySem.W.alike, PySem.W.alikeAll]
  · obtain ⟨x, _, rfl⟩ := List.mem_map.mp ha
    rfl
theorem rnds_inn {fs : List Fact} (S : Small fs) (src struck : List Str) : ∀ (k : Nat) (found : List (Str × Int)) (n : Int), Inn fs (found.map (·.1)) → Inn fs ((rnds src struck fs k found n).map (·.1))
  | 0, found, n, h => h
  | k + 1, found, n, h => by
    unfold rnds
    by_cases e : fresh src struck fs (found.map (·.1)) = []
    · simp only [e, if_true]; exact h
    · simp only [e, if_false]
      refine rnds_inn S src struck k _ _ ?_
      rw [List.map_append, names_snd]
      exact h.more S src struck
theorem rnds_len {fs : List Fact} (S : Small fs) (src struck : List Str) (k : Nat) : (rnds src struck fs k [] 1).length ≤ 900 := by
  have := (rnds_inn S src struck k [] 1 (Inn.nil fs)).len
  have h := S.few
  simp at this
  omega
theorem kv_pairs (xs : List (Str × Int)) : ((kv xs).map fun p => PyData.tuple [kD p.1, p.2]) = pairs xs := by
  unfold kv pairs
  rw [List.map_map]
  rfl
theorem standing_ok {B : Book} {struck : List Str} {st : Sto} (S : Small B.facts) {k : Nat} (hk : B.facts.length + 1 ≤ k) : F_standing [eBook B, eStrs struck] st = .ok (.l true (srt (pairs (rnds B.src struck B.facts k [] 1)))) st := by
  have e := rounds_ok (struck := struck) (st := [.c]) S hk
  have hl := rnds_len S B.src struck k
  generalize rnds B.src struck B.facts k [] 1 = rs at e hl ⊢
  have h2 : oSortedItems (.k true (kv rs)) st = .ok (.l true (srt (pairs rs))) st := by
    unfold oSortedItems
    have : (R.k true (kv rs)).dct? st = some (kv rs) := rfl
    simp only [this, kv_pairs, srtOk_pairs (xs := rs) (by omega), if_true]
  simp [F_standing, fnP, D_standing, env0, e, h2]
/-- the names, in order -/
theorem sorted_strs (xs : List Str) : ∃ ws : List Str, srt (xs.map .str) = ws.map .str ∧ ∀ w, w ∈ ws ↔ w ∈ xs := by
  have pm := srt_perm (xs.map PyData.str)
  obtain ⟨ws, e, hw⟩ := strs_of (names := xs) (l := srt (xs.map .str)) fun d hd => by
    obtain ⟨x, hx, rfl⟩ := List.mem_map.mp (pm.mem_iff.mp hd)
    exact ⟨x, hx, rfl⟩
  refine ⟨ws, e, fun w => ⟨hw w, fun h => ?_⟩⟩
  have := pm.mem_iff.mpr (List.mem_map_of_mem h)
  rw [e] at this
  obtain ⟨v, hv, ev⟩ := List.mem_map.mp this
  cases ev; exact hv
end KD

namespace KD
open PySem PySem.Spec L2 N
theorem opens_none {src w : List Str} (h : w ≠ []) : opens src src [] w = false := by
  cases w with
  | nil => exact absurd rfl h
  | cons x w =>
    unfold opens
    rw [List.all_cons]
    by_cases k : x ∈ src <;> simp [k]
theorem rnds_none {fs : List Fact} {src : List Str} (h : ∀ f ∈ fs, ∀ w ∈ f.2, w ≠ []) (k : Nat) : rnds src src fs (k + 1) [] 1 = [] := by
  have e : fresh src src fs [] = [] := by
    unfold fresh
    rw [List.map_eq_nil_iff, List.filter_eq_nil_iff]
    intro f hf hc
    simp only [Bool.and_eq_true, List.any_eq_true] at hc
    obtain ⟨_, w, hw, ho⟩ := hc
    rw [opens_none (h f hf w hw)] at ho
    cases ho
  unfold rnds
  simp only [List.map_nil, e, if_true]
theorem small_of {most : Nat} {B : Book} (W : WfB most B) : Small B.facts := by
  obtain ⟨j, hj, hf⟩ := W.fac
  have hl : B.facts.length ≤ 7 := by
    have := congrArg List.length hf
    rw [List.length_map, List.length_take] at this
    have h7 : facs.length = 7 := rfl
    omega
  refine ⟨?_, by omega, fun f h => Nat.le_trans (W.few f h) (by decide), fun f h w hw => Nat.le_trans (W.way f h w hw).few (by decide)⟩
  rw [hf]
  exact (List.take_sublist _ _).nodup (by decide)
end KD

/-! LD4: what stands, the more struck the less. -/
namespace KD
open PySem PySem.Spec L2 N
def stand (src struck : List Str) (fs : List Fact) : List Str := (rnds src struck fs (fs.length + 1) [] 1).map (·.1)
theorem rnds_shut {fs : List Fact} (S : Small fs) (src struck : List Str) : ∀ (k : Nat) (found : List (Str × Int)) (n : Int), Inn fs (found.map (·.1)) → fs.length - found.length + 1 ≤ k → fresh src struck fs ((rnds src struck fs k found n).map (·.1)) = []
  | 0, _, _, _, hk => absurd hk (by omega)
  | k + 1, found, n, I, hk => by
    unfold rnds
    by_cases e : fresh src struck fs (found.map (·.1)) = []
    · simp only [e, if_true]
    · simp only [e, if_false]
      have I2 := I.more S src struck
      have hlen := I2.len
      have hp := List.length_pos_iff.mpr e
      refine rnds_shut S src struck k _ _ (by rw [List.map_append, names_snd]; exact I2) ?_
      rw [List.length_append, List.length_map] at hlen ⊢
      omega
theorem stand_shut {fs : List Fact} (S : Small fs) (src struck : List Str) : fresh src struck fs (stand src struck fs) = [] := rnds_shut S src struck _ _ _ (Inn.nil fs) (by simp)
theorem opens_mono {src s s' c c' w : List Str} (hs : ∀ x ∈ s, x ∈ s') (hc : ∀ x ∈ c', x ∈ c) (h : opens src s' c' w = true) : opens src s c w = true := by
  unfold opens at h ⊢
  rw [List.all_eq_true] at h ⊢
  intro x hx
  have := h x hx
  by_cases k : x ∈ src
  · simp only [k, if_true, decide_eq_true_eq] at this ⊢
    exact fun q => this (hs x q)
  · simp only [k, if_false, decide_eq_true_eq] at this ⊢
    exact hc x this
theorem fresh_in {fs : List Fact} {src s s' R c : List Str} (hR : fresh src s fs R = []) (hs : ∀ x ∈ s, x ∈ s') (hc : ∀ x ∈ c, x ∈ R) : ∀ x ∈ fresh src s' fs c, x ∈ R := fun x hx => by
  unfold fresh at hx hR
  obtain ⟨f, hf, rfl⟩ := List.mem_map.mp hx
  obtain ⟨h1, h2⟩ := List.mem_filter.mp hf
  simp only [Bool.and_eq_true, List.any_eq_true] at h2
  obtain ⟨_, w, hw, ho⟩ := h2
  rcases Classical.em (f.1 ∈ R) with k | k
  · exact k
  · rw [List.map_eq_nil_iff, List.filter_eq_nil_iff] at hR
    refine absurd ?_ (hR f h1)
    simp only [Bool.and_eq_true, List.any_eq_true, Bool.not_eq_true', decide_eq_false_iff_not]
    exact ⟨k, w, hw, opens_mono hs hc ho⟩
theorem rnds_sub {fs : List Fact} {src s s' R : List Str} (hR : fresh src s fs R = []) (hs : ∀ x ∈ s, x ∈ s') : ∀ (k : Nat) (found : List (Str × Int)) (n : Int), (∀ x ∈ found.map (·.1), x ∈ R) → ∀ x ∈ (rnds src s' fs k found n).map (·.1), x ∈ R
  | 0, _, _, h => h
  | k + 1, found, n, h => by
    unfold rnds
    by_cases e : fresh src s' fs (found.map (·.1)) = []
    · simp only [e, if_true]; exact h
    · simp only [e, if_false]
      refine rnds_sub hR hs k _ _ fun x hx => ?_
      rw [List.map_append, names_snd] at hx
      rcases List.mem_append.mp hx with q | q
      · exact h x q
      · exact fresh_in hR hs h x q
theorem stand_mono {fs : List Fact} {src s s' : List Str} (S : Small fs) (hs : ∀ x ∈ s, x ∈ s') : ∀ x ∈ stand src s' fs, x ∈ stand src s fs := rnds_sub (stand_shut S src s) hs _ _ _ fun x hx => by simp at hx
theorem stand_none {fs : List Fact} {src : List Str} (h : ∀ f ∈ fs, ∀ w ∈ f.2, w ≠ []) : stand src src fs = [] := by
  unfold stand
  rw [rnds_none h]
  rfl
theorem stand_names {fs : List Fact} (S : Small fs) (src s : List Str) : ∀ x ∈ stand src s fs, x ∈ fs.map (·.1) := (rnds_inn S src s (fs.length + 1) [] 1 (Inn.nil fs)).sub
theorem in_kv {neg : Bool} {x : Str} {rs : List (Str × Int)} {b : Bool} {st : Sto} : oIn neg (.d (.str x)) (.k b (kv rs)) st = .ok (.d (.bool (neg ^^ decide (x ∈ rs.map (·.1))))) st := by
  have h := valD_kv x rs
  show Res.ok (R.d (.bool (neg ^^ (valD (kv rs) (.inr x)).isSome))) st = _
  rw [h]
theorem in_rounds {B : Book} {sk : List Str} {x : Str} {neg : Bool} {f g : En → M R} {env : En} {st : Sto} (S : Small B.facts) (h : f env st = .ok (.d (.str x)) st) (h2 : g env st = .ok (.d (eStrs sk)) st) (hb : env[0]? = some (some (.d (eBook B)))) :
    dBin (oIn neg) f (dCall (opC 2 F_rounds) (dCons (eVar 0) (dCons g dNil))) env st = .ok (.d (.bool (neg ^^ decide (x ∈ stand B.src sk B.facts)))) st := by
  refine bin_ok (a := .d (.str x)) (b := .k true (kv (rnds B.src sk B.facts (B.facts.length + 1) [] 1))) (s1 := st) (s2 := st) h ?_ in_kv
  rw [dCall_ok (cons_ok (r := .d (eBook B)) (var_ok hb) (cons_ok (r := .d (eStrs sk)) h2 rfl))]
  exact opC_ok rfl rfl (rounds_ok S (Nat.le_refl _))
end KD

/-! LD5: all lots of names. -/
namespace KD
open PySem PySem.Spec L2 N
def subsS (xs : List Str) : List (List Str) := xs.foldl (fun g x => g ++ g.map (· ++ [x])) [[]]
theorem subsS_snoc (xs : List Str) (x : Str) : subsS (xs ++ [x]) = subsS xs ++ (subsS xs).map (· ++ [x]) := by
  unfold subsS
  rw [List.foldl_append]
  rfl
theorem rev_indS {P : List Str → Prop} (h0 : P []) (hs : ∀ l x, P l → P (l ++ [x])) (l : List Str) : P l := by
  rw [← List.reverse_reverse l]
  generalize l.reverse = r
  induction r with
  | nil => exact h0
  | cons x r ih => rw [List.reverse_cons]; exact hs _ _ ih
theorem subsS_len (xs : List Str) : (subsS xs).length = 2 ^ xs.length := by
  induction xs using rev_indS with
  | h0 => rfl
  | hs l x ih => rw [subsS_snoc, List.length_append, List.length_map, ih, List.length_append, List.length_singleton, Nat.pow_succ]; omega
theorem subsS_mem {xs s : List Str} (h : s ∈ subsS xs) : s.Sublist xs := by
  induction xs using rev_indS generalizing s with
  | h0 =>
    have : s = [] := by simpa [subsS] using h
    rw [this]
    exact List.Sublist.refl _
  | hs l x ih =>
    rw [subsS_snoc, List.mem_append, List.mem_map] at h
    rcases h with q | ⟨t, q, rfl⟩
    · exact (ih q).trans (List.sublist_append_left _ _)
    · exact (ih q).append (List.Sublist.refl _)
def encL (s : List Str) : D := .tuple [.int (s.length : Nat), eStrs s]
def lotsL (xs : List Str) : List (List Str) := (subsS xs).mergeSort fun a b => dle (encL a) (encL b)
theorem lotsL_perm (xs : List Str) : (lotsL xs).Perm (subsS xs) := List.mergeSort_perm _ _
theorem srt_encL (ls : List (List Str)) : srt (ls.map encL) = (ls.mergeSort fun a b => dle (encL a) (encL b)).map encL := by
  unfold srt
  exact (List.map_mergeSort (r := fun a b => dle (encL a) (encL b)) (s := PySem.W.dataLe false fun x => x) (f := encL) fun a _ b _ => rfl).symm
theorem alike_strs : ∀ a b : List Str, PySem.W.alikeAll (a.map .str) (b.map .str) = true := fun a => by
  induction a with
  | nil => intro b; simp [PySem.W.alikeAll]
  | cons x a ih => intro b; cases b with
      | nil => simp [PySem.W.alikeAll]
      | cons y b => simp [PySem.W.alikeAll, PySem.W.alike, ih]
theorem dp_encL (s : List Str) : Dp 2 (encL s) := dp_tuple fun z hz => by
  simp only [List.mem_cons, List.not_mem_nil, or_false] at hz
  rcases hz with rfl | rfl
  · exact dp_int _
  · exact dp_eStrs s
theorem srtOk_encL {ls : List (List Str)} (h : ls.length ≤ 1000000) : srtOk (ls.map encL) = true := by
  have h2 : ls.length ≤ sizeLine := Nat.le_trans h sizeLine_big
  simp only [srtOk, srtKinds, Bool.and_eq_true, Bool.or_eq_true, List.all_eq_true, decide_eq_true_eq]
  refine ⟨⟨⟨fun a ha b hb => ?_, .inl fun a ha => ?_⟩, fun a ha => ?_⟩, by rw [List.length_map]; exact h2⟩
  · obtain ⟨x, _, rfl⟩ := List.mem_map.mp ha
    obtain ⟨y, _, rfl⟩ := List.mem_map.mp hb
    simp [encL, PySem.W.alike, PySem.W.alikeAll, alike_strs]
  · obtain ⟨x, _, rfl⟩ := List.mem_map.mp ha
    rfl
  · obtain ⟨x, _, rfl⟩ := List.mem_map.mp ha
    exact (dp_encL x).ok
section
variable {st : Sto}
abbrev oenv (nx : D) (gs : List (List Str)) (j2 j3 j4 : Option R) : En := [some (.d nx), some (.d (.list (gs.map eStrs))), j2, j3, j4]
theorem lots_turn {nx : D} {x : Str} {gs : List (List Str)} {j3 j4 : Option R} (hl : gs.length ≤ 5000) (hs : ∀ s ∈ gs, s.length ≤ 100) :
    B_lots_1 (oenv nx gs (some (.d (.str x))) j3 j4) st = .ok (.nx, oenv nx (gs ++ gs.map (· ++ [x])) (some (.d (.str x))) j3 j4) st := by
  have e : C_lots_1 (oenv nx gs (some (.d (.str x))) j3 j4) st = .ok (.l true (gs.map fun s => eStrs (s ++ [x]))) st := by
    refine dLc_map (enc := eStrs) _ rfl (by omega) fun s h => ?_
    refine lcStep_ok (r := .d (eStrs (s ++ [x]))) (s1 := st) (e1 := oenv nx gs (some (.d (.str x))) (some (.d (eStrs s))) j4) rfl rfl (bin_ok (a := .d (eStrs s)) (b := .d (.tuple [.str x])) (s1 := st) (s2 := st) rfl (tupT rfl) ?_) rfl
    have := hs s h
    rw [x_addT, if_pos (by rw [List.length_map, List.length_singleton]; exact Nat.le_trans (show s.length + 1 ≤ 1000000 by omega) sizeLine_big), M.ret_ap]
    unfold eStrs
    rw [List.map_append]
    rfl
  unfold B_lots_1
  refine (setF_l (i := 1) (xs := (gs ++ gs.map (· ++ [x])).map eStrs) (bin_ok (a := .d (.list (gs.map eStrs))) (b := .l true (gs.map fun s => eStrs (s ++ [x]))) (s1 := st) (s2 := st) rfl e ?_)).trans rfl
  rw [x_addLl, if_pos (by rw [List.length_map, List.length_map]; exact Nat.le_trans (show gs.length + gs.length ≤ 1000000 by omega) sizeLine_big), List.map_append, List.map_map]
  rfl
theorem lots_okG {nx : D} {xs : List Str} (h : xs.length ≤ 8) (hn : ∀ s, itemsS (.d nx) s = .ok (xs.map .str) s) : F_lots [nx] st = .ok (.l true ((lotsL xs).map eStrs)) st := by
  obtain ⟨env', st', c1, c2⟩ := forGo_inv (S := B_lots_1) (p := .nm 2) (enc := PyData.str) (fun k env st' => st' = st ∧ ∃ j2, env = oenv nx (subsS (xs.take k)) j2 none none)
    xs 0 (oenv nx (subsS (xs.take 0)) none none none) st ⟨rfl, _, rfl⟩ fun i r env st' ex ⟨es, j2, ee⟩ => by
      subst es ee
      have hl : (subsS (xs.take (0 + i))).length ≤ 5000 := by
        rw [subsS_len]
        exact Nat.le_trans (Nat.pow_le_pow_right (by decide) (show (xs.take (0 + i)).length ≤ 8 by rw [List.length_take]; omega)) (by decide)
      refine ⟨oenv nx (subsS (xs.take (0 + i))) (some (.d (.str r))) none none, _, _, rfl, lots_turn hl fun s hs => ?_, rfl, some (.d (.str r)), ?_⟩
      · have := (subsS_mem hs).length_le
        rw [List.length_take] at this
        omega
      · have : xs.take (0 + i + 1) = xs.take (0 + i) ++ [r] := by rw [List.take_add_one, Nat.zero_add, ex]; rfl
        rw [this, subsS_snoc]
  obtain ⟨rfl, j2, rfl⟩ := c2
  rw [show xs.take (0 + xs.length) = xs from by simp] at c1
  have hl : (subsS xs).length ≤ 5000 := by
    rw [subsS_len]
    exact Nat.le_trans (Nat.pow_le_pow_right (by decide) h) (by decide)
  have hl2 : (lotsL xs).length ≤ 5000 := by rw [(lotsL_perm xs).length_eq]; exact hl
  have hn2 : ∀ s ∈ subsS xs, s.length ≤ 100 := fun s hs => Nat.le_trans (subsS_mem hs).length_le (by omega)
  have e2 : C_lots_2 (oenv nx (subsS xs) j2 none none) st' = .ok (.l true ((subsS xs).map encL)) st' := by
    refine dLc_map (enc := eStrs) _ rfl (by omega) fun s hs => ?_
    refine lcStep_ok (r := .d (encL s)) (s1 := st') (e1 := oenv nx (subsS xs) j2 (some (.d (eStrs s))) none) rfl rfl (tup_ok' (rs := [.d (.int (s.length : Nat)), .d (eStrs s)]) (cons_ok (call1_ok (r := .d (eStrs s)) rfl ?_) (cons_ok rfl rfl)) rfl (by simp)) rfl
    rw [x_lenT, List.length_map]
  have e3 : C_lots_3 (oenv nx (subsS xs) j2 none none) st' = .ok (.l true ((lotsL xs).map eStrs)) st' := by
    refine dLc_map (enc := encL) _ ?_ (by omega) fun s hs => ?_
    · refine (dItE_ok (r := .l true (srt ((subsS xs).map encL))) (s := st') (call1_ok e2 ?_)).trans ?_
      · show (if srtOk ((subsS xs).map encL) = true then Res.ok (R.l true (srt ((subsS xs).map encL))) st' else .no) = _
        rw [if_pos (srtOk_encL (by omega))]
      · rw [srt_encL]
        rfl
    · exact lcStep_ok (r := .d (eStrs s)) (s1 := st') (e1 := oenv nx (subsS xs) j2 (some (.d (eStrs s))) (some (.d (.int (s.length : Nat))))) rfl rfl rfl rfl
  unfold F_lots
  refine fnP_ret (e := oenv nx (subsS xs) j2 none none) ?_
  unfold D_lots
  have a1 : dSet 1 slF (dCall oLst (dCons (dCall oTup dNil) dNil)) (env0 5 [nx]) st' = .ok (.nx, oenv nx [[]] none none none) st' :=
    setF_l (i := 1) (xs := [.tuple []]) (lst_ok' (rs := [.d (.tuple [])]) (cons_ok (tup_ok' rfl rfl (by simp)) rfl) rfl (by simp))
  rw [seq_nx a1]
  have a2 : L_lots_1 (oenv nx [[]] none none none) st' = .ok (.nx, oenv nx (subsS xs) j2 none none) st' := by
    unfold L_lots_1
    exact (dFor_ok (xs := xs.map .str) (st1 := st') ((dItS_ok (r := .d nx) (s := st') rfl).trans (hn st'))).trans c1
  rw [seq_nx a2]
  exact ret_at e3
theorem lots_ok {xs : List Str} (h : xs.length ≤ 8) : F_lots [eStrs xs] st = .ok (.l true ((lotsL xs).map eStrs)) st := lots_okG h fun _ => rfl
end
end KD

/-! LD6: others_of, ways_of, least_ones, carriers, fellers. -/
namespace KD
open PySem PySem.Spec L2 N
theorem all_ok {α : Type} {env : En} {st s : Sto} {xs : List α} {C : En → M R} {f : α → Bool} (h : C env st = .ok (.l true (xs.map fun x => .bool (f x))) s) : dCall (op1 oAll) (dCons C dNil) env st = .ok (.d (.bool (xs.all f))) s := by
  have e : (xs.map fun x => PyData.bool (f x)) = (xs.map f).map .bool := by rw [List.map_map]; rfl
  rw [e] at h
  rw [dCall_ok (cons_ok h rfl)]
  show oAll (.l true ((xs.map f).map .bool)) s = _
  rw [x_all, List.all_map]
  rfl
theorem any_ok {α : Type} {env : En} {st s : Sto} {xs : List α} {C : En → M R} {f : α → Bool} (h : C env st = .ok (.l true (xs.map fun x => .bool (f x))) s) : dCall (op1 oAny) (dCons C dNil) env st = .ok (.d (.bool (xs.any f))) s := by
  have e : (xs.map fun x => PyData.bool (f x)) = (xs.map f).map .bool := by rw [List.map_map]; rfl
  rw [e] at h
  rw [dCall_ok (cons_ok h rfl)]
  show oAny (.l true ((xs.map f).map .bool)) s = _
  rw [x_any, List.any_map]
  rfl
theorem drop_ok {f : En → M R} {env : En} {st s : Sto} {r : R} (h : f env st = .ok r s) : dDrop f env st = .ok (.nx, env) s := by
  unfold dDrop
  rw [M.bind_ok h]
  rfl
def others (src lot : List Str) : List Str := src.filter fun x => !decide (x ∈ lot)
section
variable {st : Sto} {B : Book}
theorem others_ok {lot : List Str} (hl : B.src.length ≤ 1000) : F_others_of [eBook B, eStrs lot] st = .ok (.d (eStrs (others B.src lot))) st := by
  have e : C_others_of_1 [some (.d (eBook B)), some (.d (eStrs lot)), none] st = .ok (.l true ((others B.src lot).map .str)) st := by
    refine dLc_filter (enc := PyData.str) (g := PyData.str) _ rfl (by omega) fun x hx => ?_
    exact lcStep_if (r := .d (.str x)) (e1 := [some (.d (eBook B)), some (.d (eStrs lot)), some (.d (.str x))]) rfl (tst_ok (bin_ok (a := .d (.str x)) (b := .d (eStrs lot)) (s1 := st) (s2 := st) rfl rfl (by rw [x_inT, Bool.true_xor]))) (fun _ => rfl) rfl
  unfold F_others_of
  refine fnP_ret (e := [some (.d (eBook B)), some (.d (eStrs lot)), none]) (ret_at (call1_ok (r := .l true ((others B.src lot).map .str)) ?_ rfl))
  exact e
theorem filter_one : ∀ {fs : List Fact} {f : Fact}, (fs.map (·.1)).Nodup → f ∈ fs → (fs.filter fun g => decide (g.1 = f.1)) = [f]
  | [], _, _, h => by simp at h
  | g :: fs, f, nd, h => by
    rw [List.map_cons, List.nodup_cons] at nd
    rcases List.mem_cons.mp h with rfl | h2
    · rw [List.filter_cons_of_pos (by simp)]
      congr 1
      rw [List.filter_eq_nil_iff]
      intro g hg
      simp only [decide_eq_true_eq]
      exact fun e => nd.1 (e ▸ List.mem_map_of_mem hg)
    · have hne : g.1 ≠ f.1 := fun e => nd.1 (e ▸ List.mem_map_of_mem h2)
      rw [List.filter_cons_of_neg (by simpa using hne)]
      exact filter_one nd.2 h2
def eWays (ws : List (List Str)) : D := .tuple (ws.map eStrs)
theorem dp_eWays (ws : List (List Str)) : Dp 2 (eWays ws) := dp_tuple fun z hz => by
  obtain ⟨w, _, rfl⟩ := List.mem_map.mp hz
  exact dp_eStrs w
theorem ways_of_ok {f : Fact} (S : Small B.facts) (hf : f ∈ B.facts) : F_ways_of [eBook B, .str f.1] st = .ok (.d (eWays f.2)) st := by
  have e : C_ways_of_1 [some (.d (eBook B)), some (.d (.str f.1)), none, none, none] st = .ok (.l true ((B.facts.filter fun g => decide (g.1 = f.1)).map fun g => eWays g.2)) st := by
    refine dLc_filter (enc := eFact) _ _ rfl (Nat.le_trans S.few (by decide)) fun g hg => ?_
    exact lcStep_if (r := .d (eWays g.2)) (e1 := [some (.d (eBook B)), some (.d (.str f.1)), none, some (.d (.str g.1)), some (.d (eWays g.2))]) rfl (tst_ok (bin_ok (a := .d (.str g.1)) (b := .d (.str f.1)) (s1 := st) (s2 := st) rfl rfl (by rw [oEq_str, Bool.false_xor]))) (fun _ => rfl) rfl
  rw [filter_one S.nd hf] at e
  unfold F_ways_of
  refine fnP_ret (e := [some (.d (eBook B)), some (.d (.str f.1)), some (.d (.list [eWays f.2])), none, none]) ?_
  unfold D_ways_of
  refine (seq_nx (setF_l (i := 2) (xs := [eWays f.2]) e)).trans ?_
  have t : oEq false (.d (.list [eWays f.2])) (.l true []) st = .ok (.d (.bool false)) st := by
    rw [oEq_pk (x := .list [eWays f.2]) (y := .list []) rfl rfl ((dp_list (n := 2) fun z hz => by rw [List.mem_singleton.mp hz]; exact dp_eWays f.2).ok) rfl]
    rfl
  refine (seq_nx (if_no (S := dNoS) (tst_ok (bin_ok (a := .d (.list [eWays f.2])) (b := .l true []) (s1 := st) (s2 := st) rfl (lst0 _ _) t)))).trans ?_
  exact ret_at (bin_ok (a := .d (.list [eWays f.2])) (b := .d (.int 0)) (s1 := st) (s2 := st) rfl rfl rfl)
/-! ### those that have no other within them -/
def leastStep (found : List (List Str)) (lot : List Str) : List (List Str) := if found.any (fun o => o.all fun x => decide (x ∈ lot)) = true then found else found ++ [lot]
def leastOf (ls : List (List Str)) : List (List Str) := ls.foldl leastStep []
theorem least_mem : ∀ (ls found : List (List Str)), ∀ x ∈ ls.foldl leastStep found, x ∈ found ∨ x ∈ ls
  | [], found, x, h => .inl h
  | l :: ls, found, x, h => by
    rw [List.foldl_cons] at h
    rcases least_mem ls _ x h with q | q
    · unfold leastStep at q
      split at q
      · exact .inl q
      · rcases List.mem_append.mp q with q | q
        · exact .inl q
        · exact .inr (by rw [List.mem_singleton.mp q]; exact List.mem_cons_self)
    · exact .inr (List.mem_cons_of_mem _ q)
theorem leastOf_sub {ls : List (List Str)} : ∀ x ∈ leastOf ls, x ∈ ls := fun x h => (least_mem ls [] x h).resolve_left (by simp)
theorem least_len : ∀ (ls found : List (List Str)), (ls.foldl leastStep found).length ≤ found.length + ls.length
  | [], found => Nat.le_refl _
  | l :: ls, found => by
    rw [List.foldl_cons]
    refine Nat.le_trans (least_len ls _) ?_
    unfold leastStep
    split
    · simp
    · rw [List.length_append, List.length_singleton, List.length_cons]
      omega
abbrev venv (ls found : List (List Str)) (j2 j3 j4 : Option R) : En := [some (.d (.list (ls.map eStrs))), some (.l true (found.map eStrs)), j2, j3, j4]
theorem least_turn {ls found : List (List Str)} {lot : List Str} {j3 j4 : Option R} (hf : found.length ≤ 5000) (hs : ∀ s ∈ found, s.length ≤ 100) :
    B_least_ones_1 (venv ls found (some (.d (eStrs lot))) j3 j4) st = .ok (.nx, venv ls (leastStep found lot) (some (.d (eStrs lot))) j3 j4) st := by
  have e2 : C_least_ones_2 (venv ls found (some (.d (eStrs lot))) j3 j4) st = .ok (.l true (found.map fun o => .bool (o.all fun x => decide (x ∈ lot)))) st := by
    refine dLc_map (enc := eStrs) _ rfl (by omega) fun o ho => ?_
    refine lcStep_ok (r := .d (.bool (o.all fun x => decide (x ∈ lot)))) (s1 := st) (e1 := venv ls found (some (.d (eStrs lot))) j3 (some (.d (eStrs o)))) rfl rfl (all_ok (xs := o) (f := fun x => decide (x ∈ lot)) ?_) rfl
    refine dLc_map (enc := PyData.str) _ rfl (by have := hs o ho; omega) fun x hx => ?_
    exact lcStep_ok (r := .d (.bool (decide (x ∈ lot)))) (s1 := st) (e1 := venv ls found (some (.d (eStrs lot))) (some (.d (.str x))) (some (.d (eStrs o)))) rfl rfl (bin_ok (a := .d (.str x)) (b := .d (eStrs lot)) (s1 := st) (s2 := st) rfl rfl (by rw [x_inT, Bool.false_xor])) rfl
  have t := not_ok (tst_ok (any_ok (f := fun o : List Str => o.all fun x => decide (x ∈ lot)) e2))
  unfold B_least_ones_1 leastStep
  by_cases c : (found.any fun o => o.all fun x => decide (x ∈ lot)) = true
  · rw [if_pos c]
    rw [c] at t
    exact if_no t
  · rw [if_neg c]
    rw [Bool.not_eq_true] at c
    rw [c] at t
    refine if_yes t ?_
    refine (app_ok (i := 1) (b := true) (xs := found.map eStrs) (x := eStrs lot) rfl rfl (by rw [List.length_map]; omega)).trans ?_
    unfold venv
    rw [List.map_append]
    rfl
theorem least_ok {ls : List (List Str)} (hl : ls.length ≤ 5000) (hs : ∀ s ∈ ls, s.length ≤ 100) : F_least_ones [.list (ls.map eStrs)] st = .ok (.l true ((leastOf ls).map eStrs)) st := by
  obtain ⟨env', st', c1, c2⟩ := forGo_inv (S := B_least_ones_1) (p := .nm 2) (enc := eStrs) (fun k env st' => st' = st ∧ ∃ j2, env = venv ls (leastOf (ls.take k)) j2 none none)
    ls 0 (venv ls (leastOf (ls.take 0)) none none none) st ⟨rfl, _, rfl⟩ fun i r env st' ex ⟨es, j2, ee⟩ => by
      subst es ee
      refine ⟨venv ls (leastOf (ls.take (0 + i))) (some (.d (eStrs r))) none none, _, _, rfl, least_turn ?_ fun s h => hs s (List.mem_of_mem_take (leastOf_sub s h)), rfl, some (.d (eStrs r)), ?_⟩
      · refine Nat.le_trans (least_len _ _) ?_
        rw [List.length_nil, List.length_take]
        omega
      · have : ls.take (0 + i + 1) = ls.take (0 + i) ++ [r] := by rw [List.take_add_one, Nat.zero_add, ex]; rfl
        rw [this]
        unfold leastOf
        rw [List.foldl_append]
        rfl
  obtain ⟨rfl, j2, rfl⟩ := c2
  rw [show ls.take (0 + ls.length) = ls from by simp] at c1
  unfold F_least_ones
  refine fnP_ret (e := venv ls (leastOf ls) j2 none none) ?_
  unfold D_least_ones
  refine (seq_nx (setO_l (i := 1) (xs := []) (lst0 _ _))).trans ?_
  have a2 : L_least_ones_1 (venv ls [] none none none) st' = .ok (.nx, venv ls (leastOf ls) j2 none none) st' := by
    unfold L_least_ones_1
    exact (dFor_ok (xs := ls.map eStrs) (st1 := st') rfl).trans c1
  exact (seq_nx a2).trans rfl
theorem least_call {ls : List (List Str)} {C : En → M R} {env : En} (h : C env st = .ok (.l true (ls.map eStrs)) st) (hl : ls.length ≤ 5000) (hs : ∀ s ∈ ls, s.length ≤ 100) : dCall (opC 1 F_least_ones) (dCons C dNil) env st = .ok (.l true ((leastOf ls).map eStrs)) st := by
  rw [dCall_ok (cons_ok h rfl)]
  exact opC_ok rfl rfl (least_ok hl hs)
theorem lots_call {f : En → M R} {env : En} {xs : List Str} (h : f env st = .ok (.d (eStrs xs)) st) (hl : xs.length ≤ 8) : dCall (opC 1 F_lots) (dCons f dNil) env st = .ok (.l true ((lotsL xs).map eStrs)) st := by
  rw [dCall_ok (cons_ok h rfl)]
  exact opC_ok rfl rfl (lots_ok hl)
theorem lots_small {xs : List Str} (hl : xs.length ≤ 8) : (lotsL xs).length ≤ 5000 ∧ ∀ s ∈ lotsL xs, s.Sublist xs := by
  refine ⟨?_, fun s hs => subsS_mem ((lotsL_perm xs).mem_iff.mp hs)⟩
  rw [(lotsL_perm xs).length_eq, subsS_len]
  exact Nat.le_trans (Nat.pow_le_pow_right (by decide) hl) (by decide)
def goods (B : Book) (x : Str) : List (List Str) := (lotsL B.src).filter fun l => decide (x ∈ stand B.src (others B.src l) B.facts)
def bads (B : Book) (x : Str) : List (List Str) := (lotsL B.src).filter fun l => !decide (x ∈ stand B.src l B.facts)
theorem carriers_ok {f : Fact} (S : Small B.facts) (hf : f ∈ B.facts) (hl : B.src.length ≤ 8) : F_carriers [eBook B, .str f.1] st = .ok (.l true ((leastOf (goods B f.1)).map eStrs)) st := by
  obtain ⟨z1, z2⟩ := lots_small hl
  have e : C_carriers_1 [some (.d (eBook B)), some (.d (.str f.1)), none] st = .ok (.l true ((goods B f.1).map eStrs)) st := by
    refine dLc_filter (enc := eStrs) (g := eStrs) _ ?_ (by omega) fun l hx => ?_
    · exact (dItE_ok (lots_call (xs := B.src) rfl hl)).trans rfl
    · refine lcStep_if (r := .d (eStrs l)) (e1 := [some (.d (eBook B)), some (.d (.str f.1)), some (.d (eStrs l))]) rfl (tst_ok ?_) (fun _ => rfl) rfl
      refine (in_rounds (x := f.1) (sk := others B.src l) S rfl ?_ rfl).trans (by rw [Bool.false_xor])
      rw [dCall_ok (cons_ok (r := .d (eBook B)) rfl (cons_ok (r := .d (eStrs l)) rfl rfl))]
      exact opC_ok rfl rfl (others_ok (by omega))
  unfold F_carriers
  refine fnP_ret (e := [some (.d (eBook B)), some (.d (.str f.1)), none]) ?_
  unfold D_carriers
  refine (seq_nx (drop_ok (r := .d (eWays f.2)) (s := st) ?_)).trans (ret_at (least_call e ?_ fun s hs => ?_))
  · rw [dCall_ok (cons_ok (r := .d (eBook B)) rfl (cons_ok (r := .d (.str f.1)) rfl rfl))]
    exact opC_ok rfl rfl (ways_of_ok S hf)
  · exact Nat.le_trans (List.length_filter_le _ _) z1
  · exact Nat.le_trans (z2 s (List.mem_filter.mp hs).1).length_le (by omega)
theorem fellers_ok {f : Fact} (S : Small B.facts) (hf : f ∈ B.facts) (hl : B.src.length ≤ 8) : F_fellers [eBook B, .str f.1] st = .ok (.l true ((leastOf (bads B f.1)).map eStrs)) st := by
  obtain ⟨z1, z2⟩ := lots_small hl
  have e : C_fellers_1 [some (.d (eBook B)), some (.d (.str f.1)), none] st = .ok (.l true ((bads B f.1).map eStrs)) st := by
    refine dLc_filter (enc := eStrs) (g := eStrs) _ ?_ (by omega) fun l hx => ?_
    · exact (dItE_ok (lots_call (xs := B.src) rfl hl)).trans rfl
    · refine lcStep_if (r := .d (eStrs l)) (e1 := [some (.d (eBook B)), some (.d (.str f.1)), some (.d (eStrs l))]) rfl (tst_ok ?_) (fun _ => rfl) rfl
      exact (in_rounds (x := f.1) (sk := l) S rfl rfl rfl).trans (by rw [Bool.true_xor])
  unfold F_fellers
  refine fnP_ret (e := [some (.d (eBook B)), some (.d (.str f.1)), none]) ?_
  unfold D_fellers
  refine (seq_nx (drop_ok (r := .d (eWays f.2)) (s := st) ?_)).trans (ret_at (least_call e ?_ fun s hs => ?_))
  · rw [dCall_ok (cons_ok (r := .d (eBook B)) rfl (cons_ok (r := .d (.str f.1)) rfl rfl))]
    exact opC_ok rfl rfl (ways_of_ok S hf)
  · exact Nat.le_trans (List.length_filter_le _ _) z1
  · exact Nat.le_trans (z2 s (List.mem_filter.mp hs).1).length_le (by omega)
end
end KD

/-! LD7: the greatest common divisor; weights; chances. -/
namespace KD
open PySem PySem.Spec L2 N
section
variable {st s s2 : Sto} {env : En}
theorem aug_ok {i : Nat} {fn : Int → Int → Int} {ok : Int → Int → Bool} {f : En → M R} {a b : Int} (h : env[i]? = some (some (.d (.int a)))) (e : f env st = .ok (.d (.int b)) s) (o : ok a b = true) : dAug i fn ok f env st = .ok (.nx, env.set i (some (.d (.int (fn a b))))) s := by
  unfold dAug
  have h1 : toInt2 i env st = .ok a st := by unfold toInt2; simp only [h]
  rw [M.bind_ok h1, M.bind_ok e]
  show (M.ret b >>= fun b => if ok a b = true then M.ret (Fl.nx, env.set i (some (R.d (.int (fn a b))))) else M.no) s = _
  rw [M.bind_ok (show (M.ret b) s = .ok b s from rfl), if_pos o]
  rfl
theorem par_d {i j : Nat} {fs : En → M (List R)} {x y : D} (e : fs env st = .ok [.d x, .d y] s) : dPar i j slF slF fs env st = .ok (.nx, (env.set i (some (.d x))).set j (some (.d y))) s := by
  unfold dPar
  rw [M.bind_ok e]
  rfl
theorem asgP_d {p : Pat} {f : En → M R} {x : D} {e1 : En} (e : f env st = .ok (.d x) s) (h : asg p x env = some e1) : dAsgP p f env st = .ok (.nx, e1) s := by
  unfold dAsgP
  rw [M.bind_ok e]
  unfold asgM
  simp only [h]
theorem retv {i : Nat} {r : R} (h : env[i]? = some (some r)) : dRetVar i env st = .ok (.ret r, env) st := by
  unfold dRetVar
  simp only [h]
/-! ### the greatest common divisor -/
abbrev ienv (a b : Nat) : En := [some (.d (.int (a : Int))), some (.d (.int (b : Int)))]
theorem common_body {a b : Nat} (hb : 0 < b) : B_common_1 (ienv a b) st = .ok (.nx, ienv b (a % b)) st := by
  unfold B_common_1
  refine (par_d (x := .int (b : Int)) (y := .int ((a % b : Nat) : Int)) (s := st) (cons_ok rfl (cons_ok (bin_ok (a := .d (.int (a : Int))) (b := .d (.int (b : Int))) (s1 := st) (s2 := st) rfl rfl ?_) rfl))).trans rfl
  rw [x_mod, if_pos (by omega), M.ret_ap]
  rfl
theorem common_test {a b : Nat} : dTst (dBin (oCmp fGt) (eVar 1) (eC (.int 0))) (ienv a b) st = .ok (decide (0 < b)) st := by
  refine tst_ok (bin_ok (a := .d (.int (b : Int))) (b := .d (.int 0)) (s1 := st) (s2 := st) rfl rfl ?_)
  rw [x_cmp, fGt_int]
  congr 4
  exact propext (by omega)
theorem common_loop : ∀ (n a b m : Nat), b < 2 ^ n → whileGo (dTst (dBin (oCmp fGt) (eVar 1) (eC (.int 0)))) B_common_1 (2 * n + 1 + m) (ienv a b) st = .ok (.nx, ienv (Nat.gcd a b) 0) st
  | 0, a, b, m, hb => by
    have : b = 0 := by omega
    subst this
    rw [show 2 * 0 + 1 + m = m + 1 by omega, whileGo_stop (st1 := st) (common_test (st := st) (a := a) (b := 0)), Nat.gcd_zero_right]
  | n + 1, a, b, m, hb => by
    rcases Nat.eq_zero_or_pos b with rfl | hp
    · rw [show 2 * (n + 1) + 1 + m = (2 * (n + 1) + m) + 1 by omega, whileGo_stop (st1 := st) (common_test (st := st) (a := a) (b := 0)), Nat.gcd_zero_right]
    · have t : dTst (dBin (oCmp fGt) (eVar 1) (eC (.int 0))) (ienv a b) st = .ok true st := by rw [common_test, decide_eq_true hp]
      have g : Nat.gcd a b = Nat.gcd b (a % b) := by rw [Nat.gcd_comm a b, Nat.gcd_rec, Nat.gcd_comm]
      rw [show 2 * (n + 1) + 1 + m = (2 * n + 1 + (m + 1)) + 1 by omega, whileGo_go (st1 := st) t (common_body hp), g]
      have hr := Nat.mod_lt a hp
      generalize a % b = r at hr ⊢
      rcases Nat.eq_zero_or_pos r with rfl | hq
      · rw [show 2 * n + 1 + (m + 1) = (2 * n + 1 + m) + 1 by omega, whileGo_stop (st1 := st) (common_test (st := st) (a := b) (b := 0)), Nat.gcd_zero_right]
      · have t : dTst (dBin (oCmp fGt) (eVar 1) (eC (.int 0))) (ienv b r) st = .ok true st := by rw [common_test, decide_eq_true hq]
        have g : Nat.gcd b r = Nat.gcd r (b % r) := by rw [Nat.gcd_comm b r, Nat.gcd_rec, Nat.gcd_comm]
        rw [show 2 * n + 1 + (m + 1) = (2 * n + 1 + m) + 1 by omega, whileGo_go (st1 := st) t (common_body hq), g]
        refine common_loop n r (b % r) m ?_
        have h1 := Nat.mod_lt b hq
        have h2 := Nat.div_add_mod b r
        have h3 : 1 ≤ b / r := (Nat.one_le_div_iff hq).mpr (Nat.le_of_lt hr)
        have h4 : r ≤ r * (b / r) := Nat.le_mul_of_pos_right r h3
        rw [Nat.pow_succ] at hb
        omega
theorem common_ok {a b : Nat} (hb : b < 2 ^ 200) : F_common [.int (a : Int), .int (b : Int)] st = .ok (.d (.int ((Nat.gcd a b : Nat) : Int))) st := by
  unfold F_common
  refine fnP_ret (e := ienv (Nat.gcd a b) 0) ?_
  unfold D_common
  have e : L_common_1 (ienv a b) st = .ok (.nx, ienv (Nat.gcd a b) 0) st := by
    unfold L_common_1
    exact common_loop 200 a b 599 hb
  exact (seq_nx e).trans rfl
/-! ### weights -/
abbrev Part := Nat × Nat
structure PartOk (o : Part) : Prop where
  le : o.1 ≤ o.2
  pos : 1 ≤ o.2
  top : o.2 ≤ 1000
def eOdd (o : Part) : D := .tuple [.int (o.1 : Int), .int (o.2 : Int)]
def eOdds (os : List Part) : D := .tuple (os.map eOdd)
def val (bad : List Str) (p : Str × Part) : Nat := if p.1 ∈ bad then p.2.2 - p.2.1 else p.2.1
def wt (bad : List Str) : List (Str × Part) → Nat
  | [] => 1
  | p :: l => val bad p * wt bad l
def bot : List Part → Nat
  | [] => 1
  | o :: l => o.2 * bot l
theorem wt_snoc (bad : List Str) (p : Str × Part) : ∀ l, wt bad (l ++ [p]) = wt bad l * val bad p
  | [] => by simp [wt]
  | q :: l => by rw [List.cons_append, wt, wt, wt_snoc bad p l, Nat.mul_assoc]
theorem bot_snoc (o : Part) : ∀ l, bot (l ++ [o]) = bot l * o.2
  | [] => by simp [bot]
  | q :: l => by rw [List.cons_append, bot, bot, bot_snoc o l, Nat.mul_assoc]
theorem zipD_zip : ∀ (xs : List Str) (os : List Part), zipD (xs.map .str) (os.map eOdd) = (xs.zip os).map fun p => .tuple [.str p.1, eOdd p.2]
  | [], _ => by simp [zipD]
  | _ :: _, [] => by simp [zipD]
  | x :: xs, o :: os => by
    rw [List.map_cons, List.map_cons, zipD, List.zip_cons_cons, List.map_cons, zipD_zip xs os]
theorem noTup_strs (xs : List Str) : noTup (xs.map .str) = true := by
  unfold noTup
  rw [List.all_map, List.all_eq_true]
  exact fun _ _ => rfl
theorem okMul_r {a b : Int} (h : 0 ≤ b) (h2 : b ≤ 1000) : okMul a b = true := by
  unfold okMul
  simp only [Bool.or_eq_true, Bool.and_eq_true, decide_eq_true_eq]
  omega
variable {B : Book}
abbrev wenv (B : Book) (os : List Part) (bad : List Str) (k : Nat) (j4 j5 j6 : Option R) : En := [some (.d (eBook B)), some (.d (eOdds os)), some (.d (eStrs bad)), some (.d (.int (k : Int))), j4, j5, j6]
theorem weight_turn {os : List Part} {bad : List Str} {k : Nat} {p : Str × Part} (hp : PartOk p.2) :
    B_weight_of_1 (wenv B os bad k (some (.d (.str p.1))) (some (.d (.int (p.2.1 : Int)))) (some (.d (.int (p.2.2 : Int))))) st = .ok (.nx, wenv B os bad (k * val bad p) (some (.d (.str p.1))) (some (.d (.int (p.2.1 : Int)))) (some (.d (.int (p.2.2 : Int))))) st := by
  have hle := hp.le
  have htop := hp.top
  have t : dTst (dBin (oIn false) (eVar 4) (eVar 2)) (wenv B os bad k (some (.d (.str p.1))) (some (.d (.int (p.2.1 : Int)))) (some (.d (.int (p.2.2 : Int))))) st = .ok (decide (p.1 ∈ bad)) st :=
    tst_ok (bin_ok (a := .d (.str p.1)) (b := .d (eStrs bad)) (s1 := st) (s2 := st) rfl rfl (by rw [x_inT, Bool.false_xor]))
  have e : dIf (dTst (dBin (oIn false) (eVar 4) (eVar 2))) (dBin oSub (eVar 6) (eVar 5)) (eVar 5) (wenv B os bad k (some (.d (.str p.1))) (some (.d (.int (p.2.1 : Int)))) (some (.d (.int (p.2.2 : Int))))) st = .ok (.d (.int (val bad p : Nat))) st := by
    rw [x_if, bind_at, t]
    unfold val
    by_cases c : p.1 ∈ bad
    · simp only [c, decide_true, if_true]
      refine (bin_ok (a := .d (.int (p.2.2 : Int))) (b := .d (.int (p.2.1 : Int))) (s1 := st) (s2 := st) rfl rfl ?_)
      show Res.ok (R.d (.int ((p.2.2 : Int) - (p.2.1 : Int)))) st = _
      rw [Int.ofNat_sub hle]
    · simp only [c, decide_false, if_false]
      rfl
  have hv : val bad p ≤ 1000 := by unfold val; split <;> omega
  unfold B_weight_of_1
  refine (aug_ok (i := 3) (a := (k : Int)) (b := (val bad p : Nat)) rfl e (okMul_r (by omega) (by omega))).trans ?_
  show Res.ok (Fl.nx, wenv B os bad k (some (.d (.str p.1))) (some (.d (.int (p.2.1 : Int)))) (some (.d (.int (p.2.2 : Int)))) |>.set 3 (some (.d (.int ((k : Int) * ((val bad p : Nat) : Int)))))) st = _
  rw [← Int.natCast_mul]
  rfl
theorem weight_ok {os : List Part} {bad : List Str} (ho : ∀ o ∈ os, PartOk o) : F_weight_of [eBook B, eOdds os, eStrs bad] st = .ok (.d (.int (wt bad (B.src.zip os) : Nat))) st := by
  obtain ⟨env', st', c1, c2⟩ := forGo_inv (S := B_weight_of_1) (p := .tp [(.nm 4), (.tp [(.nm 5), (.nm 6)])]) (enc := fun p : Str × Part => .tuple [.str p.1, eOdd p.2]) (fun k env st' => st' = st ∧ ∃ j4 j5 j6, env = wenv B os bad (wt bad ((B.src.zip os).take k)) j4 j5 j6)
    (B.src.zip os) 0 (wenv B os bad (wt bad ((B.src.zip os).take 0)) none none none) st ⟨rfl, _, _, _, rfl⟩ fun i p env st' ex ⟨es, j4, j5, j6, ee⟩ => by
      subst es ee
      have hp := ho p.2 (List.of_mem_zip (List.mem_of_getElem? ex)).2
      refine ⟨wenv B os bad (wt bad ((B.src.zip os).take (0 + i))) (some (.d (.str p.1))) (some (.d (.int (p.2.1 : Int)))) (some (.d (.int (p.2.2 : Int)))), _, _, rfl, weight_turn hp, rfl, some (.d (.str p.1)), some (.d (.int (p.2.1 : Int))), some (.d (.int (p.2.2 : Int))), ?_⟩
      have : (B.src.zip os).take (0 + i + 1) = (B.src.zip os).take (0 + i) ++ [p] := by rw [List.take_add_one, Nat.zero_add, ex]; rfl
      rw [this, wt_snoc]
  obtain ⟨rfl, j4, j5, j6, rfl⟩ := c2
  rw [show (B.src.zip os).take (0 + (B.src.zip os).length) = B.src.zip os from by rw [Nat.zero_add, List.take_length]] at c1
  unfold F_weight_of
  refine fnP_ret (e := wenv B os bad (wt bad (B.src.zip os)) j4 j5 j6) ?_
  unfold D_weight_of
  refine (seq_nx (setF_d (i := 3) (x := .int 1) rfl)).trans ?_
  have a2 : L_weight_of_1 (wenv B os bad 1 none none none) st' = .ok (.nx, wenv B os bad (wt bad (B.src.zip os)) j4 j5 j6) st' := by
    unfold L_weight_of_1
    refine (dFor_ok (st1 := st') (xs := (B.src.zip os).map fun p => .tuple [.str p.1, eOdd p.2]) ?_).trans c1
    have : dCons (dBin oIx (eVar 0) (eC (.int 0))) (dCons (eVar 1) dNil) (wenv B os bad 1 none none none) st' = .ok [.d (eStrs B.src), .d (eOdds os)] st' := cons_ok (bin_ok (a := .d (eBook B)) (b := .d (.int 0)) (s1 := st') (s2 := st') rfl rfl rfl) (cons_ok rfl rfl)
    unfold dItC
    rw [M.bind_ok this]
    show (if noTup (B.src.map .str) = true then Res.ok (zipD (B.src.map .str) (os.map eOdd)) st' else .no) = _
    rw [if_pos (noTup_strs _), zipD_zip]
  exact (seq_nx a2).trans rfl
end
end KD

/-! LK8: carriers and fellers meet. -/
namespace KD
open PySem PySem.Spec L2 N
def meets (others : List (List Str)) (lot : List Str) : Bool := others.all fun o => o.any fun x => decide (x ∈ lot)
theorem least_keep : ∀ (ls found : List (List Str)), ∀ o ∈ found, o ∈ ls.foldl leastStep found
  | [], found, o, h => h
  | l :: ls, found, o, h => by
    rw [List.foldl_cons]
    refine least_keep ls _ o ?_
    unfold leastStep
    split
    · exact h
    · exact List.mem_append_left _ h
theorem least_under : ∀ (ls found : List (List Str)), ∀ l ∈ ls, ∃ o ∈ ls.foldl leastStep found, ∀ x ∈ o, x ∈ l
  | [], _, l, h => by simp at h
  | m :: ls, found, l, h => by
    rw [List.foldl_cons]
    rcases List.mem_cons.mp h with rfl | h
    · by_cases c : (found.any fun o => o.all fun x => decide (x ∈ l)) = true
      · obtain ⟨o, ho, q⟩ := List.any_eq_true.mp c
        refine ⟨o, ?_, fun x hx => of_decide_eq_true (List.all_eq_true.mp q x hx)⟩
        unfold leastStep
        rw [if_pos c]
        exact least_keep ls _ o ho
      · refine ⟨l, ?_, fun x hx => hx⟩
        unfold leastStep
        rw [if_neg c]
        exact least_keep ls _ l (List.mem_append_right _ (List.mem_singleton.mpr rfl))
    · exact least_under ls _ l h
theorem leastOf_under {ls : List (List Str)} {l : List Str} (h : l ∈ ls) : ∃ o ∈ leastOf ls, ∀ x ∈ o, x ∈ l := least_under ls [] l h
theorem mem_others {src lot : List Str} {x : Str} : x ∈ others src lot ↔ x ∈ src ∧ x ∉ lot := by
  unfold others
  rw [List.mem_filter]
  simp
theorem subsS_all {xs s : List Str} (h : s.Sublist xs) : s ∈ subsS xs := by
  induction xs using rev_indS generalizing s with
  | h0 => rw [List.sublist_nil.mp h]; simp [subsS]
  | hs l x ih =>
    rw [subsS_snoc, List.mem_append, List.mem_map]
    rcases List.sublist_append_iff.mp h with ⟨a, b, rfl, ha, hb⟩
    rcases List.sublist_cons_iff.mp hb with h1 | ⟨r, rfl, hr⟩
    · rw [List.sublist_nil.mp h1, List.append_nil]
      exact .inl (ih ha)
    · rw [List.sublist_nil.mp hr]
      exact .inr ⟨a, ih ha, rfl⟩
theorem others_lots (src lot : List Str) : others src lot ∈ lotsL src := (lotsL_perm src).mem_iff.mpr (subsS_all List.filter_sublist)
theorem not_meets {os : List (List Str)} {lot : List Str} : meets os lot = false ↔ ∃ o ∈ os, ∀ x ∈ o, x ∉ lot := by
  unfold meets
  rw [List.all_eq_false]
  constructor
  · rintro ⟨o, ho, q⟩
    refine ⟨o, ho, fun x hx hm => q (List.any_eq_true.mpr ⟨x, hx, decide_eq_true hm⟩)⟩
  · rintro ⟨o, ho, q⟩
    refine ⟨o, ho, fun z => ?_⟩
    obtain ⟨x, hx, hm⟩ := List.any_eq_true.mp z
    exact q x hx (of_decide_eq_true hm)
section
variable {B : Book} {x : Str}
theorem goods_iff {l : List Str} : l ∈ goods B x ↔ l ∈ lotsL B.src ∧ x ∈ stand B.src (others B.src l) B.facts := by
  unfold goods
  rw [List.mem_filter, decide_eq_true_eq]
theorem bads_iff {l : List Str} : l ∈ bads B x ↔ l ∈ lotsL B.src ∧ x ∉ stand B.src l B.facts := by
  unfold bads
  rw [List.mem_filter]
  simp
theorem lots_sub {l : List Str} (h : l ∈ lotsL B.src) : ∀ y ∈ l, y ∈ B.src := fun y hy => (subsS_mem ((lotsL_perm B.src).mem_iff.mp h)).subset hy
theorem meet_bads (S : Small B.facts) {l : List Str} : meets (leastOf (bads B x)) l = decide (x ∈ stand B.src (others B.src l) B.facts) := by
  by_cases c : x ∈ stand B.src (others B.src l) B.facts
  · rw [decide_eq_true c]
    cases q : meets (leastOf (bads B x)) l with
    | true => rfl
    | false =>
      obtain ⟨o, ho, hn⟩ := not_meets.mp q
      obtain ⟨h1, h2⟩ := bads_iff.mp (leastOf_sub o ho)
      exact absurd (stand_mono S (fun y hy => mem_others.mpr ⟨lots_sub h1 y hy, hn y hy⟩) x c) h2
  · rw [decide_eq_false c]
    obtain ⟨o, ho, hs⟩ := leastOf_under (bads_iff.mpr ⟨others_lots B.src l, c⟩)
    exact not_meets.mpr ⟨o, ho, fun y hy => (mem_others.mp (hs y hy)).2⟩
theorem meet_goods (S : Small B.facts) {l : List Str} (hl : l ∈ lotsL B.src) : meets (leastOf (goods B x)) l = !decide (x ∈ stand B.src l B.facts) := by
  by_cases c : x ∈ stand B.src l B.facts
  · rw [decide_eq_true c]
    have hg : others B.src l ∈ goods B x := goods_iff.mpr ⟨others_lots B.src l, stand_mono S (fun y hy => by
      obtain ⟨h1, h2⟩ := mem_others.mp hy
      rcases Classical.em (y ∈ l) with k | k
      · exact k
      · exact absurd (mem_others.mpr ⟨h1, k⟩) h2) x c⟩
    obtain ⟨o, ho, hs⟩ := leastOf_under hg
    exact not_meets.mpr ⟨o, ho, fun y hy => (mem_others.mp (hs y hy)).2⟩
  · rw [decide_eq_false c]
    cases q : meets (leastOf (goods B x)) l with
    | true => rfl
    | false =>
      obtain ⟨o, ho, hn⟩ := not_meets.mp q
      obtain ⟨h1, h2⟩ := goods_iff.mp (leastOf_sub o ho)
      exact absurd (stand_mono S (fun y hy => mem_others.mpr ⟨lots_sub hl y hy, fun z => hn y z hy⟩) x h2) c
theorem goods_meet (S : Small B.facts) : (lotsL B.src).filter (meets (leastOf (bads B x))) = goods B x := by
  unfold goods
  exact List.filter_congr fun l _ => meet_bads S
theorem bads_meet (S : Small B.facts) : (lotsL B.src).filter (meets (leastOf (goods B x))) = bads B x := by
  unfold bads
  exact List.filter_congr fun l hl => meet_goods S hl
theorem goods_all (S : Small B.facts) {l : List Str} (h : l ∈ leastOf (goods B x)) : meets (leastOf (bads B x)) l = true := by
  rw [meet_bads S, decide_eq_true (goods_iff.mp (leastOf_sub l h)).2]
end
/-! ### a way more -/
def grown (fs : List Fact) (n : Str) (w : List Str) : List Fact := fs.map fun f => if f.1 = n then (f.1, f.2 ++ [w]) else f
theorem grown_names (fs : List Fact) (n : Str) (w : List Str) : (grown fs n w).map (·.1) = fs.map (·.1) := by
  unfold grown
  rw [List.map_map]
  apply List.map_congr_left
  intro f _
  show (if f.1 = n then (f.1, f.2 ++ [w]) else f).1 = f.1
  split <;> rfl
theorem grown_small {fs : List Fact} (S : Small fs) {n : Str} {w : List Str} (hw : w.length ≤ 1000) (h4 : ∀ f ∈ fs, f.2.length ≤ 900) : Small (grown fs n w) where
  nd := by rw [grown_names]; exact S.nd
  few := by unfold grown; rw [List.length_map]; exact S.few
  ways := fun g hg => by
    obtain ⟨f, hf, rfl⟩ := List.mem_map.mp hg
    have := h4 f hf
    show (if f.1 = n then (f.1, f.2 ++ [w]) else f).2.length ≤ 1000
    split
    · show (f.2 ++ [w]).length ≤ 1000
      rw [List.length_append, List.length_singleton]; omega
    · omega
  way := fun g hg v hv => by
    obtain ⟨f, hf, rfl⟩ := List.mem_map.mp hg
    have hv : v ∈ (if f.1 = n then (f.1, f.2 ++ [w]) else f).2 := hv
    split at hv
    · rcases List.mem_append.mp hv with q | q
      · exact S.way f hf v q
      · rw [List.mem_singleton.mp q]; exact hw
    · exact S.way f hf v hv
theorem fresh_grown {fs : List Fact} {src s R c : List Str} {n : Str} {w : List Str} (hR : fresh src s (grown fs n w) R = []) (hc : ∀ x ∈ c, x ∈ R) : ∀ x ∈ fresh src s fs c, x ∈ R := fun x hx => by
  unfold fresh at hx hR
  obtain ⟨f, hf, rfl⟩ := List.mem_map.mp hx
  obtain ⟨h1, h2⟩ := List.mem_filter.mp hf
  simp only [Bool.and_eq_true, List.any_eq_true] at h2
  obtain ⟨_, v, hv, ho⟩ := h2
  rcases Classical.em (f.1 ∈ R) with k | k
  · exact k
  · rw [List.map_eq_nil_iff, List.filter_eq_nil_iff] at hR
    have hm : (if f.1 = n then (f.1, f.2 ++ [w]) else f) ∈ grown fs n w := List.mem_map_of_mem (f := fun f : Fact => if f.1 = n then (f.1, f.2 ++ [w]) else f) h1
    refine absurd ?_ (hR _ hm)
    simp only [Bool.and_eq_true, List.any_eq_true, Bool.not_eq_true', decide_eq_false_iff_not]
    split
    · exact ⟨k, v, List.mem_append_left _ hv, opens_mono (fun _ z => z) hc ho⟩
    · exact ⟨k, v, hv, opens_mono (fun _ z => z) hc ho⟩
theorem rnds_grown {fs : List Fact} {src s R : List Str} {n : Str} {w : List Str} (hR : fresh src s (grown fs n w) R = []) : ∀ (k : Nat) (found : List (Str × Int)) (m : Int), (∀ x ∈ found.map (·.1), x ∈ R) → ∀ x ∈ (rnds src s fs k found m).map (·.1), x ∈ R
  | 0, _, _, h => h
  | k + 1, found, m, h => by
    unfold rnds
    by_cases e : fresh src s fs (found.map (·.1)) = []
    · simp only [e, if_true]; exact h
    · simp only [e, if_false]
      refine rnds_grown hR k _ _ fun x hx => ?_
      rw [List.map_append, names_snd] at hx
      rcases List.mem_append.mp hx with q | q
      · exact h x q
      · exact fresh_grown hR h x q
theorem stand_grown {fs : List Fact} {src s : List Str} {n : Str} {w : List Str} (S : Small (grown fs n w)) : ∀ x ∈ stand src s fs, x ∈ stand src s (grown fs n w) := rnds_grown (stand_shut S src s) _ _ _ fun x hx => by simp at hx
theorem carry_grown {B : Book} {n x : Str} {w l : List Str} (S : Small (grown B.facts n w)) (h : l ∈ leastOf (goods B x)) : ((leastOf (goods ⟨B.src, grown B.facts n w⟩ x)).any fun o => o.all fun y => decide (y ∈ l)) = true := by
  obtain ⟨h1, h2⟩ := goods_iff.mp (leastOf_sub l h)
  have hg : l ∈ goods ⟨B.src, grown B.facts n w⟩ x := goods_iff.mpr ⟨h1, stand_grown S x h2⟩
  obtain ⟨o, ho, hs⟩ := leastOf_under hg
  exact List.any_eq_true.mpr ⟨o, ho, List.all_eq_true.mpr fun y hy => decide_eq_true (hs y hy)⟩
end KD

/-! LK3: the rounds in which facts come. -/
namespace KD
open PySem PySem.Spec L2 N
def came (src s : List Str) (fs : List Fact) : Nat → List Str
  | 0 => []
  | k + 1 => came src s fs k ++ fresh src s fs (came src s fs k)
theorem came_up {src s : List Str} {fs : List Fact} : ∀ {j k : Nat}, j ≤ k → ∀ x ∈ came src s fs j, x ∈ came src s fs k
  | j, 0, h, x, hx => by
    have : j = 0 := by omega
    rw [this] at hx
    exact hx
  | j, k + 1, h, x, hx => by
    rcases Nat.lt_or_ge j (k + 1) with q | q
    · exact List.mem_append_left _ (came_up (by omega) x hx)
    · have : j = k + 1 := by omega
      rw [this] at hx
      exact hx
/-- x comes in round m -/
structure In (src s : List Str) (fs : List Fact) (x : Str) (m : Nat) : Prop where
  pos : 1 ≤ m
  yes : x ∈ came src s fs m
  no : x ∉ came src s fs (m - 1)
theorem In.uniq {src s : List Str} {fs : List Fact} {x : Str} {m k : Nat} (h : In src s fs x m) (g : In src s fs x k) : m = k := by
  rcases Nat.lt_trichotomy m k with q | q | q
  · exact absurd (came_up (by have := g.pos; omega) x h.yes) g.no
  · exact q
  · exact absurd (came_up (by have := h.pos; omega) x g.yes) h.no
theorem rnds_in {src s : List Str} {fs : List Fact} : ∀ (K j : Nat) (found : List (Str × Int)), found.map (·.1) = came src s fs j → (∀ p ∈ found, ∃ m : Nat, p.2 = (m : Int) ∧ In src s fs p.1 m) → ∀ p ∈ rnds src s fs K found ((j + 1 : Nat) : Int), ∃ m : Nat, p.2 = (m : Int) ∧ In src s fs p.1 m
  | 0, _, _, _, h => h
  | K + 1, j, found, hf, h => by
    unfold rnds
    by_cases e : fresh src s fs (found.map (·.1)) = []
    · simp only [e, if_true]; exact h
    · simp only [e, if_false]
      have e2 : ((j + 1 : Nat) : Int) + 1 = ((j + 1 + 1 : Nat) : Int) := by omega
      rw [e2]
      refine rnds_in K (j + 1) _ ?_ fun p hp => ?_
      · rw [List.map_append, names_snd, hf]
        rfl
      · rcases List.mem_append.mp hp with q | q
        · exact h p q
        · obtain ⟨x, hx, rfl⟩ := List.mem_map.mp q
          refine ⟨j + 1, rfl, by omega, ?_, ?_⟩
          · rw [hf] at hx
            exact List.mem_append_right _ hx
          · rw [hf] at hx
            exact (fresh_new hx).1
abbrev RN (src s : List Str) (fs : List Fact) : List (Str × Int) := rnds src s fs (fs.length + 1) [] 1
theorem rn_in {src s : List Str} {fs : List Fact} {p : Str × Int} (h : p ∈ RN src s fs) : ∃ m : Nat, p.2 = (m : Int) ∧ In src s fs p.1 m := rnds_in (fs.length + 1) 0 [] rfl (fun p hp => by simp at hp) p h
theorem came_stand {fs : List Fact} (S : Small fs) (src s : List Str) : ∀ (k : Nat), ∀ x ∈ came src s fs k, x ∈ stand src s fs
  | 0, x, h => by simp [came] at h
  | k + 1, x, h => by
    rcases List.mem_append.mp h with q | q
    · exact came_stand S src s k x q
    · exact fresh_in (stand_shut S src s) (fun _ z => z) (came_stand S src s k) x q
theorem rn_of {fs : List Fact} (S : Small fs) {src s : List Str} {x : Str} {m : Nat} (h : In src s fs x m) : (x, (m : Int)) ∈ RN src s fs := by
  have hs := came_stand S src s m x h.yes
  obtain ⟨p, hp, e⟩ := List.mem_map.mp hs
  obtain ⟨k, e2, hk⟩ := rn_in hp
  rw [e] at hk
  have := h.uniq hk
  subst this
  have : p = (x, (m : Int)) := by
    obtain ⟨a, b⟩ := p
    simp only at e e2
    rw [e, e2]
  rw [← this]
  exact hp
theorem stand_in {fs : List Fact} {src s : List Str} {x : Str} (h : x ∈ stand src s fs) : ∃ m, In src s fs x m := by
  obtain ⟨p, hp, e⟩ := List.mem_map.mp h
  obtain ⟨m, _, hm⟩ := rn_in hp
  exact ⟨m, e ▸ hm⟩
/-- rounds no later -/
theorem no_later {src s s' : List Str} {fs fs' : List Fact} (hc : ∀ k, ∀ x ∈ came src s fs k, x ∈ came src s' fs' k) (S' : Small fs') {x : Str} {m : Nat} (h : In src s fs x m) : ∃ k, In src s' fs' x k ∧ k ≤ m := by
  obtain ⟨k, hk⟩ := stand_in (came_stand S' src s' m x (hc m x h.yes))
  refine ⟨k, hk, ?_⟩
  rcases Nat.lt_or_ge m k with q | q
  · exact absurd (came_up (by omega) x (hc m x h.yes)) hk.no
  · exact q
theorem fresh_less {src s s' c c' : List Str} {fs : List Fact} (hs : ∀ x ∈ s', x ∈ s) (hc : ∀ x ∈ c, x ∈ c') : ∀ x ∈ fresh src s fs c, x ∈ c' ++ fresh src s' fs c' := fun x hx => by
  unfold fresh at hx
  obtain ⟨f, hf, rfl⟩ := List.mem_map.mp hx
  obtain ⟨h1, h2⟩ := List.mem_filter.mp hf
  simp only [Bool.and_eq_true, List.any_eq_true] at h2
  obtain ⟨_, w, hw, ho⟩ := h2
  rcases Classical.em (f.1 ∈ c') with k | k
  · exact List.mem_append_left _ k
  · refine List.mem_append_right _ ?_
    unfold fresh
    refine List.mem_map_of_mem (List.mem_filter.mpr ⟨h1, ?_⟩)
    simp only [Bool.and_eq_true, List.any_eq_true, Bool.not_eq_true', decide_eq_false_iff_not]
    exact ⟨k, w, hw, opens_mono hs hc ho⟩
theorem came_less {src s s' : List Str} {fs : List Fact} (hs : ∀ x ∈ s', x ∈ s) : ∀ k, ∀ x ∈ came src s fs k, x ∈ came src s' fs k
  | 0, x, h => by simp [came] at h
  | k + 1, x, h => by
    rcases List.mem_append.mp h with q | q
    · exact List.mem_append_left _ (came_less hs k x q)
    · exact fresh_less hs (came_less hs k) x q
theorem fresh_more {src s c c' : List Str} {fs : List Fact} {n : Str} {w : List Str} (hc : ∀ x ∈ c, x ∈ c') : ∀ x ∈ fresh src s fs c, x ∈ c' ++ fresh src s (grown fs n w) c' := fun x hx => by
  unfold fresh at hx
  obtain ⟨f, hf, rfl⟩ := List.mem_map.mp hx
  obtain ⟨h1, h2⟩ := List.mem_filter.mp hf
  simp only [Bool.and_eq_true, List.any_eq_true] at h2
  obtain ⟨_, v, hv, ho⟩ := h2
  rcases Classical.em (f.1 ∈ c') with k | k
  · exact List.mem_append_left _ k
  · refine List.mem_append_right _ ?_
    have hm : (if f.1 = n then (f.1, f.2 ++ [w]) else f) ∈ grown fs n w := List.mem_map_of_mem (f := fun f : Fact => if f.1 = n then (f.1, f.2 ++ [w]) else f) h1
    have e1 : (if f.1 = n then (f.1, f.2 ++ [w]) else f).1 = f.1 := by split <;> rfl
    have e2 : v ∈ (if f.1 = n then (f.1, f.2 ++ [w]) else f).2 := by
      split
      · exact List.mem_append_left _ hv
      · exact hv
    generalize (if f.1 = n then (f.1, f.2 ++ [w]) else f) = g at hm e1 e2
    unfold fresh
    rw [← e1]
    refine List.mem_map_of_mem (List.mem_filter.mpr ⟨hm, ?_⟩)
    simp only [Bool.and_eq_true, List.any_eq_true, Bool.not_eq_true', decide_eq_false_iff_not]
    exact ⟨e1 ▸ k, v, e2, opens_mono (fun _ z => z) hc ho⟩
theorem came_more {src s : List Str} {fs : List Fact} {n : Str} {w : List Str} : ∀ k, ∀ x ∈ came src s fs k, x ∈ came src s (grown fs n w) k
  | 0, x, h => by simp [came] at h
  | k + 1, x, h => by
    rcases List.mem_append.mp h with q | q
    · exact List.mem_append_left _ (came_more k x q)
    · exact fresh_more (came_more k) x q
/-- each fact beyond round one has a way with a fact of the round ahead -/
theorem near {src s : List Str} {fs : List Fact} {f : Fact} {m : Nat} (nd : (fs.map (·.1)).Nodup) (hf : f ∈ fs) (h : In src s fs f.1 m) (h1 : 1 < m) :
    ∃ w ∈ f.2, (∀ x ∈ w, x ∈ src ∨ x ∈ came src s fs (m - 1)) ∧ ∃ x ∈ w, x ∉ src ∧ In src s fs x (m - 1) := by
  obtain ⟨k, rfl⟩ : ∃ k, m = k + 2 := ⟨m - 2, by omega⟩
  have hy := h.yes
  have hn := h.no
  show _
  have hfr : f.1 ∈ fresh src s fs (came src s fs (k + 1)) := by
    rcases List.mem_append.mp hy with q | q
    · exact absurd q hn
    · exact q
  unfold fresh at hfr
  obtain ⟨g, hg, e⟩ := List.mem_map.mp hfr
  obtain ⟨g1, g2⟩ := List.mem_filter.mp hg
  have hgf : g = f := by
    have hh := filter_one nd hf
    have hm : g ∈ fs.filter fun h => decide (h.1 = f.1) := List.mem_filter.mpr ⟨g1, decide_eq_true e⟩
    rw [hh] at hm
    exact List.mem_singleton.mp hm
  subst hgf
  simp only [Bool.and_eq_true, List.any_eq_true] at g2
  obtain ⟨_, w, hw, ho⟩ := g2
  have ho' := ho
  unfold opens at ho
  rw [List.all_eq_true] at ho
  refine ⟨w, hw, fun x hx => ?_, ?_⟩
  · have := ho x hx
    by_cases c : x ∈ src
    · exact .inl c
    · simp only [c, if_false, decide_eq_true_eq] at this
      exact .inr this
  · refine Classical.byContradiction fun hcon => ?_
    have hall : opens src s (came src s fs k) w = true := by
      unfold opens
      rw [List.all_eq_true]
      intro x hx
      have := ho x hx
      by_cases c : x ∈ src
      · simp only [c, if_true] at this ⊢
        exact this
      · simp only [c, if_false, decide_eq_true_eq] at this ⊢
        refine Classical.byContradiction fun hk => hcon ⟨x, hx, c, by omega, this, ?_⟩
        exact hk
    have : g.1 ∈ came src s fs (k + 1) := by
      rcases Classical.em (g.1 ∈ came src s fs k) with q | q
      · exact List.mem_append_left _ q
      · refine List.mem_append_right _ ?_
        unfold fresh
        refine List.mem_map_of_mem (List.mem_filter.mpr ⟨g1, ?_⟩)
        simp only [Bool.and_eq_true, List.any_eq_true, Bool.not_eq_true', decide_eq_false_iff_not]
        exact ⟨q, w, hw, hall⟩
    exact hn this
end KD

/-! LK3b: names turned into others. -/
namespace KD
open PySem PySem.Spec L2 N
def rho (x : Str) : Str := ("x" : Str) ++ x
theorem rho_cps (x : Str) : (rho x).cps.toList = 120 :: x.cps.toList := by
  show ((("x" : Str).cps ++ x.cps : Array Nat)).toList = _
  rw [Array.toList_append]
  rfl
theorem rho_inj {x y : Str} (h : rho x = rho y) : x = y := by
  have := congrArg (fun z : Str => z.cps.toList) h
  simp only [rho_cps, List.cons.injEq, true_and] at this
  exact PySem.W.str_of_cps this
theorem mem_rho {x : Str} {l : List Str} : rho x ∈ l.map rho ↔ x ∈ l := by
  rw [List.mem_map]
  constructor
  · rintro ⟨y, hy, e⟩
    rw [← rho_inj e]; exact hy
  · exact fun h => ⟨x, h, rfl⟩
def reF (f : Fact) : Fact := (rho f.1, f.2.map (·.map rho))
theorem opens_re (src s c w : List Str) : opens (src.map rho) (s.map rho) (c.map rho) (w.map rho) = opens src s c w := by
  unfold opens
  rw [List.all_map]
  congr 1
  funext x
  show (if rho x ∈ src.map rho then decide (rho x ∉ s.map rho) else decide (rho x ∈ c.map rho)) = _
  simp only [mem_rho]
theorem fresh_re (src s c : List Str) (fs : List Fact) : fresh (src.map rho) (s.map rho) (fs.map reF) (c.map rho) = (fresh src s fs c).map rho := by
  unfold fresh
  rw [List.filter_map, List.map_map, List.map_map]
  have e : (fun f : Fact => !decide (f.1 ∈ c.map rho) && f.2.any (opens (src.map rho) (s.map rho) (c.map rho))) ∘ reF = fun f : Fact => !decide (f.1 ∈ c) && f.2.any (opens src s c) := by
    funext f
    show (!decide (rho f.1 ∈ c.map rho) && (f.2.map (·.map rho)).any (opens (src.map rho) (s.map rho) (c.map rho))) = _
    simp only [mem_rho]
    rw [List.any_map]
    congr 2
    funext w
    exact opens_re src s c w
  rw [e]
  rfl
def reP (p : Str × Int) : Str × Int := (rho p.1, p.2)
theorem rnds_re (src s : List Str) (fs : List Fact) : ∀ (K : Nat) (found : List (Str × Int)) (n : Int), rnds (src.map rho) (s.map rho) (fs.map reF) K (found.map reP) n = (rnds src s fs K found n).map reP
  | 0, _, _ => rfl
  | K + 1, found, n => by
    unfold rnds
    have e1 : (found.map reP).map (·.1) = (found.map (·.1)).map rho := by rw [List.map_map, List.map_map]; rfl
    rw [e1, fresh_re]
    by_cases e : fresh src s fs (found.map (·.1)) = []
    · simp only [e, List.map_nil, if_true]
    · have e2 : (fresh src s fs (found.map (·.1))).map rho ≠ [] := fun h => e (List.map_eq_nil_iff.mp h)
      simp only [e, e2, if_false]
      rw [← rnds_re src s fs K, List.map_append, List.map_map, List.map_map]
      rfl
theorem rn_re (src s : List Str) (fs : List Fact) : RN (src.map rho) (s.map rho) (fs.map reF) = (RN src s fs).map reP := by
  unfold RN
  rw [List.length_map]
  exact rnds_re src s fs _ [] 1
theorem re_small {fs : List Fact} (S : Small fs) : Small (fs.map reF) where
  nd := by
    rw [List.map_map]
    have := List.Pairwise.map (S := fun a b : Str => a ≠ b) rho (fun a b hne e => hne (rho_inj e)) S.nd
    rw [List.map_map] at this
    exact this
  few := by rw [List.length_map]; exact S.few
  ways := fun g hg => by
    obtain ⟨f, hf, rfl⟩ := List.mem_map.mp hg
    show (f.2.map _).length ≤ 1000
    rw [List.length_map]; exact S.ways f hf
  way := fun g hg w hw => by
    obtain ⟨f, hf, rfl⟩ := List.mem_map.mp hg
    obtain ⟨v, hv, rfl⟩ := List.mem_map.mp hw
    rw [List.length_map]; exact S.way f hf v hv
/-! ### pairs in order -/
def pairD (p : Str × Int) : D := .tuple [.str p.1, .int p.2]
def srtP (rs : List (Str × Int)) : List (Str × Int) := rs.mergeSort fun a b => dle (pairD a) (pairD b)
theorem srtP_perm (rs : List (Str × Int)) : (srtP rs).Perm rs := List.mergeSort_perm _ _
theorem srt_pairs (rs : List (Str × Int)) : srt (pairs rs) = pairs (srtP rs) := by
  unfold srt pairs srtP
  exact (List.map_mergeSort (r := fun a b => dle (pairD a) (pairD b)) (s := PySem.W.dataLe false fun x => x) (f := pairD) fun a _ b _ => rfl).symm
open PyProof.Rows in
theorem lt_rho (A B : List Nat) : itemLt (Sum.inr (120 :: A)) (Sum.inr (120 :: B)) = itemLt (Sum.inr A) (Sum.inr B) := by
  show decide ((120 :: A) < (120 :: B)) = decide (A < B)
  congr 1
  rw [List.cons_lt_cons_iff]
  simp
open PyProof.Rows in
theorem lex_rho (A B : List Nat) (r t : List (Int ⊕ List Nat)) : lexLt itemOrd ((Sum.inr (120 :: A) : Int ⊕ List Nat) :: r) ((Sum.inr (120 :: B) : Int ⊕ List Nat) :: t) = lexLt itemOrd ((Sum.inr A : Int ⊕ List Nat) :: r) ((Sum.inr B : Int ⊕ List Nat) :: t) := by
  by_cases e : A = B
  · subst e
    exact (lex_self (O := itemOrd) (Sum.inr (120 :: A) : Int ⊕ List Nat) r t).trans (lex_self (O := itemOrd) (Sum.inr A : Int ⊕ List Nat) r t).symm
  · exact (lex_diff (O := itemOrd) (x := (Sum.inr (120 :: A) : Int ⊕ List Nat)) (y := (Sum.inr (120 :: B) : Int ⊕ List Nat)) (r := r) (t := t) (fun h => e (by simpa using h))).trans ((lt_rho A B).trans (lex_diff (O := itemOrd) (x := (Sum.inr A : Int ⊕ List Nat)) (y := (Sum.inr B : Int ⊕ List Nat)) (r := r) (t := t) (fun h => e (by simpa using h))).symm)
open PyProof.Rows in
theorem dle_rho (a b : Str × Int) : dle (pairD (reP a)) (pairD (reP b)) = dle (pairD a) (pairD b) := by
  rw [dle_lt, dle_lt]
  congr 1
  show lexLt itemOrd ((Sum.inl 1 : Int ⊕ List Nat) :: Sum.inr (rho b.1).cps.toList :: Sum.inl 1 :: Sum.inl b.2 :: [Sum.inl 0]) ((Sum.inl 1 : Int ⊕ List Nat) :: Sum.inr (rho a.1).cps.toList :: Sum.inl 1 :: Sum.inl a.2 :: [Sum.inl 0])
    = lexLt itemOrd ((Sum.inl 1 : Int ⊕ List Nat) :: Sum.inr b.1.cps.toList :: Sum.inl 1 :: Sum.inl b.2 :: [Sum.inl 0]) ((Sum.inl 1 : Int ⊕ List Nat) :: Sum.inr a.1.cps.toList :: Sum.inl 1 :: Sum.inl a.2 :: [Sum.inl 0])
  refine (lex_self (O := itemOrd) (Sum.inl 1 : Int ⊕ List Nat) _ _).trans (Eq.trans ?_ (lex_self (O := itemOrd) (Sum.inl 1 : Int ⊕ List Nat) _ _).symm)
  rw [rho_cps, rho_cps]
  exact lex_rho _ _ _ _
theorem srtP_re (rs : List (Str × Int)) : srtP (rs.map reP) = (srtP rs).map reP := by
  unfold srtP
  exact (List.map_mergeSort (r := fun a b => dle (pairD a) (pairD b)) (s := fun a b => dle (pairD a) (pairD b)) (f := reP) fun a _ b _ => (dle_rho a b).symm).symm
end KD

namespace N
open PySem PySem.Spec L2 PyProof.Rows N
abbrev n__law_opens : List Str := [("book" : Str), ("struck" : Str), ("way" : Str), ("came" : Str), ("name" : Str)]
abbrev p__law_opens : List Str := [("book" : Str), ("struck" : Str), ("way" : Str), ("came" : Str)]
def B__law_opens_1 : SM :=
    (dIfS (dOr (dTst (dBin (oIn false) (eVar 4) (eVar 1))) (dAnd (dTst (dBin (oIn true) (eVar 4) (dBin oIx (eVar 0) (eC (.int 0))))) (dTst (dBin (oIn true) (eVar 4) (eVar 3))))) (dRet (eC (.bool false))) dSkip)
def L__law_opens_1 : SM :=
    (dFor (dItS (eVar 2)) (.nm 4) B__law_opens_1)
def D__law_opens : SM :=
    (dSeq L__law_opens_1
    (dRet (eC (.bool true))))
def F__law_opens : List D → M R := fnP 5 D__law_opens
abbrev n__law_rounds : List Str := [("book" : Str), ("struck" : Str), ("found" : Str), ("came" : Str), ("turn" : Str), ("fresh" : Str), ("fact" : Str), ("ways" : Str), ("good" : Str), ("way" : Str)]
abbrev p__law_rounds : List Str := [("book" : Str), ("struck" : Str)]
def C__law_rounds_1 : En → M R :=
    (dLc (dItE (eVar 7)) (.nm 9) [9] (dTst (dCall (opC 4 F__law_opens) (dCons (eVar 0) (dCons (eVar 1) (dCons (eVar 9) (dCons (eVar 3) dNil)))))) (eVar 9))
def B__law_rounds_1 : SM :=
    (dSeq (dSet 8 slF C__law_rounds_1)
    (dIfS (dAnd (dTst (dBin (oIn true) (eVar 6) (eVar 3))) (dTst (dBin (oEq true) (eVar 8) (dCall oLst dNil)))) (dApp 5 (eVar 6)) dSkip))
def L__law_rounds_1 : SM :=
    (dFor (dItS (dBin oIx (eVar 0) (eC (.int 1)))) (.tp [(.nm 6), (.nm 7)]) B__law_rounds_1)
def B__law_rounds_2 : SM :=
    (dSeq (dSet 5 slO (dCall oLst dNil))
    (dSeq L__law_rounds_1
    (dSeq (dFrz 5 (dApp 2 (eVar 5)))
    (dSet 3 slF (dBin oAdd (eVar 3) (eVar 5))))))
def L__law_rounds_2 : SM :=
    (dFor (dItC itR1 (dCons (dBin oAdd (dCall (op1 oLen) (dCons (dBin oIx (eVar 0) (eC (.int 1))) dNil)) (eC (.int 1))) dNil)) (.nm 4) B__law_rounds_2)
def D__law_rounds : SM :=
    (dSeq (dPar 2 3 slO slF (dCons (dCall oLst dNil) (dCons (dCall oLst dNil) dNil)))
    (dSeq L__law_rounds_2
    (dRetVar 2)))
def F__law_rounds : List D → M R := fnP 10 D__law_rounds
abbrev n__law_came : List Str := [("book" : Str), ("struck" : Str), ("found" : Str), ("fresh" : Str)]
abbrev p__law_came : List Str := [("book" : Str), ("struck" : Str)]
def B__law_came_1 : SM :=
    (dSet 2 slF (dBin oAdd (eVar 2) (eVar 3)))
def L__law_came_1 : SM :=
    (dFor (dItS (dCall (opC 2 F__law_rounds) (dCons (eVar 0) (dCons (eVar 1) dNil)))) (.nm 3) B__law_came_1)
def D__law_came : SM :=
    (dSeq (dSet 2 slF (dCall oLst dNil))
    (dSeq L__law_came_1
    (dRetVar 2)))
def F__law_came : List D → M R := fnP 4 D__law_came
abbrev n__law_lots : List Str := [("names" : Str), ("found" : Str), ("name" : Str), ("lot" : Str), ("size" : Str)]
abbrev p__law_lots : List Str := [("names" : Str)]
def C__law_lots_1 : En → M R :=
    (dLc (dItE (eVar 1)) (.nm 3) [3] dYes (dBin oAdd (eVar 3) (dCall oTup (dCons (eVar 2) dNil))))
def B__law_lots_1 : SM :=
    (dSet 1 slF (dBin oAdd (eVar 1) C__law_lots_1))
def L__law_lots_1 : SM :=
    (dFor (dItS (eVar 0)) (.nm 2) B__law_lots_1)
def C__law_lots_2 : En → M R :=
    (dLc (dItE (eVar 1)) (.nm 3) [3] dYes (dCall oTup (dCons (dCall (op1 oLen) (dCons (eVar 3) dNil)) (dCons (eVar 3) dNil))))
def C__law_lots_3 : En → M R :=
    (dLc (dItE (dCall (op1 oSorted) (dCons C__law_lots_2 dNil))) (.tp [(.nm 4), (.nm 3)]) [4, 3] dYes (eVar 3))
def D__law_lots : SM :=
    (dSeq (dSet 1 slF (dCall oLst (dCons (dCall oTup dNil) dNil)))
    (dSeq L__law_lots_1
    (dRet C__law_lots_3)))
def F__law_lots : List D → M R := fnP 5 D__law_lots
end N

/-! LR: the law's rounds, what came. -/
namespace KD
open PySem PySem.Spec L2 N

/-! ### the law's rounds -/
def lgood (src struck came : List Str) (x : Str) : Bool := !(decide (x ∈ struck) || (!decide (x ∈ src) && !decide (x ∈ came)))
theorem opens_turn {B : Book} {struck w came : List Str} {x : Str} {st : Sto} :
    B__law_opens_1 [some (.d (eBook B)), some (.d (eStrs struck)), some (.d (eStrs w)), some (.d (.list (came.map .str))), some (.d (.str x))] st =
      .ok (if lgood B.src struck came x = true then .nx else .ret (.d (.bool false)), [some (.d (eBook B)), some (.d (eStrs struck)), some (.d (eStrs w)), some (.d (.list (came.map .str))), some (.d (.str x))]) st := by
  have hB : eBook B = .tuple [eStrs B.src, .tuple (B.facts.map eFact)] := rfl
  rw [hB]
  unfold B__law_opens_1 lgood
  by_cases h1 : x ∈ struck
  · simp [-List.map_map, h1]
  · by_cases h2 : x ∈ B.src
    · simp [-List.map_map, h1, h2]
    · by_cases h3 : x ∈ came <;> simp [-List.map_map, h1, h2, h3]
theorem opens_loop {B : Book} {struck w came : List Str} {st : Sto} : ∀ (xs : List Str) (j : Option R), ∃ j', forGo (.nm 4) B__law_opens_1 (xs.map .str) [some (.d (eBook B)), some (.d (eStrs struck)), some (.d (eStrs w)), some (.d (.list (came.map .str))), j] st =
    .ok (if xs.all (lgood B.src struck came) = true then .nx else .ret (.d (.bool false)), [some (.d (eBook B)), some (.d (eStrs struck)), some (.d (eStrs w)), some (.d (.list (came.map .str))), j']) st
  | [], j => ⟨j, rfl⟩
  | x :: xs, j => by
    have t := opens_turn (B := B) (struck := struck) (w := w) (came := came) (x := x) (st := st)
    cases h : lgood B.src struck came x with
    | true =>
      obtain ⟨j', e⟩ := opens_loop xs (some (.d (.str x)))
      refine ⟨j', ?_⟩
      rw [h] at t
      rw [List.map_cons, forGo_cons rfl t, e]
      simp [h]
    | false =>
      refine ⟨some (.d (.str x)), ?_⟩
      rw [h] at t
      rw [List.map_cons, forGo_ret rfl t]
      simp [h]
theorem lopens_ok {B : Book} {struck w came : List Str} {st : Sto} : F__law_opens [eBook B, eStrs struck, eStrs w, .list (came.map .str)] st = .ok (.d (.bool (w.all (lgood B.src struck came)))) st := by
  obtain ⟨j', e⟩ := opens_loop (B := B) (struck := struck) (w := w) (came := came) (st := st) w none
  have el : L__law_opens_1 [some (.d (eBook B)), some (.d (eStrs struck)), some (.d (eStrs w)), some (.d (.list (came.map .str))), none] st = _ := (dFor_ok (p := .nm 4) (S := B__law_opens_1) (xs := w.map .str) rfl).trans e
  cases h : w.all (lgood B.src struck came) with
  | true =>
    rw [h] at el
    simp [F__law_opens, fnP, D__law_opens, env0, el]
  | false =>
    rw [h] at el
    simp [F__law_opens, fnP, D__law_opens, env0, el]
def lfresh (src struck : List Str) (fs : List Fact) (came : List Str) : List Str := (fs.filter fun f => !decide (f.1 ∈ came) && f.2.any fun w => w.all (lgood src struck came)).map (·.1)
theorem lfresh_eq {src struck : List Str} (h : ∀ x ∈ struck, x ∈ src) (fs : List Fact) (came : List Str) : lfresh src struck fs came = fresh src struck fs came := by
  have e : ∀ x, lgood src struck came x = (if x ∈ src then decide (x ∉ struck) else decide (x ∈ came)) := fun x => by
    unfold lgood
    by_cases h2 : x ∈ src
    · simp [h2]
    · have h1 : x ∉ struck := fun z => h2 (h x z)
      simp [h2, h1]
  unfold lfresh fresh opens
  simp only [funext e]
abbrev lenv (bk struck : D) (found : List D) (came : List Str) (j4 : Option R) (fr : List Str) (j6 j7 j8 j9 : Option R) : En := [some (.d bk), some (.d struck), some (.l true found), some (.d (.list (came.map .str))), j4, some (.l true (fr.map .str)), j6, j7, j8, j9]
theorem lrow {B : Book} {struck : List Str} {found : List D} {came fr : List Str} {j4 j6 j7 j8 j9 : Option R} {st : Sto} {f : Fact} (hw : f.2.length ≤ 1000) (hf : fr.length ≤ 1000) :
    ∃ j8', B__law_rounds_1 (lenv (eBook B) (eStrs struck) found came j4 fr (some (.d (.str f.1))) (some (.d (.tuple (f.2.map eStrs)))) j8 j9) st =
      .ok (.nx, lenv (eBook B) (eStrs struck) found came j4 (fr ++ if (!decide (f.1 ∈ came) && f.2.any fun w => w.all (lgood B.src struck came)) = true then [f.1] else []) (some (.d (.str f.1))) (some (.d (.tuple (f.2.map eStrs)))) j8' j9) st := by
  refine ⟨some (.d (.list ((f.2.filter fun w => w.all (lgood B.src struck came)).map eStrs))), ?_⟩
  have e1 : C__law_rounds_1 (lenv (eBook B) (eStrs struck) found came j4 fr (some (.d (.str f.1))) (some (.d (.tuple (f.2.map eStrs)))) j8 j9) st = .ok (.l true ((f.2.filter fun w => w.all (lgood B.src struck came)).map eStrs)) st := by
    refine dLc_filter (enc := eStrs) _ _ (by simp) (by omega) fun w _ => ?_
    refine lcStep_if (r := .d (eStrs w)) (e1 := lenv (eBook B) (eStrs struck) found came j4 fr (some (.d (.str f.1))) (some (.d (.tuple (f.2.map eStrs)))) j8 (some (.d (eStrs w)))) rfl ?_ (fun _ => rfl) rfl
    have := lopens_ok (B := B) (struck := struck) (w := w) (came := came) (st := [.c])
    simp [-List.map_map, this]
  have e2 : ∀ l : List (List Str), oEq true (.d (.list (l.map eStrs))) (.l true []) st = .ok (.d (.bool (!l.isEmpty))) st := fun l => by
    have ok : okD (.list (l.map eStrs)) = true := (dp_list (n := 1) (dp_map fun x => dp_tuple (dp_strs x))).ok
    rw [oEq_pk (x := .list (l.map eStrs)) (y := .list []) rfl rfl ok rfl]
    cases l <;> simp [PyData.eqv, PyData.eqvAll]
  have e3 : ∀ l : List (List Str), (!(l.filter fun w => w.all (lgood B.src struck came)).isEmpty) = l.any fun w => w.all (lgood B.src struck came) := fun l => by
    induction l with
    | nil => rfl
    | cons w l ih =>
      rw [List.filter_cons, List.any_cons, ← ih]
      cases w.all (lgood B.src struck came) <;> simp
  have e4 := e2 (f.2.filter fun w => w.all (lgood B.src struck came))
  rw [e3] at e4
  generalize (f.2.filter fun w => w.all (lgood B.src struck came)).map eStrs = gd at e1 e4 ⊢
  generalize (f.2.any fun w => w.all (lgood B.src struck came)) = t at e4 ⊢
  have ch := chk_own (i := 5) (st := st) (env := lenv (eBook B) (eStrs struck) found came j4 fr (some (.d (.str f.1))) (some (.d (.tuple (f.2.map eStrs)))) (some (.d (.list gd))) j9) rfl
  have mu := mut_own (i := 5) (st := st) (up := pushL (.str f.1)) (env := lenv (eBook B) (eStrs struck) found came j4 fr (some (.d (.str f.1))) (some (.d (.tuple (f.2.map eStrs)))) (some (.d (.list gd))) j9) rfl (push_d (xs := fr.map .str) (by simp; omega))
  have z0 : 0 ≤ sizeLine := Nat.zero_le _
  by_cases h : f.1 ∈ came
  · simp [-List.map_map, B__law_rounds_1, e1, h]
  · cases t with
    | false => simp [-List.map_map, B__law_rounds_1, e1, h, e4]
    | true => simp [-List.map_map, B__law_rounds_1, e1, h, e4, ch, mu]


theorem fresh_len (src struck : List Str) (fs : List Fact) (came : List Str) : (fresh src struck fs came).length ≤ fs.length := by
  unfold fresh
  rw [List.length_map]
  exact List.length_filter_le _ _
theorem lrows {B : Book} {struck : List Str} {found : List D} {came : List Str} {j4 j6 j7 j8 j9 : Option R} {st : Sto} (S : Small B.facts) (hs : ∀ x ∈ struck, x ∈ B.src) :
    ∃ j6' j7' j8', L__law_rounds_1 (lenv (eBook B) (eStrs struck) found came j4 [] j6 j7 j8 j9) st = .ok (.nx, lenv (eBook B) (eStrs struck) found came j4 (fresh B.src struck B.facts came) j6' j7' j8' j9) st := by
  rw [← lfresh_eq hs]
  obtain ⟨env', st', c1, c2⟩ := forGo_inv (S := B__law_rounds_1) (p := .tp [.nm 6, .nm 7]) (enc := eFact) (fun k env st' => st' = st ∧ ∃ j6 j7 j8, env = lenv (eBook B) (eStrs struck) found came j4 (lfresh B.src struck (B.facts.take k) came) j6 j7 j8 j9)
    B.facts 0 (lenv (eBook B) (eStrs struck) found came j4 [] j6 j7 j8 j9) st ⟨rfl, j6, j7, j8, rfl⟩ fun i f env st' ex ⟨es, j6, j7, j8, ee⟩ => by
      subst es ee
      have hf := List.mem_of_getElem? ex
      have hlen : (lfresh B.src struck (B.facts.take (0 + i)) came).length ≤ 1000 := by
        rw [lfresh_eq hs]
        refine Nat.le_trans (fresh_len _ _ _ _) ?_
        have := S.few
        rw [List.length_take]; omega
      obtain ⟨j8', e⟩ := lrow (B := B) (struck := struck) (found := found) (came := came) (j4 := j4) (j6 := none) (j7 := none) (j8 := j8) (j9 := j9) (st := st') (f := f) (S.ways f hf) hlen
      have hk : lfresh B.src struck (B.facts.take (0 + i)) came ++ (if (!decide (f.1 ∈ came) && f.2.any fun w => w.all (lgood B.src struck came)) = true then [f.1] else []) = lfresh B.src struck (B.facts.take (0 + i + 1)) came := by
        unfold lfresh
        rw [Nat.zero_add, List.take_add_one, ex, List.filter_append, List.map_append]
        congr 1
        simp only [Option.toList, List.filter_cons, List.filter_nil]
        split <;> simp
      rw [hk] at e
      exact ⟨_, _, _, by simp [eFact], e, rfl, some (.d (.str f.1)), some (.d (.tuple (f.2.map eStrs))), j8', rfl⟩
  obtain ⟨rfl, j6', j7', j8', rfl⟩ := c2
  refine ⟨j6', j7', j8', ?_⟩
  rw [Nat.zero_add, List.take_length] at c1
  unfold L__law_rounds_1
  rw [dFor_ok (st1 := st') (xs := B.facts.map eFact) (by simp [eBook])]
  exact c1


abbrev eL (fr : List Str) : D := .list (fr.map .str)
abbrev renv2 (bk struck : D) (found : List (List Str)) (came : List Str) (j4 j5 j6 j7 j8 j9 : Option R) : En := [some (.d bk), some (.d struck), some (.l true (found.map eL)), some (.d (.list (came.map .str))), j4, j5, j6, j7, j8, j9]
theorem lturn {B : Book} {struck : List Str} {found : List (List Str)} {came : List Str} {j4 j5 j6 j7 j8 j9 : Option R} {st : Sto} (S : Small B.facts) (hs : ∀ x ∈ struck, x ∈ B.src) (hf : found.length ≤ 10000) (hc : came.length ≤ 900) :
    ∃ j5' j6' j7' j8', B__law_rounds_2 (renv2 (eBook B) (eStrs struck) found came j4 j5 j6 j7 j8 j9) st = .ok (.nx, renv2 (eBook B) (eStrs struck) (found ++ [fresh B.src struck B.facts came]) (came ++ fresh B.src struck B.facts came) j4 j5' j6' j7' j8' j9) st := by
  obtain ⟨j6', j7', j8', e⟩ := lrows (found := found.map eL) (came := came) (j4 := j4) (j6 := j6) (j7 := j7) (j8 := j8) (j9 := j9) (st := st) S hs
  have hl := fresh_len B.src struck B.facts came
  have hfew := S.few
  generalize fresh B.src struck B.facts came = fr at e hl ⊢
  refine ⟨some (.d (eL fr)), j6', j7', j8', ?_⟩
  have z0 : 0 ≤ sizeLine := Nat.zero_le _
  have z1 : came.length + fr.length ≤ sizeLine := Nat.le_trans (by omega) sizeLine_big
  have fz : frzEn 5 (lenv (eBook B) (eStrs struck) (found.map eL) came j4 fr j6' j7' j8' j9) = renv2 (eBook B) (eStrs struck) found came j4 (some (.d (eL fr))) j6' j7' j8' j9 := rfl
  have ch := chk_own (i := 2) (st := st) (env := renv2 (eBook B) (eStrs struck) found came j4 (some (.d (eL fr))) j6' j7' j8' j9) rfl
  have mu := mut_own (i := 2) (st := st) (up := pushL (eL fr)) (env := renv2 (eBook B) (eStrs struck) found came j4 (some (.d (eL fr))) j6' j7' j8' j9) rfl (push_d (xs := found.map eL) (by simp; omega))
  have e' : L__law_rounds_1 [some (.d (eBook B)), some (.d (eStrs struck)), some (.l true (found.map eL)), some (.d (.list (came.map .str))), j4, some (.l true []), j6, j7, j8, j9] st = _ := e
  simp [-List.map_map, B__law_rounds_2, z0, e', fz, ch, mu, z1]


def lr (src struck : List Str) (fs : List Fact) : Nat → List Str → List (List Str)
  | 0, _ => []
  | k + 1, came => fresh src struck fs came :: lr src struck fs k (came ++ fresh src struck fs came)
theorem lrounds_ok {B : Book} {struck : List Str} {st : Sto} (S : Small B.facts) (hs : ∀ x ∈ struck, x ∈ B.src) : F__law_rounds [eBook B, eStrs struck] st = .ok (.l true ((lr B.src struck B.facts (B.facts.length + 1) []).map eL)) st := by
  have hfew := S.few
  obtain ⟨env', st', c1, c2⟩ := forGo_inv (S := B__law_rounds_2) (p := .nm 4) (enc := fun (i : Nat) => PyData.int (i : Int)) (fun k env st' => st' = st ∧ ∃ (found : List (List Str)) (j4 j5 j6 j7 j8 j9 : Option R), env = renv2 (eBook B) (eStrs struck) found found.flatten j4 j5 j6 j7 j8 j9 ∧ found.length = k ∧ Inn B.facts found.flatten ∧ found ++ lr B.src struck B.facts (B.facts.length + 1 - k) found.flatten = lr B.src struck B.facts (B.facts.length + 1) [])
    (List.range (B.facts.length + 1)) 0 (renv2 (eBook B) (eStrs struck) [] [] none none none none none none) st ⟨rfl, [], none, none, none, none, none, none, rfl, rfl, Inn.nil _, by rw [Nat.sub_zero]; simp⟩ fun i x env st' ex ⟨es, found, j4, j5, j6, j7, j8, j9, ee, hl, I, hr⟩ => by
      subst es ee
      have hi : i < B.facts.length + 1 := by have := (List.getElem?_eq_some_iff.mp ex).1; simpa using this
      obtain ⟨j5', j6', j7', j8', e⟩ := lturn (found := found) (came := found.flatten) (j4 := some (.d (.int (x : Int)))) (j5 := j5) (j6 := j6) (j7 := j7) (j8 := j8) (j9 := j9) (st := st') S hs (by omega) (by have := I.len; omega)
      refine ⟨_, _, _, rfl, e, rfl, found ++ [fresh B.src struck B.facts found.flatten], some (.d (.int (x : Int))), j5', j6', j7', j8', j9, ?_, by simp; omega, ?_, ?_⟩
      · simp [renv2]
      · simpa using I.more S B.src struck
      · rw [← hr]
        have hk : B.facts.length + 1 - (0 + i) = (B.facts.length + 1 - (0 + i + 1)) + 1 := by omega
        rw [hk]
        generalize B.facts.length + 1 - (0 + i + 1) = q
        show _ = found ++ (fresh B.src struck B.facts found.flatten :: lr B.src struck B.facts q (found.flatten ++ fresh B.src struck B.facts found.flatten))
        simp
  obtain ⟨rfl, found, j4, j5, j6, j7, j8, j9, rfl, hl, I, hr⟩ := c2
  have hfound : found = lr B.src struck B.facts (B.facts.length + 1) [] := by
    rw [← hr]
    simp only [List.length_range, Nat.zero_add, Nat.sub_self]
    simp [lr]
  rw [← hfound]
  have el : L__law_rounds_2 (renv2 (eBook B) (eStrs struck) [] [] none none none none none none) st' = .ok (.nx, renv2 (eBook B) (eStrs struck) found found.flatten j4 j5 j6 j7 j8 j9) st' := by
    have hr1 := itR1_nat (n := B.facts.length + 1) (st := st') (by omega)
    generalize (List.range (B.facts.length + 1)).map (fun (i : Nat) => PyData.int (i : Int)) = rg at hr1 c1
    have hit : dItC itR1 (dCons (dBin oAdd (dCall (op1 oLen) (dCons (dBin oIx (eVar 0) (eC (.int 1))) dNil)) (eC (.int 1))) dNil) (renv2 (eBook B) (eStrs struck) [] [] none none none none none none) st' = .ok rg st' := by
      rw [Int.natCast_add] at hr1
      have h0 : dBin oAdd (dCall (op1 oLen) (dCons (dBin oIx (eVar 0) (eC (.int 1))) dNil)) (eC (.int 1)) (renv2 (eBook B) (eStrs struck) [] [] none none none none none none) st' = .ok (.d (.int ((B.facts.map eFact).length + 1))) st' := rfl
      rw [List.length_map] at h0
      rw [x_dItC, bind_at, x_cons, bind_at, h0]
      exact hr1
    unfold L__law_rounds_2
    rw [dFor_ok hit]
    exact c1
  have z0 : 0 ≤ sizeLine := Nat.zero_le _
  have hl : ∀ env, dCall oLst dNil env st' = .ok (.l true []) st' := fun env => by
    rw [x_call, bind_at, x_nil]
    show oLst [] st' = _
    rw [x_oLst, x_kpnil]
    show (if 0 ≤ sizeLine then _ else _) = _
    rw [if_pos z0]
  have ha : dCons (dCall oLst dNil) (dCons (dCall oLst dNil) dNil) (env0 10 [eBook B, eStrs struck]) st' = .ok [.l true [], .l true []] st' := by
    rw [x_cons, bind_at, hl]
    show (dCons (dCall oLst dNil) dNil (env0 10 [eBook B, eStrs struck]) >>= fun rs => M.ret (_ :: rs)) st' = _
    rw [bind_at, x_cons, bind_at, hl]
    rfl
  have p1 : dPar 2 3 slO slF (dCons (dCall oLst dNil) (dCons (dCall oLst dNil) dNil)) (env0 10 [eBook B, eStrs struck]) st' = .ok (.nx, renv2 (eBook B) (eStrs struck) [] [] none none none none none none) st' := by
    rw [x_par, bind_at, ha]
    rfl
  have hD : D__law_rounds (env0 10 [eBook B, eStrs struck]) st' = .ok (.ret (.l true (found.map eL)), renv2 (eBook B) (eStrs struck) found found.flatten j4 j5 j6 j7 j8 j9) st' := by
    unfold D__law_rounds
    rw [seq_nx p1, seq_nx el]
    unfold dRetVar
    rfl
  exact fnP_ret hD


theorem lr_inn {fs : List Fact} (S : Small fs) (src struck : List Str) : ∀ (k : Nat) (came : List Str), Inn fs came → Inn fs (came ++ (lr src struck fs k came).flatten)
  | 0, came, h => by
    show Inn fs (came ++ [])
    rw [List.append_nil]; exact h
  | k + 1, came, h => by
    have := lr_inn S src struck k (came ++ fresh src struck fs came) (h.more S src struck)
    rw [List.append_assoc] at this
    exact this
theorem lr_len {fs : List Fact} (S : Small fs) (src struck : List Str) (k : Nat) : (lr src struck fs k []).flatten.length ≤ 900 := by
  have := (lr_inn S src struck k [] (Inn.nil fs)).len
  have h := S.few
  rw [List.nil_append] at this
  omega
theorem came_turns {bk sk : D} {st : Sto} : ∀ (ls : List (List Str)) (acc : List Str) (j : Option R), acc.length + ls.flatten.length ≤ 1000 →
    ∃ j', forGo (.nm 3) B__law_came_1 (ls.map eL) [some (.d bk), some (.d sk), some (.d (eL acc)), j] st = .ok (.nx, [some (.d bk), some (.d sk), some (.d (eL (acc ++ ls.flatten))), j']) st
  | [], acc, j, _ => ⟨j, by rw [List.flatten_nil, List.append_nil]; rfl⟩
  | l :: ls, acc, j, h => by
    rw [List.flatten_cons, List.length_append] at h
    obtain ⟨j', e⟩ := came_turns (bk := bk) (sk := sk) (st := st) ls (acc ++ l) (some (.d (eL l))) (by rw [List.length_append]; omega)
    refine ⟨j', ?_⟩
    have z : acc.length + l.length ≤ sizeLine := Nat.le_trans (by omega) sizeLine_big
    have t : B__law_came_1 [some (.d bk), some (.d sk), some (.d (eL acc)), some (.d (eL l))] st = .ok (.nx, [some (.d bk), some (.d sk), some (.d (eL (acc ++ l))), some (.d (eL l))]) st := by
      simp [B__law_came_1, z]
    rw [List.map_cons, forGo_cons rfl t, e, List.flatten_cons, List.append_assoc]
theorem came_ok {B : Book} {struck : List Str} {st : Sto} (S : Small B.facts) (hs : ∀ x ∈ struck, x ∈ B.src) : F__law_came [eBook B, eStrs struck] st = .ok (.d (eL (lr B.src struck B.facts (B.facts.length + 1) []).flatten)) st := by
  have e0 := lrounds_ok (st := [.c]) S hs
  have hl := lr_len S B.src struck (B.facts.length + 1)
  generalize lr B.src struck B.facts (B.facts.length + 1) [] = ls at e0 hl ⊢
  obtain ⟨j', e⟩ := came_turns (bk := eBook B) (sk := eStrs struck) (st := st) ls [] none (by rw [List.length_nil]; omega)
  rw [List.nil_append] at e
  have hit : dItS (dCall (opC 2 F__law_rounds) (dCons (eVar 0) (dCons (eVar 1) dNil))) [some (.d (eBook B)), some (.d (eStrs struck)), some (.d (eL [])), none] st = .ok (ls.map eL) st := by
    have h0 : dCons (eVar 0) (dCons (eVar 1) dNil) [some (.d (eBook B)), some (.d (eStrs struck)), some (.d (eL [])), none] st = .ok [.d (eBook B), .d (eStrs struck)] st := rfl
    have h1 : opC 2 F__law_rounds [.d (eBook B), .d (eStrs struck)] st = .ok (.l true (ls.map eL)) st := opC_ok rfl rfl e0
    exact (dItS_ok ((dCall_ok h0).trans h1)).trans rfl
  have z0 : 0 ≤ sizeLine := Nat.zero_le _
  have p1 : dSet 2 slF (dCall oLst dNil) (env0 4 [eBook B, eStrs struck]) st = .ok (.nx, [some (.d (eBook B)), some (.d (eStrs struck)), some (.d (eL [])), none]) st := by
    simp [env0, z0]
  have p2 : L__law_came_1 [some (.d (eBook B)), some (.d (eStrs struck)), some (.d (eL [])), none] st = _ := (dFor_ok (p := .nm 3) (S := B__law_came_1) hit).trans e
  have hD : D__law_came (env0 4 [eBook B, eStrs struck]) st = .ok (.ret (.d (eL ls.flatten)), [some (.d (eBook B)), some (.d (eStrs struck)), some (.d (eL ls.flatten)), j']) st := by
    unfold D__law_came
    rw [seq_nx p1, seq_nx p2]
    unfold dRetVar
    rfl
  exact fnP_ret hD
/-- facts with their rounds -/
def dl : List (List Str) → Int → List (Str × Int)
  | [], _ => []
  | fr :: t, n => (fr.map fun x => (x, n)) ++ dl t (n + 1)
theorem dl_none {fs : List Fact} {src struck came : List Str} (h : fresh src struck fs came = []) : ∀ (t : Nat) (n : Int), dl (lr src struck fs t came) n = []
  | 0, _ => rfl
  | t + 1, n => by
    show ((fresh src struck fs came).map fun x => (x, n)) ++ dl (lr src struck fs t (came ++ fresh src struck fs came)) (n + 1) = []
    rw [h, List.append_nil, dl_none h t (n + 1)]
    rfl
theorem rnds_dl {fs : List Fact} {src struck : List Str} (S : Small fs) : ∀ (k t : Nat) (found : List (Str × Int)) (n : Int), Inn fs (found.map (·.1)) → fs.length - found.length + 1 ≤ k → fs.length - found.length + 1 ≤ t → rnds src struck fs k found n = found ++ dl (lr src struck fs t (found.map (·.1))) n
  | 0, _, _, _, _, hk, _ => absurd hk (by omega)
  | k + 1, 0, _, _, _, _, ht => absurd ht (by omega)
  | k + 1, t + 1, found, n, I, hk, ht => by
    have I2 := I.more S src struck
    have hlen := I2.len
    by_cases e : fresh src struck fs (found.map (·.1)) = []
    · rw [dl_none e, List.append_nil]
      unfold rnds
      simp only [e, if_true]
    · have hp : 0 < (fresh src struck fs (found.map (·.1))).length := List.length_pos_iff.mpr e
      have ih := rnds_dl S k t (found ++ (fresh src struck fs (found.map (·.1))).map fun x => (x, n)) (n + 1) (src := src) (struck := struck) (by rw [List.map_append, names_snd]; exact I2) (by simp at hlen ⊢; omega) (by simp at hlen ⊢; omega)
      rw [List.map_append, names_snd, List.append_assoc] at ih
      unfold rnds
      simp only [e, if_false]
      exact ih
theorem dl_names : ∀ (ls : List (List Str)) (n : Int), (dl ls n).map (·.1) = ls.flatten
  | [], _ => rfl
  | l :: ls, n => by
    show ((l.map fun x => (x, n)) ++ dl ls (n + 1)).map (·.1) = _
    rw [List.map_append, names_snd, dl_names ls, List.flatten_cons]
theorem pairs_append (a b : List (Str × Int)) : pairs (a ++ b) = pairs a ++ pairs b := by simp [pairs]

variable {B : Book} {sk : List Str}
theorem came_names (S : Small B.facts) : (lr B.src sk B.facts (B.facts.length + 1) []).flatten = (rnds B.src sk B.facts (B.facts.length + 1) [] 1).map (·.1) := by
  have hd := rnds_dl (src := B.src) (struck := sk) S (B.facts.length + 1) (B.facts.length + 1) [] 1 (Inn.nil _) (Nat.le_refl _) (Nat.le_refl _)
  rw [List.nil_append] at hd
  have hd' : rnds B.src sk B.facts (B.facts.length + 1) [] 1 = dl (lr B.src sk B.facts (B.facts.length + 1) []) 1 := hd
  rw [hd', dl_names]

end KD

/-! LE: what a lot of facts brings about by itself. -/
namespace KD
open PySem PySem.Spec L2 N
def waysL (fs : List Fact) (x : Str) : List (List Str) := ((fs.find? fun f => decide (f.1 = x)).map (·.2)).getD []
theorem waysL_nil (x : Str) : waysL [] x = [] := rfl
theorem waysL_cons (f : Fact) (fs : List Fact) (x : Str) : waysL (f :: fs) x = if f.1 = x then f.2 else waysL fs x := by
  unfold waysL
  rw [List.find?_cons]
  by_cases h : f.1 = x
  · rw [decide_eq_true h, if_pos h]; rfl
  · rw [decide_eq_false h, if_neg h]
theorem waysL_none : ∀ {fs : List Fact} {x : Str}, x ∉ fs.map (·.1) → waysL fs x = []
  | [], _, _ => rfl
  | f :: fs, x, h => by
    rw [List.map_cons, List.mem_cons, not_or] at h
    rw [waysL_cons, if_neg fun e => h.1 e.symm, waysL_none h.2]
theorem waysL_of : ∀ {fs : List Fact} {f : Fact}, (fs.map (·.1)).Nodup → f ∈ fs → waysL fs f.1 = f.2
  | g :: fs, f, nd, h => by
    rw [List.map_cons, List.nodup_cons] at nd
    rw [waysL_cons]
    rcases List.mem_cons.mp h with rfl | h
    · rw [if_pos rfl]
    · have hne : ¬ g.1 = f.1 := fun e => nd.1 (e ▸ List.mem_map_of_mem (f := (·.1)) h)
      rw [if_neg hne, waysL_of nd.2 h]
theorem fresh_iff {src s c : List Str} : ∀ {fs : List Fact} {x : Str}, (fs.map (·.1)).Nodup → (x ∈ fresh src s fs c ↔ x ∉ c ∧ (waysL fs x).any (opens src s c) = true) := fun {fs x} nd => by
  unfold fresh
  constructor
  · intro h
    obtain ⟨f, hf, rfl⟩ := List.mem_map.mp h
    obtain ⟨h1, h2⟩ := List.mem_filter.mp hf
    rw [Bool.and_eq_true, Bool.not_eq_true', decide_eq_false_iff_not] at h2
    exact ⟨h2.1, by rw [waysL_of nd h1]; exact h2.2⟩
  · rintro ⟨h1, h2⟩
    rcases Classical.em (x ∈ fs.map (·.1)) with k | k
    · obtain ⟨f, hf, rfl⟩ := List.mem_map.mp k
      rw [waysL_of nd hf] at h2
      exact List.mem_map_of_mem (List.mem_filter.mpr ⟨hf, by rw [Bool.and_eq_true, Bool.not_eq_true', decide_eq_false_iff_not]; exact ⟨h1, h2⟩⟩)
    · rw [waysL_none k] at h2
      cases h2
theorem opens_congr {src s s' c c' w : List Str} (hs : ∀ x, x ∈ s ↔ x ∈ s') (hc : ∀ x, x ∈ c ↔ x ∈ c') : opens src s c w = opens src s' c' w := by
  unfold opens
  congr 1
  funext n
  simp only [hs, hc]
/-! ### within a lot -/
def withinF (src : List Str) (fs : List Fact) (lot : List Str) : List Fact := (fs.filter fun f => decide (f.1 ∈ lot)).map fun f => (f.1, f.2.filter fun w => w.all fun x => decide (x ∈ src ++ lot))
theorem withinF_names (src : List Str) (fs : List Fact) (lot : List Str) : (withinF src fs lot).map (·.1) = (fs.map (·.1)).filter fun x => decide (x ∈ lot) := by
  unfold withinF
  rw [List.map_map, List.filter_map]
  rfl
theorem withinF_small {src lot : List Str} {fs : List Fact} (S : Small fs) : Small (withinF src fs lot) where
  nd := by rw [withinF_names]; exact S.nd.sublist List.filter_sublist
  few := by unfold withinF; rw [List.length_map]; exact Nat.le_trans (List.length_filter_le _ _) S.few
  ways := fun g hg => by
    obtain ⟨f, hf, rfl⟩ := List.mem_map.mp hg
    exact Nat.le_trans (List.length_filter_le _ _) (S.ways f (List.mem_filter.mp hf).1)
  way := fun g hg w hw => by
    obtain ⟨f, hf, rfl⟩ := List.mem_map.mp hg
    exact S.way f (List.mem_filter.mp hf).1 w (List.mem_filter.mp hw).1
theorem waysL_within (src lot : List Str) : ∀ (fs : List Fact) (x : Str), (fs.map (·.1)).Nodup → waysL (withinF src fs lot) x = if x ∈ lot then (waysL fs x).filter (fun w => w.all fun y => decide (y ∈ src ++ lot)) else []
  | [], x, _ => by simp [withinF, waysL_nil]
  | f :: fs, x, nd => by
    rw [List.map_cons, List.nodup_cons] at nd
    have ih := waysL_within src lot fs x nd.2
    unfold withinF at ih ⊢
    by_cases h : f.1 ∈ lot
    · rw [List.filter_cons_of_pos (by simpa using h), List.map_cons, waysL_cons, waysL_cons, ih]
      by_cases e : f.1 = x
      · rw [if_pos e, if_pos e, if_pos (e ▸ h)]
      · rw [if_neg e, if_neg e]
    · rw [List.filter_cons_of_neg (by simpa using h), ih, waysL_cons]
      by_cases e : f.1 = x
      · rw [if_neg (e ▸ h), if_neg (e ▸ h)]
      · rw [if_neg e]
section
variable (src s : List Str) (fs : List Fact) (lot : List Str)
/-- what comes next out of a lot -/
def fr (c : List Str) : List Str := lot.filter fun x => !decide (x ∈ c) && (waysL fs x).any (opens src s c)
def cg : Nat → List Str
  | 0 => []
  | k + 1 => cg k ++ fr src s fs lot (cg k)
end
section
variable {src s : List Str} {fs : List Fact} {lot : List Str}
theorem fr_iff {c : List Str} {x : Str} : x ∈ fr src s fs lot c ↔ x ∈ lot ∧ x ∉ c ∧ (waysL fs x).any (opens src s c) = true := by
  unfold fr
  rw [List.mem_filter, Bool.and_eq_true, Bool.not_eq_true', decide_eq_false_iff_not]
theorem cg_lot : ∀ k, ∀ x ∈ cg src s fs lot k, x ∈ lot
  | 0, x, h => by simp [cg] at h
  | k + 1, x, h => by
    rcases List.mem_append.mp h with q | q
    · exact cg_lot k x q
    · exact (fr_iff.mp q).1
theorem cg_nd (nd : lot.Nodup) : ∀ k, (cg src s fs lot k).Nodup
  | 0 => List.nodup_nil
  | k + 1 => List.nodup_append.mpr ⟨cg_nd nd k, nd.sublist List.filter_sublist, fun a ha b hb e => (fr_iff.mp hb).2.1 (e ▸ ha)⟩
theorem cg_up : ∀ {j k : Nat}, j ≤ k → ∀ x ∈ cg src s fs lot j, x ∈ cg src s fs lot k
  | j, 0, h, x, hx => by
    have : j = 0 := by omega
    rw [this] at hx
    exact hx
  | j, k + 1, h, x, hx => by
    rcases Nat.lt_or_ge j (k + 1) with q | q
    · exact List.mem_append_left _ (cg_up (by omega) x hx)
    · have : j = k + 1 := by omega
      rw [this] at hx
      exact hx
theorem cg_stop {j : Nat} (h : fr src s fs lot (cg src s fs lot j) = []) : ∀ d, cg src s fs lot (j + d) = cg src s fs lot j
  | 0 => rfl
  | d + 1 => by
    show cg src s fs lot (j + d) ++ fr src s fs lot (cg src s fs lot (j + d)) = _
    rw [cg_stop h d, h, List.append_nil]
theorem cg_grow : ∀ k, fr src s fs lot (cg src s fs lot k) ≠ [] → k < (cg src s fs lot (k + 1)).length
  | 0, h => by
    show 0 < ([] ++ fr src s fs lot (cg src s fs lot 0)).length
    rw [List.nil_append]
    exact List.length_pos_iff.mpr h
  | k + 1, h => by
    have h0 : fr src s fs lot (cg src s fs lot k) ≠ [] := fun e => h (by rw [show cg src s fs lot (k + 1) = cg src s fs lot k from cg_stop e 1, e])
    have ih := cg_grow k h0
    show k + 1 < (cg src s fs lot (k + 1) ++ fr src s fs lot (cg src s fs lot (k + 1))).length
    rw [List.length_append]
    have := List.length_pos_iff.mpr h
    omega
theorem cg_le (nd : lot.Nodup) (k : Nat) : (cg src s fs lot k).length ≤ lot.length :=
  (cg_nd nd k).length_le_of_subset fun x hx => cg_lot k x hx
/-- all that a lot brings about -/
def all (src s : List Str) (fs : List Fact) (lot : List Str) : List Str := cg src s fs lot lot.length
theorem all_shut (nd : lot.Nodup) : fr src s fs lot (all src s fs lot) = [] := by
  rcases Classical.em (fr src s fs lot (all src s fs lot) = []) with h | h
  · exact h
  · have h1 := cg_grow _ h
    have h2 := cg_le (src := src) (s := s) (fs := fs) nd (lot.length + 1)
    omega
theorem cg_all (nd : lot.Nodup) : ∀ k, ∀ x ∈ cg src s fs lot k, x ∈ all src s fs lot
  | k, x, h => by
    rcases Nat.le_total k lot.length with q | q
    · exact cg_up q x h
    · obtain ⟨d, rfl⟩ := Nat.exists_eq_add_of_le q
      rw [cg_stop (all_shut nd)] at h
      exact h
/-- the same as the rounds of the book cut down to the lot -/
theorem came_cg (nd : (fs.map (·.1)).Nodup) (S : Small (withinF src fs lot)) : ∀ k x, x ∈ came src s (withinF src fs lot) k ↔ x ∈ cg src s fs lot k
  | 0, x => Iff.rfl
  | k + 1, x => by
    have ih := came_cg nd S k
    show x ∈ came src s (withinF src fs lot) k ++ fresh src s (withinF src fs lot) (came src s (withinF src fs lot) k) ↔ x ∈ cg src s fs lot k ++ fr src s fs lot (cg src s fs lot k)
    rw [List.mem_append, List.mem_append, ih, fresh_iff S.nd, fr_iff, ih, waysL_within src lot fs x nd]
    have hc : ∀ w, opens src s (came src s (withinF src fs lot) k) w = opens src s (cg src s fs lot k) w := fun w => opens_congr (fun _ => Iff.rfl) ih
    have key : (if x ∈ lot then (waysL fs x).filter (fun w => w.all fun y => decide (y ∈ src ++ lot)) else []).any (opens src s (came src s (withinF src fs lot) k)) = true ↔ x ∈ lot ∧ (waysL fs x).any (opens src s (cg src s fs lot k)) = true := by
      by_cases hx : x ∈ lot
      · rw [if_pos hx]
        simp only [hx, true_and, List.any_eq_true, List.mem_filter]
        constructor
        · rintro ⟨w, ⟨hw, _⟩, ho⟩
          exact ⟨w, hw, by rw [← hc]; exact ho⟩
        · rintro ⟨w, hw, ho⟩
          refine ⟨w, ⟨hw, List.all_eq_true.mpr fun y hy => decide_eq_true ?_⟩, by rw [hc]; exact ho⟩
          unfold opens at ho
          have := List.all_eq_true.mp ho y hy
          by_cases q : y ∈ src
          · exact List.mem_append_left _ q
          · rw [if_neg q] at this
            exact List.mem_append_right _ (cg_lot k y (of_decide_eq_true this))
      · rw [if_neg hx]
        simp [hx]
    rw [key]
    constructor
    · rintro (h | ⟨h1, h2, h3⟩)
      · exact .inl h
      · exact .inr ⟨h2, h1, h3⟩
    · rintro (h | ⟨h1, h2, h3⟩)
      · exact .inl h
      · exact .inr ⟨h2, h1, h3⟩
theorem in_cg (nd : (fs.map (·.1)).Nodup) (S : Small (withinF src fs lot)) {x : Str} {m : Nat} : In src s (withinF src fs lot) x m ↔ 1 ≤ m ∧ x ∈ fr src s fs lot (cg src s fs lot (m - 1)) := by
  constructor
  · rintro ⟨h1, h2, h3⟩
    rw [came_cg nd S] at h2 h3
    refine ⟨h1, ?_⟩
    obtain ⟨k, rfl⟩ := Nat.exists_eq_add_of_le h1
    rw [show 1 + k - 1 = k by omega] at h3 ⊢
    rw [show 1 + k = k + 1 by omega] at h2
    rcases List.mem_append.mp h2 with q | q
    · exact absurd q h3
    · exact q
  · rintro ⟨h1, h2⟩
    obtain ⟨k, rfl⟩ := Nat.exists_eq_add_of_le h1
    rw [show 1 + k - 1 = k by omega] at h2
    refine ⟨h1, ?_, ?_⟩
    · rw [came_cg nd S, show 1 + k = k + 1 by omega]
      exact List.mem_append_right _ h2
    · rw [came_cg nd S, show 1 + k - 1 = k by omega]
      exact (fr_iff.mp h2).2.1
theorem stand_all (nd : (fs.map (·.1)).Nodup) (S : Small (withinF src fs lot)) (ndl : lot.Nodup) {x : Str} : x ∈ stand src s (withinF src fs lot) ↔ x ∈ all src s fs lot := by
  constructor
  · intro h
    obtain ⟨m, hm⟩ := stand_in h
    exact cg_all ndl m x ((came_cg nd S m x).mp hm.yes)
  · intro h
    exact came_stand S src s _ x ((came_cg nd S _ x).mpr h)
theorem cg_came (nd : (fs.map (·.1)).Nodup) : ∀ k, ∀ x ∈ cg src s fs lot k, x ∈ came src s fs k
  | 0, x, h => by simp [cg] at h
  | k + 1, x, h => by
    rcases List.mem_append.mp h with q | q
    · exact List.mem_append_left _ (cg_came nd k x q)
    · obtain ⟨_, h2, h3⟩ := fr_iff.mp q
      rcases Classical.em (x ∈ came src s fs k) with z | z
      · exact List.mem_append_left _ z
      · refine List.mem_append_right _ ((fresh_iff nd).mpr ⟨z, ?_⟩)
        obtain ⟨w, hw, ho⟩ := List.any_eq_true.mp h3
        exact List.any_eq_true.mpr ⟨w, hw, opens_mono (fun _ z => z) (cg_came nd k) ho⟩
theorem came_lot (S : Small fs) (h : ∀ x ∈ stand src s fs, x ∈ lot) : ∀ k, ∀ x ∈ came src s fs k, x ∈ cg src s fs lot k
  | 0, x, hx => by simp [came] at hx
  | k + 1, x, hx => by
    have hl := h x (came_stand S src s (k + 1) x hx)
    rcases List.mem_append.mp hx with q | q
    · exact List.mem_append_left _ (came_lot S h k x q)
    · obtain ⟨h2, h3⟩ := (fresh_iff S.nd).mp q
      rcases Classical.em (x ∈ cg src s fs lot k) with z | z
      · exact List.mem_append_left _ z
      · refine List.mem_append_right _ (fr_iff.mpr ⟨hl, z, ?_⟩)
        obtain ⟨w, hw, ho⟩ := List.any_eq_true.mp h3
        exact List.any_eq_true.mpr ⟨w, hw, opens_mono (fun _ z => z) (came_lot S h k) ho⟩
end
end KD

/-! LE2: lots with a fact, in order; the first of them; its rows. -/
namespace KD
open PySem PySem.Spec L2 N
theorem dle_same (a : D) : dle a a = true := by
  have := dle_total a a
  rwa [Bool.or_self] at this
theorem sortS_rise (zs : List Str) : (sortS zs).Pairwise fun a b => dle (.str a) (.str b) = true := by
  have := srt_sorted (zs.map .str)
  rw [srt_strs, List.pairwise_map] at this
  exact this
theorem toks_one {a b : Str} (h : PySem.W.keyToks (.str a) = PySem.W.keyToks (.str b)) : a = b := by
  simp only [PySem.W.keyToks, List.cons.injEq, Sum.inr.injEq, and_true] at h
  exact PySem.W.str_of_cps h
/-- sorted lists of the same names are the same -/
theorem rise_eq {a b : List Str} (ha : a.Pairwise fun a b => dle (.str a) (.str b) = true) (hb : b.Pairwise fun a b => dle (.str a) (.str b) = true) (p : a.Perm b) : a = b :=
  List.Perm.eq_of_pairwise (fun x y _ _ h1 h2 => toks_one (dle_toks h1 h2)) ha hb p
theorem sortS_same {a b : List Str} (na : a.Nodup) (nb : b.Nodup) (h : ∀ x, x ∈ a ↔ x ∈ b) : sortS a = sortS b := sortS_congr (perm_of_nodup na nb h)
theorem sortS_mem {a : List Str} {x : Str} : x ∈ sortS a ↔ x ∈ a := (sortS_perm a).mem_iff
theorem sortS_nd {a : List Str} : (sortS a).Nodup ↔ a.Nodup := (sortS_perm a).nodup_iff
theorem sortS_id {a : List Str} (h : a.Pairwise fun a b => dle (.str a) (.str b) = true) : sortS a = a := rise_eq (sortS_rise a) h (sortS_perm a)
theorem encL_toks {a b : List Str} (h : PySem.W.keyToks (encL a) = PySem.W.keyToks (encL b)) : a = b := by
  unfold encL at h
  have h2 : PySem.W.keyToksAll [.int (a.length : Nat), eStrs a] = PySem.W.keyToksAll [.int (b.length : Nat), eStrs b] := by
    simp only [PySem.W.keyToks] at h
    simpa using h
  have h3 := (toks_int h2).2
  simp only [PySem.W.keyToksAll, PySem.W.keyToks, List.append_nil] at h3
  simp only [List.cons.injEq, List.append_cancel_right_eq, true_and] at h3
  refine toks_strs (p := []) (q := []) ?_
  rw [List.append_nil, List.append_nil]
  first | exact h3 | simpa using h3
theorem encL_anti {a b : List Str} (h : dle (encL a) (encL b) = true) (k : dle (encL b) (encL a) = true) : a = b := encL_toks (dle_toks h k)
theorem encL_len {a b : List Str} (h : dle (encL a) (encL b) = true) : a.length ≤ b.length := by
  rcases dle_int h with q | q
  · omega
  · omega
/-- the first of them -/
theorem find_first {p : List Str → Bool} : ∀ {ls : List (List Str)} {l : List Str}, ls.Pairwise (fun a b => dle (encL a) (encL b) = true) → ls.find? p = some l → p l = true ∧ l ∈ ls ∧ ∀ k ∈ ls, p k = true → dle (encL l) (encL k) = true
  | [], l, _, h => by cases h
  | a :: ls, l, pw, h => by
    rw [List.find?_cons] at h
    rw [List.pairwise_cons] at pw
    cases e : p a with
    | true =>
      rw [e] at h
      obtain rfl := Option.some.inj h
      refine ⟨e, List.mem_cons_self, fun k hk _ => ?_⟩
      rcases List.mem_cons.mp hk with rfl | hk
      · exact dle_same _
      · exact pw.1 k hk
    | false =>
      rw [e] at h
      obtain ⟨h1, h2, h3⟩ := find_first pw.2 h
      refine ⟨h1, List.mem_cons_of_mem _ h2, fun k hk hp => ?_⟩
      rcases List.mem_cons.mp hk with rfl | hk
      · rw [e] at hp; cases hp
      · exact h3 k hk hp
/-! ### lots with a fact -/
def lotsW (others : List Str) (x : Str) : List (List Str) := ((lotsL others).map fun l => sortS (l ++ [x])).mergeSort fun a b => dle (encL a) (encL b)
theorem lotsW_pw (others : List Str) (x : Str) : (lotsW others x).Pairwise fun a b => dle (encL a) (encL b) = true :=
  List.pairwise_mergeSort (le := fun a b => dle (encL a) (encL b)) (fun a b c => dle_trans (encL a) (encL b) (encL c)) (fun a b => dle_total (encL a) (encL b)) _
theorem lotsW_mem {others : List Str} {x : Str} {l : List Str} : l ∈ lotsW others x ↔ ∃ k ∈ lotsL others, l = sortS (k ++ [x]) := by
  unfold lotsW
  rw [(List.mergeSort_perm _ _).mem_iff, List.mem_map]
  exact ⟨fun ⟨k, h1, h2⟩ => ⟨k, h1, h2.symm⟩, fun ⟨k, h1, h2⟩ => ⟨k, h1, h2.symm⟩⟩
structure LotW (others : List Str) (x : Str) (l : List Str) : Prop where
  nd : l.Nodup
  rise : l.Pairwise fun a b => dle (.str a) (.str b) = true
  has : x ∈ l
  sub : ∀ y ∈ l, y = x ∨ y ∈ others
theorem lotsW_ok {others : List Str} {x : Str} {l : List Str} (nd : others.Nodup) (hx : x ∉ others) (h : l ∈ lotsW others x) : LotW others x l := by
  obtain ⟨k, hk, rfl⟩ := lotsW_mem.mp h
  have sl := subsS_mem ((lotsL_perm others).mem_iff.mp hk)
  refine ⟨sortS_nd.mpr ?_, sortS_rise _, sortS_mem.mpr (by simp), fun y hy => ?_⟩
  · rw [List.nodup_append]
    exact ⟨nd.sublist sl, by simp, fun a ha b hb e => hx (by rw [List.mem_singleton.mp hb] at e; exact e ▸ sl.subset ha)⟩
  · rcases List.mem_append.mp (sortS_mem.mp hy) with q | q
    · exact .inr (sl.subset q)
    · exact .inl (List.mem_singleton.mp q)
theorem lotsW_all {others : List Str} {x : Str} {t : List Str} (nd : others.Nodup) (hx : x ∉ others) (nt : t.Nodup) (ht : x ∈ t) (h : ∀ y ∈ t, y = x ∨ y ∈ others) : sortS t ∈ lotsW others x := by
  refine lotsW_mem.mpr ⟨others.filter fun y => decide (y ∈ t), (lotsL_perm others).mem_iff.mpr (subsS_all List.filter_sublist), ?_⟩
  refine sortS_same nt ?_ fun y => ?_
  · rw [List.nodup_append]
    exact ⟨nd.sublist List.filter_sublist, by simp, fun a ha b hb e => hx (by rw [List.mem_singleton.mp hb] at e; exact e ▸ (List.mem_filter.mp ha).1)⟩
  · rw [List.mem_append, List.mem_filter, List.mem_singleton, decide_eq_true_eq]
    constructor
    · intro hy
      rcases h y hy with rfl | q
      · exact .inr rfl
      · exact .inl ⟨q, hy⟩
    · rintro (⟨_, q⟩ | rfl)
      · exact q
      · exact ht
/-! ### its rows -/
section
variable (src s : List Str) (fs : List Fact)
def place (c : List Str) (x : Str) : Nat := (waysL fs x).findIdx (opens src s c)
def rowAt (c : List Str) (x : Str) : Str × Nat := (x, place src s fs c x)
def rowsK (lot : List Str) (k : Nat) : List (Str × Nat) := (List.range k).flatMap fun i => (fr src s fs lot (cg src s fs lot i)).map (rowAt src s fs (cg src s fs lot i))
abbrev rowsOf (lot : List Str) : List (Str × Nat) := rowsK src s fs lot lot.length
def othersOf (x : Str) : List Str := (sortS (stand src s fs)).filter fun y => decide (y ≠ x)
def lotOf (x : Str) : Option (List Str) := if x ∈ stand src s fs then (lotsW (othersOf src s fs x) x).find? fun l => decide (x ∈ all src s fs l) else none
def leadL (x : Str) : Option (List (Str × Nat)) := (lotOf src s fs x).map (rowsOf src s fs)
end
section
variable {src s : List Str} {fs : List Fact} {lot : List Str}
theorem rowsK_succ (k : Nat) : rowsK src s fs lot (k + 1) = rowsK src s fs lot k ++ (fr src s fs lot (cg src s fs lot k)).map (rowAt src s fs (cg src s fs lot k)) := by
  unfold rowsK
  rw [List.range_succ, List.flatMap_append]
  simp
theorem rowsK_names : ∀ k, (rowsK src s fs lot k).map (·.1) = cg src s fs lot k
  | 0 => rfl
  | k + 1 => by
    rw [rowsK_succ, List.map_append, rowsK_names k, List.map_map]
    show _ = cg src s fs lot k ++ fr src s fs lot (cg src s fs lot k)
    congr 1
    have : ((fun r : Str × Nat => r.1) ∘ rowAt src s fs (cg src s fs lot k)) = id := rfl
    rw [this, List.map_id]
theorem rowsK_mem {k : Nat} {r : Str × Nat} (h : r ∈ rowsK src s fs lot k) : ∃ i < k, r.1 ∈ fr src s fs lot (cg src s fs lot i) ∧ r = rowAt src s fs (cg src s fs lot i) r.1 := by
  obtain ⟨i, hi, h2⟩ := List.mem_flatMap.mp h
  obtain ⟨x, hx, rfl⟩ := List.mem_map.mp h2
  exact ⟨i, List.mem_range.mp hi, hx, rfl⟩
theorem place_ok {c : List Str} {x : Str} (h : (waysL fs x).any (opens src s c) = true) : ∃ w, (waysL fs x)[place src s fs c x]? = some w ∧ opens src s c w = true ∧ w ∈ waysL fs x := by
  unfold place
  have hl : (waysL fs x).findIdx (opens src s c) < (waysL fs x).length := List.findIdx_lt_length.mpr (List.any_eq_true.mp h)
  exact ⟨_, List.getElem?_eq_getElem hl, List.findIdx_getElem (w := hl), List.getElem_mem hl⟩
/-! ### good rows -/
def okRow (src s : List Str) (fs : List Fact) (c : List Str) (r : Str × Nat) : Bool := !decide (r.1 ∈ c) && (match (waysL fs r.1)[r.2]? with
  | some w => opens src s c w
  | none => false)
def goodRows (src s : List Str) (fs : List Fact) : List Str → List (Str × Nat) → Bool
  | _, [] => true
  | c, r :: rs => okRow src s fs c r && goodRows src s fs (c ++ [r.1]) rs
theorem goodRows_append : ∀ (c : List Str) (a b : List (Str × Nat)), goodRows src s fs c (a ++ b) = (goodRows src s fs c a && goodRows src s fs (c ++ a.map (·.1)) b)
  | c, [], b => by simp [goodRows]
  | c, r :: a, b => by
    rw [List.cons_append, goodRows, goodRows, goodRows_append (c ++ [r.1]) a b, Bool.and_assoc]
    simp
theorem good_fresh {c : List Str} : ∀ (l : List Str) (c' : List Str), l.Nodup → (∀ x ∈ l, x ∉ c' ∧ (waysL fs x).any (opens src s c) = true) → (∀ x ∈ c, x ∈ c') → goodRows src s fs c' (l.map (rowAt src s fs c)) = true
  | [], _, _, _, _ => rfl
  | x :: l, c', nd, h, hc => by
    rw [List.nodup_cons] at nd
    obtain ⟨h1, h2⟩ := h x List.mem_cons_self
    obtain ⟨w, e, ho, _⟩ := place_ok h2
    rw [List.map_cons, goodRows, Bool.and_eq_true]
    constructor
    · unfold okRow rowAt
      simp only [e, h1, decide_false, Bool.not_false, Bool.true_and]
      exact opens_mono (fun _ z => z) hc ho
    · refine good_fresh l _ nd.2 (fun y hy => ⟨?_, (h y (List.mem_cons_of_mem _ hy)).2⟩) fun y hy => List.mem_append_left _ (hc y hy)
      intro q
      rcases List.mem_append.mp q with q | q
      · exact (h y (List.mem_cons_of_mem _ hy)).1 q
      · have e : y = x := List.mem_singleton.mp q
        exact nd.1 (e ▸ hy)
theorem good_rowsK (nd : lot.Nodup) : ∀ k, goodRows src s fs [] (rowsK src s fs lot k) = true
  | 0 => rfl
  | k + 1 => by
    rw [rowsK_succ, goodRows_append, good_rowsK nd k, Bool.true_and, rowsK_names, List.nil_append]
    exact good_fresh _ _ (nd.sublist List.filter_sublist) (fun x hx => (fr_iff.mp hx).2) fun _ z => z
/-- good rows of a lot bring about no more than the lot -/
theorem good_all {R : List Str} (hR : fr src s fs lot R = []) : ∀ (rs : List (Str × Nat)) (c : List Str), (∀ x ∈ c, x ∈ R) → (∀ r ∈ rs, r.1 ∈ lot) → goodRows src s fs c rs = true → ∀ r ∈ rs, r.1 ∈ R
  | [], _, _, _, _, r, h => by simp at h
  | r :: rs, c, hc, hl, g, q, hq => by
    rw [goodRows, Bool.and_eq_true] at g
    have hr : r.1 ∈ R := by
      rcases Classical.em (r.1 ∈ R) with z | z
      · exact z
      · have : r.1 ∈ fr src s fs lot R := by
          refine fr_iff.mpr ⟨hl r List.mem_cons_self, z, ?_⟩
          have h2 := g.1
          unfold okRow at h2
          rw [Bool.and_eq_true] at h2
          cases e : (waysL fs r.1)[r.2]? with
          | none => rw [e] at h2; exact absurd h2.2 Bool.false_ne_true
          | some w =>
            rw [e] at h2
            exact List.any_eq_true.mpr ⟨w, List.mem_of_getElem? e, opens_mono (fun _ z => z) hc h2.2⟩
        rw [hR] at this
        simp at this
    rcases List.mem_cons.mp hq with rfl | hq
    · exact hr
    · refine good_all hR rs (c ++ [r.1]) (fun x hx => ?_) (fun r hr => hl r (List.mem_cons_of_mem _ hr)) g.2 q hq
      rcases List.mem_append.mp hx with z | z
      · exact hc x z
      · rw [List.mem_singleton.mp z]; exact hr
theorem good_nd : ∀ (rs : List (Str × Nat)) (c : List Str), c.Nodup → goodRows src s fs c rs = true → (c ++ rs.map (·.1)).Nodup
  | [], c, nd, _ => by simpa using nd
  | r :: rs, c, nd, g => by
    rw [goodRows, Bool.and_eq_true] at g
    have h1 : r.1 ∉ c := by
      have := g.1
      unfold okRow at this
      rw [Bool.and_eq_true, Bool.not_eq_true', decide_eq_false_iff_not] at this
      exact this.1
    have nd2 : (c ++ [r.1]).Nodup := List.nodup_append.mpr ⟨nd, by simp, fun a ha b hb e => h1 (by rw [List.mem_singleton.mp hb] at e; exact e ▸ ha)⟩
    have := good_nd rs (c ++ [r.1]) nd2 g.2
    simpa using this
end
end KD

/-! LE3: the lead. -/
namespace KD
open PySem PySem.Spec L2 N
section
variable {src s : List Str} {fs : List Fact} {x : Str} {L : List Str}
theorem stand_nd (S : Small fs) : (stand src s fs).Nodup := (rnds_inn S src s (fs.length + 1) [] 1 (Inn.nil fs)).nd
theorem othersOf_nd (S : Small fs) : (othersOf src s fs x).Nodup := (sortS_nd.mpr (stand_nd S)).sublist List.filter_sublist
theorem othersOf_mem {y : Str} : y ∈ othersOf src s fs x ↔ y ∈ stand src s fs ∧ y ≠ x := by
  unfold othersOf
  rw [List.mem_filter, sortS_mem, decide_eq_true_eq]
theorem othersOf_no : x ∉ othersOf src s fs x := fun h => (othersOf_mem.mp h).2 rfl
structure Lead (src s : List Str) (fs : List Fact) (x : Str) (L : List Str) : Prop where
  st : x ∈ stand src s fs
  lot : LotW (othersOf src s fs x) x L
  has : x ∈ all src s fs L
  low : ∀ t : List Str, t.Nodup → x ∈ t → (∀ y ∈ t, y ∈ stand src s fs) → x ∈ all src s fs (sortS t) → dle (encL L) (encL (sortS t)) = true
theorem lotOf_some (S : Small fs) (h : lotOf src s fs x = some L) : Lead src s fs x L := by
  unfold lotOf at h
  by_cases c : x ∈ stand src s fs
  · rw [if_pos c] at h
    obtain ⟨h1, h2, h3⟩ := find_first (lotsW_pw _ _) h
    refine ⟨c, lotsW_ok (othersOf_nd S) othersOf_no h2, of_decide_eq_true h1, fun t nt ht hs ha => h3 _ (lotsW_all (othersOf_nd S) othersOf_no nt ht fun y hy => ?_) (decide_eq_true ha)⟩
    rcases Classical.em (y = x) with q | q
    · exact .inl q
    · exact .inr (othersOf_mem.mpr ⟨hs y hy, q⟩)
  · rw [if_neg c] at h
    cases h
theorem lotOf_of (S : Small fs) (h : x ∈ stand src s fs) : ∃ L, lotOf src s fs x = some L := by
  unfold lotOf
  rw [if_pos h]
  have nd := stand_nd (src := src) (s := s) S
  have m := lotsW_all (othersOf_nd (src := src) (s := s) (x := x) S) othersOf_no nd h fun y hy => by
    rcases Classical.em (y = x) with q | q
    · exact .inl q
    · exact .inr (othersOf_mem.mpr ⟨hy, q⟩)
  have p : x ∈ all src s fs (sortS (stand src s fs)) := by
    obtain ⟨k, hk⟩ := stand_in h
    exact cg_all (sortS_nd.mpr nd) k x (came_lot S (fun y hy => sortS_mem.mpr hy) k x hk.yes)
  cases e : (lotsW (othersOf src s fs x) x).find? fun l => decide (x ∈ all src s fs l) with
  | some L => exact ⟨L, rfl⟩
  | none => exact absurd (decide_eq_true p) (by have := List.find?_eq_none.mp e _ m; exact this)
theorem lotOf_none : lotOf src s fs x = none → x ∉ stand src s fs ∨ ¬ Small fs := fun h => by
  rcases Classical.em (Small fs) with S | S
  · refine .inl fun hx => ?_
    obtain ⟨L, e⟩ := lotOf_of S hx
    rw [h] at e; cases e
  · exact .inr S
theorem Lead.stand_sub (h : Lead src s fs x L) : ∀ y ∈ L, y ∈ stand src s fs := fun y hy => by
  rcases h.lot.sub y hy with rfl | q
  · exact h.st
  · exact (othersOf_mem.mp q).1
theorem Lead.uniq {L L' : List Str} (h : Lead src s fs x L) (h' : Lead src s fs x L') : L = L' := by
  have e := sortS_id h.lot.rise
  have e' := sortS_id h'.lot.rise
  have a := h.low L' h'.lot.nd h'.lot.has h'.stand_sub (by rw [e']; exact h'.has)
  have b := h'.low L h.lot.nd h.lot.has h.stand_sub (by rw [e]; exact h.has)
  rw [e'] at a
  rw [e] at b
  exact encL_anti a b
theorem lotOf_eq (S : Small fs) (h : Lead src s fs x L) : lotOf src s fs x = some L := by
  obtain ⟨L', e⟩ := lotOf_of S h.st
  rw [e, (lotOf_some S e).uniq h]
theorem rows_names : (rowsOf src s fs L).map (·.1) = all src s fs L := rowsK_names _
theorem all_sub : ∀ y ∈ all src s fs L, y ∈ L := cg_lot _
theorem all_nd (nd : L.Nodup) : (all src s fs L).Nodup := cg_nd nd _
/-- rows that are good bring their last one about -/
theorem good_in {t : List Str} {rs : List (Str × Nat)} (nt : t.Nodup) (hg : goodRows src s fs [] rs = true) (h : ∀ r ∈ rs, r.1 ∈ t) : ∀ r ∈ rs, r.1 ∈ all src s fs t :=
  good_all (all_shut nt) rs [] (fun y hy => by simp at hy) h hg
/-- a good list of rows of what stands with x among them is no shorter than the lot -/
theorem Lead.short (h : Lead src s fs x L) {rs : List (Str × Nat)} (hg : goodRows src s fs [] rs = true) (hx : x ∈ rs.map (·.1)) (hs : ∀ r ∈ rs, r.1 ∈ stand src s fs) : L.length ≤ rs.length := by
  have nd := good_nd rs [] List.nodup_nil hg
  rw [List.nil_append] at nd
  have nt : (sortS (rs.map (·.1))).Nodup := sortS_nd.mpr nd
  have hi := good_in nt hg fun r hr => sortS_mem.mpr (List.mem_map_of_mem hr)
  obtain ⟨r, hr, rfl⟩ := List.mem_map.mp hx
  have := encL_len (h.low (rs.map (·.1)) nd hx (fun y hy => by
    obtain ⟨q, hq, rfl⟩ := List.mem_map.mp hy
    exact hs q hq) (hi r hr))
  rwa [sortS_len, List.length_map] at this
theorem Lead.full (h : Lead src s fs x L) : ∀ y ∈ L, y ∈ all src s fs L := by
  have g : goodRows src s fs [] (rowsOf src s fs L) = true := good_rowsK h.lot.nd _
  have l := h.short g (by rw [rows_names]; exact h.has) fun r hr => h.stand_sub _ (all_sub _ (by rw [← rows_names]; exact List.mem_map_of_mem hr))
  have e : (rowsOf src s fs L).length = (all src s fs L).length := by rw [← rows_names, List.length_map]
  rw [e] at l
  intro y hy
  rcases Classical.em (y ∈ all src s fs L) with q | q
  · exact q
  · have hl : (all src s fs L).length ≤ (L.erase y).length := (all_nd h.lot.nd).length_le_of_subset fun z hz => (List.mem_erase_of_ne (fun (e : z = y) => q (e ▸ hz))).mpr (all_sub z hz)
    rw [List.length_erase_of_mem hy] at hl
    have := List.length_pos_of_mem hy
    omega
theorem Lead.len (h : Lead src s fs x L) : (rowsOf src s fs L).length = L.length := by
  rw [← List.length_map (f := (·.1)), rows_names]
  exact Nat.le_antisymm ((all_nd h.lot.nd).length_le_of_subset all_sub) (h.lot.nd.length_le_of_subset h.full)
/-- the last row is x's -/
theorem Lead.last (h : Lead src s fs x L) : (rowsOf src s fs L).getLast?.map (·.1) = some x := by
  have hne : rowsOf src s fs L ≠ [] := by
    intro e
    have := h.len
    rw [e] at this
    have := List.length_pos_of_mem h.lot.has
    simp at *
    omega
  rw [List.getLast?_eq_some_getLast hne]
  show some ((rowsOf src s fs L).getLast hne).1 = some x
  congr 1
  rcases Classical.em (((rowsOf src s fs L).getLast hne).1 = x) with q | q
  · exact q
  · -- without the last row it is good still
    have sp : (rowsOf src s fs L).dropLast ++ [(rowsOf src s fs L).getLast hne] = rowsOf src s fs L := List.dropLast_concat_getLast hne
    have g : goodRows src s fs [] (rowsOf src s fs L) = true := good_rowsK h.lot.nd _
    rw [← sp, goodRows_append, Bool.and_eq_true] at g
    have hx : x ∈ (rowsOf src s fs L).map (·.1) := by rw [rows_names]; exact h.has
    rw [← sp, List.map_append, List.mem_append] at hx
    have hx2 : x ∈ (rowsOf src s fs L).dropLast.map (·.1) := by
      rcases hx with z | z
      · exact z
      · simp at z; exact absurd z.symm q
    have := h.short g.1 hx2 fun r hr => h.stand_sub _ (all_sub _ (by rw [← rows_names]; exact List.mem_map_of_mem ((List.dropLast_sublist _).subset hr)))
    rw [List.length_dropLast, h.len] at this
    have := List.length_pos_of_mem h.lot.has
    omega
/-- no shorter than the round -/
theorem Lead.round (S : Small fs) (h : Lead src s fs x L) {m : Nat} (hm : In src s fs x m) : m ≤ (rowsOf src s fs L).length := by
  rw [← List.length_map (f := (·.1)), rows_names]
  have nd := h.lot.nd
  have W := withinF_small (src := src) (lot := L) S
  obtain ⟨q, hq⟩ := stand_in ((stand_all S.nd W nd).mpr h.has)
  obtain ⟨q1, q2⟩ := (in_cg S.nd W).mp hq
  have hmq : m ≤ q := by
    rcases Nat.lt_or_ge q m with z | z
    · have h1 := hm.no
      have h2 : x ∈ came src s fs q := cg_came S.nd q x ((came_cg S.nd W q x).mp hq.yes)
      exact absurd (came_up (by omega) x h2) h1
    · exact z
  have g := cg_grow (src := src) (s := s) (fs := fs) (lot := L) (q - 1) (List.ne_nil_of_mem q2)
  rw [show q - 1 + 1 = q by omega] at g
  have le : (cg src s fs L q).length ≤ (all src s fs L).length := (cg_nd nd q).length_le_of_subset fun y hy => cg_all nd q y hy
  omega
/-! ### a source more that is struck -/
variable {s' : List Str} {n : Str}
structure More (src s s' : List Str) (n : Str) : Prop where
  mem : ∀ y, y ∈ s' ↔ y ∈ s ∨ y = n
  new : n ∉ s
  src : n ∈ src
theorem More.sub (m : More src s s' n) : ∀ y ∈ s, y ∈ s' := fun y hy => (m.mem y).mpr (.inl hy)
theorem opens_more (m : More src s s' n) {c w : List Str} (h : n ∉ w) : opens src s' c w = opens src s c w := by
  unfold opens
  have e : ∀ y ∈ w, (if y ∈ src then decide (y ∉ s') else decide (y ∈ c)) = (if y ∈ src then decide (y ∉ s) else decide (y ∈ c)) := fun y hy => by
    have : (y ∉ s') = (y ∉ s) := by
      rw [m.mem]
      exact propext ⟨fun z q => z (.inl q), fun z q => q.elim z fun e => h (e ▸ hy)⟩
    simp only [this]
  rw [Bool.eq_iff_iff, List.all_eq_true, List.all_eq_true]
  exact ⟨fun g y hy => (e y hy) ▸ g y hy, fun g y hy => (e y hy).symm ▸ g y hy⟩
theorem opens_used (m : More src s s' n) {c w : List Str} (h : n ∈ w) : opens src s' c w = false := by
  unfold opens
  rw [List.all_eq_false]
  refine ⟨n, h, ?_⟩
  rw [if_pos m.src, decide_eq_false (fun z => z ((m.mem n).mpr (.inr rfl)))]
  exact Bool.false_ne_true
/-- the ways that rows take -/
def wayOf (fs : List Fact) (r : Str × Nat) : List Str := ((waysL fs r.1)[r.2]?).getD []
def used (fs : List Fact) (rs : List (Str × Nat)) : List Str := (rs.map (wayOf fs)).flatten
theorem used_mem {rs : List (Str × Nat)} : n ∈ used fs rs ↔ ∃ r ∈ rs, n ∈ wayOf fs r := by
  unfold used
  rw [List.mem_flatten]
  constructor
  · rintro ⟨w, hw, hn⟩
    obtain ⟨r, hr, rfl⟩ := List.mem_map.mp hw
    exact ⟨r, hr, hn⟩
  · rintro ⟨r, hr, hn⟩
    exact ⟨_, List.mem_map_of_mem hr, hn⟩
/-- the way of a row that came, by what came ahead -/
theorem row_way {k : Nat} {y : Str} (hk : k < L.length) (hy : y ∈ fr src s fs L (cg src s fs L k)) : rowAt src s fs (cg src s fs L k) y ∈ rowsOf src s fs L ∧ opens src s (cg src s fs L k) (wayOf fs (rowAt src s fs (cg src s fs L k) y)) = true := by
  refine ⟨List.mem_flatMap.mpr ⟨k, List.mem_range.mpr hk, List.mem_map_of_mem hy⟩, ?_⟩
  obtain ⟨w, e, ho, _⟩ := place_ok (fr_iff.mp hy).2.2
  unfold wayOf rowAt
  simp only [e, Option.getD_some]
  exact ho
theorem wayOf_mem {r : Str × Nat} (h : n ∈ wayOf fs r) : wayOf fs r ∈ waysL fs r.1 := by
  unfold wayOf at h ⊢
  cases e : (waysL fs r.1)[r.2]? with
  | none => rw [e] at h; simp at h
  | some w => exact List.mem_of_getElem? e
theorem any_more (m : More src s s' n) (hu : n ∉ used fs (rowsOf src s fs L)) {k : Nat} (hk : k < L.length) {y : Str} (hy : y ∈ L) (hc : y ∉ cg src s fs L k) : (waysL fs y).any (opens src s' (cg src s fs L k)) = (waysL fs y).any (opens src s (cg src s fs L k)) ∧ ((waysL fs y).any (opens src s (cg src s fs L k)) = true → place src s' fs (cg src s fs L k) y = place src s fs (cg src s fs L k) y) := by
  have mono : ∀ w, opens src s' (cg src s fs L k) w = true → opens src s (cg src s fs L k) w = true := fun w => opens_mono m.sub fun _ z => z
  cases e : (waysL fs y).any (opens src s (cg src s fs L k)) with
  | false =>
    refine ⟨?_, fun h => nomatch h⟩
    rw [List.any_eq_false] at e ⊢
    exact fun w hw h => e w hw (mono w h)
  | true =>
    have hy2 : y ∈ fr src s fs L (cg src s fs L k) := fr_iff.mpr ⟨hy, hc, e⟩
    obtain ⟨h1, h2⟩ := row_way hk hy2
    have hn : n ∉ wayOf fs (rowAt src s fs (cg src s fs L k) y) := fun z => hu (used_mem.mpr ⟨_, h1, z⟩)
    obtain ⟨w, ew, ho, hw⟩ := place_ok e
    have we : wayOf fs (rowAt src s fs (cg src s fs L k) y) = w := by unfold wayOf rowAt; simp only [ew, Option.getD_some]
    rw [we] at hn
    have ho' : opens src s' (cg src s fs L k) w = true := by rw [opens_more m hn]; exact ho
    refine ⟨List.any_eq_true.mpr ⟨w, hw, ho'⟩, fun _ => ?_⟩
    unfold place at ew ⊢
    have hl : (waysL fs y).findIdx (opens src s (cg src s fs L k)) < (waysL fs y).length := List.findIdx_lt_length.mpr (List.any_eq_true.mp e)
    rw [List.getElem?_eq_getElem hl, Option.some.injEq] at ew
    refine (List.findIdx_eq hl).mpr ⟨by rw [ew]; exact ho', fun j hj => ?_⟩
    cases q : opens src s' (cg src s fs L k) (waysL fs y)[j] with
    | false => rfl
    | true =>
      have := mono _ q
      have no := List.not_of_lt_findIdx hj
      rw [this] at no
      cases no
theorem fr_more (m : More src s s' n) (hu : n ∉ used fs (rowsOf src s fs L)) {k : Nat} (hk : k < L.length) : fr src s' fs L (cg src s fs L k) = fr src s fs L (cg src s fs L k) := by
  unfold fr
  refine List.filter_congr fun y hy => ?_
  by_cases c : y ∈ cg src s fs L k
  · rw [decide_eq_true c]; rfl
  · rw [(any_more m hu hk hy c).1]
theorem cg_more (m : More src s s' n) (hu : n ∉ used fs (rowsOf src s fs L)) : ∀ k ≤ L.length, cg src s' fs L k = cg src s fs L k
  | 0, _ => rfl
  | k + 1, h => by
    show cg src s' fs L k ++ fr src s' fs L (cg src s' fs L k) = cg src s fs L k ++ fr src s fs L (cg src s fs L k)
    rw [cg_more m hu k (by omega), fr_more m hu (by omega)]
theorem rows_more (m : More src s s' n) (hu : n ∉ used fs (rowsOf src s fs L)) : rowsOf src s' fs L = rowsOf src s fs L := by
  unfold rowsOf rowsK
  rw [List.flatMap_def, List.flatMap_def]
  refine congrArg List.flatten (List.map_congr_left fun i hi => ?_)
  have hi := List.mem_range.mp hi
  rw [cg_more m hu i (by omega), fr_more m hu hi]
  refine List.map_congr_left fun y hy => ?_
  obtain ⟨h1, h2, h3⟩ := fr_iff.mp hy
  unfold rowAt
  rw [(any_more m hu hi h1 h2).2 h3]
/-- a source struck besides that the lead has no use for: the same lead -/
theorem lead_unused (S : Small fs) (m : More src s s' n) (h : Lead src s fs x L) (hu : n ∉ used fs (rowsOf src s fs L)) : leadL src s' fs x = leadL src s fs x := by
  have nd := h.lot.nd
  have ea : all src s' fs L = all src s fs L := cg_more m hu L.length (Nat.le_refl _)
  have W := withinF_small (src := src) (lot := L) S
  have mono : ∀ y ∈ stand src s' fs, y ∈ stand src s fs := stand_mono S m.sub
  have st' : ∀ y ∈ L, y ∈ stand src s' fs := fun y hy => by
    have : y ∈ all src s' fs L := by rw [ea]; exact h.full y hy
    exact came_stand S src s' _ y (cg_came S.nd _ y this)
  have l' : Lead src s' fs x L := by
    refine ⟨st' x h.lot.has, ⟨nd, h.lot.rise, h.lot.has, fun y hy => ?_⟩, by rw [ea]; exact h.has, fun t nt ht hs ha => h.low t nt ht (fun y hy => mono y (hs y hy)) ?_⟩
    · rcases Classical.em (y = x) with q | q
      · exact .inl q
      · exact .inr (othersOf_mem.mpr ⟨st' y hy, q⟩)
    · obtain ⟨k, hk⟩ := stand_in ((stand_all S.nd (withinF_small (src := src) (lot := sortS t) S) (sortS_nd.mpr nt)).mpr ha)
      have := came_less (fs := withinF src fs (sortS t)) m.sub k x hk.yes
      exact (stand_all S.nd (withinF_small (src := src) (lot := sortS t) S) (sortS_nd.mpr nt)).mp (came_stand (withinF_small S) src s k x this)
  unfold leadL
  rw [lotOf_eq S h, lotOf_eq S l']
  show some _ = some _
  rw [rows_more m hu]
/-- one that it uses: another one, or none -/
theorem lead_used (S : Small fs) (m : More src s s' n) (h : Lead src s fs x L) (hu : n ∈ used fs (rowsOf src s fs L)) : leadL src s' fs x ≠ leadL src s fs x := by
  intro e
  unfold leadL at e
  rw [lotOf_eq S h] at e
  cases q : lotOf src s' fs x with
  | none => rw [q] at e; cases e
  | some L' =>
    rw [q] at e
    have e : rowsOf src s' fs L' = rowsOf src s fs L := Option.some.inj e
    have g : goodRows src s' fs [] (rowsOf src s' fs L') = true := good_rowsK (lotOf_some S q).lot.nd _
    obtain ⟨r, hr, hn⟩ := used_mem.mp hu
    rw [← e] at hr
    obtain ⟨i, hi, h1, h2⟩ := rowsK_mem hr
    have h3 := (row_way hi h1).2
    rw [← h2, opens_used m hn] at h3
    cases h3
end
end KD

/-! LE4: the walk of the lead's parts. -/
namespace KD
open PySem PySem.Spec L2 N
section
variable {st : Sto}
theorem lst_mark (kvs : List (Key × D)) : (R.d (markD kvs)).lst? st = none := by
  have h : refOf (markD kvs) = none := by
    unfold refOf markD
    cases kvs <;> rfl
  unfold R.lst?
  unfold markD at h ⊢
  simp only [h]
theorem val_in : ∀ {rs : List (Str × Int)} {x : Str} {k : Int}, (rs.map (·.1)).Nodup → (x, k) ∈ rs → valD (N.kv rs) (.inr x) = some (.int k)
  | [], _, _, _, h => by simp at h
  | (y, n) :: rs, x, k, nd, h => by
    rw [List.map_cons, List.nodup_cons] at nd
    have hc : N.kv ((y, n) :: rs) = (Sum.inr y, .int n) :: N.kv rs := rfl
    rcases List.mem_cons.mp h with e | h
    · cases e
      rw [hc]
      simp [valD]
    · have hne : y ≠ x := fun e => nd.1 (e ▸ List.mem_map_of_mem (f := (·.1)) h)
      have ih := val_in nd.2 h
      have h2 : ¬ (Sum.inr y : Key) = Sum.inr x := fun e => hne (Sum.inr.inj e)
      rw [hc]
      unfold valD at ih ⊢
      rw [List.find?_cons, decide_eq_false h2]
      exact ih
theorem mark_in {x : Str} {kvs : List (Key × D)} {neg : Bool} : oIn neg (.d (.str x)) (.d (markD kvs)) st = .ok (.d (.bool (neg ^^ (valD kvs (.inr x)).isSome))) st := by
  show (match (R.d (markD kvs)).dct? st with
    | some kvs => _
    | none => _) = _
  rw [dct_mark]
  rfl
theorem mark_ix {x : Str} {kvs : List (Key × D)} {d : D} (h : valD kvs (.inr x) = some d) : oIx (.d (markD kvs)) (.d (.str x)) st = .ok (.d d) st := by
  show (match (R.d (markD kvs)).dct? st with
    | some kvs => (match valD kvs (.inr x) with
      | some x => Res.ok (R.d x) st
      | none => .no)
    | none => .no) = _
  rw [dct_mark]
  simp only [h]
/-- is_open, by any table of what came -/
theorem is_open_g {w src struck c : List Str} {cm : D} (hw : w.length ≤ 1000) (hc : ∀ n st, oIn false (.d (.str n)) (.d cm) st = .ok (.d (.bool (decide (n ∈ c)))) st) :
    F_is_open [eStrs w, eStrs src, eStrs struck, cm] st = .ok (.d (.bool (opens src struck c w))) st := by
  have e : C_is_open_1 [some (.d (eStrs w)), some (.d (eStrs src)), some (.d (eStrs struck)), some (.d cm), none] st = .ok (.l true ((w.map fun n => if n ∈ src then decide (n ∉ struck) else decide (n ∈ c)).map .bool)) st := by
    rw [List.map_map]
    refine dLc_map (enc := PyData.str) _ (by simp) (by omega) fun n _ => ?_
    refine lcStep_ok (r := .d (.bool (if n ∈ src then decide (n ∉ struck) else decide (n ∈ c)))) (s1 := st) (e1 := [some (.d (eStrs w)), some (.d (eStrs src)), some (.d (eStrs struck)), some (.d cm), some (.d (.str n))]) rfl rfl ?_ rfl
    by_cases h : n ∈ src
    · simp [h]
    · simp [h, hc]
  simp [-List.map_map, F_is_open, fnP, D_is_open, env0, e, opens]
/-! ### within -/
variable {B : Book}
abbrev wnv (B : Book) (lot : List Str) (rows : List Fact) (j4 j5 : Option R) : En := [some (.d (eBook B)), some (.d (eStrs lot)), some (.d (eStrs (B.src ++ lot))), some (.l true (rows.map eFact)), j4, j5, none, none]
theorem within_ways {lot : List Str} {rows : List Fact} {f : Fact} (hw : f.2.length ≤ 1000) (hw2 : ∀ w ∈ f.2, w.length ≤ 1000) : C_within_2 (wnv B lot rows (some (.d (.str f.1))) (some (.d (eWays f.2)))) st = .ok (.l true ((f.2.filter fun w => w.all fun x => decide (x ∈ B.src ++ lot)).map eStrs)) st := by
  refine dLc_filter (enc := eStrs) (g := eStrs) _ rfl (by omega) fun w hwm => ?_
  have e : C_within_1 [some (.d (eBook B)), some (.d (eStrs lot)), some (.d (eStrs (B.src ++ lot))), some (.l true (rows.map eFact)), some (.d (.str f.1)), some (.d (eWays f.2)), some (.d (eStrs w)), none] st = .ok (.l true (w.map fun x => .bool (decide (x ∈ B.src ++ lot)))) st := by
    refine dLc_map (enc := PyData.str) _ rfl (by have := hw2 w hwm; omega) fun x _ => ?_
    exact lcStep_ok (r := .d (.bool (decide (x ∈ B.src ++ lot)))) (s1 := st) (e1 := [some (.d (eBook B)), some (.d (eStrs lot)), some (.d (eStrs (B.src ++ lot))), some (.l true (rows.map eFact)), some (.d (.str f.1)), some (.d (eWays f.2)), some (.d (eStrs w)), some (.d (.str x))]) rfl rfl (bin_ok (a := .d (.str x)) (b := .d (eStrs (B.src ++ lot))) (s1 := st) (s2 := st) rfl rfl (by rw [x_inT, Bool.false_xor])) rfl
  exact lcStep_if (r := .d (eStrs w)) (e1 := [some (.d (eBook B)), some (.d (eStrs lot)), some (.d (eStrs (B.src ++ lot))), some (.l true (rows.map eFact)), some (.d (.str f.1)), some (.d (eWays f.2)), some (.d (eStrs w)), none]) rfl (tst_ok (all_ok (f := fun x => decide (x ∈ B.src ++ lot)) e)) (fun _ => rfl) rfl
theorem withinF_snoc (src : List Str) (fs : List Fact) (f : Fact) (lot : List Str) : withinF src (fs ++ [f]) lot = withinF src fs lot ++ if decide (f.1 ∈ lot) = true then [(f.1, f.2.filter fun w => w.all fun x => decide (x ∈ src ++ lot))] else [] := by
  unfold withinF
  rw [List.filter_append, List.map_append]
  congr 1
  by_cases h : f.1 ∈ lot
  · rw [List.filter_cons_of_pos (by simpa using h), if_pos (by simpa using h)]
    rfl
  · rw [List.filter_cons_of_neg (by simpa using h), if_neg (by simpa using h)]
    rfl
theorem within_turn {lot : List Str} {rows : List Fact} {f : Fact} (hw : f.2.length ≤ 1000) (hw2 : ∀ w ∈ f.2, w.length ≤ 1000) (hl : rows.length ≤ 1000) : B_within_1 (wnv B lot rows (some (.d (.str f.1))) (some (.d (eWays f.2)))) st = .ok (.nx, wnv B lot (rows ++ if decide (f.1 ∈ lot) = true then [(f.1, f.2.filter fun w => w.all fun x => decide (x ∈ B.src ++ lot))] else []) (some (.d (.str f.1))) (some (.d (eWays f.2)))) st := by
  have t : dTst (dBin (oIn false) (eVar 4) (eVar 1)) (wnv B lot rows (some (.d (.str f.1))) (some (.d (eWays f.2)))) st = .ok (decide (f.1 ∈ lot)) st := tst_ok (bin_ok (a := .d (.str f.1)) (b := .d (eStrs lot)) (s1 := st) (s2 := st) rfl rfl (by rw [x_inT, Bool.false_xor]))
  unfold B_within_1
  cases c : decide (f.1 ∈ lot) with
  | true =>
    rw [c] at t
    rw [if_pos rfl]
    refine if_yes t ((app_ok (i := 3) (b := true) (xs := rows.map eFact) (x := eFact (f.1, f.2.filter fun w => w.all fun x => decide (x ∈ B.src ++ lot))) rfl ?_ (by rw [List.length_map]; omega)).trans ?_)
    · exact tup_ok' (rs := [.d (.str f.1), .d (eWays (f.2.filter fun w => w.all fun x => decide (x ∈ B.src ++ lot)))]) (cons_ok (s := st) rfl (cons_ok (s := st) (call1_ok (within_ways hw hw2) rfl) rfl)) rfl (by simp)
    · show Res.ok (Fl.nx, ([some (.d (eBook B)), some (.d (eStrs lot)), some (.d (eStrs (B.src ++ lot))), some (.l true (rows.map eFact ++ [eFact (f.1, f.2.filter fun w => w.all fun x => decide (x ∈ B.src ++ lot))])), some (.d (.str f.1)), some (.d (eWays f.2)), none, none] : En)) st = _
      unfold wnv
      rw [List.map_append]
      rfl
  | false =>
    rw [c] at t
    rw [if_neg Bool.false_ne_true, List.append_nil]
    exact if_no t
theorem within_ok {lot : List Str} (S : Small B.facts) (hs : B.src.length ≤ 1000) (hl : lot.length ≤ 1000) : F_within [eBook B, eStrs lot] st = .ok (.d (eBook ⟨B.src, withinF B.src B.facts lot⟩)) st := by
  have hfew := S.few
  obtain ⟨env', st', c1, c2⟩ := forGo_inv (S := B_within_1) (p := .tp [(.nm 4), (.nm 5)]) (enc := eFact) (fun k env st' => st' = st ∧ ∃ j4 j5, env = wnv B lot (withinF B.src (B.facts.take k) lot) j4 j5)
    B.facts 0 (wnv B lot (withinF B.src (B.facts.take 0) lot) none none) st ⟨rfl, _, _, rfl⟩ fun i f env st' ex ⟨es, j4, j5, ee⟩ => by
      subst es ee
      have hf := List.mem_of_getElem? ex
      have h1 : (withinF B.src (B.facts.take (0 + i)) lot).length ≤ 1000 := by
        unfold withinF
        rw [List.length_map]
        exact Nat.le_trans (List.length_filter_le _ _) (by rw [List.length_take]; omega)
      refine ⟨wnv B lot (withinF B.src (B.facts.take (0 + i)) lot) (some (.d (.str f.1))) (some (.d (eWays f.2))), _, _, rfl, within_turn (S.ways f hf) (S.way f hf) h1, rfl, some (.d (.str f.1)), some (.d (eWays f.2)), ?_⟩
      have : B.facts.take (0 + i + 1) = B.facts.take (0 + i) ++ [f] := by rw [List.take_add_one, Nat.zero_add, ex]; rfl
      rw [this, withinF_snoc]
  obtain ⟨rfl, j4, j5, rfl⟩ := c2
  rw [show B.facts.take (0 + B.facts.length) = B.facts from by rw [Nat.zero_add, List.take_length]] at c1
  unfold F_within
  refine fnP_ret (e := wnv B lot (withinF B.src B.facts lot) j4 j5) ?_
  unfold D_within
  have a1 : dSet 2 slF (dBin oAdd (dBin oIx (eVar 0) (eC (.int 0))) (eVar 1)) (env0 8 [eBook B, eStrs lot]) st' = .ok (.nx, (env0 8 [eBook B, eStrs lot]).set 2 (some (.d (eStrs (B.src ++ lot))))) st' := by
    refine setF_d (i := 2) (bin_ok (a := .d (eStrs B.src)) (b := .d (eStrs lot)) (s1 := st') (s2 := st') (bin_ok (a := .d (eBook B)) (b := .d (.int 0)) (s1 := st') (s2 := st') rfl rfl rfl) rfl ?_)
    rw [x_addT, if_pos (by rw [List.length_map, List.length_map]; exact Nat.le_trans (show B.src.length + lot.length ≤ 1000000 by omega) sizeLine_big), M.ret_ap, ← List.map_append]
  refine (seq_nx a1).trans ((seq_nx (setO_l (i := 3) (xs := []) (lst0 _ _))).trans ?_)
  have a2 : L_within_1 (wnv B lot [] none none) st' = .ok (.nx, wnv B lot (withinF B.src B.facts lot) j4 j5) st' := by
    unfold L_within_1
    exact (dFor_ok (xs := B.facts.map eFact) (st1 := st') ((dItS_ok (r := .d (.tuple (B.facts.map eFact))) (s := st') (bin_ok (a := .d (eBook B)) (b := .d (.int 1)) (s1 := st') (s2 := st') rfl rfl rfl)).trans rfl)).trans c1
  refine (seq_nx a2).trans (ret_at ?_)
  exact tup_ok' (rs := [.d (eStrs B.src), .d (.tuple ((withinF B.src B.facts lot).map eFact))]) (cons_ok (s := st') (bin_ok (a := .d (eBook B)) (b := .d (.int 0)) (s1 := st') (s2 := st') rfl rfl rfl) (cons_ok (s := st') (call1_ok (r := .l false ((withinF B.src B.facts lot).map eFact)) rfl rfl) rfl)) rfl (by simp)
/-! ### lots with a fact -/
theorem lots_with_ok {others : List Str} {x : Str} (h : others.length ≤ 8) : F_lots_with [.list (others.map .str), .str x] st = .ok (.l true ((lotsW others x).map eStrs)) st := by
  obtain ⟨ls, hls⟩ : ∃ ls, ls = (lotsL others).map fun l => sortS (l ++ [x]) := ⟨_, rfl⟩
  have hl := lots_small h
  have hl1 : ls.length ≤ 5000 := by rw [hls, List.length_map]; exact hl.1
  have hl2 : ∀ l ∈ ls, l.length ≤ 100 := fun l hm => by
    rw [hls] at hm
    obtain ⟨k, hk, rfl⟩ := List.mem_map.mp hm
    rw [sortS_len, List.length_append, List.length_singleton]
    have := (hl.2 k hk).length_le
    omega
  have e1 : C_lots_with_1 (env0 5 [.list (others.map .str), .str x]) st = .ok (.l true (ls.map eStrs)) st := by
    rw [hls, List.map_map]
    refine dLc_map (enc := eStrs) _ ?_ (by omega) fun l hm => ?_
    · refine (dItE_ok (r := .l true ((lotsL others).map eStrs)) (s := st) ?_).trans rfl
      rw [dCall_ok (cons_ok (r := .d (.list (others.map .str))) rfl rfl)]
      exact opC_ok rfl rfl (lots_okG (nx := .list (others.map .str)) h fun _ => rfl)
    · have hk := (hl.2 l hm).length_le
      refine lcStep_ok (r := .d (eStrs (sortS (l ++ [x])))) (s1 := st) (e1 := [some (.d (.list (others.map .str))), some (.d (.str x)), none, some (.d (eStrs l)), none]) rfl rfl (call1_ok (r := .l true ((sortS (l ++ [x])).map .str)) (call1_ok (r := .d (eStrs (l ++ [x]))) (s := st) (bin_ok (a := .d (eStrs l)) (b := .d (.tuple [.str x])) (s1 := st) (s2 := st) rfl (tupT rfl) ?_) (oSorted_strsT (by rw [List.length_append, List.length_singleton]; omega))) rfl) rfl
      rw [x_addT, if_pos (by rw [List.length_map, List.length_singleton]; exact Nat.le_trans (show l.length + 1 ≤ 1000000 by omega) sizeLine_big), M.ret_ap]
      unfold eStrs
      rw [List.map_append]
      rfl
  have a1 := setF_l (i := 2) e1
  obtain ⟨E, hE⟩ : ∃ E : En, E = [some (.d (.list (others.map .str))), some (.d (.str x)), some (.d (.list (ls.map eStrs))), none, none] := ⟨_, rfl⟩
  rw [show (env0 5 [.list (others.map .str), .str x]).set 2 (some (.d (.list (ls.map eStrs)))) = E from hE.symm] at a1
  have e2 : C_lots_with_2 E st = .ok (.l true (ls.map encL)) st := by
    rw [hE]
    refine dLc_map (enc := eStrs) _ rfl (by omega) fun s hs => ?_
    refine lcStep_ok (r := .d (encL s)) (s1 := st) (e1 := [some (.d (.list (others.map .str))), some (.d (.str x)), some (.d (.list (ls.map eStrs))), some (.d (eStrs s)), none]) rfl rfl (tup_ok' (rs := [.d (.int (s.length : Nat)), .d (eStrs s)]) (cons_ok (call1_ok (r := .d (eStrs s)) rfl ?_) (cons_ok rfl rfl)) rfl (by simp)) rfl
    rw [x_lenT, List.length_map]
  have e3 : C_lots_with_3 E st = .ok (.l true ((lotsW others x).map eStrs)) st := by
    have hw : lotsW others x = ls.mergeSort fun a b => dle (encL a) (encL b) := by rw [hls]; rfl
    rw [hw]
    refine dLc_map (enc := encL) _ ?_ (by rw [(List.mergeSort_perm _ _).length_eq]; omega) fun s hs => ?_
    · refine (dItE_ok (r := .l true (srt (ls.map encL))) (s := st) (call1_ok e2 ?_)).trans ?_
      · show (if srtOk (ls.map encL) = true then Res.ok (R.l true (srt (ls.map encL))) st else .no) = _
        rw [if_pos (srtOk_encL (by omega))]
      · rw [srt_encL]
        rfl
    · rw [hE]
      exact lcStep_ok (r := .d (eStrs s)) (s1 := st) (e1 := [some (.d (.list (others.map .str))), some (.d (.str x)), some (.d (.list (ls.map eStrs))), some (.d (eStrs s)), some (.d (.int (s.length : Nat)))]) rfl rfl rfl rfl
  unfold F_lots_with
  refine fnP_ret (e := E) ?_
  unfold D_lots_with
  exact (seq_nx a1).trans (ret_at e3)
/-! ### in order -/
def numD (p : Int × Str) : D := .tuple [.int p.1, .str p.2]
theorem numD_toks {p q : Int × Str} (h : PySem.W.keyToks (numD p) = PySem.W.keyToks (numD q)) : p = q := by
  unfold numD at h
  have h2 : PySem.W.keyToksAll [.int p.1, .str p.2] = PySem.W.keyToksAll [.int q.1, .str q.2] := by
    simp only [PySem.W.keyToks] at h
    simpa using h
  have h3 := toks_int h2
  exact Prod.ext h3.1 (toks_str h3.2).1
theorem srtOk_num {xs : List (Int × Str)} (h : xs.length ≤ 1000000) : srtOk (xs.map numD) = true := by
  have h2 : xs.length ≤ sizeLine := Nat.le_trans h sizeLine_big
  simp only [srtOk, srtKinds, Bool.and_eq_true, Bool.or_eq_true, List.all_eq_true, decide_eq_true_eq]
  refine ⟨⟨⟨fun a ha b hb => ?_, .inl fun a ha => ?_⟩, fun a ha => ?_⟩, by rw [List.length_map]; exact h2⟩
  · obtain ⟨x, _, rfl⟩ := List.mem_map.mp ha
    obtain ⟨y, _, rfl⟩ := List.mem_map.mp hb
    simp [numD, PySem.W.alike, PySem.W.alikeAll]
  · obtain ⟨x, _, rfl⟩ := List.mem_map.mp ha
    rfl
  · obtain ⟨x, _, rfl⟩ := List.mem_map.mp ha
    exact (dp_tuple (n := 0) fun z hz => by
      simp only [List.mem_cons, List.not_mem_nil, or_false] at hz
      rcases hz with rfl | rfl
      · exact dp_int _
      · exact dp_str _).ok
theorem dle_num {i : Int} {a b : Str} (h : dle (.str a) (.str b) = true) : dle (numD (i, a)) (numD (i, b)) = true := by
  unfold numD
  rw [dle_lt] at h ⊢
  rw [PySem.W.dataLt_tuple, PySem.W.dataLt_cons (by simp [PySem.W.alike]), eqv_int, decide_eq_true rfl, if_pos rfl, PySem.W.dataLt_cons (by simp [PySem.W.alike])]
  by_cases e : PyData.eqv (.str b) (.str a) = true
  · rw [if_pos e]
    rfl
  · rw [if_neg e]
    exact h
theorem dle_num2 {i j : Int} {a b : Str} (h : i < j) : dle (numD (i, a)) (numD (j, b)) = true := by
  unfold numD
  rw [dle_lt, PySem.W.dataLt_tuple, PySem.W.dataLt_cons (by simp [PySem.W.alike]), eqv_int, decide_eq_false (by omega), if_neg Bool.false_ne_true, PySem.W.dataLt_int, decide_eq_false (by omega)]
  rfl
theorem in_order_ok {rs : List (Str × Int)} (h : rs.length ≤ 1000) : F_in_order [markD (N.kv rs)] st = .ok (.l true (srt ((rs.map fun p => (p.2, p.1)).map numD))) st := by
  have e : C_in_order_1 (env0 3 [markD (N.kv rs)]) st = .ok (.l true ((rs.map fun p => (p.2, p.1)).map numD)) st := by
    rw [List.map_map]
    refine dLc_map (enc := fun p : Str × Int => PyData.tuple [.str p.1, .int p.2]) _ ?_ (by omega) fun p _ => ?_
    · show itItems (R.d (markD (N.kv rs))) st = _
      unfold itItems
      simp only [dF_mark]
      show Res.ok ((kv rs).map fun p => PyData.tuple [kD p.1, p.2]) st = _
      rw [kv_pairs]
      rfl
    · exact lcStep_ok (r := .d (numD (p.2, p.1))) (s1 := st) (e1 := [some (.d (markD (N.kv rs))), some (.d (.str p.1)), some (.d (.int p.2))]) rfl rfl (tup_ok' (rs := [.d (.int p.2), .d (.str p.1)]) (cons_ok rfl (cons_ok rfl rfl)) rfl (by simp)) rfl
  unfold F_in_order
  refine fnP_ret (e := env0 3 [markD (N.kv rs)]) (ret_at (call1_ok e ?_))
  show (if srtOk ((rs.map fun p => (p.2, p.1)).map numD) = true then Res.ok (R.l true (srt ((rs.map fun p => (p.2, p.1)).map numD))) st else .no) = _
  rw [if_pos (srtOk_num (by rw [List.length_map]; omega))]
end
end KD

/-! LE5: the walk of lead. -/
namespace KD
open PySem PySem.Spec L2 N
section
variable (src s : List Str) (fs : List Fact) (lot : List Str)
def labK (k : Nat) : List (Int × Str) := (List.range k).flatMap fun i => (fr src s fs lot (cg src s fs lot i)).map fun x => (((i + 1 : Nat) : Int), x)
end
section
variable {src s : List Str} {fs : List Fact} {lot : List Str}
theorem labK_names : ∀ k, (labK src s fs lot k).map (·.2) = cg src s fs lot k
  | 0 => rfl
  | k + 1 => by
    have ih := labK_names k
    unfold labK at ih ⊢
    rw [List.range_succ, List.flatMap_append, List.map_append, ih]
    show _ = cg src s fs lot k ++ fr src s fs lot (cg src s fs lot k)
    congr 1
    simp [Function.comp_def]
theorem labK_mem {k : Nat} {p : Int × Str} : p ∈ labK src s fs lot k ↔ ∃ i < k, p.1 = ((i + 1 : Nat) : Int) ∧ p.2 ∈ fr src s fs lot (cg src s fs lot i) := by
  unfold labK
  rw [List.mem_flatMap]
  constructor
  · rintro ⟨i, hi, h⟩
    obtain ⟨x, hx, rfl⟩ := List.mem_map.mp h
    exact ⟨i, List.mem_range.mp hi, rfl, hx⟩
  · rintro ⟨i, hi, h1, h2⟩
    exact ⟨i, List.mem_range.mpr hi, List.mem_map.mpr ⟨p.2, h2, Prod.ext h1.symm rfl⟩⟩
theorem labK_rise (hr : lot.Pairwise fun a b => dle (.str a) (.str b) = true) (k : Nat) : (labK src s fs lot k).Pairwise fun a b => dle (numD a) (numD b) = true := by
  unfold labK
  rw [List.pairwise_flatMap]
  constructor
  · intro i _
    rw [List.pairwise_map]
    exact (hr.sublist List.filter_sublist).imp fun h => dle_num h
  · refine (List.pairwise_lt_range (n := k)).imp fun {i j} hij => ?_
    intro a ha b hb
    obtain ⟨x, _, rfl⟩ := List.mem_map.mp ha
    obtain ⟨y, _, rfl⟩ := List.mem_map.mp hb
    exact dle_num2 (by omega)
theorem rn_nd (S : Small fs) : ((RN src s fs).map (·.1)).Nodup := stand_nd S
theorem here_mem (S : Small fs) {x : Str} {m : Int} : (x, m) ∈ RN src s (withinF src fs lot) ↔ ∃ i : Nat, m = ((i + 1 : Nat) : Int) ∧ x ∈ fr src s fs lot (cg src s fs lot i) := by
  have W := withinF_small (src := src) (lot := lot) S
  constructor
  · intro h
    obtain ⟨q, e, hq⟩ := rn_in h
    obtain ⟨h1, h2⟩ := (in_cg S.nd W).mp hq
    refine ⟨q - 1, ?_, h2⟩
    show m = _
    have e : m = (q : Int) := e
    omega
  · rintro ⟨i, rfl, h⟩
    exact rn_of W ((in_cg S.nd W).mpr ⟨by omega, by rw [Nat.add_sub_cancel]; exact h⟩)
theorem fr_lt (nd : lot.Nodup) {i : Nat} {x : Str} (h : x ∈ fr src s fs lot (cg src s fs lot i)) : i < lot.length := by
  have h1 := cg_grow i (List.ne_nil_of_mem h)
  have h2 := cg_le (src := src) (s := s) (fs := fs) nd (i + 1)
  omega
theorem order_ok (S : Small fs) (nd : lot.Nodup) (hr : lot.Pairwise fun a b => dle (.str a) (.str b) = true) :
    srt (((RN src s (withinF src fs lot)).map fun p => (p.2, p.1)).map numD) = (labK src s fs lot lot.length).map numD := by
  have W := withinF_small (src := src) (lot := lot) S
  refine (srt_unique (fun a ha b hb e => ?_) (List.Perm.map numD (perm_of_nodup ?_ ?_ fun p => ?_)) ?_).symm
  · obtain ⟨p, _, rfl⟩ := List.mem_map.mp ha
    obtain ⟨q, _, rfl⟩ := List.mem_map.mp hb
    rw [numD_toks e]
  · have h : ((labK src s fs lot lot.length).map (·.2)).Nodup := by rw [labK_names]; exact cg_nd nd _
    exact List.Pairwise.of_map (S := fun a b => a ≠ b) (·.2) (fun a b hne e => hne (congrArg (·.2) e)) h
  · have h : (((RN src s (withinF src fs lot)).map fun p => (p.2, p.1)).map (·.2)).Nodup := by
      rw [List.map_map]
      exact rn_nd W
    exact List.Pairwise.of_map (S := fun a b => a ≠ b) (·.2) (fun a b hne e => hne (congrArg (·.2) e)) h
  · rw [labK_mem, List.mem_map]
    constructor
    · rintro ⟨i, hi, h1, h2⟩
      exact ⟨(p.2, p.1), (here_mem S).mpr ⟨i, h1, h2⟩, rfl⟩
    · rintro ⟨q, hq, rfl⟩
      obtain ⟨i, h1, h2⟩ := (here_mem S).mp hq
      exact ⟨i, fr_lt nd h2, h1, h2⟩
  · rw [List.pairwise_map]
    exact labK_rise hr _
/-- those of the rounds ahead -/
theorem ahead_mem (S : Small fs) (i : Nat) (y : Str) : y ∈ ((RN src s (withinF src fs lot)).filter fun p => decide (p.2 < ((i + 1 : Nat) : Int))).map (·.1) ↔ y ∈ cg src s fs lot i := by
  have W := withinF_small (src := src) (lot := lot) S
  rw [List.mem_map]
  constructor
  · rintro ⟨p, hp, rfl⟩
    obtain ⟨h1, h2⟩ := List.mem_filter.mp hp
    obtain ⟨j, e, h3⟩ := (here_mem S).mp h1
    have h2 := of_decide_eq_true h2
    have e : p.2 = ((j + 1 : Nat) : Int) := e
    have hj : j + 1 ≤ i := by omega
    exact cg_up hj p.1 (List.mem_append_right _ h3)
  · intro h
    have hi : y ∈ all src s fs lot ∨ True := .inr trivial
    obtain ⟨m, hm⟩ := stand_in (came_stand W src s i y ((came_cg S.nd W i y).mpr h))
    refine ⟨(y, (m : Int)), List.mem_filter.mpr ⟨rn_of W hm, decide_eq_true ?_⟩, rfl⟩
    show (m : Int) < _
    have : m ≤ i := by
      rcases Nat.lt_or_ge i m with q | q
      · have := hm.no
        exact absurd (came_up (by omega) y ((came_cg S.nd W i y).mpr h)) this
      · exact q
    omega
end
/-! ### the place of a way -/
theorem enum_zip : ∀ (ws : List (List Str)) (k : Nat), enumD k (ws.map eStrs) = (ws.zipIdx k).map fun p => .tuple [.int (p.2 : Int), eStrs p.1]
  | [], _ => rfl
  | w :: ws, k => by
    have ih := enum_zip ws (k + 1)
    rw [List.map_cons, List.zipIdx_cons, List.map_cons, ← ih]
    rfl
theorem first_idx {p : List Str → Bool} : ∀ (ws : List (List Str)) (k : Nat), ws.any p = true → ∃ t, ((ws.zipIdx k).filter fun q => p q.1).map (fun q => PyData.int (q.2 : Int)) = .int ((k + ws.findIdx p : Nat) : Int) :: t
  | [], _, h => by cases h
  | w :: ws, k, h => by
    rw [List.zipIdx_cons, List.findIdx_cons]
    cases e : p w with
    | true =>
      rw [List.filter_cons_of_pos (by simpa using e)]
      exact ⟨_, rfl⟩
    | false =>
      rw [List.filter_cons_of_neg (by simp [e])]
      rw [List.any_cons, e, Bool.false_or] at h
      obtain ⟨t, ht⟩ := first_idx ws (k + 1) h
      refine ⟨t, ht.trans ?_⟩
      show PyData.int ((k + 1 + ws.findIdx p : Nat) : Int) :: t = PyData.int ((k + (ws.findIdx p + 1) : Nat) : Int) :: t
      rw [Nat.add_assoc, Nat.add_comm 1]
theorem at_first {x : D} {t : List D} : atI (x :: t) 0 = some x := atI_ok (x := x) (Int.le_refl 0) rfl
def DPlace (opw : List R → M R) : SM :=
  dSeq (dSet 4 slF C_place_of_1)
    (dSeq (dSet 7 slF (dCall opw (dCons (eVar 0) (dCons (eVar 3) dNil))))
    (dRet (dBin oIx C_place_of_2 (eC (.int 0)))))
section
variable {st : Sto} {B : Book} {s lot : List Str}
theorem place_of_ok {opw : List R → M R} {f : Fact} {i : Nat} (S : Small B.facts) (hf : f ∈ B.facts) (hw : ∀ st, opw [.d (eBook B), .d (.str f.1)] st = .ok (.d (eWays f.2)) st) (hi : f.1 ∈ fr B.src s B.facts lot (cg B.src s B.facts lot i)) :
    fnP 10 (DPlace opw) [eBook B, eStrs s, markD (N.kv (RN B.src s (withinF B.src B.facts lot))), .str f.1] st = .ok (.d (.int ((place B.src s B.facts (cg B.src s B.facts lot i) f.1 : Nat) : Int))) st := by
  have W := withinF_small (src := B.src) (lot := lot) S
  have hm : (f.1, ((i + 1 : Nat) : Int)) ∈ RN B.src s (withinF B.src B.facts lot) := (here_mem S).mpr ⟨i, rfl, hi⟩
  have hnd := rn_nd (src := B.src) (s := s) W
  have hl := rnds_len W B.src s ((withinF B.src B.facts lot).length + 1)
  have ah := ahead_mem (src := B.src) (s := s) (lot := lot) S i
  have hv := val_in hnd hm
  obtain ⟨rs, hrs⟩ : ∃ rs, rs = RN B.src s (withinF B.src B.facts lot) := ⟨_, rfl⟩
  rw [← hrs] at hm hnd ah hv ⊢
  have hl : rs.length ≤ 900 := by rw [hrs]; exact hl
  obtain ⟨g, hg⟩ : ∃ g : List (Key × D), g = (rs.filter fun p => decide (p.2 < ((i + 1 : Nat) : Int))).map fun p => ((Sum.inr p.1 : Key), PyData.bool true) := ⟨_, rfl⟩
  have e1 : C_place_of_1 (env0 10 [eBook B, eStrs s, markD (N.kv rs), .str f.1]) st = .ok (.k true (mergeD [] g)) st := by
    have := dDc_pure (p := .tp [(.nm 5), (.nm 6)]) (vs := [5, 6]) (tst := dTst (dBin (oCmp fLt) (eVar 6) (dBin oIx (eVar 2) (eVar 3)))) (fk := eVar 5) (fv := eC (.bool true)) (it := dItI (eVar 2)) (env := env0 10 [eBook B, eStrs s, markD (N.kv rs), .str f.1]) (st := st) (st1 := st) (enc := fun p : Str × Int => PyData.tuple [.str p.1, .int p.2]) (xs := rs) (fun p => if decide (p.2 < ((i + 1 : Nat) : Int)) = true then some ((Sum.inr p.1 : Key), PyData.bool true) else none) ?_ (Nat.le_trans (by omega) sizeLine_big) fun p _ => ?_
    · rw [filterMap_if, ← hg] at this
      exact this
    · show itItems (R.d (markD (N.kv rs))) st = _
      unfold itItems
      simp only [dF_mark]
      show Res.ok ((kv rs).map fun p => PyData.tuple [kD p.1, p.2]) st = _
      rw [kv_pairs]
      rfl
    · have t : dTst (dBin (oCmp fLt) (eVar 6) (dBin oIx (eVar 2) (eVar 3))) [some (.d (eBook B)), some (.d (eStrs s)), some (.d (markD (N.kv rs))), some (.d (.str f.1)), none, some (.d (.str p.1)), some (.d (.int p.2)), none, none, none] st = .ok (decide (p.2 < ((i + 1 : Nat) : Int))) st := by
        refine tst_ok (bin_ok (a := .d (.int p.2)) (b := .d (.int ((i + 1 : Nat) : Int))) (s1 := st) (s2 := st) rfl (bin_ok (a := .d (markD (N.kv rs))) (b := .d (.str f.1)) (s1 := st) (s2 := st) rfl rfl (mark_ix hv)) ?_)
        rw [x_cmp, fLt_int]
      unfold dcStep
      rw [show asg (.tp [(.nm 5), (.nm 6)]) (PyData.tuple [.str p.1, .int p.2]) (wipeE (env0 10 [eBook B, eStrs s, markD (N.kv rs), .str f.1]) [5, 6]) = some [some (.d (eBook B)), some (.d (eStrs s)), some (.d (markD (N.kv rs))), some (.d (.str f.1)), none, some (.d (.str p.1)), some (.d (.int p.2)), none, none, none] from rfl]
      simp only [t]
      cases decide (p.2 < ((i + 1 : Nat) : Int)) <;> rfl
  have hk : ((g.map (·.1))).Nodup := by
    rw [hg, List.map_map]
    have h1 : ((rs.filter fun p => decide (p.2 < ((i + 1 : Nat) : Int))).map (·.1)).Nodup := hnd.sublist (List.Sublist.map _ List.filter_sublist)
    have := List.Pairwise.map (S := fun a b : Key => a ≠ b) (fun x : Str => (Sum.inr x : Key)) (fun a b hne e => hne (Sum.inr.inj e)) h1
    rw [List.map_map] at this
    exact this
  rw [mergeD_new _ _ hk (by simp), List.nil_append] at e1
  obtain ⟨cm, hcm⟩ : ∃ cm, cm = PyData.dict (g.map fun p => (kD p.1, p.2)) := ⟨_, rfl⟩
  have hin : ∀ n st, oIn false (.d (.str n)) (.d cm) st = .ok (.d (.bool (decide (n ∈ cg B.src s B.facts lot i)))) st := fun n st => by
    rw [hcm, x_ind, Bool.false_xor]
    congr 3
    have e : (valD g (.inr n)).isSome = decide (n ∈ (rs.filter fun p => decide (p.2 < ((i + 1 : Nat) : Int))).map (·.1)) := by
      rw [hg]
      generalize (rs.filter fun p => decide (p.2 < ((i + 1 : Nat) : Int))) = l
      unfold valD
      induction l with
      | nil => rfl
      | cons p l ih =>
        rw [List.map_cons, List.find?_cons, List.map_cons]
        by_cases e : p.1 = n
        · have e2 : ((Sum.inr p.1 : Key) = Sum.inr n) := by rw [e]
          rw [decide_eq_true e2]
          simp [e]
        · have e2 : ¬ ((Sum.inr p.1 : Key) = Sum.inr n) := fun q => e (Sum.inr.inj q)
          rw [decide_eq_false e2]
          exact ih.trans (decide_eq_decide.mpr ⟨List.mem_cons_of_mem _, fun q => (List.mem_cons.mp q).resolve_left fun z => e z.symm⟩)
    rw [e]
    simp only [ah]
  obtain ⟨E, hE⟩ : ∃ E : En, E = [some (.d (eBook B)), some (.d (eStrs s)), some (.d (markD (N.kv rs))), some (.d (.str f.1)), some (.d cm), none, none, none, none, none] := ⟨_, rfl⟩
  have a1 : dSet 4 slF C_place_of_1 (env0 10 [eBook B, eStrs s, markD (N.kv rs), .str f.1]) st = .ok (.nx, E) st := by
    rw [hE, hcm]
    refine dSet_ok (r := .k true g) e1 rfl
  have a2 : dSet 7 slF (dCall opw (dCons (eVar 0) (dCons (eVar 3) dNil))) E st = .ok (.nx, E.set 7 (some (.d (eWays f.2)))) st := by
    refine setF_d (i := 7) ?_
    rw [hE, dCall_ok (cons_ok (r := .d (eBook B)) rfl (cons_ok (r := .d (.str f.1)) rfl rfl))]
    exact hw st
  have hany : f.2.any (opens B.src s (cg B.src s B.facts lot i)) = true := by
    have := (fr_iff.mp hi).2.2
    rwa [waysL_of S.nd hf] at this
  obtain ⟨t, ht⟩ := first_idx (p := opens B.src s (cg B.src s B.facts lot i)) f.2 0 hany
  have e3 : C_place_of_2 (E.set 7 (some (.d (eWays f.2)))) st = .ok (.l true (((f.2.zipIdx 0).filter fun q => opens B.src s (cg B.src s B.facts lot i) q.1).map fun q => PyData.int (q.2 : Int))) st := by
    rw [hE]
    refine dLc_filter (enc := fun q : List Str × Nat => PyData.tuple [.int (q.2 : Int), eStrs q.1]) (g := fun q : List Str × Nat => PyData.int (q.2 : Int)) _ ?_ (by rw [List.length_zipIdx]; have := S.ways f hf; omega) fun q hq => ?_
    · show Res.ok (enumD 0 (f.2.map eStrs)) st = _
      rw [← enum_zip f.2 0]
    · have hq2 : q.1 ∈ f.2 := (List.mem_zipIdx hq).2.2 ▸ List.getElem_mem _
      refine lcStep_if (r := .d (.int (q.2 : Int))) (e1 := [some (.d (eBook B)), some (.d (eStrs s)), some (.d (markD (N.kv rs))), some (.d (.str f.1)), some (.d cm), none, none, some (.d (eWays f.2)), some (.d (.int (q.2 : Int))), some (.d (eStrs q.1))]) rfl (tst_ok ?_) (fun _ => rfl) rfl
      rw [dCall_ok (cons_ok (r := .d (eStrs q.1)) rfl (cons_ok (r := .d (eStrs B.src)) (bin_ok (a := .d (eBook B)) (b := .d (.int 0)) (s1 := st) (s2 := st) rfl rfl rfl) (cons_ok (r := .d (eStrs s)) rfl (cons_ok (r := .d cm) rfl rfl))))]
      exact opC_ok rfl rfl (is_open_g (S.way f hf _ hq2) hin)
  refine fnP_ret (e := E.set 7 (some (.d (eWays f.2)))) ?_
  unfold DPlace
  refine (seq_nx a1).trans ((seq_nx a2).trans (ret_at ?_))
  rw [ht] at e3
  refine bin_ok (s1 := st) (s2 := st) e3 rfl ?_
  unfold place
  rw [waysL_of S.nd hf, x_ixl, Nat.zero_add, at_first]
end
end KD

/-! LE6: lead, whole. -/
namespace KD
open PySem PySem.Spec L2 N
def CL2 (PO : List D → M R) : En → M R :=
    (dLc (dItE (dCall (opC 1 F_in_order) (dCons (eVar 7) dNil))) (.tp [(.nm 8), (.nm 5)]) [8, 5] dYes (dCall oTup (dCons (eVar 5) (dCons (dCall (opC 4 PO) (dCons (eVar 0) (dCons (eVar 1) (dCons (eVar 7) (dCons (eVar 5) dNil))))) dNil))))
def BL1 (PO : List D → M R) : SM :=
    (dSeq (dSet 7 slF (dUn oLock (dCall (opC 2 F_rounds) (dCons (dCall (opC 2 F_within) (dCons (eVar 0) (dCons (eVar 6) dNil))) (dCons (eVar 1) dNil)))))
    (dIfS (dTst (dBin (oIn false) (eVar 2) (eVar 7))) (dRet (CL2 PO)) dSkip))
def LL1 (PO : List D → M R) : SM :=
    (dFor (dItS (dCall (opC 2 F_lots_with) (dCons (eVar 4) (dCons (eVar 2) dNil)))) (.nm 6) (BL1 PO))
def DLead (opw : List R → M R) (PO : List D → M R) : SM :=
    (dSeq (dDrop (dCall opw (dCons (eVar 0) (dCons (eVar 2) dNil))))
    (dSeq (dSet 3 slF (dUn oLock (dCall (opC 2 F_rounds) (dCons (eVar 0) (dCons (eVar 1) dNil)))))
    (dSeq (dIfS (dTst (dBin (oIn true) (eVar 2) (eVar 3))) (dRet (eC .none)) dSkip)
    (dSeq (dSet 4 slF C_lead_1)
    (dSeq (LL1 PO)
    (dRet (eC .none)))))))
def eRowL (r : Str × Nat) : D := .tuple [.str r.1, .int (r.2 : Int)]
def leadR : Option (List (Str × Nat)) → R
  | none => .d .none
  | some rows => .l true (rows.map eRowL)
abbrev ldnv (B : Book) (s : List Str) (x : Str) (c : D) (oth : List Str) (j5 j6 j7 j8 : Option R) : En := [some (.d (eBook B)), some (.d (eStrs s)), some (.d (.str x)), some (.d c), some (.d (.list (oth.map .str))), j5, j6, j7, j8]
theorem rows_lab {src s : List Str} {fs : List Fact} {lot : List Str} (k : Nat) : (labK src s fs lot k).map (fun p => eRowL (rowAt src s fs (cg src s fs lot (p.1.toNat - 1)) p.2)) = (rowsK src s fs lot k).map eRowL := by
  unfold labK rowsK
  rw [List.map_flatMap, List.map_flatMap, List.flatMap_def, List.flatMap_def]
  refine congrArg List.flatten (List.map_congr_left fun i _ => ?_)
  rw [List.map_map, List.map_map]
  refine List.map_congr_left fun x _ => ?_
  show eRowL (rowAt src s fs (cg src s fs lot ((((i + 1 : Nat) : Int)).toNat - 1)) x) = _
  rw [Int.toNat_natCast, Nat.add_sub_cancel]
  rfl
section
variable {st : Sto} {B : Book} {s : List Str} {x : Str} {c : D} {oth : List Str} {PO : List D → M R} {opw : List R → M R}
/-- that a fact has a way open says that it is there -/
theorem fr_fact {lot : List Str} {i : Nat} {y : Str} (h : y ∈ fr B.src s B.facts lot (cg B.src s B.facts lot i)) : ∃ f ∈ B.facts, f.1 = y := by
  have h3 := (fr_iff.mp h).2.2
  rcases Classical.em (y ∈ B.facts.map (·.1)) with k | k
  · obtain ⟨f, hf, e⟩ := List.mem_map.mp k
    exact ⟨f, hf, e⟩
  · rw [waysL_none k] at h3
    cases h3
theorem rows_ok {lot : List Str} {j5 j8 : Option R} (S : Small B.facts) (hPO : PO = fnP 10 (DPlace opw)) (hw : ∀ g ∈ B.facts, ∀ st, opw [.d (eBook B), .d (.str g.1)] st = .ok (.d (eWays g.2)) st) (nd : lot.Nodup) (hr : lot.Pairwise fun a b => dle (.str a) (.str b) = true) (hl : lot.length ≤ 1000) :
    CL2 PO (ldnv B s x c oth j5 (some (.d (eStrs lot))) (some (.d (markD (N.kv (RN B.src s (withinF B.src B.facts lot)))))) j8) st = .ok (.l true ((rowsOf B.src s B.facts lot).map eRowL)) st := by
  have W := withinF_small (src := B.src) (lot := lot) S
  have hn : (RN B.src s (withinF B.src B.facts lot)).length ≤ 1000 := Nat.le_trans (rnds_len W B.src s ((withinF B.src B.facts lot).length + 1)) (by decide)
  have ho := order_ok (src := B.src) (s := s) S nd hr
  have hlen : (labK B.src s B.facts lot lot.length).length ≤ 1000 := by
    rw [← List.length_map (f := (·.2)), labK_names]
    exact Nat.le_trans (cg_le nd _) hl
  unfold rowsOf
  rw [← rows_lab]
  refine dLc_map (enc := numD) _ ?_ (Nat.le_trans hlen (by decide)) fun p hp => ?_
  · refine (dItE_ok (r := .l true ((labK B.src s B.facts lot lot.length).map numD)) (s := st) ?_).trans rfl
    rw [dCall_ok (cons_ok (r := .d (markD (N.kv (RN B.src s (withinF B.src B.facts lot))))) rfl rfl), ← ho]
    exact opC_ok rfl rfl (in_order_ok hn)
  · obtain ⟨i, hi, e, hx⟩ := labK_mem.mp hp
    obtain ⟨f, hf, ef⟩ := fr_fact hx
    have hi2 : p.1.toNat - 1 = i := by omega
    rw [hi2]
    refine lcStep_ok (r := .d (eRowL (rowAt B.src s B.facts (cg B.src s B.facts lot i) p.2))) (s1 := st) (e1 := ldnv B s x c oth (some (.d (.str p.2))) (some (.d (eStrs lot))) (some (.d (markD (N.kv (RN B.src s (withinF B.src B.facts lot)))))) (some (.d (.int p.1)))) rfl rfl ?_ rfl
    refine tup_ok' (rs := [.d (.str p.2), .d (.int ((place B.src s B.facts (cg B.src s B.facts lot i) p.2 : Nat) : Int))]) (cons_ok (s := st) rfl (cons_ok (s := st) ?_ rfl)) rfl (by simp)
    rw [dCall_ok (cons_ok (r := .d (eBook B)) rfl (cons_ok (r := .d (eStrs s)) rfl (cons_ok (r := .d (markD (N.kv (RN B.src s (withinF B.src B.facts lot))))) rfl (cons_ok (r := .d (.str p.2)) rfl rfl))))]
    refine opC_ok (s := [.c]) rfl rfl ?_
    rw [hPO, ← ef]
    exact place_of_ok S hf (hw f hf) (by rw [ef]; exact hx)
theorem lot_step {lot : List Str} {j5 j7 j8 : Option R} (S : Small B.facts) (hs : B.src.length ≤ 1000) (hPO : PO = fnP 10 (DPlace opw)) (hw : ∀ g ∈ B.facts, ∀ st, opw [.d (eBook B), .d (.str g.1)] st = .ok (.d (eWays g.2)) st) (nd : lot.Nodup) (hr : lot.Pairwise fun a b => dle (.str a) (.str b) = true) (hl : lot.length ≤ 1000) :
    BL1 PO (ldnv B s x c oth j5 (some (.d (eStrs lot))) j7 j8) st = .ok (if decide (x ∈ all B.src s B.facts lot) = true then .ret (.l true ((rowsOf B.src s B.facts lot).map eRowL)) else .nx, ldnv B s x c oth j5 (some (.d (eStrs lot))) (some (.d (markD (N.kv (RN B.src s (withinF B.src B.facts lot)))))) j8) st := by
  have W := withinF_small (src := B.src) (lot := lot) S
  have e1 := within_ok (st := [.c]) S hs hl
  have e2 := rounds_ok (B := ⟨B.src, withinF B.src B.facts lot⟩) (struck := s) (st := [.c]) W (Nat.le_refl _)
  have a1 : dSet 7 slF (dUn oLock (dCall (opC 2 F_rounds) (dCons (dCall (opC 2 F_within) (dCons (eVar 0) (dCons (eVar 6) dNil))) (dCons (eVar 1) dNil)))) (ldnv B s x c oth j5 (some (.d (eStrs lot))) j7 j8) st = .ok (.nx, ldnv B s x c oth j5 (some (.d (eStrs lot))) (some (.d (markD (N.kv (RN B.src s (withinF B.src B.facts lot)))))) j8) st := by
    refine setF_d (i := 7) ?_
    have h1 : dCall (opC 2 F_within) (dCons (eVar 0) (dCons (eVar 6) dNil)) (ldnv B s x c oth j5 (some (.d (eStrs lot))) j7 j8) st = .ok (.d (eBook ⟨B.src, withinF B.src B.facts lot⟩)) st := by
      rw [dCall_ok (cons_ok (r := .d (eBook B)) rfl (cons_ok (r := .d (eStrs lot)) rfl rfl))]
      exact opC_ok rfl rfl e1
    have h2 : dCall (opC 2 F_rounds) (dCons (dCall (opC 2 F_within) (dCons (eVar 0) (dCons (eVar 6) dNil))) (dCons (eVar 1) dNil)) (ldnv B s x c oth j5 (some (.d (eStrs lot))) j7 j8) st = .ok (.k true (N.kv (RN B.src s (withinF B.src B.facts lot)))) st := by
      rw [dCall_ok (cons_ok h1 (cons_ok (r := .d (eStrs s)) rfl rfl))]
      exact opC_ok rfl rfl e2
    unfold dUn
    rw [M.bind_ok h2]
    rfl
  have t : dTst (dBin (oIn false) (eVar 2) (eVar 7)) (ldnv B s x c oth j5 (some (.d (eStrs lot))) (some (.d (markD (N.kv (RN B.src s (withinF B.src B.facts lot)))))) j8) st = .ok (decide (x ∈ all B.src s B.facts lot)) st := by
    refine tst_ok (bin_ok (a := .d (.str x)) (b := .d (markD (N.kv (RN B.src s (withinF B.src B.facts lot))))) (s1 := st) (s2 := st) rfl rfl ?_)
    rw [mark_in, Bool.false_xor, valD_kv]
    have h := stand_all (src := B.src) (s := s) (x := x) S.nd W nd
    congr 3
    exact decide_eq_decide.mpr h
  unfold BL1
  rw [seq_nx a1]
  cases e : decide (x ∈ all B.src s B.facts lot) with
  | true =>
    rw [e] at t
    exact if_yes t (retE_ok (rows_ok S hPO hw nd hr hl))
  | false =>
    rw [e] at t
    exact if_no t
theorem lots_go {j8 : Option R} (S : Small B.facts) (hs : B.src.length ≤ 1000) (hPO : PO = fnP 10 (DPlace opw)) (hw : ∀ g ∈ B.facts, ∀ st, opw [.d (eBook B), .d (.str g.1)] st = .ok (.d (eWays g.2)) st) : ∀ (ls : List (List Str)) (j5 j6 j7 : Option R), (∀ l ∈ ls, l.Nodup ∧ (l.Pairwise fun a b => dle (.str a) (.str b) = true) ∧ l.length ≤ 1000) →
    ∃ e, forGo (.nm 6) (BL1 PO) (ls.map eStrs) (ldnv B s x c oth j5 j6 j7 j8) st = .ok (match ls.find? fun l => decide (x ∈ all B.src s B.facts l) with
      | some l => .ret (.l true ((rowsOf B.src s B.facts l).map eRowL))
      | none => .nx, e) st
  | [], j5, j6, j7, _ => ⟨_, rfl⟩
  | l :: ls, j5, j6, j7, h => by
    obtain ⟨h1, h2, h3⟩ := h l List.mem_cons_self
    have t := lot_step (st := st) (x := x) (s := s) (c := c) (oth := oth) (j5 := j5) (j7 := j7) (j8 := j8) S hs hPO hw h1 h2 h3
    rw [List.find?_cons, List.map_cons]
    cases e : decide (x ∈ all B.src s B.facts l) with
    | true =>
      rw [e, if_pos rfl] at t
      exact ⟨_, forGo_ret (e1 := ldnv B s x c oth j5 (some (.d (eStrs l))) j7 j8) rfl t⟩
    | false =>
      rw [e, if_neg Bool.false_ne_true] at t
      obtain ⟨e', g⟩ := lots_go (j8 := j8) S hs hPO hw ls j5 (some (.d (eStrs l))) (some (.d (markD (N.kv (RN B.src s (withinF B.src B.facts l)))))) fun k hk => h k (List.mem_cons_of_mem _ hk)
      exact ⟨e', (forGo_cons (e1 := ldnv B s x c oth j5 (some (.d (eStrs l))) j7 j8) rfl t).trans g⟩
theorem lead_ok {f : Fact} (S : Small B.facts) (hs : B.src.length ≤ 1000) (h8 : B.facts.length ≤ 8) (hPO : PO = fnP 10 (DPlace opw)) (hf : f ∈ B.facts) (hw : ∀ g ∈ B.facts, ∀ st, opw [.d (eBook B), .d (.str g.1)] st = .ok (.d (eWays g.2)) st) :
    fnP 9 (DLead opw PO) [eBook B, eStrs s, .str f.1] st = .ok (leadR (leadL B.src s B.facts f.1)) st := by
  have a0 : dDrop (dCall opw (dCons (eVar 0) (dCons (eVar 2) dNil))) (env0 9 [eBook B, eStrs s, .str f.1]) st = .ok (.nx, env0 9 [eBook B, eStrs s, .str f.1]) st := by
    refine drop_ok (r := .d (eWays f.2)) ?_
    rw [dCall_ok (cons_ok (r := .d (eBook B)) rfl (cons_ok (r := .d (.str f.1)) rfl rfl))]
    exact hw f hf st
  obtain ⟨rs, hrs⟩ : ∃ rs, rs = RN B.src s B.facts := ⟨_, rfl⟩
  have hn : rs.map (·.1) = stand B.src s B.facts := by rw [hrs]; rfl
  have hrl : rs.length ≤ 900 := by rw [hrs]; exact rnds_len S B.src s _
  obtain ⟨E, hE⟩ : ∃ E : En, E = [some (.d (eBook B)), some (.d (eStrs s)), some (.d (.str f.1)), some (.d (markD (N.kv rs))), none, none, none, none, none] := ⟨_, rfl⟩
  have a1 : dSet 3 slF (dUn oLock (dCall (opC 2 F_rounds) (dCons (eVar 0) (dCons (eVar 1) dNil)))) (env0 9 [eBook B, eStrs s, .str f.1]) st = .ok (.nx, E) st := by
    rw [hE]
    refine setF_d (i := 3) ?_
    have h2 : dCall (opC 2 F_rounds) (dCons (eVar 0) (dCons (eVar 1) dNil)) (env0 9 [eBook B, eStrs s, .str f.1]) st = .ok (.k true (N.kv rs)) st := by
      rw [dCall_ok (cons_ok (r := .d (eBook B)) rfl (cons_ok (r := .d (eStrs s)) rfl rfl)), hrs]
      exact opC_ok rfl rfl (rounds_ok S (Nat.le_refl _))
    unfold dUn
    rw [M.bind_ok h2]
    rfl
  have t : dTst (dBin (oIn true) (eVar 2) (eVar 3)) E st = .ok (!decide (f.1 ∈ stand B.src s B.facts)) st := by
    rw [hE]
    refine tst_ok (bin_ok (a := .d (.str f.1)) (b := .d (markD (N.kv rs))) (s1 := st) (s2 := st) rfl rfl ?_)
    rw [mark_in, Bool.true_xor, valD_kv, hn]
  by_cases hx : f.1 ∈ stand B.src s B.facts
  · rw [decide_eq_true hx] at t
    have hol : (othersOf B.src s B.facts f.1).length ≤ 8 := by
      refine Nat.le_trans ((othersOf_nd S).length_le_of_subset (l₂ := B.facts.map (·.1)) fun y hy => stand_names S B.src s y (othersOf_mem.mp hy).1) ?_
      rw [List.length_map]
      exact h8
    have a2 : dSet 4 slF C_lead_1 E st = .ok (.nx, ldnv B s f.1 (markD (N.kv rs)) (othersOf B.src s B.facts f.1) none none none none) st := by
      have e : C_lead_1 E st = .ok (.l true ((othersOf B.src s B.facts f.1).map .str)) st := by
        unfold othersOf
        rw [hE]
        refine dLc_filter (enc := PyData.str) (g := PyData.str) _ ?_ (by rw [sortS_len, ← hn, List.length_map]; omega) fun y _ => ?_
        · refine (dItE_ok (r := .l true ((sortS (stand B.src s B.facts)).map .str)) (s := st) (call1_ok (r := .d (markD (N.kv rs))) rfl ?_)).trans rfl
          have hk : (R.d (markD (N.kv rs))).keys? st = some ((rs.map (·.1)).map .str) := by
            unfold R.keys?
            rw [dct_mark]
            show some ((N.kv rs).map fun p => kD p.1) = _
            unfold N.kv
            rw [List.map_map, List.map_map]
            rfl
          unfold oSorted
          rw [show (R.d (markD (N.kv rs))).tup? = none from rfl]
          simp only [lst_mark, hk, srtOk_strs (xs := rs.map (·.1)) (by rw [List.length_map]; omega), if_true]
          rw [hn, srt_strs]
        · exact lcStep_if (r := .d (.str y)) (e1 := [some (.d (eBook B)), some (.d (eStrs s)), some (.d (.str f.1)), some (.d (markD (N.kv rs))), none, some (.d (.str y)), none, none, none]) rfl (tst_ok (bin_ok (a := .d (.str y)) (b := .d (.str f.1)) (s1 := st) (s2 := st) rfl rfl (by rw [oEq_str, Bool.true_xor, decide_not]))) (fun _ => rfl) rfl
      rw [hE] at e ⊢
      exact setF_l (i := 4) e
    have hlots : ∀ l ∈ lotsW (othersOf B.src s B.facts f.1) f.1, l.Nodup ∧ (l.Pairwise fun a b => dle (.str a) (.str b) = true) ∧ l.length ≤ 1000 := fun l hl => by
      have L := lotsW_ok (othersOf_nd S) othersOf_no hl
      refine ⟨L.nd, L.rise, ?_⟩
      have := L.nd.length_le_of_subset (l₂ := f.1 :: othersOf B.src s B.facts f.1) fun y hy => List.mem_cons.mpr (L.sub y hy)
      rw [List.length_cons] at this
      omega
    obtain ⟨e', g⟩ := lots_go (st := st) (x := f.1) (s := s) (c := markD (N.kv rs)) (oth := othersOf B.src s B.facts f.1) (j8 := none) S hs hPO hw _ none none none hlots
    have a3 := (show LL1 PO (ldnv B s f.1 (markD (N.kv rs)) (othersOf B.src s B.facts f.1) none none none none) st = forGo (.nm 6) (BL1 PO) ((lotsW (othersOf B.src s B.facts f.1) f.1).map eStrs) (ldnv B s f.1 (markD (N.kv rs)) (othersOf B.src s B.facts f.1) none none none none) st from by
      unfold LL1
      refine dFor_ok (xs := (lotsW (othersOf B.src s B.facts f.1) f.1).map eStrs) (st1 := st) ?_
      refine (dItS_ok (r := .l true ((lotsW (othersOf B.src s B.facts f.1) f.1).map eStrs)) (s := st) ?_).trans rfl
      rw [dCall_ok (cons_ok (r := .d (.list ((othersOf B.src s B.facts f.1).map .str))) rfl (cons_ok (r := .d (.str f.1)) rfl rfl))]
      exact opC_ok rfl rfl (lots_with_ok hol)).trans g
    have hlead : leadL B.src s B.facts f.1 = ((lotsW (othersOf B.src s B.facts f.1) f.1).find? fun l => decide (f.1 ∈ all B.src s B.facts l)).map (rowsOf B.src s B.facts) := by
      unfold leadL lotOf
      rw [if_pos hx]
    rw [hlead]
    cases q : (lotsW (othersOf B.src s B.facts f.1) f.1).find? fun l => decide (f.1 ∈ all B.src s B.facts l) with
    | some l =>
      rw [q] at a3
      refine fnP_ret (e := e') ?_
      unfold DLead
      refine (seq_nx a0).trans ((seq_nx a1).trans ((seq_nx (if_no t)).trans ((seq_nx a2).trans ?_)))
      unfold dSeq
      rw [M.bind_ok a3]
      rfl
    | none =>
      rw [q] at a3
      refine fnP_ret (e := e') ?_
      unfold DLead
      exact (seq_nx a0).trans ((seq_nx a1).trans ((seq_nx (if_no t)).trans ((seq_nx a2).trans ((seq_nx a3).trans (retE_ok rfl)))))
  · rw [decide_eq_false hx] at t
    have hlead : leadL B.src s B.facts f.1 = none := by
      unfold leadL lotOf
      rw [if_neg hx]
      rfl
    rw [hlead]
    refine fnP_ret (e := E) ?_
    unfold DLead
    refine (seq_nx a0).trans ((seq_nx a1).trans ?_)
    unfold dSeq
    rw [M.bind_ok (if_yes t (retE_ok (r := .d .none) rfl))]
    rfl
theorem lead_call {f : Fact} (S : Small B.facts) (hs : B.src.length ≤ 1000) (h8 : B.facts.length ≤ 8) (hf : f ∈ B.facts) : F_lead [eBook B, eStrs s, .str f.1] st = .ok (leadR (leadL B.src s B.facts f.1)) st :=
  lead_ok (opw := opC 2 F_ways_of) (PO := F_place_of) S hs h8 rfl hf fun g hg st => opC_ok rfl rfl (ways_of_ok S hg)
end
end KD

/-! LE7: leads read of any data. -/
namespace KD
open PySem PySem.Spec L2 N
def facKs (fs : List Fact) : List (Key × D) := fs.map fun f => ((Sum.inr f.1 : Key), eWays f.2)
abbrev tblD (fs : List Fact) : D := markD (facKs fs)
theorem pairs_fac : ∀ fs : List Fact, pairsOf (fs.map eFact) = some (facKs fs)
  | [] => rfl
  | f :: fs => by
    rw [List.map_cons, pairsOf, pairs_fac fs]
    rfl
theorem facKs_nd {fs : List Fact} (S : Small fs) : ((facKs fs).map (·.1)).Nodup := by
  unfold facKs
  rw [List.map_map]
  have := List.Pairwise.map (S := fun a b : Key => a ≠ b) (fun x : Str => (Sum.inr x : Key)) (fun a b hne e => hne (Sum.inr.inj e)) S.nd
  rw [List.map_map] at this
  exact this
theorem table_ok {B : Book} {st : Sto} (S : Small B.facts) (hne : B.facts ≠ []) : oDictF (.d (.tuple (B.facts.map eFact))) st = .ok (.d (tblD B.facts)) st := by
  have hw : headW (B.facts.map eFact) = false := by
    cases h : B.facts with
    | nil => exact absurd h hne
    | cons f fs => rfl
  show (if headW (B.facts.map eFact) = true then Res.no else match pairsOf (B.facts.map eFact) with
    | some ps => Res.ok (R.d (markD (mergeD [] ps))) st
    | none => Res.no) = _
  rw [hw, if_neg Bool.false_ne_true, pairs_fac]
  show Res.ok (R.d (markD (mergeD [] (facKs B.facts)))) st = _
  rw [mergeD_new _ _ (facKs_nd S) (by simp)]
  rfl
theorem val_fac : ∀ {fs : List Fact} {x : Str}, valD (facKs fs) (.inr x) = if x ∈ fs.map (·.1) then some (eWays (waysL fs x)) else none
  | [], x => rfl
  | g :: fs, x => by
    have hc : facKs (g :: fs) = (Sum.inr g.1, eWays g.2) :: facKs fs := rfl
    have ih := val_fac (fs := fs) (x := x)
    unfold valD at ih ⊢
    rw [hc, List.find?_cons, waysL_cons]
    by_cases e : g.1 = x
    · have e2 : ((Sum.inr g.1 : Key) = Sum.inr x) := by rw [e]
      rw [decide_eq_true e2, if_pos e, if_pos (by rw [← e]; simp)]
      rfl
    · have e2 : ¬ ((Sum.inr g.1 : Key) = Sum.inr x) := fun q => e (Sum.inr.inj q)
      rw [decide_eq_false e2, if_neg e]
      refine ih.trans ?_
      by_cases h : x ∈ fs.map (·.1)
      · rw [if_pos h, if_pos (by rw [List.map_cons]; exact List.mem_cons_of_mem _ h)]
      · rw [if_neg h, if_neg (by rw [List.map_cons, List.mem_cons, not_or]; exact ⟨fun z => e z.symm, h⟩)]
/-! ### a row -/
def g1 (fs : List Fact) : D → Bool
  | .tuple [.str x, _] => decide (x ∈ fs.map (·.1))
  | _ => false
def g2 (fs : List Fact) (c : List Str) : D → Bool
  | .tuple [.str x, b] => !decide (x ∈ c) && withinD 0 (((waysL fs x).length : Int) - 1) b
  | _ => false
def g3 (src s : List Str) (fs : List Fact) (c : List Str) : D → Bool
  | .tuple [.str x, .int q] => (match (waysL fs x)[q.toNat]? with
    | some w => opens src s c w
    | none => false)
  | _ => false
def nameD : D → Str
  | .tuple [.str x, _] => x
  | _ => ""
def rowOk (src s : List Str) (fs : List Fact) (c : List Str) (y : D) : Bool := g1 fs y && (g2 fs c y && g3 src s fs c y)
def chainD (src s : List Str) (fs : List Fact) : List Str → List D → Option (List Str)
  | c, [] => some c
  | c, y :: ys => if rowOk src s fs c y = true then chainD src s fs (c ++ [nameD y]) ys else none
def isLeadD (src s : List Str) (fs : List Fact) (x : Str) : D → Bool
  | .list ys => (match chainD src s fs [] ys with
    | some c => decide (c.getLast? = some x)
    | none => false)
  | _ => false
def notFact (fs : List Fact) : D → Bool
  | .str x => !decide (x ∈ fs.map (·.1))
  | _ => true
theorem g1_inv {fs : List Fact} {y : D} (h : g1 fs y = true) : ∃ x b, y = .tuple [.str x, b] ∧ x ∈ fs.map (·.1) := by
  unfold g1 at h
  split at h
  · exact ⟨_, _, rfl, of_decide_eq_true h⟩
  · cases h
theorem two_of (x : D) : (∃ a b, x = .tuple [a, b]) ∨ (∃ xs, x = .tuple xs ∧ xs.length ≠ 2) ∨ PyData.isTuple x = false := by
  cases x with
  | tuple xs =>
    match xs with
    | [a, b] => exact .inl ⟨a, b, rfl⟩
    | [] => exact .inr (.inl ⟨_, rfl, by simp⟩)
    | [_] => exact .inr (.inl ⟨_, rfl, by simp⟩)
    | _ :: _ :: _ :: _ => exact .inr (.inl ⟨_, rfl, by simp⟩)
  | _ => exact .inr (.inr rfl)
theorem g1_two {fs : List Fact} {y : D} (h : ∀ a b, y ≠ .tuple [a, b]) : g1 fs y = false := by
  cases e : g1 fs y with
  | false => rfl
  | true =>
    obtain ⟨x, b, rfl, _⟩ := g1_inv e
    exact absurd rfl (h _ _)
theorem pair0 {a b : D} : atI [a, b] 0 = some a := rfl
theorem pair1 {a b : D} : atI [a, b] 1 = some b := rfl
section
variable {m n r t : Nat} {env : En} {st : Sto} {fs : List Fact} {y : D}
theorem isi_of {f : D → Bool} {e : En → M R} {x : D} (h : e env st = .ok (.d x) st) (hp : x.plain = true) : dUn (oIsi f) e env st = .ok (.d (.bool (f x))) st := by
  refine un_ok h ?_
  unfold oIsi
  rw [pk_d hp]
  show (if x.plain = true then _ else _) = _
  rw [if_pos hp]
theorem guard1 (hr : env[r]? = some (some (.d y))) (ht : env[t]? = some (some (.d (tblD fs)))) (hy : Sp m n y) :
    dOr (dNot (dTst (dUn (oIsi PyData.isTuple) (eVar r)))) (dOr (dTst (dBin (oEq true) (dCall (op1 oLen) (dCons (eVar r) dNil)) (eC (.int 2)))) (dOr (dNot (dTst (dUn (oIsi PyData.isStr) (dBin oIx (eVar r) (eC (.int 0)))))) (dTst (dBin (oIn true) (dBin oIx (eVar r) (eC (.int 0))) (eVar t))))) env st = .ok (!g1 fs y) st := by
  have i0 : dNot (dTst (dUn (oIsi PyData.isTuple) (eVar r))) env st = .ok (!PyData.isTuple y) st := not_ok (tst_ok (isi_ok hr hy.dp.1))
  rcases two_of y with ⟨a, b, rfl⟩ | ⟨xs, rfl, hl⟩ | ht2
  · obtain ⟨n', rfl, _, hs⟩ := sp_parts hy rfl
    have ha := hs a (by simp)
    have l0 := len_ne (env := env) (st := st) (i := r) (k := 2) (xs := [a, b]) hr
    have x0 := ix_var (st := st) (k := 0) hr (pair0 (a := a) (b := b))
    have is := not_ok (tst_ok (isi_of (f := PyData.isStr) x0 ha.dp.1))
    have t0 := or_b i0 fun _ => or_b l0 fun _ => or_b (v := notFact fs a) is fun h => by
      cases a with
      | str x =>
        refine tst_ok (bin_ok (op := oIn true) (a := .d (.str x)) (b := .d (tblD fs)) (s1 := st) (s2 := st) x0 (var_ok ht) ?_)
        rw [mark_in, Bool.true_xor, val_fac, show notFact fs (.str x) = !decide (x ∈ fs.map (·.1)) from rfl]
        by_cases q : x ∈ fs.map (·.1)
        · rw [if_pos q, decide_eq_true q]; rfl
        · rw [if_neg q, decide_eq_false q]; rfl
      | _ => cases h
    rw [t0]
    congr 1
    cases a <;> rfl
  · have l := len_ne (env := env) (st := st) (i := r) (k := 2) hr
    rw [decide_eq_false (by omega)] at l
    rw [or_r (v := true) i0 (or_l l), g1_two]
    · rfl
    · intro a b e
      cases e
      exact hl rfl
  · rw [ht2] at i0
    rw [or_l i0, g1_two]
    · rfl
    · intro a b e
      subst e
      cases ht2
theorem table_ix {x : Str} {b : D} (hr : env[r]? = some (some (.d (.tuple [.str x, b])))) (ht : env[t]? = some (some (.d (tblD fs)))) (hx : x ∈ fs.map (·.1)) : dBin oIx (eVar t) (dBin oIx (eVar r) (eC (.int 0))) env st = .ok (.d (eWays (waysL fs x))) st := by
  refine bin_ok (a := .d (tblD fs)) (b := .d (.str x)) (s1 := st) (s2 := st) (var_ok ht) (ix_var (k := 0) hr pair0) (mark_ix ?_)
  rw [val_fac, if_pos hx]
theorem guard2 {h : Nat} {F : List D → M R} {x : Str} {b : D} {c : List Str} (hF : ∀ {x : D} {lo hi : Int} {st : Sto}, x.plain = true → F [x, .int lo, .int hi] st = .ok (.d (.bool (withinD lo hi x))) st) (hr : env[r]? = some (some (.d (.tuple [.str x, b])))) (ht : env[t]? = some (some (.d (tblD fs)))) (hx : x ∈ fs.map (·.1)) (hb : Sp m n b)
    (hin : ∀ f : En → M R, f env st = .ok (.d (.str x)) st → dTst (dBin (oIn false) f (eVar h)) env st = .ok (decide (x ∈ c)) st) :
    dOr (dTst (dBin (oIn false) (dBin oIx (eVar r) (eC (.int 0))) (eVar h))) (dNot (dTst (dCall (opC 3 F) (dCons (dBin oIx (eVar r) (eC (.int 1))) (dCons (eC (.int 0)) (dCons (dBin oSub (dCall (op1 oLen) (dCons (dBin oIx (eVar t) (dBin oIx (eVar r) (eC (.int 0)))) dNil)) (eC (.int 1))) dNil)))))) env st = .ok (!g2 fs c (.tuple [.str x, b])) st := by
  have x0 := ix_var (st := st) (k := 0) hr pair0
  have x1 := ix_var (st := st) (k := 1) hr pair1
  have tt := or_b (hin _ x0) fun _ => not_ok (tst_ok (callC3 (f2 := eC (.int 0)) (f3 := dBin oSub (dCall (op1 oLen) (dCons (dBin oIx (eVar t) (dBin oIx (eVar r) (eC (.int 0)))) dNil)) (eC (.int 1))) (z := .int (((waysL fs x).length : Int) - 1)) x1 rfl (bin_ok (a := .d (.int ((waysL fs x).length : Int))) (b := .d (.int 1)) (s1 := st) (s2 := st) (call1_ok (table_ix hr ht hx) (by rw [show R.d (eWays (waysL fs x)) = .d (.tuple ((waysL fs x).map eStrs)) from rfl, x_lenT, List.length_map])) rfl rfl) (hF (lo := 0) hb.dp.1)))
  rw [tt]
  congr 1
  show (decide (x ∈ c) || _) = !(!decide (x ∈ c) && _)
  rw [Bool.not_and, Bool.not_not]
theorem way_at {x : Str} {q : Int} (hr : env[r]? = some (some (.d (.tuple [.str x, .int q])))) (ht : env[t]? = some (some (.d (tblD fs)))) (hx : x ∈ fs.map (·.1)) (h : withinD 0 (((waysL fs x).length : Int) - 1) (.int q) = true) : ∃ w, (waysL fs x)[q.toNat]? = some w ∧ w ∈ waysL fs x ∧ dBin oIx (dBin oIx (eVar t) (dBin oIx (eVar r) (eC (.int 0)))) (dBin oIx (eVar r) (eC (.int 1))) env st = .ok (.d (eStrs w)) st := by
  have h2 : (decide ((0 : Int) ≤ q) && decide (q ≤ ((waysL fs x).length : Int) - 1)) = true := h
  rw [Bool.and_eq_true, decide_eq_true_eq, decide_eq_true_eq] at h2
  have hl : q.toNat < (waysL fs x).length := by omega
  refine ⟨(waysL fs x)[q.toNat], List.getElem?_eq_getElem hl, List.getElem_mem hl, ?_⟩
  refine bin_ok (a := .d (eWays (waysL fs x))) (b := .d (.int q)) (s1 := st) (s2 := st) (table_ix hr ht hx) (ix_var (k := 1) hr pair1) ?_
  rw [show R.d (eWays (waysL fs x)) = .d (.tuple ((waysL fs x).map eStrs)) from rfl, x_ixT, atI_ok (x := eStrs (waysL fs x)[q.toNat]) h2.1 (by rw [List.getElem?_map, List.getElem?_eq_getElem hl]; rfl)]
theorem opP_ok {k : Nat} {F : List D → M R} {rs : List R} {ds : List D} {x : D} {s : Sto} (h : pkAll st rs = some ds) (l : ds.length = k) (e : F ds [.c] = .ok (.d x) s) (sc : scal x = true) : opP k F rs st = .ok (.d x) st := by
  rw [x_opP]
  simp only [h, l, if_true, e, sc]
end
/-! ### is_lead -/
def kx (c : List Str) : List (Key × D) := c.map fun x => ((Sum.inr x : Key), PyData.bool true)
theorem val_kx (x : Str) : ∀ c : List Str, (valD (kx c) (.inr x)).isSome = decide (x ∈ c)
  | [] => rfl
  | y :: c => by
    have ih := val_kx x c
    have hc : kx (y :: c) = (Sum.inr y, .bool true) :: kx c := rfl
    unfold valD at ih ⊢
    rw [hc, List.find?_cons]
    by_cases e : y = x
    · have e2 : ((Sum.inr y : Key) = Sum.inr x) := by rw [e]
      rw [decide_eq_true e2]
      simp [e]
    · have e2 : ¬ ((Sum.inr y : Key) = Sum.inr x) := fun q => e (Sum.inr.inj q)
      rw [decide_eq_false e2]
      exact ih.trans (decide_eq_decide.mpr ⟨List.mem_cons_of_mem _, fun q => (List.mem_cons.mp q).resolve_left fun z => e z.symm⟩)
theorem put_kx {c : List Str} {x : Str} (h : x ∉ c) : putD (kx c) (.inr x) (.bool true) = kx (c ++ [x]) := by
  have hk : (Sum.inr x : Key) ∉ (kx c).map (·.1) := by
    unfold kx
    rw [List.map_map]
    intro z
    obtain ⟨y, hy, e⟩ := List.mem_map.mp z
    have e : (Sum.inr y : Key) = Sum.inr x := e
    rw [Sum.inr.inj e] at hy
    exact h hy
  have := mergeD_new [((Sum.inr x : Key), PyData.bool true)] (kx c) (by simp) (by
    intro k hk2
    rw [List.map_cons, List.map_nil, List.mem_singleton] at hk2
    rw [hk2]
    exact hk)
  have e : mergeD (kx c) [((Sum.inr x : Key), PyData.bool true)] = putD (kx c) (.inr x) (.bool true) := rfl
  rw [← e, this]
  unfold kx
  rw [List.map_append]
  rfl
theorem put_own {i : Nat} {fk f : En → M R} {env : En} {st s1 s2 : Sto} {b : Bool} {kvs : List (Key × D)} {x : D} {y : Str} (e : env[i]? = some (some (.k b kvs))) (h : f env st = .ok (.d x) s1) (hk : fk env s1 = .ok (.d (.str y)) s2) (hl : kvs.length < 1000000) : dPut i fk f env st = .ok (.nx, env.set i (some (.k true (putD kvs (.inr y) x)))) s2 := by
  unfold dPut
  rw [M.bind_ok h]
  show (chkK i env >>= _) s1 = _
  have c : chkK i env s1 = .ok () s1 := by unfold chkK; simp only [e]
  rw [M.bind_ok c, M.bind_ok hk]
  show (mutK i (putK? (.inr y) x) env) s2 = _
  unfold mutK putK?
  simp only [e, if_pos (Nat.lt_of_lt_of_le hl sizeLine_big)]
abbrev lastR (c : List Str) : R := .d (match c.getLast? with
  | some x => .str x
  | none => .none)
abbrev ilv (B : Book) (s : List Str) (x : Str) (th : D) (c : List Str) (j7 : Option R) : En := [some (.d (eBook B)), some (.d (eStrs s)), some (.d (.str x)), some (.d th), some (.k true (kx c)), some (lastR c), some (.d (tblD B.facts)), j7]
section
variable {m n : Nat} {st : Sto} {B : Book} {s : List Str} {x : Str} {th : D}
theorem isl_turn {y : D} {c : List Str} (S : Small B.facts) (hy : Sp m n y) (hc : c.length ≤ 10000) :
    ∃ e, B_is_lead_1 (ilv B s x th c (some (.d y))) st = .ok (if rowOk B.src s B.facts c y = true then (.nx, ilv B s x th (c ++ [nameD y]) (some (.d y))) else (.ret (.d (.bool false)), e)) st := by
  refine ⟨ilv B s x th c (some (.d y)), ?_⟩
  have t1 := guard1 (r := 7) (t := 6) (env := ilv B s x th c (some (.d y))) (st := st) (fs := B.facts) rfl rfl hy
  unfold B_is_lead_1 rowOk
  cases e1 : g1 B.facts y with
  | false =>
    rw [e1] at t1
    rw [Bool.false_and, if_neg Bool.false_ne_true]
    unfold dSeq
    rw [M.bind_ok (if_yes (T := dSkip) t1 (retE_ok (r := .d (.bool false)) rfl))]
    rfl
  | true =>
    rw [e1] at t1
    rw [seq_nx (if_no t1), Bool.true_and]
    obtain ⟨z, b, rfl, hz⟩ := g1_inv e1
    obtain ⟨n', rfl, _, hs⟩ := sp_parts hy rfl
    have hb := hs b (by simp)
    have t2 := guard2 (r := 7) (t := 6) (h := 4) (F := F_is_within) (env := ilv B s x th c (some (.d (.tuple [.str z, b])))) (st := st) (fs := B.facts) (c := c) (fun h => is_within_ok h) rfl rfl hz hb fun f hf => tst_ok (bin_ok (a := .d (.str z)) (b := .k false (kx c)) (s1 := st) (s2 := st) hf rfl (by rw [x_ink, Bool.false_xor, val_kx]))
    cases e2 : g2 B.facts c (.tuple [.str z, b]) with
    | false =>
      rw [e2] at t2
      rw [Bool.false_and, if_neg Bool.false_ne_true]
      unfold dSeq
      rw [M.bind_ok (if_yes (T := dSkip) t2 (retE_ok (r := .d (.bool false)) rfl))]
      rfl
    | true =>
      rw [e2] at t2
      rw [seq_nx (if_no t2), Bool.true_and]
      have h2 : (!decide (z ∈ c) && withinD 0 (((waysL B.facts z).length : Int) - 1) b) = true := e2
      rw [Bool.and_eq_true, Bool.not_eq_true', decide_eq_false_iff_not] at h2
      cases b with
      | int q =>
        obtain ⟨w, ew, hw, xw⟩ := way_at (r := 7) (t := 6) (env := ilv B s x th c (some (.d (.tuple [.str z, .int q])))) (st := st) rfl rfl hz h2.2
        obtain ⟨f, hf, ef⟩ := List.mem_map.mp hz
        have hw1 : w.length ≤ 1000 := by
          rw [← ef, waysL_of S.nd hf] at hw
          exact S.way f hf w hw
        have e3 : g3 B.src s B.facts c (.tuple [.str z, .int q]) = opens B.src s c w := by
          show (match (waysL B.facts z)[q.toNat]? with
            | some w => opens B.src s c w
            | none => false) = _
          rw [ew]
        have t3 : dNot (dTst (dCall (opP 4 F_is_open) (dCons (dBin oIx (dBin oIx (eVar 6) (dBin oIx (eVar 7) (eC (.int 0)))) (dBin oIx (eVar 7) (eC (.int 1)))) (dCons (dBin oIx (eVar 0) (eC (.int 0))) (dCons (eVar 1) (dCons (eVar 4) dNil)))))) (ilv B s x th c (some (.d (.tuple [.str z, .int q])))) st = .ok (!opens B.src s c w) st := by
          refine not_ok (tst_ok ?_)
          rw [dCall_ok (cons_ok xw (cons_ok (r := .d (eStrs B.src)) (s := st) (bin_ok (a := .d (eBook B)) (b := .d (.int 0)) (s1 := st) (s2 := st) rfl rfl rfl) (cons_ok (r := .d (eStrs s)) rfl (cons_ok (r := .k false (kx c)) rfl rfl))))]
          exact opP_ok (ds := [eStrs w, eStrs B.src, eStrs s, .dict ((kx c).map fun p => (kD p.1, p.2))]) rfl rfl (is_open_g hw1 fun n st => by rw [x_ind, Bool.false_xor, val_kx]) rfl
        rw [e3]
        cases e4 : opens B.src s c w with
        | false =>
          rw [e4] at t3
          rw [if_neg Bool.false_ne_true]
          unfold dSeq
          rw [M.bind_ok (if_yes (T := dSkip) t3 (retE_ok (r := .d (.bool false)) rfl))]
          rfl
        | true =>
          rw [e4] at t3
          rw [seq_nx (if_no t3), if_pos rfl]
          have x0 := ix_var (env := ilv B s x th c (some (.d (.tuple [.str z, .int q])))) (st := st) (i := 7) (k := 0) rfl (pair0 (a := .str z) (b := .int q))
          refine (seq_nx (put_own (i := 4) (b := true) (kvs := kx c) (x := .bool true) (y := z) rfl rfl x0 (by unfold kx; rw [List.length_map]; omega))).trans ?_
          rw [put_kx h2.1]
          refine (setF_d (i := 5) (x := .str z) (s := st) ?_).trans ?_
          · exact ix_var (i := 7) (k := 0) rfl (pair0 (a := .str z) (b := .int q))
          · show Res.ok (Fl.nx, ([some (.d (eBook B)), some (.d (eStrs s)), some (.d (.str x)), some (.d th), some (.k true (kx (c ++ [z]))), some (.d (.str z)), some (.d (tblD B.facts)), some (.d (.tuple [.str z, .int q]))] : En)) st = _
            unfold ilv lastR
            rw [List.getLast?_append]
            rfl
      | _ => exact absurd h2.2 Bool.false_ne_true
theorem isl_loop (S : Small B.facts) : ∀ (ys : List D) (c : List Str) (j7 : Option R), (∀ y ∈ ys, Sp m n y) → c.length + ys.length ≤ 10000 →
    ∃ e j7', forGo (.nm 7) B_is_lead_1 ys (ilv B s x th c j7) st = .ok (match chainD B.src s B.facts c ys with
      | some c' => (.nx, ilv B s x th c' j7')
      | none => (.ret (.d (.bool false)), e)) st
  | [], c, j7, _, _ => ⟨[], j7, rfl⟩
  | y :: ys, c, j7, h, hl => by
    rw [List.length_cons] at hl
    obtain ⟨e, t⟩ := isl_turn (st := st) (s := s) (x := x) (th := th) S (h y List.mem_cons_self) (c := c) (by omega)
    unfold chainD
    cases q : rowOk B.src s B.facts c y with
    | true =>
      rw [q, if_pos rfl] at t
      obtain ⟨e', j', g⟩ := isl_loop S ys (c ++ [nameD y]) (some (.d y)) (fun z hz => h z (List.mem_cons_of_mem _ hz)) (by rw [List.length_append, List.length_singleton]; omega)
      refine ⟨e', j', ?_⟩
      rw [forGo_cons (e1 := ilv B s x th c (some (.d y))) rfl t, if_pos rfl]
      exact g
    | false =>
      rw [q, if_neg Bool.false_ne_true] at t
      refine ⟨e, j7, ?_⟩
      rw [forGo_ret (e1 := ilv B s x th c (some (.d y))) rfl t, if_neg Bool.false_ne_true]
theorem is_lead_ok (S : Small B.facts) (hne : B.facts ≠ []) (hy : Sp m n th) (hm : m ≤ 1000) : F_is_lead [eBook B, eStrs s, .str x, th] st = .ok (.d (.bool (isLeadD B.src s B.facts x th))) st := by
  obtain ⟨E, hE⟩ : ∃ E : En, E = env0 8 [eBook B, eStrs s, .str x, th] := ⟨_, rfl⟩
  have i0 : dNot (dTst (dUn (oIsi PyData.isList) (eVar 3))) E st = .ok (!PyData.isList th) st := not_ok (tst_ok (isi_ok (by rw [hE]; rfl) hy.dp.1))
  unfold F_is_lead D_is_lead
  cases ht : PyData.isList th with
  | false =>
    rw [ht] at i0
    have e : isLeadD B.src s B.facts x th = false := by
      cases th with
      | list ys => cases ht
      | _ => rfl
    rw [e]
    refine fnP_ret (e := E) ?_
    rw [← hE]
    unfold dSeq
    rw [M.bind_ok (if_yes (T := dSkip) i0 (retE_ok (r := .d (.bool false)) rfl))]
    rfl
  | true =>
    cases th with
    | list ys =>
      rw [ht] at i0
      obtain ⟨n', rfl, hl, hs⟩ := sp_parts hy rfl
      have a1 : dPar 4 5 slO slF (dCons eNewK (dCons (eC .none) dNil)) E st = .ok (.nx, [some (.d (eBook B)), some (.d (eStrs s)), some (.d (.str x)), some (.d (.list ys)), some (.k true []), some (.d .none), none, none]) st := by
        rw [hE]
        rfl
      have a2 : dSet 6 slF (dCall (op1 oDictF) (dCons (dBin oIx (eVar 0) (eC (.int 1))) dNil)) [some (.d (eBook B)), some (.d (eStrs s)), some (.d (.str x)), some (.d (.list ys)), some (.k true []), some (.d .none), none, none] st = .ok (.nx, ilv B s x (.list ys) [] none) st :=
        setF_d (i := 6) (call1_ok (r := .d (.tuple (B.facts.map eFact))) (bin_ok (a := .d (eBook B)) (b := .d (.int 1)) (s1 := st) (s2 := st) rfl rfl rfl) (table_ok S hne))
      obtain ⟨e, j7', g⟩ := isl_loop (st := st) (s := s) (x := x) (th := .list ys) S ys [] none hs (by rw [List.length_nil]; omega)
      have a3 := (show L_is_lead_1 (ilv B s x (.list ys) [] none) st = _ from dFor_ok (p := .nm 7) (S := B_is_lead_1) (xs := ys) (st1 := st) rfl).trans g
      cases q : chainD B.src s B.facts [] ys with
      | none =>
        rw [q] at a3
        have e0 : isLeadD B.src s B.facts x (.list ys) = false := by
          show (match chainD B.src s B.facts [] ys with
            | some c => decide (c.getLast? = some x)
            | none => false) = _
          rw [q]
        rw [e0]
        refine fnP_ret (e := e) ?_
        rw [← hE]
        refine (seq_nx (if_no i0)).trans ((seq_nx a1).trans ((seq_nx a2).trans ?_))
        unfold dSeq
        rw [M.bind_ok a3]
        rfl
      | some c =>
        rw [q] at a3
        have e0 : isLeadD B.src s B.facts x (.list ys) = decide (c.getLast? = some x) := by
          show (match chainD B.src s B.facts [] ys with
            | some c => decide (c.getLast? = some x)
            | none => false) = _
          rw [q]
        rw [e0]
        refine fnP_ret (e := ilv B s x (.list ys) c j7') ?_
        rw [← hE]
        refine (seq_nx (if_no i0)).trans ((seq_nx a1).trans ((seq_nx a2).trans ((seq_nx a3).trans (ret_at ?_))))
        refine bin_ok (a := lastR c) (b := .d (.str x)) (s1 := st) (s2 := st) rfl rfl ?_
        unfold lastR
        cases z : c.getLast? with
        | none => rfl
        | some w =>
          rw [oEq_str, Bool.false_xor]
          congr 3
          exact decide_eq_decide.mpr ⟨fun h => by rw [h], fun h => Option.some.inj h⟩
    | _ => cases ht
end
end KD

namespace K06
open PySem PySem.Spec L2 PyProof.Rows N
def top (i : Nat) : Stmt := PySem.Challenge.pw_newsloft_k06_whole_leads.main.body.getD i (.Pass ⟨0, 0, 0, 0⟩)
abbrev s_is_whole : Stmt := top 4
abbrev n_is_whole : List Str := [("thing" : Str)]
abbrev p_is_whole : List Str := [("thing" : Str)]
abbrev s_is_within : Stmt := top 5
abbrev n_is_within : List Str := [("thing" : Str), ("low" : Str), ("high" : Str)]
abbrev p_is_within : List Str := [("thing" : Str), ("low" : Str), ("high" : Str)]
abbrev s_is_open : Stmt := top 6
abbrev n_is_open : List Str := [("way" : Str), ("sources" : Str), ("struck" : Str), ("came" : Str), ("name" : Str)]
abbrev p_is_open : List Str := [("way" : Str), ("sources" : Str), ("struck" : Str), ("came" : Str)]
abbrev s_any_open : Stmt := top 8
abbrev n_any_open : List Str := [("ways" : Str), ("sources" : Str), ("struck" : Str), ("came" : Str), ("way" : Str)]
abbrev p_any_open : List Str := [("ways" : Str), ("sources" : Str), ("struck" : Str), ("came" : Str)]
abbrev s_rounds : Stmt := top 7
abbrev n_rounds : List Str := [("book" : Str), ("struck" : Str), ("sources" : Str), ("facts" : Str), ("found" : Str), ("number" : Str), ("fresh" : Str), ("fact" : Str), ("ways" : Str)]
abbrev p_rounds : List Str := [("book" : Str), ("struck" : Str)]
abbrev s_standing : Stmt := top 9
abbrev n_standing : List Str := [("book" : Str), ("struck" : Str)]
abbrev p_standing : List Str := [("book" : Str), ("struck" : Str)]
abbrev s_ways_of : Stmt := top 11
abbrev n_ways_of : List Str := [("book" : Str), ("fact" : Str), ("rows" : Str), ("name" : Str), ("ways" : Str)]
abbrev p_ways_of : List Str := [("book" : Str), ("fact" : Str)]
abbrev s_is_lead : Stmt := top 12
abbrev n_is_lead : List Str := [("book" : Str), ("struck" : Str), ("fact" : Str), ("thing" : Str), ("ahead" : Str), ("last" : Str), ("table" : Str), ("row" : Str)]
abbrev p_is_lead : List Str := [("book" : Str), ("struck" : Str), ("fact" : Str), ("thing" : Str)]
abbrev s_within : Stmt := top 13
abbrev n_within : List Str := [("book" : Str), ("lot" : Str), ("known" : Str), ("rows" : Str), ("fact" : Str), ("ways" : Str), ("way" : Str), ("name" : Str)]
abbrev p_within : List Str := [("book" : Str), ("lot" : Str)]
abbrev s_lots : Stmt := top 14
abbrev n_lots : List Str := [("names" : Str), ("found" : Str), ("name" : Str), ("lot" : Str), ("size" : Str)]
abbrev p_lots : List Str := [("names" : Str)]
abbrev s_lots_with : Stmt := top 16
abbrev n_lots_with : List Str := [("others" : Str), ("fact" : Str), ("some" : Str), ("lot" : Str), ("size" : Str)]
abbrev p_lots_with : List Str := [("others" : Str), ("fact" : Str)]
abbrev s_in_order : Stmt := top 17
abbrev n_in_order : List Str := [("came" : Str), ("name" : Str), ("number" : Str)]
abbrev p_in_order : List Str := [("came" : Str)]
abbrev s_place_of : Stmt := top 18
abbrev n_place_of : List Str := [("book" : Str), ("struck" : Str), ("came" : Str), ("fact" : Str), ("ahead" : Str), ("name" : Str), ("number" : Str), ("ways" : Str), ("at" : Str), ("way" : Str)]
abbrev p_place_of : List Str := [("book" : Str), ("struck" : Str), ("came" : Str), ("fact" : Str)]
abbrev s_lead : Stmt := top 15
abbrev n_lead : List Str := [("book" : Str), ("struck" : Str), ("fact" : Str), ("came" : Str), ("others" : Str), ("name" : Str), ("lot" : Str), ("here" : Str), ("number" : Str)]
abbrev p_lead : List Str := [("book" : Str), ("struck" : Str), ("fact" : Str)]
abbrev s__law_cell_at : Stmt := top 20
abbrev n__law_cell_at : List Str := [("script" : Str), ("k" : Str)]
abbrev p__law_cell_at : List Str := [("script" : Str), ("k" : Str)]
abbrev s__law_draws : Stmt := top 21
abbrev n__law_draws : List Str := [("cell" : Str), ("many" : Str), ("size" : Str), ("found" : Str), ("rest" : Str), ("stirred" : Str), ("k" : Str)]
abbrev p__law_draws : List Str := [("cell" : Str), ("many" : Str), ("size" : Str)]
abbrev s__law_bag : Stmt := top 22
abbrev n__law_bag : List Str := [("script" : Str), ("k" : Str)]
abbrev p__law_bag : List Str := [("script" : Str), ("k" : Str)]
abbrev s__law_bags : Stmt := top 23
abbrev n__law_bags : List Str := [("script" : Str), ("limit" : Str), ("k" : Str)]
abbrev p__law_bags : List Str := [("script" : Str), ("limit" : Str)]
abbrev s__law_take : Stmt := top 24
abbrev n__law_take : List Str := [("bag" : Str), ("many" : Str)]
abbrev p__law_take : List Str := [("bag" : Str), ("many" : Str)]
abbrev s__law_lot : Stmt := top 25
abbrev n__law_lot : List Str := [("bag" : Str), ("names" : Str), ("most" : Str), ("found" : Str), ("turn" : Str)]
abbrev p__law_lot : List Str := [("bag" : Str), ("names" : Str), ("most" : Str)]
abbrev s__law_book : Stmt := top 26
abbrev n__law_book : List Str := [("bag" : Str), ("most" : Str), ("sources" : Str), ("facts" : Str), ("rows" : Str), ("fact" : Str), ("ways" : Str), ("k" : Str), ("names" : Str)]
abbrev p__law_book : List Str := [("bag" : Str), ("most" : Str)]
abbrev s__law_struck : Stmt := top 27
abbrev n__law_struck : List Str := [("bag" : Str), ("book" : Str), ("name" : Str)]
abbrev p__law_struck : List Str := [("bag" : Str), ("book" : Str)]
abbrev s_law : Stmt := top 28
abbrev n_law : List Str := [("script" : Str), ("bag" : Str), ("turn" : Str), ("book" : Str), ("struck" : Str), ("table" : Str), ("came" : Str), ("fact" : Str), ("found" : Str), ("k" : Str), ("used" : Str), ("name" : Str), ("place" : Str), ("other" : Str)]
abbrev p_law : List Str := [("script" : Str)]
def B_law_1 : SM :=
    (dSeq (dIfS (dTst (dBin (oIsB true) (dCall (opC 4 F_is_lead) (dCons (eVar 3) (dCons (eVar 4) (dCons (dBin oIx (dBin oIx (eVar 8) (eVar 9)) (eC (.int 0))) (dCons (dSl oSl (eVar 8) none (some (dBin oAdd (eVar 9) (eC (.int 1))))) dNil))))) (eC (.bool true)))) (dRet (eC (.bool false))) dSkip)
    (dIfS (dTst (dBin (oIsB true) (dCall (opC 4 F_is_lead) (dCons (eVar 3) (dCons (eVar 4) (dCons (eVar 7) (dCons (dBin oAdd (dSl oSl (eVar 8) none (some (eVar 9))) (dSl oSl (eVar 8) (some (dBin oAdd (eVar 9) (eC (.int 1)))) none)) dNil))))) (eC (.bool false)))) (dRet (eC (.bool false))) dSkip))
def L_law_1 : SM :=
    (dFor (dItC itR1 (dCons (dCall (op1 oLen) (dCons (eVar 8) dNil)) dNil)) (.nm 9) B_law_1)
def C_law_1 : En → M R :=
    (dLc (dItE (eVar 8)) (.tp [(.nm 11), (.nm 12)]) [11, 12] dYes (dCall (op1 oList) (dCons (dBin oIx (dBin oIx (eVar 5) (eVar 11)) (eVar 12)) dNil)))
def B_law_2 : SM :=
    (dIfS (dTst (dBin (oIn true) (eVar 11) (eVar 4))) (dSeq (dSet 13 slF (dCall (opC 3 F_lead) (dCons (eVar 3) (dCons (dCall (op1 oTuple) (dCons (dCall (op1 oSorted) (dCons (dBin oAdd (eVar 4) (dCall oTup (dCons (eVar 11) dNil))) dNil)) dNil)) (dCons (eVar 7) dNil)))))
    (dIfS (dTst (dBin (oEq true) (dBin (oEq false) (eVar 13) (eVar 8)) (dBin (oIn true) (eVar 11) (eVar 10)))) (dRet (eC (.bool false))) dSkip)) dSkip)
def L_law_2 : SM :=
    (dFor (dItS (dBin oIx (eVar 3) (eC (.int 0)))) (.nm 11) B_law_2)
def B_law_3 : SM :=
    (dSeq (dSet 8 slF (dCall (opC 3 F_lead) (dCons (eVar 3) (dCons (eVar 4) (dCons (eVar 7) dNil)))))
    (dSeq (dIfS (dTst (dBin (oEq true) (dBin (oIsN true) (eVar 8) (eC .none)) (dBin (oIn false) (eVar 7) (eVar 6)))) (dRet (eC (.bool false))) dSkip)
    (dIfS (dTst (dBin (oIsN true) (eVar 8) (eC .none))) (dSeq L_law_1
    (dSeq (dIfS (dTst (dBin (oCmp fLt) (dCall (op1 oLen) (dCons (eVar 8) dNil)) (dBin oIx (eVar 6) (eVar 7)))) (dRet (eC (.bool false))) dSkip)
    (dSeq (dSet 10 slF (dCall oSumL (dCons C_law_1 (dCons (dCall oLst dNil) dNil))))
    L_law_2))) dSkip)))
def L_law_3 : SM :=
    (dFor (dItS (eVar 5)) (.nm 7) B_law_3)
def B_law_4 : SM :=
    (dSeq (dSet 3 slF (dCall (opS 2 F__law_book) (dCons (eVar 1) (dCons (eC (.int 6)) dNil))))
    (dSeq (dPar 4 5 slF slF (dCons (dCall (opS 2 F__law_struck) (dCons (eVar 1) (dCons (eVar 3) dNil))) (dCons (dCall (op1 oDictF) (dCons (dBin oIx (eVar 3) (eC (.int 1))) dNil)) dNil)))
    (dSeq (dSet 6 slF (dCall (op1 oDictF) (dCons (dCall (opC 2 F_standing) (dCons (eVar 3) (dCons (eVar 4) dNil))) dNil)))
    L_law_3)))
def L_law_4 : SM :=
    (dFor (dItC itR1 (dCons (eC (.int 2)) dNil)) (.nm 2) B_law_4)
def B_law_5 : SM :=
    L_law_4
def L_law_5 : SM :=
    (dFor (dItS (dCall (opS 2 F__law_bags) (dCons (eVar 0) (dCons (eC (.int 8)) dNil)))) (.nm 1) B_law_5)
def D_law : SM :=
    (dSeq L_law_5
    (dRet (eC (.bool true))))
def F_law : List D → M R := fnP 14 D_law
theorem sc_is_whole : FnScope n_is_whole p_is_whole (defScope s_is_whole) := ⟨rfl, rfl, rfl, by decide +kernel, rfl, by decide +kernel, by decide +kernel⟩
theorem ok_is_whole {P : Program} {w : World} {K : PySem.W.Frag} {mg : Str → Option Value} {base : Heap} (h : DefAt K mg ("is_whole" : Str) s_is_whole p_is_whole) (z_bool : mg ("bool" : Str) = none) (z_int : mg ("int" : Str) = none) (z_isinstance : mg ("isinstance" : Str) = none)     : Fd P w K mg base 1 ("is_whole" : Str) p_is_whole F_is_whole := by
  refine fd_mk (k := 0) (T := D_is_whole) h sc_is_whole fun f cdv A outer s H E hr H0 g0 => ?_
  have hu := hr.units
  exact (ss_one (s_ret (e_and (e_isi isi_int rfl z_isinstance rfl z_int (by decide +kernel) (e_var 0)) (e_one (e_not (e_isi isi_bool rfl z_isinstance rfl z_bool (by decide +kernel) (e_var 0)))))))
theorem sc_is_within : FnScope n_is_within p_is_within (defScope s_is_within) := ⟨rfl, rfl, rfl, by decide +kernel, rfl, by decide +kernel, by decide +kernel⟩
theorem ok_is_within {P : Program} {w : World} {K : PySem.W.Frag} {mg : Str → Option Value} {base : Heap} (h : DefAt K mg ("is_within" : Str) s_is_within p_is_within)   (h_is_whole : Fd P w K mg base 1 ("is_whole" : Str) p_is_whole F_is_whole)   : Fd P w K mg base 2 ("is_within" : Str) p_is_within F_is_within := by
  refine fd_mk (k := 1) (T := D_is_within) h sc_is_within fun f cdv A outer s H E hr H0 g0 => ?_
  have hu := hr.units
  exact (ss_one (s_ret (e_and (e_C h_is_whole (hr.mono (by decide)) (a_cons (e_var 0) a_nil)) (e_one (e_chain (or_le hu) (or_le hu) (e_var 1) (e_var 0) (e_var 2))))))
theorem sc_is_open : FnScope n_is_open p_is_open (defScope s_is_open) := ⟨rfl, rfl, rfl, by decide +kernel, rfl, by decide +kernel, by decide +kernel⟩
theorem ok_is_open {P : Program} {w : World} {K : PySem.W.Frag} {mg : Str → Option Value} {base : Heap} (h : DefAt K mg ("is_open" : Str) s_is_open p_is_open) (z_all : mg ("all" : Str) = none)     : Fd P w K mg base 1 ("is_open" : Str) p_is_open F_is_open := by
  refine fd_mk (k := 0) (T := D_is_open) h sc_is_open fun f cdv A outer s H E hr H0 g0 => ?_
  have hu := hr.units
  exact (ss_one (s_ret (e_callB (cr_all' rfl) rfl z_all (by decide +kernel) (a_cons (e_lc rfl sc_is_open.nd (i_seqE (e_var 0)) (own := [(("name" : Str), 4)]) (blkOk_by (by kernel_rfl)) (by decide) (fun _ _ _ _ _ => (g_nm 4 sc_is_open.nd)) (fun _ _ _ _ _ => ts_yes) (fun _ _ _ _ _ => (e_if (t_cmp (or_in hu) (e_var 4) (e_var 1)) (e_cmp (or_notin hu) (e_var 4) (e_var 2)) (e_cmp (or_in hu) (e_var 4) (e_var 3))))) a_nil))))
theorem sc_any_open : FnScope n_any_open p_any_open (defScope s_any_open) := ⟨rfl, rfl, rfl, by decide +kernel, rfl, by decide +kernel, by decide +kernel⟩
theorem ok_any_open {P : Program} {w : World} {K : PySem.W.Frag} {mg : Str → Option Value} {base : Heap} (h : DefAt K mg ("any_open" : Str) s_any_open p_any_open) (z_any : mg ("any" : Str) = none)  (h_is_open : Fd P w K mg base 1 ("is_open" : Str) p_is_open F_is_open)   : Fd P w K mg base 2 ("any_open" : Str) p_any_open F_any_open := by
  refine fd_mk (k := 1) (T := D_any_open) h sc_any_open fun f cdv A outer s H E hr H0 g0 => ?_
  have hu := hr.units
  exact (ss_one (s_ret (e_callB (cr_any' rfl) rfl z_any (by decide +kernel) (a_cons (e_lc rfl sc_any_open.nd (i_seqE (e_var 0)) (own := [(("way" : Str), 4)]) (blkOk_by (by kernel_rfl)) (by decide) (fun _ _ _ _ _ => (g_nm 4 sc_any_open.nd)) (fun _ _ _ _ _ => ts_yes) (fun _ _ _ _ _ => (e_C h_is_open (hr.mono (by decide)) (a_cons (e_var 4) (a_cons (e_var 1) (a_cons (e_var 2) (a_cons (e_var 3) a_nil))))))) a_nil))))
theorem sc_rounds : FnScope n_rounds p_rounds (defScope s_rounds) := ⟨rfl, rfl, rfl, by decide +kernel, rfl, by decide +kernel, by decide +kernel⟩
theorem ok_rounds {P : Program} {w : World} {K : PySem.W.Frag} {mg : Str → Option Value} {base : Heap} (h : DefAt K mg ("rounds" : Str) s_rounds p_rounds)   (h_any_open : Fd P w K mg base 2 ("any_open" : Str) p_any_open F_any_open)   : Fd P w K mg base 3 ("rounds" : Str) p_rounds F_rounds := by
  refine fd_mk (k := 2) (T := D_rounds) h sc_rounds fun f cdv A outer s H E hr H0 g0 => ?_
  have hu := hr.units
  exact (ss_cons (s_asgP (e_var 0) (g_tp rfl (gs_cons (g_nm 2 sc_rounds.nd) (gs_cons (g_nm 3 sc_rounds.nd) gs_nil))))
    (ss_cons (s_parT slO_ok slF_ok 4 5 rfl sc_rounds.nd (a_cons e_dnew (a_cons e_int a_nil)) (pg_name sc_rounds.nd rfl (by first | exact .inl rfl | exact .inr rfl)) (pg_name sc_rounds.nd rfl (by first | exact .inl rfl | exact .inr rfl)))
    (ss_cons (s_set slF_ok 6 sc_rounds.nd (e_lst (a_cons e_bl a_nil)))
    (ss_cons (s_while (n := 1000) PassesOwn.never (t_cmp (or_ne hu) (e_var 6) (e_lst a_nil)) (ss_cons (s_setLc slF_ok rfl sc_rounds.nd (i_seqE (e_var 3)) (own := [(("fact" : Str), 7), (("ways" : Str), 8)]) (blkOk_by (by kernel_rfl)) (by decide) (fun _ _ _ _ _ => (g_tp rfl (gs_cons (g_nm 7 sc_rounds.nd) (gs_cons (g_nm 8 sc_rounds.nd) gs_nil)))) (fun _ _ _ _ _ => (ts_one (PW.pt (w_and (t_cmp (or_notin hu) (e_var 7) (e_var 4)) (w_and1 (t_val (e_P h_any_open (hr.mono (by decide)) (a_cons (e_var 8) (a_cons (e_var 2) (a_cons (e_var 1) (a_cons (e_var 4) a_nil))))))))))) (fun _ _ _ _ _ => (e_var 7)) (hsw := sw_true rfl rfl rfl (by decide +kernel)))
    (ss_cons (s_update 4 (e_dc rfl sc_rounds.nd (i_seqE (e_var 6)) (own := [(("fact" : Str), 7)]) (blkOk_by (by kernel_rfl)) (by decide) (fun _ _ _ _ _ => (g_nm 7 sc_rounds.nd)) (fun _ _ _ _ _ => ts_yes) (fun _ _ _ _ _ => (e_var 7)) (fun _ _ _ _ _ => (e_var 5))))
    (ss_one (s_aug sc_rounds.nd e_int pip_add (fun _ _ _ => trivial))))))
    (ss_one (s_retVar 4))))))
theorem sc_standing : FnScope n_standing p_standing (defScope s_standing) := ⟨rfl, rfl, rfl, by decide +kernel, rfl, by decide +kernel, by decide +kernel⟩
theorem ok_standing {P : Program} {w : World} {K : PySem.W.Frag} {mg : Str → Option Value} {base : Heap} (h : DefAt K mg ("standing" : Str) s_standing p_standing) (z_sorted : mg ("sorted" : Str) = none)  (h_rounds : Fd P w K mg base 3 ("rounds" : Str) p_rounds F_rounds)   : Fd P w K mg base 4 ("standing" : Str) p_standing F_standing := by
  refine fd_mk (k := 3) (T := D_standing) h sc_standing fun f cdv A outer s H E hr H0 g0 => ?_
  have hu := hr.units
  exact (ss_one (s_ret (e_sortedItems rfl hu (e_C h_rounds (hr.mono (by decide)) (a_cons (e_var 0) (a_cons (e_var 1) a_nil))) rfl z_sorted)))
theorem sc_ways_of : FnScope n_ways_of p_ways_of (defScope s_ways_of) := ⟨rfl, rfl, rfl, by decide +kernel, rfl, by decide +kernel, by decide +kernel⟩
theorem ok_ways_of {P : Program} {w : World} {K : PySem.W.Frag} {mg : Str → Option Value} {base : Heap} (h : DefAt K mg ("ways_of" : Str) s_ways_of p_ways_of)      : Fd P w K mg base 1 ("ways_of" : Str) p_ways_of F_ways_of := by
  refine fd_mk (k := 0) (T := D_ways_of) h sc_ways_of fun f cdv A outer s H E hr H0 g0 => ?_
  have hu := hr.units
  exact (ss_cons (s_setLc slF_ok rfl sc_ways_of.nd (i_seqE (e_ix (or_ix hu) (e_var 0) e_int)) (own := [(("name" : Str), 3), (("ways" : Str), 4)]) (blkOk_by (by kernel_rfl)) (by decide) (fun _ _ _ _ _ => (g_tp rfl (gs_cons (g_nm 3 sc_ways_of.nd) (gs_cons (g_nm 4 sc_ways_of.nd) gs_nil)))) (fun _ _ _ _ _ => (ts_one (t_cmp (or_eq hu) (e_var 3) (e_var 1)))) (fun _ _ _ _ _ => (e_var 4)) (hsw := sw_true rfl rfl rfl (by decide +kernel)))
    (ss_cons (s_if (t_cmp (or_eq hu) (e_var 2) (e_lst a_nil)) (ss_one s_no) ss_nil)
    (ss_one (s_ret (e_ix (or_ix hu) (e_var 2) e_int)))))
theorem sc_is_lead : FnScope n_is_lead p_is_lead (defScope s_is_lead) := ⟨rfl, rfl, rfl, by decide +kernel, rfl, by decide +kernel, by decide +kernel⟩
theorem ok_is_lead {P : Program} {w : World} {K : PySem.W.Frag} {mg : Str → Option Value} {base : Heap} (h : DefAt K mg ("is_lead" : Str) s_is_lead p_is_lead) (z_dict : mg ("dict" : Str) = none) (z_isinstance : mg ("isinstance" : Str) = none) (z_len : mg ("len" : Str) = none) (z_list : mg ("list" : Str) = none) (z_str : mg ("str" : Str) = none) (z_tuple : mg ("tuple" : Str) = none)  (h_is_within : Fd P w K mg base 2 ("is_within" : Str) p_is_within F_is_within) (h_is_open : Fd P w K mg base 1 ("is_open" : Str) p_is_open F_is_open)   : Fd P w K mg base 3 ("is_lead" : Str) p_is_lead F_is_lead := by
  refine fd_mk (k := 2) (T := D_is_lead) h sc_is_lead fun f cdv A outer s H E hr H0 g0 => ?_
  have hu := hr.units
  exact (ss_cons (s_if (t_not (t_val (e_isi isi_list rfl z_isinstance rfl z_list (by decide +kernel) (e_var 3)))) (ss_one (s_ret e_bl)) ss_nil)
    (ss_cons (s_par slO_ok slF_ok 4 5 rfl sc_is_lead.nd (a_cons e_dnew (a_cons e_non a_nil)))
    (ss_cons (s_set slF_ok 6 sc_is_lead.nd (e_callTy (cr_dictF rfl) rfl z_dict (by decide +kernel) (a_cons (e_ix (or_ix hu) (e_var 0) e_int) a_nil)))
    (ss_cons (s_for PassesOwn.never rfl (i_seq (e_var 3)) (g_nm 7 sc_is_lead.nd) (ss_cons (s_if (PW.pt (w_or (t_not (t_val (e_isi isi_tuple rfl z_isinstance rfl z_tuple (by decide +kernel) (e_var 7)))) (w_or (t_cmp (or_ne hu) (e_callB cr_len rfl z_len (by decide +kernel) (a_cons (e_var 7) a_nil)) e_int) (w_or (t_not (t_val (e_isi isi_str rfl z_isinstance rfl z_str (by decide +kernel) (e_ix (or_ix hu) (e_var 7) e_int)))) (w_or1 (t_cmp (or_notin hu) (e_ix (or_ix hu) (e_var 7) e_int) (e_var 6))))))) (ss_one (s_ret e_bl)) ss_nil)
    (ss_cons (s_if (PW.pt (w_or (t_cmp (or_in hu) (e_ix (or_ix hu) (e_var 7) e_int) (e_var 4)) (w_or1 (t_not (t_val (e_C h_is_within (hr.mono (by decide)) (a_cons (e_ix (or_ix hu) (e_var 7) e_int) (a_cons e_int (a_cons (e_bin or_sub (e_callB cr_len rfl z_len (by decide +kernel) (a_cons (e_ix (or_ix hu) (e_var 6) (e_ix (or_ix hu) (e_var 7) e_int)) a_nil)) e_int) a_nil))))))))) (ss_one (s_ret e_bl)) ss_nil)
    (ss_cons (s_if (t_not (t_val (e_P h_is_open (hr.mono (by decide)) (a_cons (e_ix (or_ix hu) (e_ix (or_ix hu) (e_var 6) (e_ix (or_ix hu) (e_var 7) e_int)) (e_ix (or_ix hu) (e_var 7) e_int)) (a_cons (e_ix (or_ix hu) (e_var 0) e_int) (a_cons (e_var 1) (a_cons (e_var 4) a_nil))))))) (ss_one (s_ret e_bl)) ss_nil)
    (ss_cons (s_put hu 4 e_bl (e_ix (or_ix hu) (e_var 7) e_int))
    (ss_one (s_set slF_ok 5 sc_is_lead.nd (e_ix (or_ix hu) (e_var 7) e_int))))))))
    (ss_one (s_ret (e_cmp (or_eq hu) (e_var 5) (e_var 2))))))))
theorem sc_within : FnScope n_within p_within (defScope s_within) := ⟨rfl, rfl, rfl, by decide +kernel, rfl, by decide +kernel, by decide +kernel⟩
theorem ok_within {P : Program} {w : World} {K : PySem.W.Frag} {mg : Str → Option Value} {base : Heap} (h : DefAt K mg ("within" : Str) s_within p_within) (z_all : mg ("all" : Str) = none) (z_tuple : mg ("tuple" : Str) = none)     : Fd P w K mg base 1 ("within" : Str) p_within F_within := by
  refine fd_mk (k := 0) (T := D_within) h sc_within fun f cdv A outer s H E hr H0 g0 => ?_
  have hu := hr.units
  exact (ss_cons (s_set slF_ok 2 sc_within.nd (e_bin or_add (e_ix (or_ix hu) (e_var 0) e_int) (e_var 1)))
    (ss_cons (s_set slO_ok 3 sc_within.nd (e_lst a_nil))
    (ss_cons (s_for PassesOwn.never rfl (i_seq (e_ix (or_ix hu) (e_var 0) e_int)) (g_tp rfl (gs_cons (g_nm 4 sc_within.nd) (gs_cons (g_nm 5 sc_within.nd) gs_nil))) (ss_one (s_if (t_cmp (or_in hu) (e_var 4) (e_var 1)) (ss_one (s_append 3 (e_tup (a_cons (e_var 4) (a_cons (e_callTy cr_tuple rfl z_tuple (by decide +kernel) (a_cons (e_lc rfl sc_within.nd (i_seqE (e_var 5)) (own := [(("way" : Str), 6)]) (blkOk_by (by kernel_rfl)) (by decide) (fun _ _ _ _ _ => (g_nm 6 sc_within.nd)) (fun _ _ _ _ _ => (ts_one (t_val (e_callB (cr_all' rfl) rfl z_all (by decide +kernel) (a_cons (e_lc rfl sc_within.nd (i_seqE (e_var 6)) (own := [(("name" : Str), 7)]) (blkOk_by (by kernel_rfl)) (by decide) (fun _ _ _ _ _ => (g_nm 7 sc_within.nd)) (fun _ _ _ _ _ => ts_yes) (fun _ _ _ _ _ => (e_cmp (or_in hu) (e_var 7) (e_var 2)))) a_nil))))) (fun _ _ _ _ _ => (e_var 6))) a_nil)) a_nil))))) ss_nil)))
    (ss_one (s_ret (e_tup (a_cons (e_ix (or_ix hu) (e_var 0) e_int) (a_cons (e_callTy cr_tuple rfl z_tuple (by decide +kernel) (a_cons (e_var 3) a_nil)) a_nil))))))))
theorem sc_lots : FnScope n_lots p_lots (defScope s_lots) := ⟨rfl, rfl, rfl, by decide +kernel, rfl, by decide +kernel, by decide +kernel⟩
theorem ok_lots {P : Program} {w : World} {K : PySem.W.Frag} {mg : Str → Option Value} {base : Heap} (h : DefAt K mg ("lots" : Str) s_lots p_lots) (z_len : mg ("len" : Str) = none) (z_sorted : mg ("sorted" : Str) = none)     : Fd P w K mg base 1 ("lots" : Str) p_lots F_lots := by
  refine fd_mk (k := 0) (T := D_lots) h sc_lots fun f cdv A outer s H E hr H0 g0 => ?_
  have hu := hr.units
  exact (ss_cons (s_set slF_ok 1 sc_lots.nd (e_lst (a_cons (e_tup a_nil) a_nil)))
    (ss_cons (s_for PassesOwn.never rfl (i_seq (e_var 0)) (g_nm 2 sc_lots.nd) (ss_one (s_set slF_ok 1 sc_lots.nd (e_bin or_add (e_var 1) (e_lc rfl sc_lots.nd (i_seqE (e_var 1)) (own := [(("lot" : Str), 3)]) (blkOk_by (by kernel_rfl)) (by decide) (fun _ _ _ _ _ => (g_nm 3 sc_lots.nd)) (fun _ _ _ _ _ => ts_yes) (fun _ _ _ _ _ => (e_bin or_add (e_var 3) (e_tup (a_cons (e_var 2) a_nil)))))))))
    (ss_one (s_ret (e_lc rfl sc_lots.nd (i_seqE (e_callB (cr_sorted rfl hu) rfl z_sorted (by decide +kernel) (a_cons (e_lc rfl sc_lots.nd (i_seqE (e_var 1)) (own := [(("lot" : Str), 3)]) (blkOk_by (by kernel_rfl)) (by decide) (fun _ _ _ _ _ => (g_nm 3 sc_lots.nd)) (fun _ _ _ _ _ => ts_yes) (fun _ _ _ _ _ => (e_tup (a_cons (e_callB cr_len rfl z_len (by decide +kernel) (a_cons (e_var 3) a_nil)) (a_cons (e_var 3) a_nil))))) a_nil))) (own := [(("size" : Str), 4), (("lot" : Str), 3)]) (blkOk_by (by kernel_rfl)) (by decide) (fun _ _ _ _ _ => (g_tp rfl (gs_cons (g_nm 4 sc_lots.nd) (gs_cons (g_nm 3 sc_lots.nd) gs_nil)))) (fun _ _ _ _ _ => ts_yes) (fun _ _ _ _ _ => (e_var 3)))))))
theorem sc_lots_with : FnScope n_lots_with p_lots_with (defScope s_lots_with) := ⟨rfl, rfl, rfl, by decide +kernel, rfl, by decide +kernel, by decide +kernel⟩
theorem ok_lots_with {P : Program} {w : World} {K : PySem.W.Frag} {mg : Str → Option Value} {base : Heap} (h : DefAt K mg ("lots_with" : Str) s_lots_with p_lots_with) (z_len : mg ("len" : Str) = none) (z_sorted : mg ("sorted" : Str) = none) (z_tuple : mg ("tuple" : Str) = none)  (h_lots : Fd P w K mg base 1 ("lots" : Str) p_lots F_lots)   : Fd P w K mg base 2 ("lots_with" : Str) p_lots_with F_lots_with := by
  refine fd_mk (k := 1) (T := D_lots_with) h sc_lots_with fun f cdv A outer s H E hr H0 g0 => ?_
  have hu := hr.units
  exact (ss_cons (s_setLc slF_ok rfl sc_lots_with.nd (i_seqE (e_C h_lots (hr.mono (by decide)) (a_cons (e_var 0) a_nil))) (own := [(("lot" : Str), 3)]) (blkOk_by (by kernel_rfl)) (by decide) (fun _ _ _ _ _ => (g_nm 3 sc_lots_with.nd)) (fun _ _ _ _ _ => ts_yes) (fun _ _ _ _ _ => (e_callTy cr_tuple rfl z_tuple (by decide +kernel) (a_cons (e_callB (cr_sorted rfl hu) rfl z_sorted (by decide +kernel) (a_cons (e_bin or_add (e_var 3) (e_tup (a_cons (e_var 1) a_nil))) a_nil)) a_nil))) (hsw := sw_true rfl rfl rfl (by decide +kernel)))
    (ss_one (s_ret (e_lc rfl sc_lots_with.nd (i_seqE (e_callB (cr_sorted rfl hu) rfl z_sorted (by decide +kernel) (a_cons (e_lc rfl sc_lots_with.nd (i_seqE (e_var 2)) (own := [(("lot" : Str), 3)]) (blkOk_by (by kernel_rfl)) (by decide) (fun _ _ _ _ _ => (g_nm 3 sc_lots_with.nd)) (fun _ _ _ _ _ => ts_yes) (fun _ _ _ _ _ => (e_tup (a_cons (e_callB cr_len rfl z_len (by decide +kernel) (a_cons (e_var 3) a_nil)) (a_cons (e_var 3) a_nil))))) a_nil))) (own := [(("size" : Str), 4), (("lot" : Str), 3)]) (blkOk_by (by kernel_rfl)) (by decide) (fun _ _ _ _ _ => (g_tp rfl (gs_cons (g_nm 4 sc_lots_with.nd) (gs_cons (g_nm 3 sc_lots_with.nd) gs_nil)))) (fun _ _ _ _ _ => ts_yes) (fun _ _ _ _ _ => (e_var 3))))))
theorem sc_in_order : FnScope n_in_order p_in_order (defScope s_in_order) := ⟨rfl, rfl, rfl, by decide +kernel, rfl, by decide +kernel, by decide +kernel⟩
theorem ok_in_order {P : Program} {w : World} {K : PySem.W.Frag} {mg : Str → Option Value} {base : Heap} (h : DefAt K mg ("in_order" : Str) s_in_order p_in_order) (z_sorted : mg ("sorted" : Str) = none)     : Fd P w K mg base 1 ("in_order" : Str) p_in_order F_in_order := by
  refine fd_mk (k := 0) (T := D_in_order) h sc_in_order fun f cdv A outer s H E hr H0 g0 => ?_
  have hu := hr.units
  exact (ss_one (s_ret (e_callB (cr_sorted rfl hu) rfl z_sorted (by decide +kernel) (a_cons (e_lc rfl sc_in_order.nd (i_E (i_items (e_var 0))) (own := [(("name" : Str), 1), (("number" : Str), 2)]) (blkOk_by (by kernel_rfl)) (by decide) (fun _ _ _ _ _ => (g_tp rfl (gs_cons (g_nm 1 sc_in_order.nd) (gs_cons (g_nm 2 sc_in_order.nd) gs_nil)))) (fun _ _ _ _ _ => ts_yes) (fun _ _ _ _ _ => (e_tup (a_cons (e_var 2) (a_cons (e_var 1) a_nil))))) a_nil))))
theorem sc_place_of : FnScope n_place_of p_place_of (defScope s_place_of) := ⟨rfl, rfl, rfl, by decide +kernel, rfl, by decide +kernel, by decide +kernel⟩
theorem ok_place_of {P : Program} {w : World} {K : PySem.W.Frag} {mg : Str → Option Value} {base : Heap} (h : DefAt K mg ("place_of" : Str) s_place_of p_place_of) (z_enumerate : mg ("enumerate" : Str) = none)  (h_ways_of : Fd P w K mg base 1 ("ways_of" : Str) p_ways_of F_ways_of) (h_is_open : Fd P w K mg base 1 ("is_open" : Str) p_is_open F_is_open)   : Fd P w K mg base 2 ("place_of" : Str) p_place_of F_place_of := by
  refine fd_mk (k := 1) (T := D_place_of) h sc_place_of fun f cdv A outer s H E hr H0 g0 => ?_
  have hu := hr.units
  exact (ss_cons (s_set slF_ok 4 sc_place_of.nd (e_dc rfl sc_place_of.nd (i_E (i_items (e_var 2))) (own := [(("name" : Str), 5), (("number" : Str), 6)]) (blkOk_by (by kernel_rfl)) (by decide) (fun _ _ _ _ _ => (g_tp rfl (gs_cons (g_nm 5 sc_place_of.nd) (gs_cons (g_nm 6 sc_place_of.nd) gs_nil)))) (fun _ _ _ _ _ => (ts_one (t_cmp (or_lt hu) (e_var 6) (e_ix (or_ix hu) (e_var 2) (e_var 3))))) (fun _ _ _ _ _ => (e_var 5)) (fun _ _ _ _ _ => e_bl)))
    (ss_cons (s_set slF_ok 7 sc_place_of.nd (e_C h_ways_of (hr.mono (by decide)) (a_cons (e_var 0) (a_cons (e_var 3) a_nil))))
    (ss_one (s_ret (e_ix (or_ix hu) (e_lc rfl sc_place_of.nd (i_E (i_enumT rfl z_enumerate (a_cons (e_var 7) a_nil))) (own := [(("at" : Str), 8), (("way" : Str), 9)]) (blkOk_by (by kernel_rfl)) (by decide) (fun _ _ _ _ _ => (g_tp rfl (gs_cons (g_nm 8 sc_place_of.nd) (gs_cons (g_nm 9 sc_place_of.nd) gs_nil)))) (fun _ _ _ _ _ => (ts_one (t_val (e_C h_is_open (hr.mono (by decide)) (a_cons (e_var 9) (a_cons (e_ix (or_ix hu) (e_var 0) e_int) (a_cons (e_var 1) (a_cons (e_var 4) a_nil)))))))) (fun _ _ _ _ _ => (e_var 8))) e_int)))))
theorem sc_lead : FnScope n_lead p_lead (defScope s_lead) := ⟨rfl, rfl, rfl, by decide +kernel, rfl, by decide +kernel, by decide +kernel⟩
theorem ok_lead {P : Program} {w : World} {K : PySem.W.Frag} {mg : Str → Option Value} {base : Heap} (h : DefAt K mg ("lead" : Str) s_lead p_lead) (z_sorted : mg ("sorted" : Str) = none)  (h_ways_of : Fd P w K mg base 1 ("ways_of" : Str) p_ways_of F_ways_of) (h_rounds : Fd P w K mg base 3 ("rounds" : Str) p_rounds F_rounds) (h_lots_with : Fd P w K mg base 2 ("lots_with" : Str) p_lots_with F_lots_with) (h_within : Fd P w K mg base 1 ("within" : Str) p_within F_within) (h_in_order : Fd P w K mg base 1 ("in_order" : Str) p_in_order F_in_order) (h_place_of : Fd P w K mg base 2 ("place_of" : Str) p_place_of F_place_of)   : Fd P w K mg base 4 ("lead" : Str) p_lead F_lead := by
  refine fd_mk (k := 3) (T := D_lead) h sc_lead fun f cdv A outer s H E hr H0 g0 => ?_
  have hu := hr.units
  exact (ss_cons (s_drop (e_C h_ways_of (hr.mono (by decide)) (a_cons (e_var 0) (a_cons (e_var 2) a_nil))))
    (ss_cons (s_set slF_ok 3 sc_lead.nd (e_lock (e_C h_rounds (hr.mono (by decide)) (a_cons (e_var 0) (a_cons (e_var 1) a_nil)))))
    (ss_cons (s_if (t_cmp (or_notin hu) (e_var 2) (e_var 3)) (ss_one (s_ret e_non)) ss_nil)
    (ss_cons (s_setLc slF_ok rfl sc_lead.nd (i_seqE (e_callB (cr_sorted rfl hu) rfl z_sorted (by decide +kernel) (a_cons (e_var 3) a_nil))) (own := [(("name" : Str), 5)]) (blkOk_by (by kernel_rfl)) (by decide) (fun _ _ _ _ _ => (g_nm 5 sc_lead.nd)) (fun _ _ _ _ _ => (ts_one (t_cmp (or_ne hu) (e_var 5) (e_var 2)))) (fun _ _ _ _ _ => (e_var 5)) (hsw := sw_true rfl rfl rfl (by decide +kernel)))
    (ss_cons (s_for PassesOwn.never rfl (i_seq (e_C h_lots_with (hr.mono (by decide)) (a_cons (e_var 4) (a_cons (e_var 2) a_nil)))) (g_nm 6 sc_lead.nd) (ss_cons (s_set slF_ok 7 sc_lead.nd (e_lock (e_C h_rounds (hr.mono (by decide)) (a_cons (e_C h_within (hr.mono (by decide)) (a_cons (e_var 0) (a_cons (e_var 6) a_nil))) (a_cons (e_var 1) a_nil)))))
    (ss_one (s_if (t_cmp (or_in hu) (e_var 2) (e_var 7)) (ss_one (s_ret (e_lc rfl sc_lead.nd (i_seqE (e_C h_in_order (hr.mono (by decide)) (a_cons (e_var 7) a_nil))) (own := [(("number" : Str), 8), (("name" : Str), 5)]) (blkOk_by (by kernel_rfl)) (by decide) (fun _ _ _ _ _ => (g_tp rfl (gs_cons (g_nm 8 sc_lead.nd) (gs_cons (g_nm 5 sc_lead.nd) gs_nil)))) (fun _ _ _ _ _ => ts_yes) (fun _ _ _ _ _ => (e_tup (a_cons (e_var 5) (a_cons (e_C h_place_of (hr.mono (by decide)) (a_cons (e_var 0) (a_cons (e_var 1) (a_cons (e_var 7) (a_cons (e_var 5) a_nil))))) a_nil))))))) ss_nil))))
    (ss_one (s_ret e_non)))))))
theorem sc__law_cell_at : FnScope n__law_cell_at p__law_cell_at (defScope s__law_cell_at) := ⟨rfl, rfl, rfl, by decide +kernel, rfl, by decide +kernel, by decide +kernel⟩
theorem ok__law_cell_at {P : Program} {w : World} {K : PySem.W.Frag} {mg : Str → Option Value} {base : Heap} (h : DefAt K mg ("_law_cell_at" : Str) s__law_cell_at p__law_cell_at) (z_len : mg ("len" : Str) = none)     : Fd P w K mg base 1 ("_law_cell_at" : Str) p__law_cell_at F__law_cell_at := by
  refine fd_mk (k := 0) (T := D__law_cell_at) h sc__law_cell_at fun f cdv A outer s H E hr H0 g0 => ?_
  have hu := hr.units
  exact (ss_cons (s_if (t_cmp (or_lt hu) (e_var 1) (e_callB cr_len rfl z_len (by decide +kernel) (a_cons (e_var 0) a_nil))) (ss_one (s_ret (e_ix (or_ix hu) (e_var 0) (e_var 1)))) ss_nil)
    (ss_one (s_ret e_int)))
theorem sc__law_draws : FnScope n__law_draws p__law_draws (defScope s__law_draws) := ⟨rfl, rfl, rfl, by decide +kernel, rfl, by decide +kernel, by decide +kernel⟩
theorem ok__law_draws {P : Program} {w : World} {K : PySem.W.Frag} {mg : Str → Option Value} {base : Heap} (h : DefAt K mg ("_law_draws" : Str) s__law_draws p__law_draws) (z_int : mg ("int" : Str) = none) (z_range : mg ("range" : Str) = none)     : Fd P w K mg base 1 ("_law_draws" : Str) p__law_draws F__law_draws := by
  refine fd_mk (k := 0) (T := D__law_draws) h sc__law_draws fun f cdv A outer s H E hr H0 g0 => ?_
  have hu := hr.units
  exact (ss_cons (s_set slO_ok 3 sc__law_draws.nd (e_lst a_nil))
    (ss_cons (s_set slF_ok 4 sc__law_draws.nd (e_bin or_mul (e_var 0) (e_callTy cr_int rfl z_int (by decide +kernel) (a_cons (e_cmp (or_ge hu) (e_var 0) (e_bin or_pow e_int e_int)) a_nil))))
    (ss_cons (s_set slF_ok 5 sc__law_draws.nd (e_bin or_mod (e_var 0) e_int))
    (ss_cons (s_for PassesOwn.never rfl (i_range1 rfl z_range (a_cons (e_bin or_add (e_var 1) e_int) a_nil)) (g_nm 6 sc__law_draws.nd) (ss_cons (s_set slF_ok 5 sc__law_draws.nd (e_bin or_mod (e_bin or_add (e_bin or_add (e_bin or_add (e_bin or_mul (e_var 5) (e_var 5)) (e_bin or_mul e_int (e_var 5))) (e_var 6)) e_int) e_int))
    (ss_one (s_if (PW.pt (w_and (t_cmp (or_gt hu) (e_var 6) e_int) (w_and1 (t_cmp (or_gt hu) (e_var 4) e_int)))) (ss_cons (s_append 3 (e_bin or_mod (e_var 4) (e_var 2)))
    (ss_one (s_set slF_ok 4 sc__law_draws.nd (e_bin or_fdiv (e_var 4) (e_var 2))))) (ss_one (s_if (t_cmp (or_gt hu) (e_var 6) e_int) (ss_one (s_append 3 (e_bin or_mod (e_bin or_fdiv (e_var 5) e_int) (e_var 2)))) ss_nil))))))
    (ss_one (s_retVar 3))))))
theorem sc__law_bag : FnScope n__law_bag p__law_bag (defScope s__law_bag) := ⟨rfl, rfl, rfl, by decide +kernel, rfl, by decide +kernel, by decide +kernel⟩
theorem ok__law_bag {P : Program} {w : World} {K : PySem.W.Frag} {mg : Str → Option Value} {base : Heap} (h : DefAt K mg ("_law_bag" : Str) s__law_bag p__law_bag)   (h__law_draws : Fd P w K mg base 1 ("_law_draws" : Str) p__law_draws F__law_draws) (h__law_cell_at : Fd P w K mg base 1 ("_law_cell_at" : Str) p__law_cell_at F__law_cell_at)   : Fd P w K mg base 2 ("_law_bag" : Str) p__law_bag F__law_bag := by
  refine fd_mk (k := 1) (T := D__law_bag) h sc__law_bag fun f cdv A outer s H E hr H0 g0 => ?_
  have hu := hr.units
  exact (ss_one (s_ret (e_lst (a_cons (e_C h__law_draws (hr.mono (by decide)) (a_cons (e_C h__law_cell_at (hr.mono (by decide)) (a_cons (e_var 0) (a_cons (e_var 1) a_nil))) (a_cons e_int (a_cons e_int a_nil)))) (a_cons e_int a_nil)))))
theorem sc__law_bags : FnScope n__law_bags p__law_bags (defScope s__law_bags) := ⟨rfl, rfl, rfl, by decide +kernel, rfl, by decide +kernel, by decide +kernel⟩
theorem ok__law_bags {P : Program} {w : World} {K : PySem.W.Frag} {mg : Str → Option Value} {base : Heap} (h : DefAt K mg ("_law_bags" : Str) s__law_bags p__law_bags) (z_len : mg ("len" : Str) = none) (z_max : mg ("max" : Str) = none) (z_min : mg ("min" : Str) = none) (z_range : mg ("range" : Str) = none)  (h__law_bag : Fd P w K mg base 2 ("_law_bag" : Str) p__law_bag F__law_bag)   : Fd P w K mg base 3 ("_law_bags" : Str) p__law_bags F__law_bags := by
  refine fd_mk (k := 2) (T := D__law_bags) h sc__law_bags fun f cdv A outer s H E hr H0 g0 => ?_
  have hu := hr.units
  exact (ss_one (s_ret (e_lc rfl sc__law_bags.nd (i_E (i_range1 rfl z_range (a_cons (e_callB (cr_max2 rfl) rfl z_max (by decide +kernel) (a_cons e_int (a_cons (e_callB (cr_min2 rfl) rfl z_min (by decide +kernel) (a_cons (e_var 1) (a_cons (e_callB cr_len rfl z_len (by decide +kernel) (a_cons (e_var 0) a_nil)) a_nil))) a_nil))) a_nil))) (own := [(("k" : Str), 2)]) (blkOk_by (by kernel_rfl)) (by decide) (fun _ _ _ _ _ => (g_nm 2 sc__law_bags.nd)) (fun _ _ _ _ _ => ts_yes) (fun _ _ _ _ _ => (e_new (e_C h__law_bag (hr.mono (by decide)) (a_cons (e_var 0) (a_cons (e_var 2) a_nil))))))))
theorem sc__law_take : FnScope n__law_take p__law_take (defScope s__law_take) := ⟨rfl, rfl, rfl, by decide +kernel, rfl, by decide +kernel, by decide +kernel⟩
theorem ok__law_take {P : Program} {w : World} {K : PySem.W.Frag} {mg : Str → Option Value} {base : Heap} (h : DefAt K mg ("_law_take" : Str) s__law_take p__law_take) (z_len : mg ("len" : Str) = none)     : Fd P w K mg base 1 ("_law_take" : Str) p__law_take F__law_take := by
  refine fd_mk (k := 0) (T := D__law_take) h sc__law_take fun f cdv A outer s H E hr H0 g0 => ?_
  have hu := hr.units
  exact (ss_cons (s_setIx 0 (e_bin or_add (e_ix (or_ix hu) (e_var 0) e_int) e_int) e_int)
    (ss_one (s_ret (e_bin or_mod (e_ix (or_ix hu) (e_ix (or_ix hu) (e_var 0) e_int) (e_bin or_mod (e_ix (or_ix hu) (e_var 0) e_int) (e_callB cr_len rfl z_len (by decide +kernel) (a_cons (e_ix (or_ix hu) (e_var 0) e_int) a_nil)))) (e_var 1)))))
theorem sc__law_lot : FnScope n__law_lot p__law_lot (defScope s__law_lot) := ⟨rfl, rfl, rfl, by decide +kernel, rfl, by decide +kernel, by decide +kernel⟩
theorem ok__law_lot {P : Program} {w : World} {K : PySem.W.Frag} {mg : Str → Option Value} {base : Heap} (h : DefAt K mg ("_law_lot" : Str) s__law_lot p__law_lot) (z_len : mg ("len" : Str) = none) (z_range : mg ("range" : Str) = none) (z_set : mg ("set" : Str) = none) (z_sorted : mg ("sorted" : Str) = none) (z_tuple : mg ("tuple" : Str) = none)  (h__law_take : Fd P w K mg base 1 ("_law_take" : Str) p__law_take F__law_take)   : Fd P w K mg base 2 ("_law_lot" : Str) p__law_lot F__law_lot := by
  refine fd_mk (k := 1) (T := D__law_lot) h sc__law_lot fun f cdv A outer s H E hr H0 g0 => ?_
  have hu := hr.units
  exact (ss_cons (s_setLc slF_ok rfl sc__law_lot.nd (i_E (i_range1 rfl z_range (a_cons (e_bin or_add e_int (e_S h__law_take (hr.mono (by decide)) (a_cons (e_var 0) (a_cons (e_var 2) a_nil)))) a_nil))) (own := [(("turn" : Str), 4)]) (blkOk_by (by kernel_rfl)) (by decide) (fun _ _ _ _ _ => (g_nm 4 sc__law_lot.nd)) (fun _ _ _ _ _ => ts_yes) (fun _ _ _ _ _ => (e_ix (or_ix hu) (e_var 1) (e_S h__law_take (hr.mono (by decide)) (a_cons (e_var 0) (a_cons (e_callB cr_len rfl z_len (by decide +kernel) (a_cons (e_var 1) a_nil)) a_nil))))) (hsw := sw_true rfl rfl rfl (by decide +kernel)))
    (ss_one (s_ret (e_callTy cr_tuple rfl z_tuple (by decide +kernel) (a_cons (e_sortedSet rfl hu (e_var 3) rfl z_sorted rfl z_set) a_nil)))))
theorem sc__law_book : FnScope n__law_book p__law_book (defScope s__law_book) := ⟨rfl, rfl, rfl, by decide +kernel, rfl, by decide +kernel, by decide +kernel⟩
theorem ok__law_book {P : Program} {w : World} {K : PySem.W.Frag} {mg : Str → Option Value} {base : Heap} (h : DefAt K mg ("_law_book" : Str) s__law_book p__law_book) (z_list : mg ("list" : Str) = none) (z_range : mg ("range" : Str) = none) (z_tuple : mg ("tuple" : Str) = none)  (h__law_take : Fd P w K mg base 1 ("_law_take" : Str) p__law_take F__law_take) (h__law_lot : Fd P w K mg base 2 ("_law_lot" : Str) p__law_lot F__law_lot)   : Fd P w K mg base 3 ("_law_book" : Str) p__law_book F__law_book := by
  refine fd_mk (k := 2) (T := D__law_book) h sc__law_book fun f cdv A outer s H E hr H0 g0 => ?_
  have hu := hr.units
  exact (ss_cons (s_set slF_ok 2 sc__law_book.nd (e_callTy cr_tuple rfl z_tuple (by decide +kernel) (a_cons (e_slice sr_sl (e_lst (a_cons e_str (a_cons e_str (a_cons e_str (a_cons e_str a_nil))))) p_none (p_some (e_bin or_add e_int (e_S h__law_take (hr.mono (by decide)) (a_cons (e_var 0) (a_cons e_int a_nil)))))) a_nil)))
    (ss_cons (s_set slF_ok 3 sc__law_book.nd (e_slice sr_sl (e_lst (a_cons e_str (a_cons e_str (a_cons e_str (a_cons e_str (a_cons e_str (a_cons e_str (a_cons e_str a_nil)))))))) p_none (p_some (e_bin or_add e_int (e_S h__law_take (hr.mono (by decide)) (a_cons (e_var 0) (a_cons (e_var 1) a_nil)))))))
    (ss_cons (s_set slO_ok 4 sc__law_book.nd (e_lst a_nil))
    (ss_cons (s_for PassesOwn.never rfl (i_seq (e_var 3)) (g_nm 5 sc__law_book.nd) (ss_cons (s_set slO_ok 6 sc__law_book.nd (e_lst a_nil))
    (ss_cons (s_for PassesOwn.never rfl (i_range1 rfl z_range (a_cons (e_S h__law_take (hr.mono (by decide)) (a_cons (e_var 0) (a_cons e_int a_nil))) a_nil)) (g_nm 7 sc__law_book.nd) (ss_cons (s_set slF_ok 8 sc__law_book.nd (e_if (t_cmp (or_eq hu) (e_S h__law_take (hr.mono (by decide)) (a_cons (e_var 0) (a_cons e_int a_nil))) e_int) (e_callTy cr_list rfl z_list (by decide +kernel) (a_cons (e_var 2) a_nil)) (e_bin or_add (e_callTy cr_list rfl z_list (by decide +kernel) (a_cons (e_var 2) a_nil)) (e_var 3))))
    (ss_one (s_append 6 (e_S h__law_lot (hr.mono (by decide)) (a_cons (e_var 0) (a_cons (e_var 8) (a_cons e_int a_nil))))))))
    (ss_one (s_append 4 (e_tup (a_cons (e_var 5) (a_cons (e_callTy cr_tuple rfl z_tuple (by decide +kernel) (a_cons (e_var 6) a_nil)) a_nil))))))))
    (ss_one (s_ret (e_tup (a_cons (e_var 2) (a_cons (e_callTy cr_tuple rfl z_tuple (by decide +kernel) (a_cons (e_var 4) a_nil)) a_nil)))))))))
theorem sc__law_struck : FnScope n__law_struck p__law_struck (defScope s__law_struck) := ⟨rfl, rfl, rfl, by decide +kernel, rfl, by decide +kernel, by decide +kernel⟩
theorem ok__law_struck {P : Program} {w : World} {K : PySem.W.Frag} {mg : Str → Option Value} {base : Heap} (h : DefAt K mg ("_law_struck" : Str) s__law_struck p__law_struck) (z_tuple : mg ("tuple" : Str) = none)  (h__law_take : Fd P w K mg base 1 ("_law_take" : Str) p__law_take F__law_take)   : Fd P w K mg base 2 ("_law_struck" : Str) p__law_struck F__law_struck := by
  refine fd_mk (k := 1) (T := D__law_struck) h sc__law_struck fun f cdv A outer s H E hr H0 g0 => ?_
  have hu := hr.units
  exact (ss_one (s_ret (e_callTy cr_tuple rfl z_tuple (by decide +kernel) (a_cons (e_lc rfl sc__law_struck.nd (i_seqE (e_ix (or_ix hu) (e_var 1) e_int)) (own := [(("name" : Str), 2)]) (blkOk_by (by kernel_rfl)) (by decide) (fun _ _ _ _ _ => (g_nm 2 sc__law_struck.nd)) (fun _ _ _ _ _ => (ts_one (t_cmp (or_eq hu) (e_S h__law_take (hr.mono (by decide)) (a_cons (e_var 0) (a_cons e_int a_nil))) e_int))) (fun _ _ _ _ _ => (e_var 2))) a_nil))))
theorem sc_law : FnScope n_law p_law (defScope s_law) := ⟨rfl, rfl, rfl, by decide +kernel, rfl, by decide +kernel, by decide +kernel⟩
theorem ok_law {P : Program} {w : World} {K : PySem.W.Frag} {mg : Str → Option Value} {base : Heap} (h : DefAt K mg ("law" : Str) s_law p_law) (z_dict : mg ("dict" : Str) = none) (z_len : mg ("len" : Str) = none) (z_list : mg ("list" : Str) = none) (z_range : mg ("range" : Str) = none) (z_sorted : mg ("sorted" : Str) = none) (z_sum : mg ("sum" : Str) = none) (z_tuple : mg ("tuple" : Str) = none)  (h__law_bags : Fd P w K mg base 3 ("_law_bags" : Str) p__law_bags F__law_bags) (h__law_book : Fd P w K mg base 3 ("_law_book" : Str) p__law_book F__law_book) (h__law_struck : Fd P w K mg base 2 ("_law_struck" : Str) p__law_struck F__law_struck) (h_standing : Fd P w K mg base 4 ("standing" : Str) p_standing F_standing) (h_lead : Fd P w K mg base 4 ("lead" : Str) p_lead F_lead) (h_is_lead : Fd P w K mg base 3 ("is_lead" : Str) p_is_lead F_is_lead)   : Fd P w K mg base 5 ("law" : Str) p_law F_law := by
  refine fd_mk (k := 4) (T := D_law) h sc_law fun f cdv A outer s H E hr H0 g0 => ?_
  have hu := hr.units
  exact (ss_cons (s_for PassesOwn.never rfl (i_seq (e_S h__law_bags (hr.mono (by decide)) (a_cons (e_var 0) (a_cons e_int a_nil)))) (g_nm 1 sc_law.nd) (ss_one (s_for PassesOwn.never rfl (i_range1 rfl z_range (a_cons e_int a_nil)) (g_nm 2 sc_law.nd) (ss_cons (s_set slF_ok 3 sc_law.nd (e_S h__law_book (hr.mono (by decide)) (a_cons (e_var 1) (a_cons e_int a_nil))))
    (ss_cons (s_parT slF_ok slF_ok 4 5 rfl sc_law.nd (a_cons (e_S h__law_struck (hr.mono (by decide)) (a_cons (e_var 1) (a_cons (e_var 3) a_nil))) (a_cons (e_callTy (cr_dictF rfl) rfl z_dict (by decide +kernel) (a_cons (e_ix (or_ix hu) (e_var 3) e_int) a_nil)) a_nil)) (pg_name sc_law.nd rfl (by first | exact .inl rfl | exact .inr rfl)) (pg_name sc_law.nd rfl (by first | exact .inl rfl | exact .inr rfl)))
    (ss_cons (s_set slF_ok 6 sc_law.nd (e_callTy (cr_dictF rfl) rfl z_dict (by decide +kernel) (a_cons (e_C h_standing (hr.mono (by decide)) (a_cons (e_var 3) (a_cons (e_var 4) a_nil))) a_nil)))
    (ss_one (s_for PassesOwn.never rfl (i_seq (e_var 5)) (g_nm 7 sc_law.nd) (ss_cons (s_set slF_ok 8 sc_law.nd (e_C h_lead (hr.mono (by decide)) (a_cons (e_var 3) (a_cons (e_var 4) (a_cons (e_var 7) a_nil)))))
    (ss_cons (s_if (t_cmp (or_ne hu) (e_cmp or_notN (e_var 8) e_non) (e_cmp (or_in hu) (e_var 7) (e_var 6))) (ss_one (s_ret e_bl)) ss_nil)
    (ss_one (s_if (t_cmp or_notN (e_var 8) e_non) (ss_cons (s_for PassesOwn.never rfl (i_range1 rfl z_range (a_cons (e_callB cr_len rfl z_len (by decide +kernel) (a_cons (e_var 8) a_nil)) a_nil)) (g_nm 9 sc_law.nd) (ss_cons (s_if (t_cmp or_notB (e_C h_is_lead (hr.mono (by decide)) (a_cons (e_var 3) (a_cons (e_var 4) (a_cons (e_ix (or_ix hu) (e_ix (or_ix hu) (e_var 8) (e_var 9)) e_int) (a_cons (e_slice sr_sl (e_var 8) p_none (p_some (e_bin or_add (e_var 9) e_int))) a_nil))))) e_bl) (ss_one (s_ret e_bl)) ss_nil)
    (ss_one (s_if (t_cmp or_notB (e_C h_is_lead (hr.mono (by decide)) (a_cons (e_var 3) (a_cons (e_var 4) (a_cons (e_var 7) (a_cons (e_bin or_add (e_slice sr_sl (e_var 8) p_none (p_some (e_var 9))) (e_slice sr_sl (e_var 8) (p_some (e_bin or_add (e_var 9) e_int)) p_none)) a_nil))))) e_bl) (ss_one (s_ret e_bl)) ss_nil))))
    (ss_cons (s_if (t_cmp (or_lt hu) (e_callB cr_len rfl z_len (by decide +kernel) (a_cons (e_var 8) a_nil)) (e_ix (or_ix hu) (e_var 6) (e_var 7))) (ss_one (s_ret e_bl)) ss_nil)
    (ss_cons (s_set slF_ok 10 sc_law.nd (e_callB (cr_sumL rfl) rfl z_sum (by decide +kernel) (a_cons (e_lc rfl sc_law.nd (i_seqE (e_var 8)) (own := [(("name" : Str), 11), (("place" : Str), 12)]) (blkOk_by (by kernel_rfl)) (by decide) (fun _ _ _ _ _ => (g_tp rfl (gs_cons (g_nm 11 sc_law.nd) (gs_cons (g_nm 12 sc_law.nd) gs_nil)))) (fun _ _ _ _ _ => ts_yes) (fun _ _ _ _ _ => (e_callTy cr_list rfl z_list (by decide +kernel) (a_cons (e_ix (or_ix hu) (e_ix (or_ix hu) (e_var 5) (e_var 11)) (e_var 12)) a_nil)))) (a_cons (e_lst a_nil) a_nil))))
    (ss_one (s_for PassesOwn.never rfl (i_seq (e_ix (or_ix hu) (e_var 3) e_int)) (g_nm 11 sc_law.nd) (ss_one (s_if (t_cmp (or_notin hu) (e_var 11) (e_var 4)) (ss_cons (s_set slF_ok 13 sc_law.nd (e_C h_lead (hr.mono (by decide)) (a_cons (e_var 3) (a_cons (e_callTy cr_tuple rfl z_tuple (by decide +kernel) (a_cons (e_callB (cr_sorted rfl hu) rfl z_sorted (by decide +kernel) (a_cons (e_bin or_add (e_var 4) (e_tup (a_cons (e_var 11) a_nil))) a_nil)) a_nil)) (a_cons (e_var 7) a_nil)))))
    (ss_one (s_if (t_cmp (or_ne hu) (e_cmp (or_eq hu) (e_var 13) (e_var 8)) (e_cmp (or_notin hu) (e_var 11) (e_var 10))) (ss_one (s_ret e_bl)) ss_nil))) ss_nil))))))) ss_nil))))))))))))
    (ss_one (s_ret e_bl)))
set_option maxHeartbeats 8000000 in
theorem all_mk {l : PySem.W.OpenLaw} {w : World} {K : PySem.W.Frag} {h : Heap} {mg : Str → Option Value} {fa : Addr} (X : K.In h) (G : h.Ns mainGlobals mg) (hfa : mg "law" = some (.ref fa))
    {f0 : Addr} {od0 an0 : Option Addr} {sl0 : Array (Option Value)} {oc0 kV0 dc0 pm0 cd0 ct0 : Value}
    {f1 : Addr} {od1 an1 : Option Addr} {sl1 : Array (Option Value)} {oc1 kV1 dc1 pm1 cd1 ct1 : Value}
    {f2 : Addr} {od2 an2 : Option Addr} {sl2 : Array (Option Value)} {oc2 kV2 dc2 pm2 cd2 ct2 : Value}
    {f3 : Addr} {od3 an3 : Option Addr} {sl3 : Array (Option Value)} {oc3 kV3 dc3 pm3 cd3 ct3 : Value}
    {f4 : Addr} {od4 an4 : Option Addr} {sl4 : Array (Option Value)} {oc4 kV4 dc4 pm4 cd4 ct4 : Value}
    {f5 : Addr} {od5 an5 : Option Addr} {sl5 : Array (Option Value)} {oc5 kV5 dc5 pm5 cd5 ct5 : Value}
    {f6 : Addr} {od6 an6 : Option Addr} {sl6 : Array (Option Value)} {oc6 kV6 dc6 pm6 cd6 ct6 : Value}
    {f7 : Addr} {od7 an7 : Option Addr} {sl7 : Array (Option Value)} {oc7 kV7 dc7 pm7 cd7 ct7 : Value}
    {f8 : Addr} {od8 an8 : Option Addr} {sl8 : Array (Option Value)} {oc8 kV8 dc8 pm8 cd8 ct8 : Value}
    {f9 : Addr} {od9 an9 : Option Addr} {sl9 : Array (Option Value)} {oc9 kV9 dc9 pm9 cd9 ct9 : Value}
    {f10 : Addr} {od10 an10 : Option Addr} {sl10 : Array (Option Value)} {oc10 kV10 dc10 pm10 cd10 ct10 : Value}
    {f11 : Addr} {od11 an11 : Option Addr} {sl11 : Array (Option Value)} {oc11 kV11 dc11 pm11 cd11 ct11 : Value}
    {f12 : Addr} {od12 an12 : Option Addr} {sl12 : Array (Option Value)} {oc12 kV12 dc12 pm12 cd12 ct12 : Value}
    {f13 : Addr} {od13 an13 : Option Addr} {sl13 : Array (Option Value)} {oc13 kV13 dc13 pm13 cd13 ct13 : Value}
    {f14 : Addr} {od14 an14 : Option Addr} {sl14 : Array (Option Value)} {oc14 kV14 dc14 pm14 cd14 ct14 : Value}
    {f15 : Addr} {od15 an15 : Option Addr} {sl15 : Array (Option Value)} {oc15 kV15 dc15 pm15 cd15 ct15 : Value}
    {f16 : Addr} {od16 an16 : Option Addr} {sl16 : Array (Option Value)} {oc16 kV16 dc16 pm16 cd16 ct16 : Value}
    {f17 : Addr} {od17 an17 : Option Addr} {sl17 : Array (Option Value)} {oc17 kV17 dc17 pm17 cd17 ct17 : Value}
    {f18 : Addr} {od18 an18 : Option Addr} {sl18 : Array (Option Value)} {oc18 kV18 dc18 pm18 cd18 ct18 : Value}
    {f19 : Addr} {od19 an19 : Option Addr} {sl19 : Array (Option Value)} {oc19 kV19 dc19 pm19 cd19 ct19 : Value}
    {f20 : Addr} {od20 an20 : Option Addr} {sl20 : Array (Option Value)} {oc20 kV20 dc20 pm20 cd20 ct20 : Value}
    {f21 : Addr} {od21 an21 : Option Addr} {sl21 : Array (Option Value)} {oc21 kV21 dc21 pm21 cd21 ct21 : Value}
    {f22 : Addr} {od22 an22 : Option Addr} {sl22 : Array (Option Value)} {oc22 kV22 dc22 pm22 cd22 ct22 : Value}
    (a0 : PySem.W.nsIn K mainGlobals ("is_whole" : Str) = some (some (.ref f0))) (l0 : K.lookup f0 = some ⟨oc0, od0, .func (PySem.W.fnOf ("is_whole" : Str) ("is_whole" : Str) (defArgs s_is_whole) (defBody s_is_whole) (defScope s_is_whole) .none kV0 dc0 pm0 an0 cd0 ct0), sl0⟩) (c0 : PySem.W.codeIn K cd0 ("is_whole" : Str) = true) (k0 : PySem.W.keepIn K (.ref f0) = true)
    (a1 : PySem.W.nsIn K mainGlobals ("is_within" : Str) = some (some (.ref f1))) (l1 : K.lookup f1 = some ⟨oc1, od1, .func (PySem.W.fnOf ("is_within" : Str) ("is_within" : Str) (defArgs s_is_within) (defBody s_is_within) (defScope s_is_within) .none kV1 dc1 pm1 an1 cd1 ct1), sl1⟩) (c1 : PySem.W.codeIn K cd1 ("is_within" : Str) = true) (k1 : PySem.W.keepIn K (.ref f1) = true)
    (a2 : PySem.W.nsIn K mainGlobals ("is_open" : Str) = some (some (.ref f2))) (l2 : K.lookup f2 = some ⟨oc2, od2, .func (PySem.W.fnOf ("is_open" : Str) ("is_open" : Str) (defArgs s_is_open) (defBody s_is_open) (defScope s_is_open) .none kV2 dc2 pm2 an2 cd2 ct2), sl2⟩) (c2 : PySem.W.codeIn K cd2 ("is_open" : Str) = true) (k2 : PySem.W.keepIn K (.ref f2) = true)
    (a3 : PySem.W.nsIn K mainGlobals ("any_open" : Str) = some (some (.ref f3))) (l3 : K.lookup f3 = some ⟨oc3, od3, .func (PySem.W.fnOf ("any_open" : Str) ("any_open" : Str) (defArgs s_any_open) (defBody s_any_open) (defScope s_any_open) .none kV3 dc3 pm3 an3 cd3 ct3), sl3⟩) (c3 : PySem.W.codeIn K cd3 ("any_open" : Str) = true) (k3 : PySem.W.keepIn K (.ref f3) = true)
    (a4 : PySem.W.nsIn K mainGlobals ("rounds" : Str) = some (some (.ref f4))) (l4 : K.lookup f4 = some ⟨oc4, od4, .func (PySem.W.fnOf ("rounds" : Str) ("rounds" : Str) (defArgs s_rounds) (defBody s_rounds) (defScope s_rounds) .none kV4 dc4 pm4 an4 cd4 ct4), sl4⟩) (c4 : PySem.W.codeIn K cd4 ("rounds" : Str) = true) (k4 : PySem.W.keepIn K (.ref f4) = true)
    (a5 : PySem.W.nsIn K mainGlobals ("standing" : Str) = some (some (.ref f5))) (l5 : K.lookup f5 = some ⟨oc5, od5, .func (PySem.W.fnOf ("standing" : Str) ("standing" : Str) (defArgs s_standing) (defBody s_standing) (defScope s_standing) .none kV5 dc5 pm5 an5 cd5 ct5), sl5⟩) (c5 : PySem.W.codeIn K cd5 ("standing" : Str) = true) (k5 : PySem.W.keepIn K (.ref f5) = true)
    (a6 : PySem.W.nsIn K mainGlobals ("ways_of" : Str) = some (some (.ref f6))) (l6 : K.lookup f6 = some ⟨oc6, od6, .func (PySem.W.fnOf ("ways_of" : Str) ("ways_of" : Str) (defArgs s_ways_of) (defBody s_ways_of) (defScope s_ways_of) .none kV6 dc6 pm6 an6 cd6 ct6), sl6⟩) (c6 : PySem.W.codeIn K cd6 ("ways_of" : Str) = true) (k6 : PySem.W.keepIn K (.ref f6) = true)
    (a7 : PySem.W.nsIn K mainGlobals ("is_lead" : Str) = some (some (.ref f7))) (l7 : K.lookup f7 = some ⟨oc7, od7, .func (PySem.W.fnOf ("is_lead" : Str) ("is_lead" : Str) (defArgs s_is_lead) (defBody s_is_lead) (defScope s_is_lead) .none kV7 dc7 pm7 an7 cd7 ct7), sl7⟩) (c7 : PySem.W.codeIn K cd7 ("is_lead" : Str) = true) (k7 : PySem.W.keepIn K (.ref f7) = true)
    (a8 : PySem.W.nsIn K mainGlobals ("within" : Str) = some (some (.ref f8))) (l8 : K.lookup f8 = some ⟨oc8, od8, .func (PySem.W.fnOf ("within" : Str) ("within" : Str) (defArgs s_within) (defBody s_within) (defScope s_within) .none kV8 dc8 pm8 an8 cd8 ct8), sl8⟩) (c8 : PySem.W.codeIn K cd8 ("within" : Str) = true) (k8 : PySem.W.keepIn K (.ref f8) = true)
    (a9 : PySem.W.nsIn K mainGlobals ("lots" : Str) = some (some (.ref f9))) (l9 : K.lookup f9 = some ⟨oc9, od9, .func (PySem.W.fnOf ("lots" : Str) ("lots" : Str) (defArgs s_lots) (defBody s_lots) (defScope s_lots) .none kV9 dc9 pm9 an9 cd9 ct9), sl9⟩) (c9 : PySem.W.codeIn K cd9 ("lots" : Str) = true) (k9 : PySem.W.keepIn K (.ref f9) = true)
    (a10 : PySem.W.nsIn K mainGlobals ("lots_with" : Str) = some (some (.ref f10))) (l10 : K.lookup f10 = some ⟨oc10, od10, .func (PySem.W.fnOf ("lots_with" : Str) ("lots_with" : Str) (defArgs s_lots_with) (defBody s_lots_with) (defScope s_lots_with) .none kV10 dc10 pm10 an10 cd10 ct10), sl10⟩) (c10 : PySem.W.codeIn K cd10 ("lots_with" : Str) = true) (k10 : PySem.W.keepIn K (.ref f10) = true)
    (a11 : PySem.W.nsIn K mainGlobals ("in_order" : Str) = some (some (.ref f11))) (l11 : K.lookup f11 = some ⟨oc11, od11, .func (PySem.W.fnOf ("in_order" : Str) ("in_order" : Str) (defArgs s_in_order) (defBody s_in_order) (defScope s_in_order) .none kV11 dc11 pm11 an11 cd11 ct11), sl11⟩) (c11 : PySem.W.codeIn K cd11 ("in_order" : Str) = true) (k11 : PySem.W.keepIn K (.ref f11) = true)
    (a12 : PySem.W.nsIn K mainGlobals ("place_of" : Str) = some (some (.ref f12))) (l12 : K.lookup f12 = some ⟨oc12, od12, .func (PySem.W.fnOf ("place_of" : Str) ("place_of" : Str) (defArgs s_place_of) (defBody s_place_of) (defScope s_place_of) .none kV12 dc12 pm12 an12 cd12 ct12), sl12⟩) (c12 : PySem.W.codeIn K cd12 ("place_of" : Str) = true) (k12 : PySem.W.keepIn K (.ref f12) = true)
    (a13 : PySem.W.nsIn K mainGlobals ("lead" : Str) = some (some (.ref f13))) (l13 : K.lookup f13 = some ⟨oc13, od13, .func (PySem.W.fnOf ("lead" : Str) ("lead" : Str) (defArgs s_lead) (defBody s_lead) (defScope s_lead) .none kV13 dc13 pm13 an13 cd13 ct13), sl13⟩) (c13 : PySem.W.codeIn K cd13 ("lead" : Str) = true) (k13 : PySem.W.keepIn K (.ref f13) = true)
    (a14 : PySem.W.nsIn K mainGlobals ("_law_cell_at" : Str) = some (some (.ref f14))) (l14 : K.lookup f14 = some ⟨oc14, od14, .func (PySem.W.fnOf ("_law_cell_at" : Str) ("_law_cell_at" : Str) (defArgs s__law_cell_at) (defBody s__law_cell_at) (defScope s__law_cell_at) .none kV14 dc14 pm14 an14 cd14 ct14), sl14⟩) (c14 : PySem.W.codeIn K cd14 ("_law_cell_at" : Str) = true) (k14 : PySem.W.keepIn K (.ref f14) = true)
    (a15 : PySem.W.nsIn K mainGlobals ("_law_draws" : Str) = some (some (.ref f15))) (l15 : K.lookup f15 = some ⟨oc15, od15, .func (PySem.W.fnOf ("_law_draws" : Str) ("_law_draws" : Str) (defArgs s__law_draws) (defBody s__law_draws) (defScope s__law_draws) .none kV15 dc15 pm15 an15 cd15 ct15), sl15⟩) (c15 : PySem.W.codeIn K cd15 ("_law_draws" : Str) = true) (k15 : PySem.W.keepIn K (.ref f15) = true)
    (a16 : PySem.W.nsIn K mainGlobals ("_law_bag" : Str) = some (some (.ref f16))) (l16 : K.lookup f16 = some ⟨oc16, od16, .func (PySem.W.fnOf ("_law_bag" : Str) ("_law_bag" : Str) (defArgs s__law_bag) (defBody s__law_bag) (defScope s__law_bag) .none kV16 dc16 pm16 an16 cd16 ct16), sl16⟩) (c16 : PySem.W.codeIn K cd16 ("_law_bag" : Str) = true) (k16 : PySem.W.keepIn K (.ref f16) = true)
    (a17 : PySem.W.nsIn K mainGlobals ("_law_bags" : Str) = some (some (.ref f17))) (l17 : K.lookup f17 = some ⟨oc17, od17, .func (PySem.W.fnOf ("_law_bags" : Str) ("_law_bags" : Str) (defArgs s__law_bags) (defBody s__law_bags) (defScope s__law_bags) .none kV17 dc17 pm17 an17 cd17 ct17), sl17⟩) (c17 : PySem.W.codeIn K cd17 ("_law_bags" : Str) = true) (k17 : PySem.W.keepIn K (.ref f17) = true)
    (a18 : PySem.W.nsIn K mainGlobals ("_law_take" : Str) = some (some (.ref f18))) (l18 : K.lookup f18 = some ⟨oc18, od18, .func (PySem.W.fnOf ("_law_take" : Str) ("_law_take" : Str) (defArgs s__law_take) (defBody s__law_take) (defScope s__law_take) .none kV18 dc18 pm18 an18 cd18 ct18), sl18⟩) (c18 : PySem.W.codeIn K cd18 ("_law_take" : Str) = true) (k18 : PySem.W.keepIn K (.ref f18) = true)
    (a19 : PySem.W.nsIn K mainGlobals ("_law_lot" : Str) = some (some (.ref f19))) (l19 : K.lookup f19 = some ⟨oc19, od19, .func (PySem.W.fnOf ("_law_lot" : Str) ("_law_lot" : Str) (defArgs s__law_lot) (defBody s__law_lot) (defScope s__law_lot) .none kV19 dc19 pm19 an19 cd19 ct19), sl19⟩) (c19 : PySem.W.codeIn K cd19 ("_law_lot" : Str) = true) (k19 : PySem.W.keepIn K (.ref f19) = true)
    (a20 : PySem.W.nsIn K mainGlobals ("_law_book" : Str) = some (some (.ref f20))) (l20 : K.lookup f20 = some ⟨oc20, od20, .func (PySem.W.fnOf ("_law_book" : Str) ("_law_book" : Str) (defArgs s__law_book) (defBody s__law_book) (defScope s__law_book) .none kV20 dc20 pm20 an20 cd20 ct20), sl20⟩) (c20 : PySem.W.codeIn K cd20 ("_law_book" : Str) = true) (k20 : PySem.W.keepIn K (.ref f20) = true)
    (a21 : PySem.W.nsIn K mainGlobals ("_law_struck" : Str) = some (some (.ref f21))) (l21 : K.lookup f21 = some ⟨oc21, od21, .func (PySem.W.fnOf ("_law_struck" : Str) ("_law_struck" : Str) (defArgs s__law_struck) (defBody s__law_struck) (defScope s__law_struck) .none kV21 dc21 pm21 an21 cd21 ct21), sl21⟩) (c21 : PySem.W.codeIn K cd21 ("_law_struck" : Str) = true) (k21 : PySem.W.keepIn K (.ref f21) = true)
    (a22 : PySem.W.nsIn K mainGlobals ("law" : Str) = some (some (.ref f22))) (l22 : K.lookup f22 = some ⟨oc22, od22, .func (PySem.W.fnOf ("law" : Str) ("law" : Str) (defArgs s_law) (defBody s_law) (defScope s_law) .none kV22 dc22 pm22 an22 cd22 ct22), sl22⟩) (c22 : PySem.W.codeIn K cd22 ("law" : Str) = true) (k22 : PySem.W.keepIn K (.ref f22) = true)
    (y_all : PySem.W.nsIn K mainGlobals ("all" : Str) = some none)
    (y_any : PySem.W.nsIn K mainGlobals ("any" : Str) = some none)
    (y_bool : PySem.W.nsIn K mainGlobals ("bool" : Str) = some none)
    (y_dict : PySem.W.nsIn K mainGlobals ("dict" : Str) = some none)
    (y_enumerate : PySem.W.nsIn K mainGlobals ("enumerate" : Str) = some none)
    (y_int : PySem.W.nsIn K mainGlobals ("int" : Str) = some none)
    (y_isinstance : PySem.W.nsIn K mainGlobals ("isinstance" : Str) = some none)
    (y_len : PySem.W.nsIn K mainGlobals ("len" : Str) = some none)
    (y_list : PySem.W.nsIn K mainGlobals ("list" : Str) = some none)
    (y_max : PySem.W.nsIn K mainGlobals ("max" : Str) = some none)
    (y_min : PySem.W.nsIn K mainGlobals ("min" : Str) = some none)
    (y_range : PySem.W.nsIn K mainGlobals ("range" : Str) = some none)
    (y_set : PySem.W.nsIn K mainGlobals ("set" : Str) = some none)
    (y_sorted : PySem.W.nsIn K mainGlobals ("sorted" : Str) = some none)
    (y_str : PySem.W.nsIn K mainGlobals ("str" : Str) = some none)
    (y_sum : PySem.W.nsIn K mainGlobals ("sum" : Str) = some none)
    (y_tuple : PySem.W.nsIn K mainGlobals ("tuple" : Str) = some none)
    : ∃ fd : FuncData, (∀ (s : Shared) (v : Value), BindsTo s fd ⟨[v], []⟩ [("script", v)]) ∧ ∀ base : Heap, K.In base → base.Ns mainGlobals mg → FnOk l.prog w K mg base CX0 5 fa fd ["script"] (spD K 1 F_law) := by
  have z_all := PySem.W.mg_none_of X G y_all
  have z_any := PySem.W.mg_none_of X G y_any
  have z_bool := PySem.W.mg_none_of X G y_bool
  have z_dict := PySem.W.mg_none_of X G y_dict
  have z_enumerate := PySem.W.mg_none_of X G y_enumerate
  have z_int := PySem.W.mg_none_of X G y_int
  have z_isinstance := PySem.W.mg_none_of X G y_isinstance
  have z_len := PySem.W.mg_none_of X G y_len
  have z_list := PySem.W.mg_none_of X G y_list
  have z_max := PySem.W.mg_none_of X G y_max
  have z_min := PySem.W.mg_none_of X G y_min
  have z_range := PySem.W.mg_none_of X G y_range
  have z_set := PySem.W.mg_none_of X G y_set
  have z_sorted := PySem.W.mg_none_of X G y_sorted
  have z_str := PySem.W.mg_none_of X G y_str
  have z_sum := PySem.W.mg_none_of X G y_sum
  have z_tuple := PySem.W.mg_none_of X G y_tuple
  have d_is_whole : DefAt K mg ("is_whole" : Str) s_is_whole p_is_whole := ⟨_, _, fun_mk (st := s_is_whole) l0 c0 k0, (fun_mk (st := s_is_whole) l0 c0 k0).binds (ps := p_is_whole) fun _ _ _ _ _ _ us hl => match us, hl with | [_], _ => rfl, PySem.W.mg_of X G a0⟩
  have d_is_within : DefAt K mg ("is_within" : Str) s_is_within p_is_within := ⟨_, _, fun_mk (st := s_is_within) l1 c1 k1, (fun_mk (st := s_is_within) l1 c1 k1).binds (ps := p_is_within) fun _ _ _ _ _ _ us hl => match us, hl with | [_, _, _], _ => rfl, PySem.W.mg_of X G a1⟩
  have d_is_open : DefAt K mg ("is_open" : Str) s_is_open p_is_open := ⟨_, _, fun_mk (st := s_is_open) l2 c2 k2, (fun_mk (st := s_is_open) l2 c2 k2).binds (ps := p_is_open) fun _ _ _ _ _ _ us hl => match us, hl with | [_, _, _, _], _ => rfl, PySem.W.mg_of X G a2⟩
  have d_any_open : DefAt K mg ("any_open" : Str) s_any_open p_any_open := ⟨_, _, fun_mk (st := s_any_open) l3 c3 k3, (fun_mk (st := s_any_open) l3 c3 k3).binds (ps := p_any_open) fun _ _ _ _ _ _ us hl => match us, hl with | [_, _, _, _], _ => rfl, PySem.W.mg_of X G a3⟩
  have d_rounds : DefAt K mg ("rounds" : Str) s_rounds p_rounds := ⟨_, _, fun_mk (st := s_rounds) l4 c4 k4, (fun_mk (st := s_rounds) l4 c4 k4).binds (ps := p_rounds) fun _ _ _ _ _ _ us hl => match us, hl with | [_, _], _ => rfl, PySem.W.mg_of X G a4⟩
  have d_standing : DefAt K mg ("standing" : Str) s_standing p_standing := ⟨_, _, fun_mk (st := s_standing) l5 c5 k5, (fun_mk (st := s_standing) l5 c5 k5).binds (ps := p_standing) fun _ _ _ _ _ _ us hl => match us, hl with | [_, _], _ => rfl, PySem.W.mg_of X G a5⟩
  have d_ways_of : DefAt K mg ("ways_of" : Str) s_ways_of p_ways_of := ⟨_, _, fun_mk (st := s_ways_of) l6 c6 k6, (fun_mk (st := s_ways_of) l6 c6 k6).binds (ps := p_ways_of) fun _ _ _ _ _ _ us hl => match us, hl with | [_, _], _ => rfl, PySem.W.mg_of X G a6⟩
  have d_is_lead : DefAt K mg ("is_lead" : Str) s_is_lead p_is_lead := ⟨_, _, fun_mk (st := s_is_lead) l7 c7 k7, (fun_mk (st := s_is_lead) l7 c7 k7).binds (ps := p_is_lead) fun _ _ _ _ _ _ us hl => match us, hl with | [_, _, _, _], _ => rfl, PySem.W.mg_of X G a7⟩
  have d_within : DefAt K mg ("within" : Str) s_within p_within := ⟨_, _, fun_mk (st := s_within) l8 c8 k8, (fun_mk (st := s_within) l8 c8 k8).binds (ps := p_within) fun _ _ _ _ _ _ us hl => match us, hl with | [_, _], _ => rfl, PySem.W.mg_of X G a8⟩
  have d_lots : DefAt K mg ("lots" : Str) s_lots p_lots := ⟨_, _, fun_mk (st := s_lots) l9 c9 k9, (fun_mk (st := s_lots) l9 c9 k9).binds (ps := p_lots) fun _ _ _ _ _ _ us hl => match us, hl with | [_], _ => rfl, PySem.W.mg_of X G a9⟩
  have d_lots_with : DefAt K mg ("lots_with" : Str) s_lots_with p_lots_with := ⟨_, _, fun_mk (st := s_lots_with) l10 c10 k10, (fun_mk (st := s_lots_with) l10 c10 k10).binds (ps := p_lots_with) fun _ _ _ _ _ _ us hl => match us, hl with | [_, _], _ => rfl, PySem.W.mg_of X G a10⟩
  have d_in_order : DefAt K mg ("in_order" : Str) s_in_order p_in_order := ⟨_, _, fun_mk (st := s_in_order) l11 c11 k11, (fun_mk (st := s_in_order) l11 c11 k11).binds (ps := p_in_order) fun _ _ _ _ _ _ us hl => match us, hl with | [_], _ => rfl, PySem.W.mg_of X G a11⟩
  have d_place_of : DefAt K mg ("place_of" : Str) s_place_of p_place_of := ⟨_, _, fun_mk (st := s_place_of) l12 c12 k12, (fun_mk (st := s_place_of) l12 c12 k12).binds (ps := p_place_of) fun _ _ _ _ _ _ us hl => match us, hl with | [_, _, _, _], _ => rfl, PySem.W.mg_of X G a12⟩
  have d_lead : DefAt K mg ("lead" : Str) s_lead p_lead := ⟨_, _, fun_mk (st := s_lead) l13 c13 k13, (fun_mk (st := s_lead) l13 c13 k13).binds (ps := p_lead) fun _ _ _ _ _ _ us hl => match us, hl with | [_, _, _], _ => rfl, PySem.W.mg_of X G a13⟩
  have d__law_cell_at : DefAt K mg ("_law_cell_at" : Str) s__law_cell_at p__law_cell_at := ⟨_, _, fun_mk (st := s__law_cell_at) l14 c14 k14, (fun_mk (st := s__law_cell_at) l14 c14 k14).binds (ps := p__law_cell_at) fun _ _ _ _ _ _ us hl => match us, hl with | [_, _], _ => rfl, PySem.W.mg_of X G a14⟩
  have d__law_draws : DefAt K mg ("_law_draws" : Str) s__law_draws p__law_draws := ⟨_, _, fun_mk (st := s__law_draws) l15 c15 k15, (fun_mk (st := s__law_draws) l15 c15 k15).binds (ps := p__law_draws) fun _ _ _ _ _ _ us hl => match us, hl with | [_, _, _], _ => rfl, PySem.W.mg_of X G a15⟩
  have d__law_bag : DefAt K mg ("_law_bag" : Str) s__law_bag p__law_bag := ⟨_, _, fun_mk (st := s__law_bag) l16 c16 k16, (fun_mk (st := s__law_bag) l16 c16 k16).binds (ps := p__law_bag) fun _ _ _ _ _ _ us hl => match us, hl with | [_, _], _ => rfl, PySem.W.mg_of X G a16⟩
  have d__law_bags : DefAt K mg ("_law_bags" : Str) s__law_bags p__law_bags := ⟨_, _, fun_mk (st := s__law_bags) l17 c17 k17, (fun_mk (st := s__law_bags) l17 c17 k17).binds (ps := p__law_bags) fun _ _ _ _ _ _ us hl => match us, hl with | [_, _], _ => rfl, PySem.W.mg_of X G a17⟩
  have d__law_take : DefAt K mg ("_law_take" : Str) s__law_take p__law_take := ⟨_, _, fun_mk (st := s__law_take) l18 c18 k18, (fun_mk (st := s__law_take) l18 c18 k18).binds (ps := p__law_take) fun _ _ _ _ _ _ us hl => match us, hl with | [_, _], _ => rfl, PySem.W.mg_of X G a18⟩
  have d__law_lot : DefAt K mg ("_law_lot" : Str) s__law_lot p__law_lot := ⟨_, _, fun_mk (st := s__law_lot) l19 c19 k19, (fun_mk (st := s__law_lot) l19 c19 k19).binds (ps := p__law_lot) fun _ _ _ _ _ _ us hl => match us, hl with | [_, _, _], _ => rfl, PySem.W.mg_of X G a19⟩
  have d__law_book : DefAt K mg ("_law_book" : Str) s__law_book p__law_book := ⟨_, _, fun_mk (st := s__law_book) l20 c20 k20, (fun_mk (st := s__law_book) l20 c20 k20).binds (ps := p__law_book) fun _ _ _ _ _ _ us hl => match us, hl with | [_, _], _ => rfl, PySem.W.mg_of X G a20⟩
  have d__law_struck : DefAt K mg ("_law_struck" : Str) s__law_struck p__law_struck := ⟨_, _, fun_mk (st := s__law_struck) l21 c21 k21, (fun_mk (st := s__law_struck) l21 c21 k21).binds (ps := p__law_struck) fun _ _ _ _ _ _ us hl => match us, hl with | [_, _], _ => rfl, PySem.W.mg_of X G a21⟩
  have d_law : DefAt K mg ("law" : Str) s_law p_law := ⟨_, _, fun_mk (st := s_law) l22 c22 k22, (fun_mk (st := s_law) l22 c22 k22).binds (ps := p_law) fun _ _ _ _ _ _ us hl => match us, hl with | [_], _ => rfl, PySem.W.mg_of X G a22⟩
  have e := hfa.symm.trans (PySem.W.mg_of X G a22)
  cases e
  refine ⟨PySem.W.fnOf "law" "law" (defArgs s_law) (defBody s_law) (defScope s_law) .none kV22 dc22 pm22 an22 cd22 ct22, fun s v => .of_eq rfl, fun base _ _ => ?_⟩
  have h_is_whole : Fd l.prog w K mg base 1 ("is_whole" : Str) p_is_whole F_is_whole := ok_is_whole d_is_whole z_bool z_int z_isinstance    
  have h_is_within : Fd l.prog w K mg base 2 ("is_within" : Str) p_is_within F_is_within := ok_is_within d_is_within   h_is_whole  
  have h_is_open : Fd l.prog w K mg base 1 ("is_open" : Str) p_is_open F_is_open := ok_is_open d_is_open z_all    
  have h_any_open : Fd l.prog w K mg base 2 ("any_open" : Str) p_any_open F_any_open := ok_any_open d_any_open z_any  h_is_open  
  have h_rounds : Fd l.prog w K mg base 3 ("rounds" : Str) p_rounds F_rounds := ok_rounds d_rounds   h_any_open  
  have h_standing : Fd l.prog w K mg base 4 ("standing" : Str) p_standing F_standing := ok_standing d_standing z_sorted  h_rounds  
  have h_ways_of : Fd l.prog w K mg base 1 ("ways_of" : Str) p_ways_of F_ways_of := ok_ways_of d_ways_of     
  have h_is_lead : Fd l.prog w K mg base 3 ("is_lead" : Str) p_is_lead F_is_lead := ok_is_lead d_is_lead z_dict z_isinstance z_len z_list z_str z_tuple  h_is_within h_is_open  
  have h_within : Fd l.prog w K mg base 1 ("within" : Str) p_within F_within := ok_within d_within z_all z_tuple    
  have h_lots : Fd l.prog w K mg base 1 ("lots" : Str) p_lots F_lots := ok_lots d_lots z_len z_sorted    
  have h_lots_with : Fd l.prog w K mg base 2 ("lots_with" : Str) p_lots_with F_lots_with := ok_lots_with d_lots_with z_len z_sorted z_tuple  h_lots  
  have h_in_order : Fd l.prog w K mg base 1 ("in_order" : Str) p_in_order F_in_order := ok_in_order d_in_order z_sorted    
  have h_place_of : Fd l.prog w K mg base 2 ("place_of" : Str) p_place_of F_place_of := ok_place_of d_place_of z_enumerate  h_ways_of h_is_open  
  have h_lead : Fd l.prog w K mg base 4 ("lead" : Str) p_lead F_lead := ok_lead d_lead z_sorted  h_ways_of h_rounds h_lots_with h_within h_in_order h_place_of  
  have h__law_cell_at : Fd l.prog w K mg base 1 ("_law_cell_at" : Str) p__law_cell_at F__law_cell_at := ok__law_cell_at d__law_cell_at z_len    
  have h__law_draws : Fd l.prog w K mg base 1 ("_law_draws" : Str) p__law_draws F__law_draws := ok__law_draws d__law_draws z_int z_range    
  have h__law_bag : Fd l.prog w K mg base 2 ("_law_bag" : Str) p__law_bag F__law_bag := ok__law_bag d__law_bag   h__law_draws h__law_cell_at  
  have h__law_bags : Fd l.prog w K mg base 3 ("_law_bags" : Str) p__law_bags F__law_bags := ok__law_bags d__law_bags z_len z_max z_min z_range  h__law_bag  
  have h__law_take : Fd l.prog w K mg base 1 ("_law_take" : Str) p__law_take F__law_take := ok__law_take d__law_take z_len    
  have h__law_lot : Fd l.prog w K mg base 2 ("_law_lot" : Str) p__law_lot F__law_lot := ok__law_lot d__law_lot z_len z_range z_set z_sorted z_tuple  h__law_take  
  have h__law_book : Fd l.prog w K mg base 3 ("_law_book" : Str) p__law_book F__law_book := ok__law_book d__law_book z_list z_range z_tuple  h__law_take h__law_lot  
  have h__law_struck : Fd l.prog w K mg base 2 ("_law_struck" : Str) p__law_struck F__law_struck := ok__law_struck d__law_struck z_tuple  h__law_take  
  exact fd_at (ok_law d_law z_dict z_len z_list z_range z_sorted z_sum z_tuple  h__law_bags h__law_book h__law_struck h_standing h_lead h_is_lead  ) (PySem.W.mg_of X G a22) l22
end K06

namespace K06
open PySem PySem.Spec L2 N KD
/-! ### rows as data -/
theorem rowOk_row {src s : List Str} {fs : List Fact} {c : List Str} (r : Str × Nat) : rowOk src s fs c (eRowL r) = okRow src s fs c r := by
  show (decide (r.1 ∈ fs.map (·.1)) && ((!decide (r.1 ∈ c) && (decide ((0 : Int) ≤ (r.2 : Int)) && decide ((r.2 : Int) ≤ ((waysL fs r.1).length : Int) - 1))) && (match (waysL fs r.1)[((r.2 : Int)).toNat]? with
    | some w => opens src s c w
    | none => false))) = (!decide (r.1 ∈ c) && (match (waysL fs r.1)[r.2]? with
    | some w => opens src s c w
    | none => false))
  rw [Int.toNat_natCast]
  by_cases h : r.1 ∈ fs.map (·.1)
  · rw [decide_eq_true h, Bool.true_and]
    by_cases hl : r.2 < (waysL fs r.1).length
    · have h1 : ((0 : Int) ≤ (r.2 : Int)) := by omega
      have h2 : ((r.2 : Int) ≤ ((waysL fs r.1).length : Int) - 1) := by omega
      rw [decide_eq_true h1, decide_eq_true h2, Bool.and_true, Bool.and_true]
    · have h2 : ¬ ((r.2 : Int) ≤ ((waysL fs r.1).length : Int) - 1) := by omega
      rw [decide_eq_false h2, List.getElem?_eq_none (by omega)]
      simp
  · rw [decide_eq_false h, waysL_none h]
    simp
theorem chain_rows {src s : List Str} {fs : List Fact} : ∀ (rs : List (Str × Nat)) (c : List Str), chainD src s fs c (rs.map eRowL) = if goodRows src s fs c rs = true then some (c ++ rs.map (·.1)) else none
  | [], c => by simp [chainD, goodRows]
  | r :: rs, c => by
    rw [List.map_cons, chainD, goodRows, rowOk_row, chain_rows rs]
    show (if okRow src s fs c r = true then (if goodRows src s fs (c ++ [r.1]) rs = true then some (c ++ [r.1] ++ rs.map (·.1)) else none) else none) = _
    cases okRow src s fs c r <;> cases goodRows src s fs (c ++ [r.1]) rs <;> simp
theorem is_rows {src s : List Str} {fs : List Fact} {x : Str} (rs : List (Str × Nat)) : isLeadD src s fs x (.list (rs.map eRowL)) = (goodRows src s fs [] rs && decide ((rs.map (·.1)).getLast? = some x)) := by
  show (match chainD src s fs [] (rs.map eRowL) with
    | some c => decide (c.getLast? = some x)
    | none => false) = _
  rw [chain_rows, List.nil_append]
  cases goodRows src s fs [] rs <;> simp
theorem eqv_rows : ∀ (rs qs : List (Str × Nat)), PyData.eqvAll (rs.map eRowL) (qs.map eRowL) = decide (rs = qs)
  | [], [] => rfl
  | [], q :: qs => rfl
  | r :: rs, [] => rfl
  | r :: rs, q :: qs => by
    have e : PyData.eqv (eRowL r) (eRowL q) = decide (r = q) := by
      show (PyData.eqv (.str r.1) (.str q.1) && (PyData.eqv (.int (r.2 : Int)) (.int (q.2 : Int)) && true)) = _
      rw [Bool.and_true, eqv_int, show PyData.eqv (.str r.1) (.str q.1) = decide (r.1 = q.1) from rfl, Bool.eq_iff_iff, Bool.and_eq_true, decide_eq_true_eq, decide_eq_true_eq, decide_eq_true_eq]
      constructor
      · rintro ⟨h1, h2⟩
        exact Prod.ext h1 (by omega)
      · rintro rfl
        exact ⟨rfl, rfl⟩
    rw [List.map_cons, List.map_cons, PyData.eqvAll, e, eqv_rows rs qs, Bool.eq_iff_iff, Bool.and_eq_true, decide_eq_true_eq, decide_eq_true_eq, decide_eq_true_eq, List.cons.injEq]
def leadV : Option (List (Str × Nat)) → D
  | none => .none
  | some rows => .list (rows.map eRowL)
theorem dp_row (r : Str × Nat) : Dp 1 (eRowL r) := dp_tuple fun z hz => by
  simp only [List.mem_cons, List.not_mem_nil, or_false] at hz
  rcases hz with rfl | rfl
  · exact dp_str _
  · exact dp_int _
theorem dp_rows (rows : List (Str × Nat)) : ∀ z ∈ rows.map eRowL, Dp 1 z := fun z hz => by
  obtain ⟨r, _, rfl⟩ := List.mem_map.mp hz
  exact dp_row r
theorem dp_leadV : ∀ o, Dp 2 (leadV o)
  | none => ⟨rfl, by decide⟩
  | some rows => dp_list (dp_rows rows)
theorem eqv_leadV : ∀ o p, PyData.eqv (leadV o) (leadV p) = decide (o = p)
  | none, none => rfl
  | none, some _ => rfl
  | some _, none => rfl
  | some a, some b => by
    show PyData.eqvAll (a.map eRowL) (b.map eRowL) = _
    rw [eqv_rows]
    exact decide_eq_decide.mpr ⟨fun h => by rw [h], fun h => Option.some.inj h⟩
theorem pk_leadV {st : Sto} : ∀ o, (R.d (leadV o)).pk st = some (leadV o)
  | none => rfl
  | some _ => rfl
/-! ### what the leads are like -/
section
variable {src s : List Str} {fs : List Fact} {x : Str} {L : List Str}
theorem lead_some (S : Small fs) (h : x ∈ stand src s fs) : ∃ L, Lead src s fs x L ∧ leadL src s fs x = some (rowsOf src s fs L) := by
  obtain ⟨L, e⟩ := lotOf_of S h
  refine ⟨L, lotOf_some S e, ?_⟩
  unfold leadL
  rw [e]
  rfl
theorem lead_none (h : x ∉ stand src s fs) : leadL src s fs x = none := by
  unfold leadL lotOf
  rw [if_neg h]
  rfl
theorem lead_pre (h : Lead src s fs x L) {k : Nat} (hk : k < (rowsOf src s fs L).length) : isLeadD src s fs ((rowsOf src s fs L)[k]).1 (.list (((rowsOf src s fs L).take (k + 1)).map eRowL)) = true := by
  rw [is_rows, Bool.and_eq_true, decide_eq_true_eq]
  constructor
  · have g : goodRows src s fs [] (rowsOf src s fs L) = true := good_rowsK h.lot.nd _
    rw [← List.take_append_drop (k + 1) (rowsOf src s fs L), goodRows_append, Bool.and_eq_true] at g
    exact g.1
  · rw [List.take_add_one, List.getElem?_eq_getElem hk, List.map_append]
    simp
theorem lead_less (h : Lead src s fs x L) {k : Nat} (hk : k < (rowsOf src s fs L).length) : isLeadD src s fs x (.list (((rowsOf src s fs L).take k ++ (rowsOf src s fs L).drop (k + 1)).map eRowL)) = false := by
  rw [is_rows]
  cases g : goodRows src s fs [] ((rowsOf src s fs L).take k ++ (rowsOf src s fs L).drop (k + 1)) with
  | false => rfl
  | true =>
    rw [Bool.true_and]
    refine decide_eq_false fun e => ?_
    have hx : x ∈ ((rowsOf src s fs L).take k ++ (rowsOf src s fs L).drop (k + 1)).map (·.1) := List.mem_of_getLast? e
    have sub : ∀ r ∈ (rowsOf src s fs L).take k ++ (rowsOf src s fs L).drop (k + 1), r ∈ rowsOf src s fs L := fun r hr => by
      rcases List.mem_append.mp hr with q | q
      · exact List.mem_of_mem_take q
      · exact List.mem_of_mem_drop q
    have := h.short g hx fun r hr => h.stand_sub _ (all_sub _ (by rw [← rows_names]; exact List.mem_map_of_mem (sub r hr)))
    rw [List.length_append, List.length_take, List.length_drop, h.len] at this
    rw [h.len] at hk
    omega
end
/-! ### the walk -/
abbrev lv (sc : D) (b : Nat) (j2 j3 j4 j5 j6 j7 j8 j9 j10 j11 j12 j13 : Option R) : En := [some (.d sc), some (.d (rf b)), j2, j3, j4, j5, j6, j7, j8, j9, j10, j11, j12, j13]
section
variable {n b : Nat} {sc : D} {st : Sto} {B : Book} {s : List Str} {x : Str}
theorem sp_rows {rs : List (Str × Nat)} (h : rs.length ≤ 20) (hn : ∀ r ∈ rs, r.1.length ≤ 1000) : Sp 30 20 (.list (rs.map eRowL)) := (sp_list (m := 30) (n := 19)).mpr ⟨by rw [List.length_map]; omega, fun y hy => by
  obtain ⟨r, hr, rfl⟩ := List.mem_map.mp hy
  exact (sp_tuple (m := 30) (n := 18)).mpr ⟨by simp, fun z hz => by
    simp only [List.mem_cons, List.not_mem_nil, or_false] at hz
    rcases hz with rfl | rfl
    · exact sp_str (hn r hr)
    · exact sp_int _⟩⟩
theorem sp_name (W : WfB 6 B) {y : Str} (h : y ∈ B.facts.map (·.1)) : y.length ≤ 1000 := by
  obtain ⟨j, _, e⟩ := W.fac
  rw [e] at h
  have := List.mem_of_mem_take h
  simp only [List.mem_cons, List.not_mem_nil, or_false] at this
  rcases this with rfl | rfl | rfl | rfl | rfl | rfl | rfl <;> decide
theorem fac_few (W : WfB 6 B) : B.facts.length ≤ 6 := by
  obtain ⟨j, hj, e⟩ := W.fac
  rw [← List.length_map (f := (·.1)), e, List.length_take]
  exact Nat.le_trans (Nat.min_le_left _ _) (by omega)
theorem fac_ne (W : WfB 6 B) : B.facts ≠ [] := by
  obtain ⟨j, hj, e⟩ := W.fac
  intro h
  rw [h] at e
  simp at e
structure Rows (B : Book) (s : List Str) (x : Str) (rs : List (Str × Nat)) : Prop where
  few : rs.length ≤ 6
  nm : ∀ r ∈ rs, r.1 ∈ B.facts.map (·.1)
  ln : ∀ r ∈ rs, r.1.length ≤ 1000
theorem rows_rows (W : WfB 6 B) {L : List Str} (h : Lead B.src s B.facts x L) : Rows B s x (rowsOf B.src s B.facts L) := by
  have S := small_of W
  have sub : ∀ y ∈ L, y ∈ B.facts.map (·.1) := fun y hy => stand_names S B.src s y (h.stand_sub y hy)
  have nm : ∀ r ∈ rowsOf B.src s B.facts L, r.1 ∈ B.facts.map (·.1) := fun r hr => sub r.1 (all_sub _ (by rw [← rows_names]; exact List.mem_map_of_mem hr))
  refine ⟨?_, nm, fun r hr => sp_name W (nm r hr)⟩
  rw [h.len]
  refine Nat.le_trans (h.lot.nd.length_le_of_subset sub) ?_
  rw [List.length_map]
  exact fac_few W
theorem sl_k {env : En} {i : Nat} {xs : List D} {lo hi : Option (En → M R)} {l u : Option Int} (h : env[i]? = some (some (.d (.list xs)))) (h1 : dPart lo env st = .ok l st) (h2 : dPart hi env st = .ok u st) : dSl oSl (eVar i) lo hi env st = .ok (.l true (cutD xs l u)) st := by
  rw [x_sl, bind_at, var_ok h]
  simp only [bind_at, h1, h2]
  rfl
theorem part_d {env : En} {f : En → M R} {i : Int} (h : f env st = .ok (.d (.int i)) st) : dPart (some f) env st = .ok (some i) st := by
  rw [x_p1, bind_at, h]
  rfl
theorem k_turn {k : Nat} {j2 j5 j6 j10 j11 j12 j13 : Option R} {L : List Str} (W : WfB 6 B) (h : Lead B.src s B.facts x L) (hk : k < (rowsOf B.src s B.facts L).length) :
    B_law_1 (lv sc b j2 (some (.d (eBook B))) (some (.d (eStrs s))) j5 j6 (some (.d (.str x))) (some (.d (.list ((rowsOf B.src s B.facts L).map eRowL)))) (some (.d (.int (k : Int)))) j10 j11 j12 j13) st = .ok (.nx, lv sc b j2 (some (.d (eBook B))) (some (.d (eStrs s))) j5 j6 (some (.d (.str x))) (some (.d (.list ((rowsOf B.src s B.facts L).map eRowL)))) (some (.d (.int (k : Int)))) j10 j11 j12 j13) st := by
  have S := small_of W
  have R := rows_rows W h
  have p1 := lead_pre h hk
  have p2 := lead_less h hk
  obtain ⟨rs, hrs⟩ : ∃ rs, rs = rowsOf B.src s B.facts L := ⟨_, rfl⟩
  obtain ⟨r, hr⟩ : ∃ r, r = (rowsOf B.src s B.facts L)[k] := ⟨_, rfl⟩
  rw [← hr] at p1
  have hre : rs[k]? = some r := by rw [hrs, hr, List.getElem?_eq_getElem hk]
  rw [← hrs] at R p1 p2 hk ⊢
  have hfew := R.few
  obtain ⟨E, hE⟩ : ∃ E, E = lv sc b j2 (some (.d (eBook B))) (some (.d (eStrs s))) j5 j6 (some (.d (.str x))) (some (.d (.list (rs.map eRowL)))) (some (.d (.int (k : Int)))) j10 j11 j12 j13 := ⟨_, rfl⟩
  have E3 : E[3]? = some (some (.d (eBook B))) := by rw [hE]; rfl
  have E4 : E[4]? = some (some (.d (eStrs s))) := by rw [hE]; rfl
  have E7 : E[7]? = some (some (.d (.str x))) := by rw [hE]; rfl
  have E8 : E[8]? = some (some (.d (.list (rs.map eRowL)))) := by rw [hE]; rfl
  have E9 : E[9]? = some (some (.d (.int (k : Int)))) := by rw [hE]; rfl
  have k1 : dPart (some (dBin oAdd (eVar 9) (eC (.int 1)))) E st = .ok (some (((k + 1 : Nat) : Int))) st := part_d (bin_ok (a := .d (.int (k : Int))) (b := .d (.int 1)) (s1 := st) (s2 := st) (var_ok E9) rfl rfl)
  have s1 : dSl oSl (eVar 8) none (some (dBin oAdd (eVar 9) (eC (.int 1)))) E st = .ok (.l true ((rs.take (k + 1)).map eRowL)) st := by
    rw [sl_k E8 rfl k1, cut_nat, List.map_take]
  have s2 : dBin oAdd (dSl oSl (eVar 8) none (some (eVar 9))) (dSl oSl (eVar 8) (some (dBin oAdd (eVar 9) (eC (.int 1)))) none) E st = .ok (.l true ((rs.take k ++ rs.drop (k + 1)).map eRowL)) st := by
    refine bin_ok (a := .l true ((rs.take k).map eRowL)) (b := .l true ((rs.drop (k + 1)).map eRowL)) (s1 := st) (s2 := st) ?_ ?_ ?_
    · rw [sl_k E8 rfl (part_d (var_ok E9)), cut_nat, List.map_take]
    · rw [sl_k E8 k1 rfl, cut_from, List.map_drop]
    · rw [x_addll, if_pos, List.map_append]
      rw [List.length_map, List.length_map, List.length_take, List.length_drop]
      exact Nat.le_trans (by omega) sizeLine_big
  have i1 : dBin oIx (dBin oIx (eVar 8) (eVar 9)) (eC (.int 0)) E st = .ok (.d (.str r.1)) st := by
    refine bin_ok (a := .d (eRowL r)) (b := .d (.int 0)) (s1 := st) (s2 := st) (bin_ok (a := .d (.list (rs.map eRowL))) (b := .d (.int (k : Int))) (s1 := st) (s2 := st) (var_ok E8) (var_ok E9) ?_) rfl rfl
    rw [x_ixL, atI_ok (x := eRowL r) (by omega) (by rw [Int.toNat_natCast, List.getElem?_map, hre]; rfl)]
  have sp1 : Sp 30 20 (.list ((rs.take (k + 1)).map eRowL)) := sp_rows (by rw [List.length_take]; omega) fun r hr => R.ln r (List.mem_of_mem_take hr)
  have sp2 : Sp 30 20 (.list ((rs.take k ++ rs.drop (k + 1)).map eRowL)) := sp_rows (by rw [List.length_append, List.length_take, List.length_drop]; omega) fun r hr => R.ln r (by
    rcases List.mem_append.mp hr with q | q
    · exact List.mem_of_mem_take q
    · exact List.mem_of_mem_drop q)
  have c1 := is_lead_ok (st := [.c]) (s := s) (x := r.1) S (fac_ne W) sp1 (by decide)
  have c2 := is_lead_ok (st := [.c]) (s := s) (x := x) S (fac_ne W) sp2 (by decide)
  rw [p1] at c1
  rw [p2] at c2
  have t1 : dTst (dBin (oIsB true) (dCall (opC 4 F_is_lead) (dCons (eVar 3) (dCons (eVar 4) (dCons (dBin oIx (dBin oIx (eVar 8) (eVar 9)) (eC (.int 0))) (dCons (dSl oSl (eVar 8) none (some (dBin oAdd (eVar 9) (eC (.int 1))))) dNil))))) (eC (.bool true))) E st = .ok false st := by
    refine tst_ok (bin_ok (a := .d (.bool true)) (b := .d (.bool true)) (s1 := st) (s2 := st) ?_ rfl rfl)
    rw [dCall_ok (cons_ok (var_ok E3) (cons_ok (var_ok E4) (cons_ok i1 (cons_ok s1 rfl))))]
    exact opC_ok rfl rfl c1
  have t2 : dTst (dBin (oIsB true) (dCall (opC 4 F_is_lead) (dCons (eVar 3) (dCons (eVar 4) (dCons (eVar 7) (dCons (dBin oAdd (dSl oSl (eVar 8) none (some (eVar 9))) (dSl oSl (eVar 8) (some (dBin oAdd (eVar 9) (eC (.int 1)))) none)) dNil))))) (eC (.bool false))) E st = .ok false st := by
    refine tst_ok (bin_ok (a := .d (.bool false)) (b := .d (.bool false)) (s1 := st) (s2 := st) ?_ rfl rfl)
    rw [dCall_ok (cons_ok (var_ok E3) (cons_ok (var_ok E4) (cons_ok (var_ok E7) (cons_ok s2 rfl))))]
    exact opC_ok rfl rfl c2
  unfold B_law_1
  rw [← hE]
  exact (seq_nx (if_no t1)).trans (if_no t2)
theorem k_loop {j2 j5 j6 j9 j10 j11 j12 j13 : Option R} {L : List Str} (W : WfB 6 B) (h : Lead B.src s B.facts x L) :
    ∃ j9', L_law_1 (lv sc b j2 (some (.d (eBook B))) (some (.d (eStrs s))) j5 j6 (some (.d (.str x))) (some (.d (.list ((rowsOf B.src s B.facts L).map eRowL)))) j9 j10 j11 j12 j13) st = .ok (.nx, lv sc b j2 (some (.d (eBook B))) (some (.d (eStrs s))) j5 j6 (some (.d (.str x))) (some (.d (.list ((rowsOf B.src s B.facts L).map eRowL)))) j9' j10 j11 j12 j13) st := by
  obtain ⟨env', st', c1, c2⟩ := forGo_inv (S := B_law_1) (p := .nm 9) (enc := fun (i : Nat) => PyData.int (i : Int)) (fun i env st' => st' = st ∧ ∃ j9, env = lv sc b j2 (some (.d (eBook B))) (some (.d (eStrs s))) j5 j6 (some (.d (.str x))) (some (.d (.list ((rowsOf B.src s B.facts L).map eRowL)))) j9 j10 j11 j12 j13)
    (List.range (rowsOf B.src s B.facts L).length) 0 (lv sc b j2 (some (.d (eBook B))) (some (.d (eStrs s))) j5 j6 (some (.d (.str x))) (some (.d (.list ((rowsOf B.src s B.facts L).map eRowL)))) j9 j10 j11 j12 j13) st ⟨rfl, j9, rfl⟩ fun i k env st' ex ⟨es, j9, ee⟩ => by
      subst es ee
      have hk : k < (rowsOf B.src s B.facts L).length := List.mem_range.mp (List.mem_of_getElem? ex)
      exact ⟨_, _, st', rfl, k_turn W h hk, rfl, some (.d (.int (k : Int))), rfl⟩
  obtain ⟨rfl, j9', rfl⟩ := c2
  refine ⟨j9', ?_⟩
  have hle := (rows_rows W h).few
  unfold L_law_1
  exact (dFor_ok (st1 := st') (itR1_at (n := (rowsOf B.src s B.facts L).length) (call1_ok (r := .d (.list ((rowsOf B.src s B.facts L).map eRowL))) rfl (by rw [x_lenL, List.length_map])))).trans c1
end
end K06

namespace K06
open PySem PySem.Spec L2 N KD
section
variable {n b : Nat} {sc : D} {st : Sto} {B : Book} {s : List Str} {x : Str}
theorem pairs_nums : ∀ rs : List (Str × Int), pairsOf (pairs rs) = some (N.kv rs)
  | [] => rfl
  | p :: rs => by
    show (match pairOf (.tuple [.str p.1, .int p.2]), pairsOf (pairs rs) with
      | some q, some r => some (q :: r)
      | _, _ => none) = _
    rw [pairs_nums rs]
    rfl
theorem dict_l {rs : List (Str × Int)} (nd : (rs.map (·.1)).Nodup) : oDictF (.l true (pairs rs)) st = .ok (.d (markD (N.kv rs))) st := by
  show (match pairsOf (pairs rs) with
    | some ps => Res.ok (R.d (markD (mergeD [] ps))) st
    | none => Res.no) = _
  rw [pairs_nums]
  show Res.ok (R.d (markD (mergeD [] (N.kv rs)))) st = _
  rw [mergeD_new _ _ (kv_nd nd) (by simp)]
  rfl
theorem items_tbl : itemsS (.d (tblD B.facts)) st = .ok (B.facts.map fun f => .str f.1) st := by
  show (match dF? (tblD B.facts) with
    | some ds => Res.ok (keysD ds) st
    | none => .no) = _
  unfold tblD
  rw [dF_mark]
  show Res.ok (keysD (facKs B.facts)) st = _
  unfold keysD facKs
  rw [List.map_map]
  rfl
/-- the ways that a lead takes, as the law lays them end to end -/
theorem lists_strs : ∀ ws : List (List Str), listsOf (ws.map fun w => PyData.list (w.map .str)) = some (ws.map fun w => w.map .str)
  | [] => rfl
  | w :: ws => by
    rw [List.map_cons, listsOf, lists_strs ws]
    rfl
theorem used_set {j2 j6 j9 j10 j11 j12 j13 : Option R} {L : List Str} (W : WfB 6 B) (h : Lead B.src s B.facts x L) :
    dSet 10 slF (dCall oSumL (dCons C_law_1 (dCons (dCall oLst dNil) dNil))) (lv sc b j2 (some (.d (eBook B))) (some (.d (eStrs s))) (some (.d (tblD B.facts))) j6 (some (.d (.str x))) (some (.d (.list ((rowsOf B.src s B.facts L).map eRowL)))) j9 j10 j11 j12 j13) st = .ok (.nx, lv sc b j2 (some (.d (eBook B))) (some (.d (eStrs s))) (some (.d (tblD B.facts))) j6 (some (.d (.str x))) (some (.d (.list ((rowsOf B.src s B.facts L).map eRowL)))) j9 (some (.d (.list ((used B.facts (rowsOf B.src s B.facts L)).map .str)))) j11 j12 j13) st := by
  have S := small_of W
  have RR := rows_rows W h
  have hfew := RR.few
  have way : ∀ r ∈ rowsOf B.src s B.facts L, (waysL B.facts r.1)[r.2]? = some (wayOf B.facts r) := fun r hr => by
    obtain ⟨i, hi, h1, h2⟩ := rowsK_mem hr
    obtain ⟨w, ew, _, _⟩ := place_ok (fr_iff.mp h1).2.2
    have e : r.2 = place B.src s B.facts (cg B.src s B.facts L i) r.1 := congrArg (·.2) h2
    unfold wayOf
    rw [e, ew]
    rfl
  have wl : ∀ r ∈ rowsOf B.src s B.facts L, (wayOf B.facts r).length ≤ 1000 := fun r hr => by
    obtain ⟨f, hf, ef⟩ := List.mem_map.mp (RR.nm r hr)
    have hm := List.mem_of_getElem? (way r hr)
    rw [← ef, waysL_of S.nd hf] at hm
    exact S.way f hf _ hm
  obtain ⟨rs, hrs⟩ : ∃ rs, rs = rowsOf B.src s B.facts L := ⟨_, rfl⟩
  rw [← hrs] at way wl RR hfew ⊢
  have e1 : C_law_1 (lv sc b j2 (some (.d (eBook B))) (some (.d (eStrs s))) (some (.d (tblD B.facts))) j6 (some (.d (.str x))) (some (.d (.list (rs.map eRowL)))) j9 j10 j11 j12 j13) st = .ok (.l true ((rs.map (wayOf B.facts)).map fun w => PyData.list (w.map .str))) st := by
    rw [List.map_map]
    refine dLc_map (enc := eRowL) _ rfl (by omega) fun r hr => ?_
    refine lcStep_ok (r := .l true ((wayOf B.facts r).map .str)) (s1 := st) (e1 := lv sc b j2 (some (.d (eBook B))) (some (.d (eStrs s))) (some (.d (tblD B.facts))) j6 (some (.d (.str x))) (some (.d (.list (rs.map eRowL)))) j9 j10 (some (.d (.str r.1))) (some (.d (.int (r.2 : Int)))) j13) rfl rfl (call1_ok (r := .d (eStrs (wayOf B.facts r))) (s := st) (bin_ok (a := .d (eWays (waysL B.facts r.1))) (b := .d (.int (r.2 : Int))) (s1 := st) (s2 := st) (bin_ok (a := .d (tblD B.facts)) (b := .d (.str r.1)) (s1 := st) (s2 := st) rfl rfl (mark_ix ?_)) rfl ?_) rfl) rfl
    · rw [val_fac, if_pos (RR.nm r hr)]
    · rw [show R.d (eWays (waysL B.facts r.1)) = .d (.tuple ((waysL B.facts r.1).map eStrs)) from rfl, x_ixT, atI_ok (x := eStrs (wayOf B.facts r)) (by omega) (by rw [Int.toNat_natCast, List.getElem?_map, way r hr]; rfl)]
  refine setF_l (i := 10) ?_
  rw [dCall_ok (cons_ok e1 (cons_ok (lst0 _ _) rfl))]
  show (match listsOf ((rs.map (wayOf B.facts)).map fun w => PyData.list (w.map .str)) with
    | some yss => if yss.flatten.length ≤ sizeLine then Res.ok (R.l true yss.flatten) st else .no
    | none => .no) = _
  rw [lists_strs]
  have e2 : ((rs.map (wayOf B.facts)).map fun w => w.map PyData.str).flatten = (used B.facts rs).map .str := by
    unfold used
    rw [List.map_flatten]
  have len : ∀ (l : List (Str × Nat)), (∀ r ∈ l, (wayOf B.facts r).length ≤ 1000) → (used B.facts l).length ≤ 1000 * l.length := fun l => by
    induction l with
    | nil => intro _; simp [used]
    | cons r l ih =>
      intro hl
      have h1 := hl r List.mem_cons_self
      have h2 := ih fun q hq => hl q (List.mem_cons_of_mem _ hq)
      unfold used at h2 ⊢
      rw [List.map_cons, List.flatten_cons, List.length_append, List.length_cons]
      omega
  show (if (((rs.map (wayOf B.facts)).map fun w => w.map PyData.str).flatten).length ≤ sizeLine then Res.ok (R.l true ((rs.map (wayOf B.facts)).map fun w => w.map PyData.str).flatten) st else .no) = _
  rw [e2, if_pos]
  rw [List.length_map]
  exact Nat.le_trans (Nat.le_trans (len rs wl) (by omega)) sizeLine_big
theorem name_turn {y : Str} {j2 j6 j9 j12 j13 : Option R} {f : Fact} {L : List Str} (W : WfB 6 B) (hs : ∀ x ∈ s, x ∈ B.src) (hsl : s.length ≤ 1000) (hf : f ∈ B.facts) (h : Lead B.src s B.facts f.1 L) (hy : y ∈ B.src) :
    ∃ j13', B_law_2 (lv sc b j2 (some (.d (eBook B))) (some (.d (eStrs s))) (some (.d (tblD B.facts))) j6 (some (.d (.str f.1))) (some (.d (.list ((rowsOf B.src s B.facts L).map eRowL)))) j9 (some (.d (.list ((used B.facts (rowsOf B.src s B.facts L)).map .str)))) (some (.d (.str y))) j12 j13) st = .ok (.nx, lv sc b j2 (some (.d (eBook B))) (some (.d (eStrs s))) (some (.d (tblD B.facts))) j6 (some (.d (.str f.1))) (some (.d (.list ((rowsOf B.src s B.facts L).map eRowL)))) j9 (some (.d (.list ((used B.facts (rowsOf B.src s B.facts L)).map .str)))) (some (.d (.str y))) j12 j13') st := by
  have S := small_of W
  obtain ⟨i0, hi0, hsrc⟩ := W.src
  have hl : B.src.length ≤ 1000 := by
    rw [hsrc, List.length_take]
    exact Nat.le_trans (Nat.min_le_right _ _) (by decide)
  have t : dTst (dBin (oIn true) (eVar 11) (eVar 4)) (lv sc b j2 (some (.d (eBook B))) (some (.d (eStrs s))) (some (.d (tblD B.facts))) j6 (some (.d (.str f.1))) (some (.d (.list ((rowsOf B.src s B.facts L).map eRowL)))) j9 (some (.d (.list ((used B.facts (rowsOf B.src s B.facts L)).map .str)))) (some (.d (.str y))) j12 j13) st = .ok (!decide (y ∈ s)) st :=
    tst_ok (bin_ok (a := .d (.str y)) (b := .d (eStrs s)) (s1 := st) (s2 := st) rfl rfl (by rw [x_inT, Bool.true_xor]))
  unfold B_law_2
  by_cases hys : y ∈ s
  · rw [decide_eq_true hys] at t
    exact ⟨j13, if_no t⟩
  · rw [decide_eq_false hys] at t
    have m : More B.src s (sortS (s ++ [y])) y := ⟨fun z => by rw [sortS_mem, List.mem_append, List.mem_singleton], hys, hy⟩
    have le : leadL B.src s B.facts f.1 = some (rowsOf B.src s B.facts L) := by
      unfold leadL
      rw [lotOf_eq S h]
      rfl
    have key : (leadL B.src (sortS (s ++ [y])) B.facts f.1 = some (rowsOf B.src s B.facts L)) ↔ y ∉ used B.facts (rowsOf B.src s B.facts L) := by
      rw [← le]
      exact ⟨fun e q => lead_used S m h q e, fun q => lead_unused S m h q⟩
    have a1 : dSet 13 slF (dCall (opC 3 F_lead) (dCons (eVar 3) (dCons (dCall (op1 oTuple) (dCons (dCall (op1 oSorted) (dCons (dBin oAdd (eVar 4) (dCall oTup (dCons (eVar 11) dNil))) dNil)) dNil)) (dCons (eVar 7) dNil)))) (lv sc b j2 (some (.d (eBook B))) (some (.d (eStrs s))) (some (.d (tblD B.facts))) j6 (some (.d (.str f.1))) (some (.d (.list ((rowsOf B.src s B.facts L).map eRowL)))) j9 (some (.d (.list ((used B.facts (rowsOf B.src s B.facts L)).map .str)))) (some (.d (.str y))) j12 j13) st = .ok (.nx, lv sc b j2 (some (.d (eBook B))) (some (.d (eStrs s))) (some (.d (tblD B.facts))) j6 (some (.d (.str f.1))) (some (.d (.list ((rowsOf B.src s B.facts L).map eRowL)))) j9 (some (.d (.list ((used B.facts (rowsOf B.src s B.facts L)).map .str)))) (some (.d (.str y))) j12 (some (.d (leadV (leadL B.src (sortS (s ++ [y])) B.facts f.1))))) st := by
      refine dSet_ok (r := leadR (leadL B.src (sortS (s ++ [y])) B.facts f.1)) ?_ (by cases leadL B.src (sortS (s ++ [y])) B.facts f.1 <;> rfl)
      rw [dCall_ok (cons_ok (r := .d (eBook B)) (s := st) rfl (cons_ok (r := .d (eStrs (sortS (s ++ [y])))) (s := st) ?_ (cons_ok (r := .d (.str f.1)) (s := st) rfl rfl)))]
      · exact opC_ok rfl rfl (lead_call S hl (Nat.le_trans (fac_few W) (by decide)) hf)
      · refine call1_ok (r := .l true ((sortS (s ++ [y])).map .str)) (s := st) (call1_ok (r := .d (eStrs (s ++ [y]))) (s := st) (bin_ok (a := .d (eStrs s)) (b := .d (.tuple [.str y])) (s1 := st) (s2 := st) rfl (tupT rfl) ?_) (oSorted_strsT (by rw [List.length_append, List.length_singleton]; omega))) rfl
        rw [x_addT, if_pos (by rw [List.length_map, List.length_singleton]; exact Nat.le_trans (show s.length + 1 ≤ 1000000 by omega) sizeLine_big), M.ret_ap]
        unfold eStrs
        rw [List.map_append]
        rfl
    obtain ⟨o, ho⟩ : ∃ o, o = leadL B.src (sortS (s ++ [y])) B.facts f.1 := ⟨_, rfl⟩
    rw [← ho] at a1 key
    obtain ⟨E, hE⟩ : ∃ E, E = lv sc b j2 (some (.d (eBook B))) (some (.d (eStrs s))) (some (.d (tblD B.facts))) j6 (some (.d (.str f.1))) (some (.d (.list ((rowsOf B.src s B.facts L).map eRowL)))) j9 (some (.d (.list ((used B.facts (rowsOf B.src s B.facts L)).map .str)))) (some (.d (.str y))) j12 (some (.d (leadV o))) := ⟨_, rfl⟩
    rw [← hE] at a1
    have t2 : dTst (dBin (oEq true) (dBin (oEq false) (eVar 13) (eVar 8)) (dBin (oIn true) (eVar 11) (eVar 10))) E st = .ok false st := by
      refine tst_ok (bin_ok (a := .d (.bool (decide (o = some (rowsOf B.src s B.facts L))))) (b := .d (.bool (!decide (y ∈ used B.facts (rowsOf B.src s B.facts L))))) (s1 := st) (s2 := st) ?_ ?_ ?_)
      · refine bin_ok (a := .d (leadV o)) (b := .d (leadV (some (rowsOf B.src s B.facts L)))) (s1 := st) (s2 := st) (by rw [hE]; rfl) (by rw [hE]; rfl) ?_
        rw [oEq_pk (pk_leadV o) (pk_leadV _) ((dp_leadV o).ok) ((dp_leadV _).ok), Bool.false_xor, eqv_leadV]
      · refine bin_ok (a := .d (.str y)) (b := .d (.list ((used B.facts (rowsOf B.src s B.facts L)).map .str))) (s1 := st) (s2 := st) (by rw [hE]; rfl) (by rw [hE]; rfl) ?_
        rw [x_inL, Bool.true_xor]
      · have e : (!decide (y ∈ used B.facts (rowsOf B.src s B.facts L))) = decide (o = some (rowsOf B.src s B.facts L)) := by
          rw [← decide_not]
          exact decide_eq_decide.mpr key.symm
        rw [e]
        exact oEq_same (x := .bool (decide (o = some (rowsOf B.src s B.facts L)))) (n := 0) rfl rfl ⟨rfl, Nat.le_refl _⟩
    refine ⟨some (.d (leadV o)), ?_⟩
    refine (if_yes t ((seq_nx a1).trans (if_no t2))).trans ?_
    rw [hE]
theorem names_loop {j2 j6 j9 j11 j12 j13 : Option R} {f : Fact} {L : List Str} (W : WfB 6 B) (hs : ∀ x ∈ s, x ∈ B.src) (hsl : s.length ≤ 1000) (hf : f ∈ B.facts) (h : Lead B.src s B.facts f.1 L) :
    ∃ j11' j13', L_law_2 (lv sc b j2 (some (.d (eBook B))) (some (.d (eStrs s))) (some (.d (tblD B.facts))) j6 (some (.d (.str f.1))) (some (.d (.list ((rowsOf B.src s B.facts L).map eRowL)))) j9 (some (.d (.list ((used B.facts (rowsOf B.src s B.facts L)).map .str)))) j11 j12 j13) st = .ok (.nx, lv sc b j2 (some (.d (eBook B))) (some (.d (eStrs s))) (some (.d (tblD B.facts))) j6 (some (.d (.str f.1))) (some (.d (.list ((rowsOf B.src s B.facts L).map eRowL)))) j9 (some (.d (.list ((used B.facts (rowsOf B.src s B.facts L)).map .str)))) j11' j12 j13') st := by
  obtain ⟨env', st', c1, c2⟩ := forGo_inv (S := B_law_2) (p := .nm 11) (enc := PyData.str) (fun i env st' => st' = st ∧ ∃ j11 j13, env = lv sc b j2 (some (.d (eBook B))) (some (.d (eStrs s))) (some (.d (tblD B.facts))) j6 (some (.d (.str f.1))) (some (.d (.list ((rowsOf B.src s B.facts L).map eRowL)))) j9 (some (.d (.list ((used B.facts (rowsOf B.src s B.facts L)).map .str)))) j11 j12 j13)
    B.src 0 (lv sc b j2 (some (.d (eBook B))) (some (.d (eStrs s))) (some (.d (tblD B.facts))) j6 (some (.d (.str f.1))) (some (.d (.list ((rowsOf B.src s B.facts L).map eRowL)))) j9 (some (.d (.list ((used B.facts (rowsOf B.src s B.facts L)).map .str)))) j11 j12 j13) st ⟨rfl, j11, j13, rfl⟩ fun i y env st' ex ⟨es, j11, j13, ee⟩ => by
      subst es ee
      obtain ⟨k13, e⟩ := name_turn (sc := sc) (b := b) (st := st') (j2 := j2) (j6 := j6) (j9 := j9) (j12 := j12) (j13 := j13) W hs hsl hf h (List.mem_of_getElem? ex)
      exact ⟨_, _, st', rfl, e, rfl, some (.d (.str y)), k13, rfl⟩
  obtain ⟨rfl, j11', j13', rfl⟩ := c2
  refine ⟨j11', j13', ?_⟩
  unfold L_law_2
  exact (dFor_ok (st1 := st') (xs := B.src.map .str) ((dItS_ok (r := .d (eStrs B.src)) (s := st') (bin_ok (a := .d (eBook B)) (b := .d (.int 0)) (s1 := st') (s2 := st') rfl rfl rfl)).trans rfl)).trans c1
theorem srtP_nd (S : Small B.facts) : ((srtP (RN B.src s B.facts)).map (·.1)).Nodup := (((srtP_perm (RN B.src s B.facts)).map (·.1)).nodup_iff).mpr (rn_nd S)
theorem fact_turn {f : Fact} {j2 j8 j9 j10 j11 j12 j13 : Option R} (W : WfB 6 B) (hs : ∀ x ∈ s, x ∈ B.src) (hsl : s.length ≤ 1000) (hf : f ∈ B.facts) :
    ∃ j8' j9' j10' j11' j13', B_law_3 (lv sc b j2 (some (.d (eBook B))) (some (.d (eStrs s))) (some (.d (tblD B.facts))) (some (.d (markD (N.kv (srtP (RN B.src s B.facts)))))) (some (.d (.str f.1))) j8 j9 j10 j11 j12 j13) st = .ok (.nx, lv sc b j2 (some (.d (eBook B))) (some (.d (eStrs s))) (some (.d (tblD B.facts))) (some (.d (markD (N.kv (srtP (RN B.src s B.facts)))))) (some (.d (.str f.1))) j8' j9' j10' j11' j12 j13') st := by
  have S := small_of W
  obtain ⟨i0, hi0, hsrc⟩ := W.src
  have hl : B.src.length ≤ 1000 := by
    rw [hsrc, List.length_take]
    exact Nat.le_trans (Nat.min_le_right _ _) (by decide)
  have hnames : ((srtP (RN B.src s B.facts)).map (·.1)).Perm (stand B.src s B.facts) := (srtP_perm _).map (·.1)
  obtain ⟨o, ho⟩ : ∃ o, o = leadL B.src s B.facts f.1 := ⟨_, rfl⟩
  have a1 : dSet 8 slF (dCall (opC 3 F_lead) (dCons (eVar 3) (dCons (eVar 4) (dCons (eVar 7) dNil)))) (lv sc b j2 (some (.d (eBook B))) (some (.d (eStrs s))) (some (.d (tblD B.facts))) (some (.d (markD (N.kv (srtP (RN B.src s B.facts)))))) (some (.d (.str f.1))) j8 j9 j10 j11 j12 j13) st = .ok (.nx, lv sc b j2 (some (.d (eBook B))) (some (.d (eStrs s))) (some (.d (tblD B.facts))) (some (.d (markD (N.kv (srtP (RN B.src s B.facts)))))) (some (.d (.str f.1))) (some (.d (leadV o))) j9 j10 j11 j12 j13) st := by
    refine dSet_ok (r := leadR o) ?_ (by cases o <;> rfl)
    rw [dCall_ok (cons_ok (r := .d (eBook B)) rfl (cons_ok (r := .d (eStrs s)) rfl (cons_ok (r := .d (.str f.1)) rfl rfl))), ho]
    exact opC_ok rfl rfl (lead_call S hl (Nat.le_trans (fac_few W) (by decide)) hf)
  have tin : ∀ j8, dBin (oIn false) (eVar 7) (eVar 6) (lv sc b j2 (some (.d (eBook B))) (some (.d (eStrs s))) (some (.d (tblD B.facts))) (some (.d (markD (N.kv (srtP (RN B.src s B.facts)))))) (some (.d (.str f.1))) j8 j9 j10 j11 j12 j13) st = .ok (.d (.bool (decide (f.1 ∈ stand B.src s B.facts)))) st := fun j8 => by
    refine bin_ok (a := .d (.str f.1)) (b := .d (markD (N.kv (srtP (RN B.src s B.facts))))) (s1 := st) (s2 := st) rfl rfl ?_
    rw [mark_in, Bool.false_xor, valD_kv]
    congr 3
    exact decide_eq_decide.mpr hnames.mem_iff
  unfold B_law_3
  by_cases hx : f.1 ∈ stand B.src s B.facts
  · obtain ⟨L, hL, el⟩ := lead_some S hx
    rw [← ho] at el
    subst el
    have t1 : dTst (dBin (oEq true) (dBin (oIsN true) (eVar 8) (eC .none)) (dBin (oIn false) (eVar 7) (eVar 6))) (lv sc b j2 (some (.d (eBook B))) (some (.d (eStrs s))) (some (.d (tblD B.facts))) (some (.d (markD (N.kv (srtP (RN B.src s B.facts)))))) (some (.d (.str f.1))) (some (.d (leadV (some (rowsOf B.src s B.facts L))))) j9 j10 j11 j12 j13) st = .ok false st := by
      have := tin (some (.d (leadV (some (rowsOf B.src s B.facts L)))))
      rw [decide_eq_true hx] at this
      exact tst_ok (bin_ok (a := .d (.bool true)) (b := .d (.bool true)) (s1 := st) (s2 := st) (bin_ok (a := .d (leadV (some (rowsOf B.src s B.facts L)))) (b := .d .none) (s1 := st) (s2 := st) rfl rfl rfl) this rfl)
    have t2 : dTst (dBin (oIsN true) (eVar 8) (eC .none)) (lv sc b j2 (some (.d (eBook B))) (some (.d (eStrs s))) (some (.d (tblD B.facts))) (some (.d (markD (N.kv (srtP (RN B.src s B.facts)))))) (some (.d (.str f.1))) (some (.d (leadV (some (rowsOf B.src s B.facts L))))) j9 j10 j11 j12 j13) st = .ok true st :=
      tst_ok (bin_ok (a := .d (leadV (some (rowsOf B.src s B.facts L)))) (b := .d .none) (s1 := st) (s2 := st) rfl rfl rfl)
    obtain ⟨k9, a2⟩ := k_loop (sc := sc) (b := b) (st := st) (j2 := j2) (j5 := some (.d (tblD B.facts))) (j6 := some (.d (markD (N.kv (srtP (RN B.src s B.facts)))))) (j9 := j9) (j10 := j10) (j11 := j11) (j12 := j12) (j13 := j13) W hL
    obtain ⟨m, hm⟩ := stand_in hx
    have hround := hL.round S hm
    have hmem : (f.1, (m : Int)) ∈ srtP (RN B.src s B.facts) := (srtP_perm _).mem_iff.mpr (rn_of S hm)
    have hv := val_in (srtP_nd (s := s) S) hmem
    have t3 : dTst (dBin (oCmp fLt) (dCall (op1 oLen) (dCons (eVar 8) dNil)) (dBin oIx (eVar 6) (eVar 7))) (lv sc b j2 (some (.d (eBook B))) (some (.d (eStrs s))) (some (.d (tblD B.facts))) (some (.d (markD (N.kv (srtP (RN B.src s B.facts)))))) (some (.d (.str f.1))) (some (.d (leadV (some (rowsOf B.src s B.facts L))))) k9 j10 j11 j12 j13) st = .ok false st := by
      refine tst_ok (bin_ok (a := .d (.int ((rowsOf B.src s B.facts L).length : Int))) (b := .d (.int (m : Int))) (s1 := st) (s2 := st) (call1_ok (r := .d (.list ((rowsOf B.src s B.facts L).map eRowL))) (s := st) rfl (by rw [x_lenL, List.length_map])) (bin_ok (a := .d (markD (N.kv (srtP (RN B.src s B.facts))))) (b := .d (.str f.1)) (s1 := st) (s2 := st) rfl rfl (mark_ix hv)) ?_)
      rw [x_cmp, fLt_int, decide_eq_false (by omega)]
    have a3 := used_set (sc := sc) (b := b) (st := st) (j2 := j2) (j6 := some (.d (markD (N.kv (srtP (RN B.src s B.facts)))))) (j9 := k9) (j10 := j10) (j11 := j11) (j12 := j12) (j13 := j13) W hL
    obtain ⟨k11, k13, a4⟩ := names_loop (sc := sc) (b := b) (st := st) (j2 := j2) (j6 := some (.d (markD (N.kv (srtP (RN B.src s B.facts)))))) (j9 := k9) (j11 := j11) (j12 := j12) (j13 := j13) W hs hsl hf hL
    exact ⟨_, k9, _, k11, k13, (seq_nx a1).trans ((seq_nx (if_no t1)).trans (if_yes t2 ((seq_nx a2).trans ((seq_nx (if_no t3)).trans ((seq_nx a3).trans a4)))))⟩
  · have el := lead_none hx
    rw [← ho] at el
    subst el
    have t1 : dTst (dBin (oEq true) (dBin (oIsN true) (eVar 8) (eC .none)) (dBin (oIn false) (eVar 7) (eVar 6))) (lv sc b j2 (some (.d (eBook B))) (some (.d (eStrs s))) (some (.d (tblD B.facts))) (some (.d (markD (N.kv (srtP (RN B.src s B.facts)))))) (some (.d (.str f.1))) (some (.d (leadV none))) j9 j10 j11 j12 j13) st = .ok false st := by
      have := tin (some (.d (leadV none)))
      rw [decide_eq_false hx] at this
      exact tst_ok (bin_ok (a := .d (.bool false)) (b := .d (.bool false)) (s1 := st) (s2 := st) (bin_ok (a := .d (leadV none)) (b := .d .none) (s1 := st) (s2 := st) rfl rfl rfl) this rfl)
    have t2 : dTst (dBin (oIsN true) (eVar 8) (eC .none)) (lv sc b j2 (some (.d (eBook B))) (some (.d (eStrs s))) (some (.d (tblD B.facts))) (some (.d (markD (N.kv (srtP (RN B.src s B.facts)))))) (some (.d (.str f.1))) (some (.d (leadV none))) j9 j10 j11 j12 j13) st = .ok false st :=
      tst_ok (bin_ok (a := .d (leadV none)) (b := .d .none) (s1 := st) (s2 := st) rfl rfl rfl)
    exact ⟨_, j9, j10, j11, j13, (seq_nx a1).trans ((seq_nx (if_no t1)).trans (if_no t2))⟩
theorem facts_loop {j2 j7 j8 j9 j10 j11 j12 j13 : Option R} (W : WfB 6 B) (hs : ∀ x ∈ s, x ∈ B.src) (hsl : s.length ≤ 1000) :
    ∃ j7' j8' j9' j10' j11' j13', L_law_3 (lv sc b j2 (some (.d (eBook B))) (some (.d (eStrs s))) (some (.d (tblD B.facts))) (some (.d (markD (N.kv (srtP (RN B.src s B.facts)))))) j7 j8 j9 j10 j11 j12 j13) st = .ok (.nx, lv sc b j2 (some (.d (eBook B))) (some (.d (eStrs s))) (some (.d (tblD B.facts))) (some (.d (markD (N.kv (srtP (RN B.src s B.facts)))))) j7' j8' j9' j10' j11' j12 j13') st := by
  obtain ⟨env', st', c1, c2⟩ := forGo_inv (S := B_law_3) (p := .nm 7) (enc := fun f : Fact => PyData.str f.1) (fun i env st' => st' = st ∧ ∃ j7 j8 j9 j10 j11 j13, env = lv sc b j2 (some (.d (eBook B))) (some (.d (eStrs s))) (some (.d (tblD B.facts))) (some (.d (markD (N.kv (srtP (RN B.src s B.facts)))))) j7 j8 j9 j10 j11 j12 j13)
    B.facts 0 (lv sc b j2 (some (.d (eBook B))) (some (.d (eStrs s))) (some (.d (tblD B.facts))) (some (.d (markD (N.kv (srtP (RN B.src s B.facts)))))) j7 j8 j9 j10 j11 j12 j13) st ⟨rfl, _, _, _, _, _, _, rfl⟩ fun i f env st' ex ⟨es, j7, j8, j9, j10, j11, j13, ee⟩ => by
      subst es ee
      obtain ⟨k8, k9, k10, k11, k13, e⟩ := fact_turn (sc := sc) (b := b) (st := st') (j2 := j2) (j8 := j8) (j9 := j9) (j10 := j10) (j11 := j11) (j12 := j12) (j13 := j13) W hs hsl (List.mem_of_getElem? ex)
      exact ⟨_, _, st', rfl, e, rfl, some (.d (.str f.1)), k8, k9, k10, k11, k13, rfl⟩
  obtain ⟨rfl, k7, k8, k9, k10, k11, k13, rfl⟩ := c2
  refine ⟨k7, k8, k9, k10, k11, k13, ?_⟩
  unfold L_law_3
  exact (dFor_ok (st1 := st') (xs := B.facts.map fun f => PyData.str f.1) ((dItS_ok (r := .d (tblD B.facts)) (s := st') rfl).trans items_tbl)).trans c1
end
end K06

namespace K06
open PySem PySem.Spec L2 N KD
section
variable {n b : Nat} {sc : D} {st : Sto}
theorem turn_ok (Bg : Bags n st) (hb : b < n) {j2 j3 j4 j5 j6 j7 j8 j9 j10 j11 j12 j13 : Option R} :
    ∃ env' st', B_law_4 (lv sc b j2 j3 j4 j5 j6 j7 j8 j9 j10 j11 j12 j13) st = .ok (.nx, env') st' ∧ Bags n st' ∧ ∃ j3 j4 j5 j6 j7 j8 j9 j10 j11 j12 j13, env' = lv sc b j2 j3 j4 j5 j6 j7 j8 j9 j10 j11 j12 j13 := by
  obtain ⟨B, t1, e1, B1, W⟩ := book_ok (most := 6) Bg hb (by decide) (by decide)
  have S := small_of W
  have a1 : dSet 3 slF (dCall (opS 2 F__law_book) (dCons (eVar 1) (dCons (eC (.int 6)) dNil))) (lv sc b j2 j3 j4 j5 j6 j7 j8 j9 j10 j11 j12 j13) st = .ok (.nx, lv sc b j2 (some (.d (eBook B))) j4 j5 j6 j7 j8 j9 j10 j11 j12 j13) t1 := by
    refine setF_d (i := 3) (x := eBook B) ?_
    rw [dCall_ok (cons_ok (r := .d (rf b)) rfl (cons_ok (r := .d (.int 6)) rfl rfl))]
    exact opS_ok rfl rfl e1
  obtain ⟨i0, hi0, hsrc⟩ := W.src
  have hl : B.src.length ≤ 1000 := by
    rw [hsrc, List.length_take]
    exact Nat.le_trans (Nat.min_le_right _ _) (by decide)
  obtain ⟨s, t2, e2, B2, hs, hsl⟩ := struck_ok (K := B) B1 hb hl
  have a2 : dPar 4 5 slF slF (dCons (dCall (opS 2 F__law_struck) (dCons (eVar 1) (dCons (eVar 3) dNil))) (dCons (dCall (op1 oDictF) (dCons (dBin oIx (eVar 3) (eC (.int 1))) dNil)) dNil)) (lv sc b j2 (some (.d (eBook B))) j4 j5 j6 j7 j8 j9 j10 j11 j12 j13) t1 = .ok (.nx, lv sc b j2 (some (.d (eBook B))) (some (.d (eStrs s))) (some (.d (tblD B.facts))) j6 j7 j8 j9 j10 j11 j12 j13) t2 := by
    have h : dCons (dCall (opS 2 F__law_struck) (dCons (eVar 1) (dCons (eVar 3) dNil))) (dCons (dCall (op1 oDictF) (dCons (dBin oIx (eVar 3) (eC (.int 1))) dNil)) dNil) (lv sc b j2 (some (.d (eBook B))) j4 j5 j6 j7 j8 j9 j10 j11 j12 j13) t1 = .ok [.d (eStrs s), .d (tblD B.facts)] t2 := by
      refine cons_ok (s := t2) ?_ (cons_ok (s := t2) ?_ rfl)
      · rw [dCall_ok (cons_ok (r := .d (rf b)) rfl (cons_ok (r := .d (eBook B)) rfl rfl))]
        exact opS_ok rfl rfl e2
      · exact call1_ok (r := .d (.tuple (B.facts.map eFact))) (s := t2) (bin_ok (a := .d (eBook B)) (b := .d (.int 1)) (s1 := t2) (s2 := t2) rfl rfl rfl) (table_ok S (fac_ne W))
    unfold dPar
    rw [M.bind_ok h]
    rfl
  have a3 : dSet 6 slF (dCall (op1 oDictF) (dCons (dCall (opC 2 F_standing) (dCons (eVar 3) (dCons (eVar 4) dNil))) dNil)) (lv sc b j2 (some (.d (eBook B))) (some (.d (eStrs s))) (some (.d (tblD B.facts))) j6 j7 j8 j9 j10 j11 j12 j13) t2 = .ok (.nx, lv sc b j2 (some (.d (eBook B))) (some (.d (eStrs s))) (some (.d (tblD B.facts))) (some (.d (markD (N.kv (srtP (RN B.src s B.facts)))))) j7 j8 j9 j10 j11 j12 j13) t2 := by
    refine setF_d (i := 6) (call1_ok (r := .l true (pairs (srtP (RN B.src s B.facts)))) (s := t2) ?_ (dict_l (srtP_nd S)))
    rw [dCall_ok (cons_ok (r := .d (eBook B)) rfl (cons_ok (r := .d (eStrs s)) rfl rfl)), ← srt_pairs]
    exact opC_ok rfl rfl (standing_ok S (Nat.le_refl _))
  obtain ⟨k7, k8, k9, k10, k11, k13, a4⟩ := facts_loop (sc := sc) (b := b) (st := t2) (j2 := j2) (j7 := j7) (j8 := j8) (j9 := j9) (j10 := j10) (j11 := j11) (j12 := j12) (j13 := j13) W hs (by omega)
  refine ⟨_, t2, ?_, B2, some (.d (eBook B)), some (.d (eStrs s)), some (.d (tblD B.facts)), some (.d (markD (N.kv (srtP (RN B.src s B.facts))))), k7, k8, k9, k10, k11, j12, k13, rfl⟩
  unfold B_law_4
  exact (seq_nx a1).trans ((seq_nx a2).trans ((seq_nx a3).trans a4))
theorem turns_ok (Bg : Bags n st) (hb : b < n) {j2 j3 j4 j5 j6 j7 j8 j9 j10 j11 j12 j13 : Option R} :
    ∃ env' st', B_law_5 (lv sc b j2 j3 j4 j5 j6 j7 j8 j9 j10 j11 j12 j13) st = .ok (.nx, env') st' ∧ Bags n st' ∧ ∃ j2 j3 j4 j5 j6 j7 j8 j9 j10 j11 j12 j13, env' = lv sc b j2 j3 j4 j5 j6 j7 j8 j9 j10 j11 j12 j13 := by
  obtain ⟨env', st', c1, c2⟩ := forGo_inv (S := B_law_4) (p := .nm 2) (enc := fun (i : Nat) => PyData.int (i : Int)) (fun k env st => Bags n st ∧ ∃ j2 j3 j4 j5 j6 j7 j8 j9 j10 j11 j12 j13 : Option R, env = lv sc b j2 j3 j4 j5 j6 j7 j8 j9 j10 j11 j12 j13)
    (List.range 2) 0 (lv sc b j2 j3 j4 j5 j6 j7 j8 j9 j10 j11 j12 j13) st ⟨Bg, j2, j3, j4, j5, j6, j7, j8, j9, j10, j11, j12, j13, rfl⟩ fun i x env st ex ⟨Bg, j2, j3, j4, j5, j6, j7, j8, j9, j10, j11, j12, j13, ee⟩ => by
      subst ee
      obtain ⟨env', st', e, B', h⟩ := turn_ok (sc := sc) Bg hb (j2 := some (.d (.int (x : Nat)))) (j3 := j3) (j4 := j4) (j5 := j5) (j6 := j6) (j7 := j7) (j8 := j8) (j9 := j9) (j10 := j10) (j11 := j11) (j12 := j12) (j13 := j13)
      obtain ⟨k3, k4, k5, k6, k7, k8, k9, k10, k11, k12, k13, rfl⟩ := h
      exact ⟨_, _, _, rfl, e, B', _, k3, k4, k5, k6, k7, k8, k9, k10, k11, k12, k13, rfl⟩
  obtain ⟨B', k2, k3, k4, k5, k6, k7, k8, k9, k10, k11, k12, k13, rfl⟩ := c2
  refine ⟨_, st', ?_, B', k2, k3, k4, k5, k6, k7, k8, k9, k10, k11, k12, k13, rfl⟩
  unfold B_law_5 L_law_4
  exact (dFor_ok (st1 := st) (itR1_at (n := 2) rfl)).trans c1
theorem law_true (ns : List Int) (hn : ns.length ≤ 63) : ∃ st, F_law [.list (ns.map .int)] [] = .ok (.d (.bool true)) st := by
  obtain ⟨n, st, e, B, h1, h2⟩ := bags_ok ns 8 (by decide) (by decide)
  obtain ⟨env', st', c1, c2⟩ := forGo_inv (S := B_law_5) (p := .nm 1) (enc := rf) (fun k env st => Bags n st ∧ ∃ j, ∃ j2 j3 j4 j5 j6 j7 j8 j9 j10 j11 j12 j13 : Option R, env = [some (.d (.list (ns.map .int))), j, j2, j3, j4, j5, j6, j7, j8, j9, j10, j11, j12, j13])
    (List.range n) 0 (env0 14 [.list (ns.map .int)]) st ⟨B, none, none, none, none, none, none, none, none, none, none, none, none, none, rfl⟩ fun i b env st ex ⟨B, j, j2, j3, j4, j5, j6, j7, j8, j9, j10, j11, j12, j13, ee⟩ => by
      subst ee
      have hb : b < n := List.mem_range.mp (List.mem_of_getElem? ex)
      obtain ⟨env', st', e, B', h⟩ := turns_ok (sc := .list (ns.map .int)) B hb (j2 := j2) (j3 := j3) (j4 := j4) (j5 := j5) (j6 := j6) (j7 := j7) (j8 := j8) (j9 := j9) (j10 := j10) (j11 := j11) (j12 := j12) (j13 := j13)
      obtain ⟨k2, k3, k4, k5, k6, k7, k8, k9, k10, k11, k12, k13, rfl⟩ := h
      exact ⟨_, _, _, rfl, e, B', some (.d (rf b)), k2, k3, k4, k5, k6, k7, k8, k9, k10, k11, k12, k13, rfl⟩
  obtain ⟨B', j, j2, j3, j4, j5, j6, j7, j8, j9, j10, j11, j12, j13, rfl⟩ := c2
  have it : dItS (dCall (opS 2 F__law_bags) (dCons (eVar 0) (dCons (eC (.int 8)) dNil))) (env0 14 [.list (ns.map .int)]) [] = .ok ((List.range n).map rf) st := by
    refine (dItS_ok (r := .l true ((List.range n).map rf)) (s := st) ?_).trans rfl
    rw [dCall_ok (cons_ok (r := .d (.list (ns.map .int))) rfl (cons_ok (r := .d (.int 8)) rfl rfl))]
    exact opS_ok rfl rfl e
  have el : L_law_5 (env0 14 [.list (ns.map .int)]) [] = .ok (.nx, [some (.d (.list (ns.map .int))), j, j2, j3, j4, j5, j6, j7, j8, j9, j10, j11, j12, j13]) st' := by
    unfold L_law_5
    exact (dFor_ok it).trans c1
  refine ⟨st', ?_⟩
  unfold F_law
  refine fnP_ret (e := [some (.d (.list (ns.map .int))), j, j2, j3, j4, j5, j6, j7, j8, j9, j10, j11, j12, j13]) ?_
  unfold D_law
  exact (seq_nx el).trans rfl
end
end K06

open PySem PySem.W PyProof.Rows
set_option maxRecDepth 100000 in
set_option maxHeartbeats 0 in
theorem PySem.Challenge.cw_newsloft_k06_whole_leads_holds : PySem.Challenge.rw_newsloft_k06_whole_leads.Holds := by
  w_on; o_law; k_head; (case hw => w_witness2)
  k_fill
  refine N.walkN (l := PySem.Challenge.rw_newsloft_k06_whole_leads) (F := K06.F_law) (k := 5) rfl rfl (by decide) (fun w h Y => PySem.W.kIn_of Y) ?F K06.law_true
  case F =>
    intro w mg fa h KX G hmg
    refine' K06.all_mk KX G hmg ?a0 ?l0 ?c0 ?k0 ?a1 ?l1 ?c1 ?k1 ?a2 ?l2 ?c2 ?k2 ?a3 ?l3 ?c3 ?k3 ?a4 ?l4 ?c4 ?k4 ?a5 ?l5 ?c5 ?k5 ?a6 ?l6 ?c6 ?k6 ?a7 ?l7 ?c7 ?k7 ?a8 ?l8 ?c8 ?k8 ?a9 ?l9 ?c9 ?k9 ?a10 ?l10 ?c10 ?k10 ?a11 ?l11 ?c11 ?k11 ?a12 ?l12 ?c12 ?k12 ?a13 ?l13 ?c13 ?k13 ?a14 ?l14 ?c14 ?k14 ?a15 ?l15 ?c15 ?k15 ?a16 ?l16 ?c16 ?k16 ?a17 ?l17 ?c17 ?k17 ?a18 ?l18 ?c18 ?k18 ?a19 ?l19 ?c19 ?k19 ?a20 ?l20 ?c20 ?k20 ?a21 ?l21 ?c21 ?k21 ?a22 ?l22 ?c22 ?k22 ?y_all ?y_any ?y_bool ?y_dict ?y_enumerate ?y_int ?y_isinstance ?y_len ?y_list ?y_max ?y_min ?y_range ?y_set ?y_sorted ?y_str ?y_sum ?y_tuple
    (case a0 => k_is)
    (case l0 => k_is)
    (case c0 => k_is)
    (case k0 => k_is)
    (case a1 => k_is)
    (case l1 => k_is)
    (case c1 => k_is)
    (case k1 => k_is)
    (case a2 => k_is)
    (case l2 => k_is)
    (case c2 => k_is)
    (case k2 => k_is)
    (case a3 => k_is)
    (case l3 => k_is)
    (case c3 => k_is)
    (case k3 => k_is)
    (case a4 => k_is)
    (case l4 => k_is)
    (case c4 => k_is)
    (case k4 => k_is)
    (case a5 => k_is)
    (case l5 => k_is)
    (case c5 => k_is)
    (case k5 => k_is)
    (case a6 => k_is)
    (case l6 => k_is)
    (case c6 => k_is)
    (case k6 => k_is)
    (case a7 => k_is)
    (case l7 => k_is)
    (case c7 => k_is)
    (case k7 => k_is)
    (case a8 => k_is)
    (case l8 => k_is)
    (case c8 => k_is)
    (case k8 => k_is)
    (case a9 => k_is)
    (case l9 => k_is)
    (case c9 => k_is)
    (case k9 => k_is)
    (case a10 => k_is)
    (case l10 => k_is)
    (case c10 => k_is)
    (case k10 => k_is)
    (case a11 => k_is)
    (case l11 => k_is)
    (case c11 => k_is)
    (case k11 => k_is)
    (case a12 => k_is)
    (case l12 => k_is)
    (case c12 => k_is)
    (case k12 => k_is)
    (case a13 => k_is)
    (case l13 => k_is)
    (case c13 => k_is)
    (case k13 => k_is)
    (case a14 => k_is)
    (case l14 => k_is)
    (case c14 => k_is)
    (case k14 => k_is)
    (case a15 => k_is)
    (case l15 => k_is)
    (case c15 => k_is)
    (case k15 => k_is)
    (case a16 => k_is)
    (case l16 => k_is)
    (case c16 => k_is)
    (case k16 => k_is)
    (case a17 => k_is)
    (case l17 => k_is)
    (case c17 => k_is)
    (case k17 => k_is)
    (case a18 => k_is)
    (case l18 => k_is)
    (case c18 => k_is)
    (case k18 => k_is)
    (case a19 => k_is)
    (case l19 => k_is)
    (case c19 => k_is)
    (case k19 => k_is)
    (case a20 => k_is)
    (case l20 => k_is)
    (case c20 => k_is)
    (case k20 => k_is)
    (case a21 => k_is)
    (case l21 => k_is)
    (case c21 => k_is)
    (case k21 => k_is)
    (case a22 => k_is)
    (case l22 => k_is)
    (case c22 => k_is)
    (case k22 => k_is)
    (case y_all => k_is)
    (case y_any => k_is)
    (case y_bool => k_is)
    (case y_dict => k_is)
    (case y_enumerate => k_is)
    (case y_int => k_is)
    (case y_isinstance => k_is)
    (case y_len => k_is)
    (case y_list => k_is)
    (case y_max => k_is)
    (case y_min => k_is)
    (case y_range => k_is)
    (case y_set => k_is)
    (case y_sorted => k_is)
    (case y_str => k_is)
    (case y_sum => k_is)
    (case y_tuple => k_is)
#print axioms PySem.Challenge.cw_newsloft_k06_whole_leads_holds

