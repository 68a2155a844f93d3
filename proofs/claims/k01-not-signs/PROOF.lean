import PyProof.Rows.All
import Wide.All
import OpenK.AllK
import Wide.FinOn
import HandS.ForMost
import HandS.ForExc
import HandS.Walk
import HandS.IsInst
import HandS.Zip
import HandS.TupAny
import HandS.FStr
import HandS.Deep
import HandS.Lambda
import HandS.EndTab
import HandS.ExcIs
import KE.KDictKeyed
import KE.GoesMore
import KE.GoesEnum
import HandS.MapObj
import HandS.Text
import HandS.More
import HandS.Conv
import HandS.RaiseMore
import PyProof.CollectIter
import HandS.Style
import KE.KRevSl
import PyProof.ListStr
import HandS.SortRule
import HandS.TupMul
import HandS.WordsExc
import HandS.EndOwn
import HandS.CallLocal
import PySem.Challenge.RW_signscribes_k01_not_signs
set_option Elab.async false
set_option linter.all false
set_option autoImplicit false
set_option maxRecDepth 100000
set_option maxHeartbeats 4000000
/-! SgA: data, what stands for it in the heap, environments, the judgements. -/
namespace SG
open PySem PySem.Spec PyProof.Rows L2

abbrev D := PyData
abbrev St := L2.St
/-- the largest length that is dealt with -/
abbrev LIM : Nat := 1000000
theorem lim_lt : LIM < sizeLine := by decide
theorem lim_le : LIM ≤ sizeLine := Nat.le_of_lt lim_lt

/-- the town's state: how many draws, the rests -/
structure S where
  c : Int
  rs : List (Int × Int)

/-- what is fixed through a law's run: the written part, the town's two dicts, the module's names -/
structure LC where
  P : Program
  w : World
  K : PySem.W.Frag
  tw : Addr
  tr : Addr
  sc : Addr
  ns : List Int
  mg : Str → Option Value
  /-- the tables of code objects that lambdas are made in -/
  T : List (Addr × Str)
  /-- whether the script is a plain list of the heap -/
  sb : Bool

/-- no table -/
abbrev NT (o : HO) : Prop := ∀ ps, o ≠ .tbl ps
theorem nt_lst {xs : List V} : NT (.lst xs) := fun _ z => by cases z
theorem nt_tup {xs : List V} : NT (.tup xs) := fun _ z => by cases z
theorem nt_dK {xs : List (Key × V)} : NT (.dK xs) := fun _ z => by cases z
theorem nt_ext {φ : Heap → Prop} : NT (.ext φ) := fun _ z => by cases z

abbrev dTown : D := .dict []
abbrev dScr : D := .dict [(.list [], .none)]
abbrev dFn (x : Str) : D := .dict [(.str x, .none)]
/-- a dict whose keys are texts -/
def dDic (kvs : List (Str × D)) : D := .dict ((.none, .none) :: kvs.map fun p => (.str p.1, p.2))
def unDicL : List (D × D) → Option (List (Str × D))
  | [] => some []
  | (.str k, d) :: r => (unDicL r).map fun l => (k, d) :: l
  | _ => none
def unDic : D → Option (List (Str × D))
  | .dict ((.none, .none) :: r) => unDicL r
  | _ => none
@[simp] theorem unDicL_map (kvs : List (Str × D)) : unDicL (kvs.map fun p => (PyData.str p.1, p.2)) = some kvs := by
  induction kvs with
  | nil => rfl
  | cons p r ih =>
    obtain ⟨k, d⟩ := p
    show (unDicL (r.map fun p => (PyData.str p.1, p.2))).map (fun l => (k, d) :: l) = _
    rw [ih]
    rfl
@[simp] theorem unDic_dDic (kvs : List (Str × D)) : unDic (dDic kvs) = some kvs := unDicL_map kvs
def kvV (ks : List Str) (vs : List V) : List (Key × V) := (ks.zip vs).map fun p => (Sum.inr p.1, p.2)

mutual
inductive Rep (L : LC) (B : Addr → Prop) (H : Hp) : V → D → Prop
  | non : Rep L B H .non .none
  | bl (b : Bool) : Rep L B H (.bl b) (.bool b)
  | int (i : Int) : Rep L B H (.int i) (.int i)
  | str (x : Str) : Rep L B H (.str x) (.str x)
  | lst {a : Addr} {xs : List V} {ds : List D} : ¬ B a → H a = some (.lst xs) → RepA L B H xs ds → Rep L B H (.ref a) (.list ds)
  | tup {a : Addr} {xs : List V} {ds : List D} : ¬ B a → H a = some (.tup xs) → RepA L B H xs ds → Rep L B H (.ref a) (.tuple ds)
  | ktup {a : Addr} {xs : List V} {ds : List D} {o : Obj} {its : Array Value} {n : Nat} : L.K.lookup a = some o → o.cls = .type "tuple" → o.data = .seq its n → its.size ≤ sizeLine → Vals xs its.toList → RepA L B H xs ds → Rep L B H (.ref a) (.tuple ds)
  | town : Rep L B H (.ref L.tw) dTown
  | scr : Rep L B H (.ref L.sc) dScr
  | dic {a : Addr} {ks : List Str} {xs : List V} {ds : List D} : ¬ B a → H a = some (.dK (kvV ks xs)) → ks.length = xs.length → RepA L B H xs ds → Rep L B H (.ref a) (dDic (ks.zip ds))
  | fn {x : Str} {a : Addr} : L.mg x = some (.ref a) → Rep L B H (.ref a) (dFn x)
inductive RepA (L : LC) (B : Addr → Prop) (H : Hp) : List V → List D → Prop
  | nil : RepA L B H [] []
  | cons {v : V} {vs : List V} {d : D} {ds : List D} : Rep L B H v d → RepA L B H vs ds → RepA L B H (v :: vs) (d :: ds)
end

section
variable {L : LC} {B B' : Addr → Prop} {H H' : Hp}
mutual
/-- the change of blocked places and heap: what is not blocked stays and stays not blocked -/
theorem Rep.imp (h : ∀ a u, ¬ B a → H a = some u → NT u → H' a = some u ∧ ¬ B' a) : ∀ {v : V} {d : D}, Rep L B H v d → Rep L B' H' v d
  | _, _, .non => .non
  | _, _, .bl b => .bl b
  | _, _, .int i => .int i
  | _, _, .str x => .str x
  | _, _, .lst nb r a => .lst (h _ _ nb r nt_lst).2 (h _ _ nb r nt_lst).1 (RepA.imp h a)
  | _, _, .tup nb r a => .tup (h _ _ nb r nt_tup).2 (h _ _ nb r nt_tup).1 (RepA.imp h a)
  | _, _, .ktup k c d z vs a => .ktup k c d z vs (RepA.imp h a)
  | _, _, .town => .town
  | _, _, .scr => .scr
  | _, _, .dic nb r hl a => .dic (h _ _ nb r nt_dK).2 (h _ _ nb r nt_dK).1 hl (RepA.imp h a)
  | _, _, .fn e => .fn e
theorem RepA.imp (h : ∀ a u, ¬ B a → H a = some u → NT u → H' a = some u ∧ ¬ B' a) : ∀ {v : List V} {d : List D}, RepA L B H v d → RepA L B' H' v d
  | _, _, .nil => .nil
  | _, _, .cons r a => .cons (Rep.imp h r) (RepA.imp h a)
end
theorem RepA.length {vs : List V} {ds : List D} (h : RepA L B H vs ds) : vs.length = ds.length := by
  induction ds generalizing vs with
  | nil => cases h; rfl
  | cons d ds ih =>
    cases h with
    | cons r a => simp [ih a]
theorem RepA.get {vs : List V} {ds : List D} (h : RepA L B H vs ds) {i : Nat} {d : D} (e : ds[i]? = some d) : ∃ v, vs[i]? = some v ∧ Rep L B H v d := by
  induction ds generalizing vs i with
  | nil => simp at e
  | cons d' ds ih =>
    cases h with
    | cons r a =>
      cases i with
      | zero => simp at e; subst e; exact ⟨_, rfl, r⟩
      | succ i => simpa using ih a (by simpa using e)
theorem RepA.getV {vs : List V} {ds : List D} (h : RepA L B H vs ds) {i : Nat} {v : V} (e : vs[i]? = some v) : ∃ d, ds[i]? = some d ∧ Rep L B H v d := by
  induction ds generalizing vs i with
  | nil => cases h; simp at e
  | cons d' ds ih =>
    cases h with
    | cons r a =>
      cases i with
      | zero => simp at e; subst e; exact ⟨_, rfl, r⟩
      | succ i => simpa using ih a (by simpa using e)
theorem RepA.append {vs ws : List V} {ds es : List D} (h : RepA L B H vs ds) (k : RepA L B H ws es) : RepA L B H (vs ++ ws) (ds ++ es) := by
  induction ds generalizing vs with
  | nil => cases h; exact k
  | cons d ds ih =>
    cases h with
    | cons r a => exact .cons r (ih a)
theorem RepA.take {vs : List V} {ds : List D} (h : RepA L B H vs ds) (n : Nat) : RepA L B H (vs.take n) (ds.take n) := by
  induction ds generalizing vs n with
  | nil => cases h; simp; exact .nil
  | cons d ds ih =>
    cases h with
    | cons r a =>
      cases n with
      | zero => exact .nil
      | succ n => exact .cons r (ih a n)
theorem RepA.drop {vs : List V} {ds : List D} (h : RepA L B H vs ds) (n : Nat) : RepA L B H (vs.drop n) (ds.drop n) := by
  induction ds generalizing vs n with
  | nil => cases h; simp; exact .nil
  | cons d ds ih =>
    cases h with
    | cons r a =>
      cases n with
      | zero => exact .cons r a
      | succ n => exact ih a n
theorem RepA.reverse {vs : List V} {ds : List D} (h : RepA L B H vs ds) : RepA L B H vs.reverse ds.reverse := by
  induction ds generalizing vs with
  | nil => cases h; exact .nil
  | cons d ds ih =>
    cases h with
    | cons r a =>
      rw [List.reverse_cons, List.reverse_cons]
      exact (ih a).append (.cons r .nil)
theorem Rep.tupInv {v : V} {ds : List D} (h : Rep L B H v (.tuple ds)) : ∃ a xs, v = .ref a ∧ SqT L.K H a xs ∧ RepA L B H xs ds := by
  cases h with
  | tup nb r a => exact ⟨_, _, rfl, .of r, a⟩
  | ktup k c d z vs a => exact ⟨_, _, rfl, .inr ⟨_, _, _, k, c, d, z, vs⟩, a⟩
theorem Rep.lstInv {v : V} {ds : List D} (h : Rep L B H v (.list ds)) : ∃ a xs, v = .ref a ∧ ¬ B a ∧ H a = some (.lst xs) ∧ RepA L B H xs ds := by
  cases h with
  | lst nb r a => exact ⟨_, _, rfl, nb, r, a⟩
theorem Rep.intInv {v : V} {i : Int} (h : Rep L B H v (.int i)) : v = .int i := by cases h; rfl
theorem Rep.blInv {v : V} {i : Bool} (h : Rep L B H v (.bool i)) : v = .bl i := by cases h; rfl
theorem Rep.strInv {v : V} {i : Str} (h : Rep L B H v (.str i)) : v = .str i := by cases h; rfl
theorem Rep.nonInv {v : V} (h : Rep L B H v .none) : v = .non := by cases h; rfl
theorem Rep.townInv {v : V} (h : Rep L B H v dTown) : v = .ref L.tw := by
  generalize e : (dTown : D) = d at h
  cases h <;> first | rfl | (cases e; done) | (unfold dDic at e; cases e)

mutual
theorem Rep.dp : ∀ {d : D} {v : V}, Rep L B H v d → d.canLay0 = true → Dp L.K H v d
  | .none, _, .non, _ => .non
  | .bool _, _, .bl b, _ => .bl b
  | .int _, _, .int i, _ => .int i
  | .str _, _, .str x, _ => .str x
  | .list ds, _, .lst _ r a, h => .lst (.of r) (RepA.dp a (by simpa [PyData.canLay0] using h))
  | .tuple ds, _, .tup _ r a, h => .tup (.of r) (RepA.dp a (by simpa [PyData.canLay0] using h))
  | .tuple ds, _, .ktup k c d z vs a, h => .tup (.inr ⟨_, _, _, k, c, d, z, vs⟩) (RepA.dp a (by simpa [PyData.canLay0] using h))
  | .dict _, _, .town, h => by simp [PyData.canLay0] at h
  | .dict _, _, .scr, h => by simp [PyData.canLay0] at h
  | .dict _, _, .dic _ _ _ _, h => by simp [PyData.canLay0] at h
  | .dict _, _, .fn _, h => by simp [PyData.canLay0] at h
theorem RepA.dp : ∀ {ds : List D} {vs : List V}, RepA L B H vs ds → PyData.canLayAll0 ds = true → DpAll L.K H vs ds
  | [], _, .nil, _ => .nil
  | d :: ds, _, .cons r a, h => by
    have h' : (d.canLay0 && PyData.canLayAll0 ds) = true := by simpa [PyData.canLayAll0] using h
    rw [Bool.and_eq_true] at h'
    exact .cons (Rep.dp r h'.1) (RepA.dp a h'.2)
end
end

/-! ### growth, the town -/
/-- all but the town is as it was -/
def Grow (L : LC) (H H' : Hp) : Prop := ∀ a o, H a = some o → NT o → a ≠ L.tw → a ≠ L.tr → H' a = some o
theorem Grow.refl {L : LC} (H : Hp) : Grow L H H := fun _ _ h _ _ _ => h
theorem Grow.trans {L : LC} {H H1 H2 : Hp} (a : Grow L H H1) (b : Grow L H1 H2) : Grow L H H2 := fun c o h n x y => b c o (a c o h n x y) n x y
theorem Grow.new {L : LC} {H : Hp} {p : Addr} {o : HO} (h : H p = none) : Grow L H (upd H p o) := fun a u e _ _ _ => by
  rw [upd_ne (ne_of_none e h)]; exact e
theorem Grow.same {L : LC} {H H' : Hp} (h : Same H H') : Grow L H H' := fun a o e _ _ _ => h a o e
/-- nothing but a table stands there -/
def Fr (H : Hp) (p : Addr) : Prop := ∀ o, H p = some o → ¬ NT o
theorem Fr.of {H : Hp} {p : Addr} (h : H p = none) : Fr H p := fun o e => by rw [h] at e; cases e
theorem Fr.ne {H : Hp} {a p : Addr} {o : HO} (f : Fr H p) (h : H a = some o) (n : NT o) : a ≠ p := fun z => f o (z ▸ h) n
theorem Fr.back {L : LC} {H H' : Hp} {p : Addr} (g : Grow L H H') (h : Fr H' p) (n1 : p ≠ L.tw) (n2 : p ≠ L.tr) : Fr H p := fun o e n => h o (g p o e n n1 n2) n
def rsV (rs : List (Int × Int)) : List (Key × V) := rs.map fun p => (Sum.inl p.1, V.int p.2)
def townV (L : LC) (c : Int) : List (Key × V) := [(Sum.inr "count", V.int c), (Sum.inr "rests", V.ref L.tr)]
/-- the rests' keys are places, each once -/
def WfRs (rs : List (Int × Int)) : Prop := (rs.map (·.1)).Nodup ∧ ∀ p ∈ rs, 0 ≤ p.1 ∧ p.1 < 64
theorem nodup_bound : ∀ (n : Nat) (l : List Int), l.Nodup → (∀ x ∈ l, 0 ≤ x ∧ x < n) → l.length ≤ n
  | 0, [], _, _ => Nat.le_refl _
  | 0, x :: l, _, h => by have := h x (by simp); omega
  | n + 1, l, nd, h => by
    by_cases hm : (n : Int) ∈ l
    · have h1 := nodup_bound n (l.erase n) (nd.erase _) fun x hx => by
        have h2 := (nd.mem_erase_iff).mp hx
        have h3 := h x h2.2
        have h4 : x ≠ (n : Int) := h2.1
        omega
      rw [List.length_erase_of_mem hm] at h1
      omega
    · have h1 := nodup_bound n l nd fun x hx => by
        have h3 := h x hx
        have h4 : x ≠ (n : Int) := fun z => hm (by rw [← z]; exact hx)
        omega
      omega
theorem WfRs.len {rs : List (Int × Int)} (h : WfRs rs) : rs.length ≤ 64 := by
  have := nodup_bound 64 (rs.map (·.1)) h.1 fun x hx => by
    obtain ⟨p, hp, rfl⟩ := List.mem_map.mp hx
    exact h.2 p hp
  simpa using this
/-- the script: known to the object, or an object of the module -/
def ScrOk (L : LC) (H : Hp) : Prop := (∃ o, H L.sc = some (.frz o (.lst (L.ns.map V.int)))) ∨
  (∃ (o : Obj) (its : Array Value) (n : Nat), L.K.lookup L.sc = some o ∧ o.cls = .type "list" ∧ o.dict = none ∧ o.data = .seq its n ∧ its.size ≤ sizeLine ∧ Vals (L.ns.map V.int) its.toList) ∨ (L.sb = true ∧ H L.sc = some (.lst (L.ns.map V.int)))
theorem ScrOk.sq {L : LC} {H : Hp} (h : ScrOk L H) : SqL L.K H L.sc (L.ns.map V.int) := by
  rcases h with h | h | h
  · exact .inl (.inr h)
  · exact .inr h
  · exact .of h.2
theorem ScrOk.up {L : LC} {H H' : Hp} (h : ScrOk L H) (k : ∀ o, H L.sc = some o → ((∃ x y, o = .frz x y) ∨ (L.sb = true ∧ ∃ xs, o = .lst xs)) → H' L.sc = some o) : ScrOk L H' := by
  rcases h with ⟨o, h⟩ | h | ⟨b, h⟩
  · exact .inl ⟨o, k _ h (.inl ⟨_, _, rfl⟩)⟩
  · exact .inr (.inl h)
  · exact .inr (.inr ⟨b, k _ h (.inr ⟨b, _, rfl⟩)⟩)
structure TownOk (L : LC) (H : Hp) (τ : S) : Prop where
  ne : L.tw ≠ L.tr
  tw : H L.tw = some (.dK (townV L τ.c))
  tr : H L.tr = some (.dK (rsV τ.rs))
  wf : WfRs τ.rs
  scr : ScrOk L H
  nscr : L.ns.length ≤ 63
  tab : LamX.Tabs L.T H
theorem TownOk.new {L : LC} {H : Hp} {τ : S} {p : Addr} {o : HO} (h : H p = none) (t : TownOk L H τ) : TownOk L (upd H p o) τ :=
  ⟨t.ne, by rw [upd_ne (ne_of_none t.tw h)]; exact t.tw, by rw [upd_ne (ne_of_none t.tr h)]; exact t.tr, t.wf, t.scr.up fun o e _ => by rw [upd_ne (ne_of_none e h)]; exact e, t.nscr, t.tab.ext fun b o e => by rw [upd_ne (ne_of_none e h)]; exact e⟩
/-- a list is written -/
theorem tabs_upd {T : List (Addr × Str)} {H : Hp} {p : Addr} {u o : HO} (h : H p = some u) (h1 : NT u) (h2 : ∀ q, u ≠ LamX.CodeO p q) (t : LamX.Tabs T H) : LamX.Tabs T (upd H p o) := fun x hx => by
  obtain ⟨ps, e1, e2, e3⟩ := t x hx
  refine ⟨ps, by rw [upd_ne (ne_of e1 h fun z => h1 ps z.symm)]; exact e1, e2, fun pos cv hc => ?_⟩
  obtain ⟨c, e4, e5⟩ := e3 pos cv hc
  exact ⟨c, e4, by rw [upd_ne (fun z => h2 _ (by rw [z, h] at e5; exact Option.some.inj e5))]; exact e5⟩
theorem TownOk.upd {L : LC} {H : Hp} {τ : S} {p : Addr} {xs : List V} {o : HO} (h : H p = some (.lst xs)) (hs : L.sb = true → p ≠ L.sc) (t : TownOk L H τ) : TownOk L (upd H p o) τ :=
  ⟨t.ne, by rw [upd_ne (ne_of t.tw h (fun z => by cases z))]; exact t.tw, by rw [upd_ne (ne_of t.tr h (fun z => by cases z))]; exact t.tr, t.wf, t.scr.up fun o e k => by
    rw [upd_ne]
    · exact e
    · intro z
      rcases k with ⟨_, _, k⟩ | ⟨b, _⟩
      · rw [z, h, k] at e; cases e
      · exact hs b z.symm, t.nscr, tabs_upd h nt_lst (fun _ z => by cases z) t.tab⟩

/-! ### slots, environments -/
inductive Sl where
  | no
  | v (d : D)
  | ol (ds : List D)
  /-- a dict of one's own whose keys are tuples -/
  | od (kvs : List (D × D))
abbrev Rho := List Sl
mutual
def nk : D → Option NestedKey
  | .none => some .none
  | .int i => some (.num i)
  | .str x => some (.text x)
  | .tuple ds => (nks ds).map .tup
  | _ => none
def nks : List D → Option (List NestedKey)
  | [] => some []
  | d :: ds => (nk d).bind fun k => (nks ds).map fun l => k :: l
end
/-- the dict at a by its entries: key, the key's place, the value's place -/
def DicO (P : Program) (w : World) (a : Addr) (xs : List (NestedKey × Addr × Addr)) : HO := .ext fun h => (a == sysModules) = false ∧ ∃ o es ep, h.get? a = some o ∧ o.ExactDict ∧ o.data = .dict es ep ∧
  es.toList = (xs.map fun x => (x.1, x.2.1, Value.ref x.2.2)).map (entryOfKey (nestedKind P w)) ∧ (xs.map (·.1)).Nodup
inductive KRep (L : LC) (B : Addr → Prop) (H : Hp) : List (NestedKey × Addr × Addr) → List (D × D) → Prop
  | nil : KRep L B H [] []
  | cons {k : NestedKey} {a p : Addr} {d e : D} {xs : List (NestedKey × Addr × Addr)} {kvs : List (D × D)} : nk d = some k → k.depth ≤ 8 → Rep L B H (.ref a) d → Rep L B H (.ref p) e → KRep L B H xs kvs → KRep L B H ((k, a, p) :: xs) ((d, e) :: kvs)
theorem KRep.imp {L : LC} {B B' : Addr → Prop} {H H' : Hp} (h : ∀ a u, ¬ B a → H a = some u → NT u → H' a = some u ∧ ¬ B' a) {xs : List (NestedKey × Addr × Addr)} {kvs : List (D × D)} (r : KRep L B H xs kvs) : KRep L B' H' xs kvs := by
  induction r with
  | nil => exact .nil
  | cons h1 h2 h3 h4 _ ih => exact .cons h1 h2 (h3.imp h) (h4.imp h) ih
def isOwn : Sl → Bool
  | .ol _ => true
  | .od _ => true
  | _ => false
/-- what stands at the place of a thing of one's own -/
def Own (L : LC) (B : Addr → Prop) (H : Hp) (a : Addr) : Sl → Prop
  | .ol ds => ∃ xs, H a = some (.lst xs) ∧ RepA L B H xs ds
  | .od kvs => ∃ xs, H a = some (DicO L.P L.w a xs) ∧ KRep L B H xs kvs
  | _ => False
/-- the object of a thing of one's own -/
theorem Own.at {L : LC} {B : Addr → Prop} {H : Hp} {a : Addr} {s : Sl} (x : Own L B H a s) : ∃ o, H a = some o ∧ NT o := by
  cases s with
  | ol ds => obtain ⟨xs, h, _⟩ := x; exact ⟨_, h, nt_lst⟩
  | od kvs => obtain ⟨xs, h, _⟩ := x; exact ⟨_, h, nt_ext⟩
  | no => exact x.elim
  | v d => exact x.elim
theorem Own.imp {L : LC} {B B' : Addr → Prop} {H H' : Hp} {a : Addr} {s : Sl} (x : Own L B H a s) (e : ∀ o, H a = some o → NT o → H' a = some o) (h : ∀ a u, ¬ B a → H a = some u → NT u → H' a = some u ∧ ¬ B' a) : Own L B' H' a s := by
  cases s with
  | ol ds => obtain ⟨xs, h1, h2⟩ := x; exact ⟨xs, e _ h1 nt_lst, h2.imp h⟩
  | od kvs => obtain ⟨xs, h1, h2⟩ := x; exact ⟨xs, e _ h1 nt_ext, h2.imp h⟩
  | no => exact x
  | v d => exact x
/-- what an expression is evaluated in: B the blocked places -/
structure EnvE (L : LC) (B : Addr → Prop) (σ : St) (H : Hp) (ρ : Rho) : Prop where
  tw : B L.tw
  tr : B L.tr
  sb : L.sb = true → B L.sc
  dom : ∀ a, B a → ∃ o, H a = some o ∧ NT o
  len : σ.length = ρ.length
  val : ∀ (i : Nat) (d : D), ρ[i]? = some (.v d) → ∃ v, σ[i]? = some (some v) ∧ Rep L B H v d
  own : ∀ (i : Nat) (s : Sl), ρ[i]? = some s → isOwn s = true → ∃ a, σ[i]? = some (some (.ref a)) ∧ B a ∧ (a ≠ L.tw ∧ a ≠ L.tr) ∧ Own L B H a s
section
variable {L : LC} {B : Addr → Prop} {σ : St} {H H' : Hp} {ρ : Rho} {τ τ' : S}
theorem grow_ok (tw : B L.tw) (tr : B L.tr) (g : Grow L H H') : ∀ a u, ¬ B a → H a = some u → NT u → H' a = some u ∧ ¬ B a := fun a u nb e n =>
  ⟨g a u e n (fun z => nb (by rw [z]; exact tw)) (fun z => nb (by rw [z]; exact tr)), nb⟩
theorem EnvE.grow (e : EnvE L B σ H ρ) (g : Grow L H H') (t : TownOk L H' τ') : EnvE L B σ H' ρ where
  tw := e.tw
  tr := e.tr
  sb := e.sb
  dom := fun a h => by
    obtain ⟨o, q, n⟩ := e.dom a h
    by_cases h1 : a = L.tw
    · subst h1; exact ⟨_, t.tw, nt_dK⟩
    · by_cases h2 : a = L.tr
      · subst h2; exact ⟨_, t.tr, nt_dK⟩
      · exact ⟨o, g a o q n h1 h2, n⟩
  len := e.len
  val := fun i d h => by
    obtain ⟨v, h1, h2⟩ := e.val i d h
    exact ⟨v, h1, h2.imp (grow_ok e.tw e.tr g)⟩
  own := fun i s h hs => by
    obtain ⟨a, h1, h2, h3, h5⟩ := e.own i s h hs
    exact ⟨a, h1, h2, h3, h5.imp (fun o q n => g a o q n h3.1 h3.2) (grow_ok e.tw e.tr g)⟩
theorem EnvE.rep {v : V} {d : D} (e : EnvE L B σ H ρ) (g : Grow L H H') (r : Rep L B H v d) : Rep L B H' v d := r.imp (grow_ok e.tw e.tr g)
theorem EnvE.repA {v : List V} {d : List D} (e : EnvE L B σ H ρ) (g : Grow L H H') (r : RepA L B H v d) : RepA L B H' v d := r.imp (grow_ok e.tw e.tr g)
theorem EnvE.freshF (e : EnvE L B σ H ρ) {p : Addr} (h : Fr H p) : ¬ B p := fun z => by
  obtain ⟨o, q, n⟩ := e.dom p z
  exact h o q n
theorem EnvE.fresh (e : EnvE L B σ H ρ) {p : Addr} (h : H p = none) : ¬ B p := e.freshF (.of h)
theorem TownOk.fr (t : TownOk L H' τ') (g : Grow L H H') {p : Addr} (h : Fr H' p) : Fr H p := .back g h (fun z => h _ (z ▸ t.tw) nt_dK) (fun z => h _ (z ▸ t.tr) nt_dK)
theorem EnvE.var (e : EnvE L B σ H ρ) {i : Nat} {d : D} (h : ρ[i]? = some (.v d)) : ∃ v, σ[i]? = some (some v) ∧ Rep L B H v d := e.val i d h
end

/-! ### results -/
inductive Res (α : Type) where
  | ok (a : α) (s : S)
  | ex (c : Str) (s : S)
  | bad
def Res.bind {α β : Type} (r : Res α) (f : α → S → Res β) : Res β :=
  match r with
  | .ok a s => f a s
  | .ex c s => .ex c s
  | .bad => .bad
@[simp] theorem bind_ok {α β : Type} (a : α) (s : S) (f : α → S → Res β) : (Res.ok a s).bind f = f a s := rfl
@[simp] theorem bind_ex {α β : Type} (c : Str) (s : S) (f : α → S → Res β) : (Res.ex c s : Res α).bind f = .ex c s := rfl
@[simp] theorem bind_bad {α β : Type} (f : α → S → Res β) : (Res.bad : Res α).bind f = .bad := rfl
def opt {α : Type} (o : Option α) (s : S) : Res α := match o with | some a => .ok a s | none => .bad
@[simp] theorem opt_some {α : Type} (a : α) (s : S) : opt (some a) s = .ok a s := rfl
@[simp] theorem opt_none {α : Type} (s : S) : opt (none : Option α) s = .bad := rfl
abbrev M (α : Type) := Rho → S → Res α
abbrev Fn := List D → S → Res D

def PostG {α β : Type} (L : LC) (H : Hp) (E : XK) (R : β → α → Hp → Prop) (Q : β → Hp → Prop) : Res α → Prop
  | .ok d τ => ∀ v H', Grow L H H' → TownOk L H' τ → R v d H' → Q v H'
  | .ex c τ => ∀ H' C, Grow L H H' → TownOk L H' τ → L.mg c = some C → E C none H'
  | .bad => False
abbrev Post (L : LC) (B : Addr → Prop) (H : Hp) (Q : VK) (E : XK) : Res D → Prop := PostG L H E (fun v d H' => Rep L B H' v d) Q
/-- a reading by a function over data -/
def tD (L : LC) (f : M D) (E : XK) : TE := fun σ H Q => ∃ ρ τ B, EnvE L B σ H ρ ∧ TownOk L H τ ∧ Post L B H Q E (f ρ τ)
def tDT (L : LC) (f : M Bool) (E : XK) : TT := fun σ H Q => ∃ ρ τ B, EnvE L B σ H ρ ∧ TownOk L H τ ∧ PostG L H E (fun (v : Bool) (d : Bool) _ => v = d) Q (f ρ τ)
def tDA (L : LC) (f : M (List D)) (E : XK) : TA := fun σ H Q => ∃ ρ τ B, EnvE L B σ H ρ ∧ TownOk L H τ ∧ PostG L H E (fun v d H' => RepA L B H' v d) Q (f ρ τ)

theorem _root_.L2.PE.imp {X : Cx} {e : Expr} {t t' : TE} (h : PE X e t) (i : ∀ σ H Q, t' σ H Q → t σ H Q) : PE X e t' := ⟨fun pins s σ H Q I w => h.run pins s σ H Q I (i σ H Q w)⟩
theorem _root_.L2.PT.imp {X : Cx} {e : Expr} {t t' : TT} (h : PT X e t) (i : ∀ σ H Q, t' σ H Q → t σ H Q) : PT X e t' := ⟨fun pins s σ H Q I w => h.run pins s σ H Q I (i σ H Q w)⟩
theorem _root_.L2.PW.imp {X : Cx} {e : Expr} {t t' : TT} (h : PW X e t) (i : ∀ σ H Q, t' σ H Q → t σ H Q) : PW X e t' := ⟨fun wh pins s σ H Q I w => h.run wh pins s σ H Q I (i σ H Q w)⟩
theorem _root_.L2.PA.imp {X : Cx} {e : List Expr} {t t' : TA} (h : PA X e t) (i : ∀ σ H Q, t' σ H Q → t σ H Q) : PA X e t' := ⟨fun p pins s σ H Q I w => h.run p pins s σ H Q I (i σ H Q w)⟩
theorem _root_.L2.PS.imp {X : Cx} {e : Stmt} {t t' : TS} (h : PS X e t) (i : ∀ D σ H, t' D σ H → t D σ H) : PS X e t' := ⟨fun pins s σ H D I w => h.run pins s σ H D I (i D σ H w)⟩
theorem _root_.L2.PSs.imp {X : Cx} {e : List Stmt} {t t' : TS} (h : PSs X e t) (i : ∀ D σ H, t' D σ H → t D σ H) : PSs X e t' := ⟨fun pins s σ H D I w => h.run pins s σ H D I (i D σ H w)⟩

section
variable {L : LC} {B : Addr → Prop} {σ : St} {H H' : Hp} {ρ : Rho} {τ τ' : S} {E : XK} {α β γ δ : Type}
/-- the first of two steps: what the second is asked is asked behind the first -/
theorem post_bind {f : Res α} {k : α → S → Res γ} {R : β → α → Hp → Prop} {R' : δ → γ → Hp → Prop} {Q : δ → Hp → Prop} (h : PostG L H E R' Q (f.bind k)) {Q' : β → Hp → Prop}
    (hk : ∀ d τ' v H', f = .ok d τ' → Grow L H H' → TownOk L H' τ' → R v d H' → PostG L H' E R' Q (k d τ') → Q' v H') : PostG L H E R Q' f := by
  cases f with
  | ok d τ' =>
    intro v H' g t r
    refine hk d τ' v H' rfl g t r ?_
    have h : PostG L H E R' Q (k d τ') := h
    cases e : k d τ' with
    | ok d2 τ2 =>
      rw [e] at h
      exact fun v2 H2 g2 t2 r2 => h v2 H2 (g.trans g2) t2 r2
    | ex c τ2 =>
      rw [e] at h
      exact fun H2 C g2 t2 c2 => h H2 C (g.trans g2) t2 c2
    | bad => rw [e] at h; exact h
  | ex c τ' => exact h
  | bad => exact h
theorem tD_bind {f : M D} {k : D → Rho → S → Res γ} {R' : δ → γ → Hp → Prop} {Q : δ → Hp → Prop} {Q' : VK} (e : EnvE L B σ H ρ) (t : TownOk L H τ)
    (h : PostG L H E R' Q ((f ρ τ).bind fun d τ' => k d ρ τ')) (hk : ∀ d τ' v H', EnvE L B σ H' ρ → Grow L H H' → TownOk L H' τ' → Rep L B H' v d → PostG L H' E R' Q (k d ρ τ') → Q' v H') : tD L f E σ H Q' :=
  ⟨ρ, τ, B, e, t, post_bind h fun d τ' v H' _ g t' r q => hk d τ' v H' (e.grow g t') g t' r q⟩
theorem tDT_bind {f : M Bool} {k : Bool → Rho → S → Res γ} {R' : δ → γ → Hp → Prop} {Q : δ → Hp → Prop} {Q' : Bool → Hp → Prop} (e : EnvE L B σ H ρ) (t : TownOk L H τ)
    (h : PostG L H E R' Q ((f ρ τ).bind fun d τ' => k d ρ τ')) (hk : ∀ d τ' H', EnvE L B σ H' ρ → Grow L H H' → TownOk L H' τ' → PostG L H' E R' Q (k d ρ τ') → Q' d H') : tDT L f E σ H Q' :=
  ⟨ρ, τ, B, e, t, post_bind h fun d τ' v H' _ g t' r q => by subst r; exact hk v τ' H' (e.grow g t') g t' q⟩
theorem tDA_bind {f : M (List D)} {k : List D → Rho → S → Res γ} {R' : δ → γ → Hp → Prop} {Q : δ → Hp → Prop} {Q' : List V → Hp → Prop} (e : EnvE L B σ H ρ) (t : TownOk L H τ)
    (h : PostG L H E R' Q ((f ρ τ).bind fun d τ' => k d ρ τ')) (hk : ∀ d τ' v H', EnvE L B σ H' ρ → Grow L H H' → TownOk L H' τ' → RepA L B H' v d → PostG L H' E R' Q (k d ρ τ') → Q' v H') : tDA L f E σ H Q' :=
  ⟨ρ, τ, B, e, t, post_bind h fun d τ' v H' _ g t' r q => hk d τ' v H' (e.grow g t') g t' r q⟩
/-- the answer is there -/
theorem post_ok {R : β → α → Hp → Prop} {Q : β → Hp → Prop} {d : α} (h : PostG L H E R Q (.ok d τ)) {v : β} (t : TownOk L H τ) (r : R v d H) : Q v H := h v H (Grow.refl H) t r
theorem post_new {R : β → α → Hp → Prop} {Q : β → Hp → Prop} {d : α} (h : PostG L H E R Q (.ok d τ)) {v : β} {p : Addr} {o : HO} (t : TownOk L H τ) (n : H p = none) (r : R v d (upd H p o)) : Q v (upd H p o) := h v _ (Grow.new n) (t.new n) r
theorem post_opt {R : β → α → Hp → Prop} {Q : β → Hp → Prop} {o : Option α} (h : PostG L H E R Q (opt o τ)) : ∃ d, o = some d ∧ PostG L H E R Q (.ok d τ) := by
  cases o with
  | none => exact h.elim
  | some d => exact ⟨d, rfl, h⟩
end
end SG

/-! SgB: expressions. -/
namespace SG
open PySem PySem.Spec PyProof.Rows L2

/-- the law's constants are the context's -/
structure LX (X : Cx) (L : LC) : Prop where
  k : X.K = L.K
  m : X.mg = L.mg

/-! ### the functions over data -/
def eVar (i : Nat) : M D := fun ρ τ => match ρ[i]? with | some (.v d) => .ok d τ | _ => .bad
def eC (d : D) : M D := fun _ τ => .ok d τ
def e1 (op : D → Option D) (f : M D) : M D := fun ρ τ => (f ρ τ).bind fun a τ1 => opt (op a) τ1
def e2 (op : D → D → Option D) (f g : M D) : M D := fun ρ τ => (f ρ τ).bind fun a τ1 => (g ρ τ1).bind fun b τ2 => opt (op a b) τ2
def aNil : M (List D) := fun _ τ => .ok [] τ
def aCons (f : M D) (g : M (List D)) : M (List D) := fun ρ τ => (f ρ τ).bind fun a τ1 => (g ρ τ1).bind fun b τ2 => .ok (a :: b) τ2
def eTup (f : M (List D)) : M D := fun ρ τ => (f ρ τ).bind fun a τ1 => .ok (.tuple a) τ1
def eLst (f : M (List D)) : M D := fun ρ τ => (f ρ τ).bind fun a τ1 => .ok (.list a) τ1
def dB : D → Option Bool
  | .bool b => some b
  | _ => none
def asB (f : M D) : M Bool := fun ρ τ => (f ρ τ).bind fun a τ1 => opt (dB a) τ1
def ofB (f : M Bool) : M D := fun ρ τ => (f ρ τ).bind fun a τ1 => .ok (.bool a) τ1
def dTru : D → Option Bool
  | .none => some false
  | .bool b => some b
  | .int i => some (i != 0)
  | .str x => if x.length ≤ LIM then some ((x.length : Int) != 0) else none
  | .list xs => some (!xs.isEmpty)
  | .tuple xs => some (!xs.isEmpty)
  | .dict _ => none
def tru (f : M D) : M Bool := fun ρ τ => (f ρ τ).bind fun a τ1 => opt (dTru a) τ1
def eAnd (f g : M D) : M D := fun ρ τ => (f ρ τ).bind fun a τ1 => match dB a with | some true => g ρ τ1 | some false => .ok (.bool false) τ1 | none => .bad
def eOr (f g : M D) : M D := fun ρ τ => (f ρ τ).bind fun a τ1 => match dB a with | some true => .ok (.bool true) τ1 | some false => g ρ τ1 | none => .bad
def eNot (f : M D) : M D := e1 (fun a => (dB a).map fun b => .bool (!b)) f
def bAnd (f g : M Bool) : M Bool := fun ρ τ => (f ρ τ).bind fun a τ1 => if a then g ρ τ1 else .ok false τ1
def bOr (f g : M Bool) : M Bool := fun ρ τ => (f ρ τ).bind fun a τ1 => if a then .ok true τ1 else g ρ τ1
def bNot (f : M Bool) : M Bool := fun ρ τ => (f ρ τ).bind fun a τ1 => .ok (!a) τ1
def eIf (c : M Bool) (f g : M D) : M D := fun ρ τ => (c ρ τ).bind fun a τ1 => if a then f ρ τ1 else g ρ τ1
/-- a op b op' c -/
def eChain (o o' : D → D → Option D) (f g h : M D) : M D := fun ρ τ => (f ρ τ).bind fun a τ1 => (g ρ τ1).bind fun b τ2 => match (o a b).bind dB with
  | some true => (h ρ τ2).bind fun c τ3 => opt (o' b c) τ3
  | some false => .ok (.bool false) τ2
  | none => .bad

def strIn (x y : Str) : Bool := !(Builtin.Str.occurrences y x 0 y.length 1).isEmpty
def sh (d : D) : Bool := SeqAt.shaped d
def dEq (a b : D) : Option D := if sh a && sh b then some (.bool (PyData.eqv a b)) else none
def dNe (a b : D) : Option D := if sh a && sh b then some (.bool (!PyData.eqv a b)) else none
def dLt : D → D → Option D
  | .int i, .int j => some (.bool (decide (i < j)))
  | .str x, .str y => some (.bool (decide (x.cps.toList < y.cps.toList)))
  | _, _ => none
def dLe : D → D → Option D
  | .int i, .int j => some (.bool (decide (i ≤ j)))
  | _, _ => none
def dGt : D → D → Option D
  | .int i, .int j => some (.bool (decide (j < i)))
  | _, _ => none
def dGe : D → D → Option D
  | .int i, .int j => some (.bool (decide (j ≤ i)))
  | _, _ => none
def dIn : D → D → Option D
  | .str x, .str y => some (.bool (strIn x y))
  | a, .list ds => if sh a && sh (.list ds) then some (.bool (ds.any fun z => PyData.eqv z a)) else none
  | a, .tuple ds => if sh a && sh (.tuple ds) then some (.bool (ds.any fun z => PyData.eqv z a)) else none
  | _, _ => none
def dNotIn (a b : D) : Option D := (dIn a b).bind fun d => (dB d).map fun b => .bool (!b)
def dIsN (a : D) : Option D := match a with | .none => some (.bool true) | .dict _ => none | _ => some (.bool false)
def dNotN (a : D) : Option D := match a with | .none => some (.bool false) | .dict _ => none | _ => some (.bool true)
def dAdd : D → D → Option D
  | .int i, .int j => some (.int (i + j))
  | .str x, .str y => if x.length ≤ LIM ∧ y.length ≤ LIM then some (.str (x ++ y)) else none
  | .tuple xs, .tuple ys => if xs.length ≤ LIM ∧ ys.length ≤ LIM then some (.tuple (xs ++ ys)) else none
  | .list xs, .list ys => if xs.length ≤ LIM ∧ ys.length ≤ LIM then some (.list (xs ++ ys)) else none
  | _, _ => none
def dSub : D → D → Option D
  | .int i, .int j => some (.int (i - j))
  | _, _ => none
def dMul : D → D → Option D
  | .int i, .int j => if (-(2 ^ 64) < i ∧ i < 2 ^ 64) then some (.int (i * j)) else none
  | _, _ => none
def dNeg : D → Option D
  | .int i => some (.int (-i))
  | _ => none
def chars (z : Str) : List Str := z.cps.toList.map fun c => ⟨#[c]⟩
def dIx : D → D → Option D
  | .tuple xs, .int i => atI xs i
  | .list xs, .int i => atI xs i
  | .str z, .int i => if z.length ≤ LIM then (atI z.cps.toList i).map fun c => .str ⟨#[c]⟩ else none
  | _, _ => none
def cutD (xs : List D) (lo hi : Option Int) : List D := (xs.drop (HT.sIx xs.length 0 lo)).take (HT.sIx xs.length xs.length hi - HT.sIx xs.length 0 lo)
def dSl : D → Option Int → Option Int → Option D
  | .tuple xs, lo, hi => some (.tuple (cutD xs lo hi))
  | .list xs, lo, hi => some (.list (cutD xs lo hi))
  | .str z, lo, hi => if z.length ≤ LIM then some (.str (cutS z lo hi)) else none
  | _, _, _ => none
def dLen : D → Option D
  | .tuple xs => some (.int xs.length)
  | .list xs => some (.int xs.length)
  | .str z => if z.length ≤ LIM then some (.int z.length) else none
  | _ => none
def dTy : D → Option String
  | .none => some "NoneType"
  | .bool _ => some "bool"
  | .int _ => some "int"
  | .str _ => some "str"
  | .list _ => some "list"
  | .tuple _ => some "tuple"
  | .dict _ => none
def isiB (t c : String) : Bool := t == c || (t == "bool" && c == "int")
def dIsi (c : String) (d : D) : Option D := (dTy d).map fun t => .bool (isiB t c)
def dInt : D → Option Int
  | .int i => some i
  | _ => none
def oNone : M (Option Int) := fun _ τ => .ok none τ
def oSome (f : M D) : M (Option Int) := fun ρ τ => (f ρ τ).bind fun a τ1 => opt ((dInt a).map some) τ1
def eSl (f : M D) (lo hi : M (Option Int)) : M D := fun ρ τ => (f ρ τ).bind fun a τ1 => (lo ρ τ1).bind fun l τ2 => (hi ρ τ2).bind fun u τ3 => opt (dSl a l u) τ3
def eCall (F : Fn) (fs : M (List D)) : M D := fun ρ τ => (fs ρ τ).bind fun ds τ1 => F ds τ1

/-! ### the rules by values -/
def rD (L : LC) (op : D → D → Option D) : R2 := fun x y H Q => ∃ a b d B, (∀ p, H p = none → ¬ B p) ∧ Rep L B H x a ∧ Rep L B H y b ∧ op a b = some d ∧
  (∀ v, Rep L B H v d → Q v H) ∧ ∀ v p o, H p = none → Rep L B (upd H p o) v d → Q v (upd H p o)
abbrev OpD (X : Cx) (L : LC) (F : Value → Value → Sem Value) (op : D → D → Option D) : Prop := OpR X F (rD L op)
section
variable {X : Cx} {L : LC} {B : Addr → Prop} {σ : St} {H H' : Hp} {ρ : Rho} {τ τ' : S} {E : XK} {a b c : Expr} {pos : Pos} {f g h : M D} {f2 f3 : D → D → Option D}

theorem rD_of {Q : VK} {x y : V} {da db : D} (e : EnvE L B σ H ρ) (t : TownOk L H τ) (rx : Rep L B H x da) (ry : Rep L B H y db) (h : Post L B H Q E (opt (f2 da db) τ)) : rD L f2 x y H Q := by
  obtain ⟨d, hd, q⟩ := post_opt h
  exact ⟨da, db, d, B, fun p hp => e.fresh hp, rx, ry, hd, fun v r => post_ok q t r, fun v p o n r => post_new q t n r⟩
theorem de_bin {op : Operator} (ho : OpD X L (binaryOp op) f2) (ha : PE X a (tD L f E)) (hb : PE X b (tD L g E)) : PE X (.BinOp a op b pos) (tD L (e2 f2 f g) E) :=
  (pe_op ho ha hb).imp fun σ H Q ⟨ρ, τ, B, e, t, h⟩ => tD_bind (k := fun a ρ τ1 => (g ρ τ1).bind fun b τ2 => opt (f2 a b) τ2) e t h fun d τ1 v H1 e1 g1 t1 r1 h1 =>
    tD_bind (k := fun b _ τ2 => opt (f2 d b) τ2) e1 t1 h1 fun d2 τ2 v2 H2 e2 g2 t2 r2 h2 => rD_of e2 t2 (e1.rep g2 r1) r2 h2
theorem de_cmp {op : CmpOp} (ho : OpD X L (compareOp op) f2) (ha : PE X a (tD L f E)) (hb : PE X b (tD L g E)) (hm : behindInMarks op b = false) : PE X (.Compare a [op] [b] pos) (tD L (e2 f2 f g) E) :=
  (pe_cmpR ho ha hb hm).imp fun σ H Q ⟨ρ, τ, B, e, t, h⟩ => tD_bind (k := fun a ρ τ1 => (g ρ τ1).bind fun b τ2 => opt (f2 a b) τ2) e t h fun d τ1 v H1 e1 g1 t1 r1 h1 =>
    tD_bind (k := fun b _ τ2 => opt (f2 d b) τ2) e1 t1 h1 fun d2 τ2 v2 H2 e2 g2 t2 r2 h2 => rD_of e2 t2 (e1.rep g2 r1) r2 h2
theorem tB_of {t0 : TE} (i : ∀ σ H Q, tD L f E σ H Q → t0 σ H Q) : ∀ σ H (Q : Bool → Hp → Prop), tDT L (asB f) E σ H Q → t0 σ H fun x H' => ∃ k, x = .bl k ∧ Q k H' := fun σ H Q ⟨ρ, τ, B, e, t, h⟩ =>
  i σ H _ (tD_bind (k := fun a _ τ1 => opt (dB a) τ1) e t h fun d τ1 v H1 e1 g1 t1 r1 h1 => by
    obtain ⟨k, hk, q⟩ := post_opt h1
    cases d with
    | bool b =>
      cases hk
      have hv := r1.blInv
      subst hv
      exact ⟨_, rfl, post_ok q t1 rfl⟩
    | _ => cases hk)
theorem dt_cmp {op : CmpOp} (ho : OpD X L (compareOp op) f2) (ha : PE X a (tD L f E)) (hb : PE X b (tD L g E)) (hm : behindInMarks op b = false) : PT X (.Compare a [op] [b] pos) (tDT L (asB (e2 f2 f g)) E) :=
  (pt_cmpR ho ha hb hm).imp (tB_of fun σ H Q ⟨ρ, τ, B, e, t, h⟩ => tD_bind (k := fun a ρ τ1 => (g ρ τ1).bind fun b τ2 => opt (f2 a b) τ2) e t h fun d τ1 v H1 e1 g1 t1 r1 h1 =>
    tD_bind (k := fun b _ τ2 => opt (f2 d b) τ2) e1 t1 h1 fun d2 τ2 v2 H2 e2 g2 t2 r2 h2 => rD_of e2 t2 (e1.rep g2 r1) r2 h2)
theorem chain_imp : ∀ σ H Q, tD L (eChain f2 f3 f g h) E σ H Q → tChain (rD L f2) (rD L f3) (tD L f E) (tD L g E) (tD L h E) σ H Q := fun σ H Q ⟨ρ, τ, B, e, t, hh⟩ =>
  tD_bind (k := fun a ρ τ1 => (g ρ τ1).bind fun b τ2 => match (f2 a b).bind dB with | some true => (h ρ τ2).bind fun c τ3 => opt (f3 b c) τ3 | some false => .ok (.bool false) τ2 | none => .bad) e t hh fun d τ1 v H1 e1 g1 t1 r1 h1 =>
    tD_bind (k := fun b ρ τ2 => match (f2 d b).bind dB with | some true => (h ρ τ2).bind fun c τ3 => opt (f3 b c) τ3 | some false => .ok (.bool false) τ2 | none => .bad) e1 t1 h1 fun d2 τ2 v2 H2 e2 g2 t2 r2 h2 => by
      cases q : f2 d d2 with
      | none => rw [q] at h2; exact h2.elim
      | some z =>
        rw [q] at h2
        cases z with
        | bool k =>
          cases k with
          | true =>
            have fin : ∀ v' H', Grow L H2 H' → TownOk L H' τ2 → Rep L B H' v' (.bool true) → ∃ k, v' = .bl k ∧ if k = true then tD L h E σ H' (fun w H'' => rD L f3 v2 w H'' Q) else Q (.bl false) H' := fun v' H' g' t' r' => by
              have e1 := r'.blInv
              subst e1
              refine ⟨true, rfl, ?_⟩
              rw [if_pos rfl]
              have e' := e2.grow g' t'
              have h2' : Post L B H2 Q E ((h ρ τ2).bind fun c τ3 => opt (f3 d2 c) τ3) := h2
              have h3 : Post L B H' Q E ((h ρ τ2).bind fun c τ3 => opt (f3 d2 c) τ3) := by
                cases qq : (h ρ τ2).bind fun c τ3 => opt (f3 d2 c) τ3 with
                | ok x s => rw [qq] at h2'; exact fun v H'' gg tt rr => h2' v H'' (g'.trans gg) tt rr
                | ex x s => rw [qq] at h2'; exact fun H'' C gg tt rr => h2' H'' C (g'.trans gg) tt rr
                | bad => rw [qq] at h2'; exact h2'
              exact tD_bind (k := fun c _ τ3 => opt (f3 d2 c) τ3) e' t' h3 fun d3 τ3 v3 H3 e3 g3 t3 r3 h4 => rD_of e3 t3 (e'.rep g3 (e2.rep g' r2)) r3 h4
            exact ⟨d, d2, .bool true, B, fun p hp => e2.fresh hp, e1.rep g2 r1, r2, q, fun v r => fin v H2 (Grow.refl _) t2 r, fun v p o n r => fin v _ (Grow.new n) (t2.new n) r⟩
          | false =>
            have h2' : Post L B H2 Q E (.ok (.bool false) τ2) := h2
            refine ⟨d, d2, .bool false, B, fun p hp => e2.fresh hp, e1.rep g2 r1, r2, q, fun v r => ?_, fun v p o n r => ?_⟩
            · have e1 := r.blInv
              subst e1
              refine ⟨false, rfl, ?_⟩
              rw [if_neg Bool.false_ne_true]
              exact post_ok h2' t2 (.bl false)
            · have e1 := r.blInv
              subst e1
              refine ⟨false, rfl, ?_⟩
              rw [if_neg Bool.false_ne_true]
              exact post_new h2' t2 n (.bl false)
        | _ => exact h2.elim
theorem de_chain {op op' : CmpOp} (ho : OpD X L (compareOp op) f2) (ho' : OpD X L (compareOp op') f3) (ha : PE X a (tD L f E)) (hb : PE X b (tD L g E)) (hc : PE X c (tD L h E))
    (hm : lastMarks [op, op'] [b, c] = false := by with_unfolding_all rfl) : PE X (.Compare a [op, op'] [b, c] pos) (tD L (eChain f2 f3 f g h) E) := (pe_chain ho ho' ha hb hc hm).imp chain_imp
theorem dt_chain {op op' : CmpOp} (ho : OpD X L (compareOp op) f2) (ho' : OpD X L (compareOp op') f3) (ha : PE X a (tD L f E)) (hb : PE X b (tD L g E)) (hc : PE X c (tD L h E))
    (hm : lastMarks [op, op'] [b, c] = false := by with_unfolding_all rfl) : PT X (.Compare a [op, op'] [b, c] pos) (tDT L (asB (eChain f2 f3 f g h)) E) := (pt_chain ho ho' ha hb hc hm).imp (tB_of chain_imp)
end
end SG

/-! SgC: expressions, further: the operations' rules. -/
namespace SG
open PySem PySem.Spec PyProof.Rows L2

section
variable {X : Cx} {L : LC} {B : Addr → Prop} {σ : St} {H H' : Hp} {ρ : Rho} {τ τ' : S} {E : XK} {a b c : Expr} {pos : Pos} {f g h : M D}

/-! ### names, constants, displays -/
theorem de_var {i : Nat} {x : Str} (hN : X.N[i]? = some x := by rfl) (hv : Vis X.env.scope x := by first | exact Or.inl rfl | exact Or.inr (Or.inl rfl) | exact Or.inr (Or.inr rfl)) (hd : (x == ("__debug__" : Str)) = false := by decide)
    (hcd : (x == ("__classdict__" : Str)) = false := by decide) : PE X (.Name x pos) (tD L (eVar i) E) :=
  (pe_var hN hv hd hcd).imp fun σ H Q ⟨ρ, τ, B, e, t, h⟩ => by
    unfold eVar at h
    split at h
    · rename_i d hd
      obtain ⟨v, h1, h2⟩ := e.var hd
      exact ⟨v, h1, post_ok h t h2⟩
    · exact h.elim
theorem de_int {i : Int} {j : Nat} : PE X (.Constant (.int i) j pos) (tD L (eC (.int i)) E) := pe_int.imp fun σ H Q ⟨ρ, τ, B, e, t, h⟩ => post_ok h t (.int i)
theorem de_bl {i : Bool} {j : Nat} : PE X (.Constant (.bool i) j pos) (tD L (eC (.bool i)) E) := pe_bl.imp fun σ H Q ⟨ρ, τ, B, e, t, h⟩ => post_ok h t (.bl i)
theorem de_non {j : Nat} : PE X (.Constant .none j pos) (tD L (eC .none) E) := pe_non.imp fun σ H Q ⟨ρ, τ, B, e, t, h⟩ => post_ok h t .non
theorem de_str {i : Str} {j : Nat} : PE X (.Constant (.str i) j pos) (tD L (eC (.str i)) E) := pe_str.imp fun σ H Q ⟨ρ, τ, B, e, t, h⟩ => post_ok h t (.str i)
/-- a module's constant that is a text or an int -/
theorem de_gstr {x : Str} {z : Str} {tk : Tok} (hm : X.mg x = some (.str z tk)) (hg : Gl X x := by rfl) (hd : (x == ("__debug__" : Str)) = false := by decide) : PE X (.Name x pos) (tD L (eC (.str z)) E) :=
  (pe_glob (v := .str z) hg hm ⟨_, rfl⟩ hd).imp fun σ H Q ⟨ρ, τ, B, e, t, h⟩ => post_ok h t (.str z)
theorem de_gint {x : Str} {z : Int} {tk : Tok} (hm : X.mg x = some (.int z tk)) (hg : Gl X x := by rfl) (hd : (x == ("__debug__" : Str)) = false := by decide) : PE X (.Name x pos) (tD L (eC (.int z)) E) :=
  (pe_glob (v := .int z) hg hm ⟨_, rfl⟩ hd).imp fun σ H Q ⟨ρ, τ, B, e, t, h⟩ => post_ok h t (.int z)

/-- an argument list: its reading, its length -/
structure DA (X : Cx) (L : LC) (E : XK) (es : List Expr) (fs : M (List D)) : Prop where
  pa : PA X es (tDA L fs E)
  len : ∀ ρ τ ds τ', fs ρ τ = .ok ds τ' → ds.length = es.length
theorem da_nil : DA X L E [] aNil := ⟨pa_nil.imp fun σ H Q ⟨ρ, τ, B, e, t, h⟩ => post_ok h t .nil, fun ρ τ ds τ' h => by cases h; rfl⟩
theorem da_cons {es : List Expr} {fs : M (List D)} (ha : PE X a (tD L f E)) (hr : DA X L E es fs) (hs : starEach (a :: es) X.env = (false, eval a X.env) :: starEach es X.env := by rfl) : DA X L E (a :: es) (aCons f fs) :=
  ⟨(pa_cons ha hr.pa hs).imp fun σ H Q ⟨ρ, τ, B, e, t, h⟩ => tD_bind (k := fun a ρ τ1 => (fs ρ τ1).bind fun b τ2 => .ok (a :: b) τ2) e t h fun d τ1 v H1 e1 g1 t1 r1 h1 =>
    tDA_bind (k := fun b _ τ2 => .ok (d :: b) τ2) e1 t1 h1 fun d2 τ2 v2 H2 e2 g2 t2 r2 h2 => post_ok h2 t2 (.cons (e1.rep g2 r1) r2), fun ρ τ ds τ' h => by
      unfold aCons at h
      cases h1 : f ρ τ with
      | ok d τ1 =>
        rw [h1, bind_ok] at h
        cases h2 : fs ρ τ1 with
        | ok ds2 τ2 =>
          rw [h2, bind_ok] at h
          cases h
          rw [List.length_cons, List.length_cons, hr.len _ _ _ _ h2]
        | ex c s => rw [h2] at h; cases h
        | bad => rw [h2] at h; cases h
      | ex c s => rw [h1] at h; cases h
      | bad => rw [h1] at h; cases h⟩
theorem de_tup {es : List Expr} {fs : M (List D)} {k : Nat} (ha : DA X L E es fs) (hl : Nat.ble es.length 1000 = true := by rfl) : PE X (.Tuple es k pos) (tD L (eTup fs) E) :=
  (pe_tup ha.pa).imp fun σ H Q ⟨ρ, τ, B, e, t, h⟩ => by
    refine ⟨ρ, τ, B, e, t, post_bind h fun d τ' v H' hf g t' r q => ⟨?_, fun p n => ?_⟩⟩
    · rw [r.length, ha.len _ _ _ _ hf]
      exact Nat.le_trans (Nat.le_of_ble_eq_true hl) (by decide)
    · have e' := e.grow g t'
      exact post_new q t' n (.tup (e'.fresh n) upd_same (e'.repA (Grow.new n) r))
/-- a fresh list: the reading says that its place is new -/
def tDF (L : LC) (f : M (List D)) (E : XK) : TE := fun σ H Q => ∃ ρ τ B, EnvE L B σ H ρ ∧ TownOk L H τ ∧
  PostG L H E (fun (v : V) (ds : List D) H' => ∃ p xs, v = .ref p ∧ Fr H p ∧ H' p = some (.lst xs) ∧ RepA L (fun a => B a ∨ a = p) H' xs ds) Q (f ρ τ)
/-- a new list as a value -/
def eF (f : M (List D)) : M D := fun ρ τ => (f ρ τ).bind fun a τ1 => .ok (.list a) τ1
theorem de_fresh {fs : M (List D)} (h : PE X a (tDF L fs E)) : PE X a (tD L (eF fs) E) :=
  h.imp fun σ H Q ⟨ρ, τ, B, e, t, h⟩ => ⟨ρ, τ, B, e, t, post_bind h fun d τ' v H' hf g t' r q => by
    obtain ⟨p, xs, rfl, n, hp, ra⟩ := r
    exact post_ok q t' (.lst (e.freshF n) hp (ra.imp fun a u nb e1 _ => ⟨e1, fun z => nb (.inl z)⟩))⟩
theorem df_lst {es : List Expr} {fs : M (List D)} (ha : DA X L E es fs) (hl : Nat.ble es.length 1000 = true := by rfl) : PE X (.List es pos) (tDF L fs E) :=
  (pe_lst ha.pa).imp fun σ H Q ⟨ρ, τ, B, e, t, h⟩ => by
    refine ⟨ρ, τ, B, e, t, ?_⟩
    cases hf : fs ρ τ with
    | ok d τ' =>
      rw [hf] at h
      intro v H' g t' r
      refine ⟨?_, fun p n => ?_⟩
      · rw [r.length, ha.len _ _ _ _ hf]
        exact Nat.le_trans (Nat.le_of_ble_eq_true hl) (by decide)
      · have e' := e.grow g t'
        have hn : Fr H p := t'.fr g (.of n)
        refine h _ _ (g.trans (Grow.new n)) (t'.new n) ⟨p, v, rfl, hn, upd_same, r.imp fun a u nb e1 _ => ?_⟩
        have ha : a ≠ p := ne_of_none e1 n
        exact ⟨by rw [upd_ne ha]; exact e1, fun z => z.elim nb ha⟩
    | ex c τ' => rw [hf] at h; exact h
    | bad => rw [hf] at h; exact h

/-! ### and, or, not, if -/
theorem de_one {op : BoolOp} (ha : PE X a (tD L f E)) : PE X (.BoolOp op [a] pos) (tD L f E) := pe_one ha
theorem de_and {rest : List Expr} (ha : PE X a (tD L f E)) (hb : PE X (.BoolOp .And (b :: rest) pos) (tD L g E)) : PE X (.BoolOp .And (a :: b :: rest) pos) (tD L (eAnd f g) E) :=
  (pe_and ha hb).imp fun σ H Q ⟨ρ, τ, B, e, t, h⟩ => tD_bind (k := fun a ρ τ1 => match dB a with | some true => g ρ τ1 | some false => .ok (.bool false) τ1 | none => .bad) e t h fun d τ1 v H1 e1 g1 t1 r1 h1 => by
    cases d with
    | bool k =>
      have ev := r1.blInv
      subst ev
      refine ⟨k, rfl, ?_⟩
      cases k with
      | true => rw [if_pos rfl]; exact ⟨ρ, τ1, B, e1, t1, h1⟩
      | false => rw [if_neg Bool.false_ne_true]; exact post_ok h1 t1 (.bl false)
    | _ => exact h1.elim
theorem de_or {rest : List Expr} (ha : PE X a (tD L f E)) (hb : PE X (.BoolOp .Or (b :: rest) pos) (tD L g E)) : PE X (.BoolOp .Or (a :: b :: rest) pos) (tD L (eOr f g) E) :=
  (pe_or ha hb).imp fun σ H Q ⟨ρ, τ, B, e, t, h⟩ => tD_bind (k := fun a ρ τ1 => match dB a with | some true => .ok (.bool true) τ1 | some false => g ρ τ1 | none => .bad) e t h fun d τ1 v H1 e1 g1 t1 r1 h1 => by
    cases d with
    | bool k =>
      have ev := r1.blInv
      subst ev
      refine ⟨k, rfl, ?_⟩
      cases k with
      | false => rw [if_neg Bool.false_ne_true]; exact ⟨ρ, τ1, B, e1, t1, h1⟩
      | true => rw [if_pos rfl]; exact post_ok h1 t1 (.bl true)
    | _ => exact h1.elim
theorem de_not (ha : PE X a (tD L f E)) : PE X (.UnaryOp .Not a pos) (tD L (eNot f) E) :=
  (pe_not ha).imp fun σ H Q ⟨ρ, τ, B, e, t, h⟩ => tD_bind (k := fun a _ τ1 => opt ((dB a).map fun b => PyData.bool (!b)) τ1) e t h fun d τ1 v H1 e1 g1 t1 r1 h1 => by
    cases d with
    | bool k =>
      have ev := r1.blInv
      subst ev
      exact ⟨k, rfl, post_ok (d := PyData.bool (!k)) h1 t1 (.bl _)⟩
    | _ => exact h1.elim
variable {u v : M Bool}
theorem de_if {t : Expr} (hc : PT X t (tDT L u E)) (ha : PE X a (tD L f E)) (hb : PE X b (tD L g E)) : PE X (.IfExp t a b pos) (tD L (eIf u f g) E) :=
  (pe_ifExp hc ha hb).imp fun σ H Q ⟨ρ, τ, B, e, t, h⟩ => tDT_bind (k := fun a ρ τ1 => if a then f ρ τ1 else g ρ τ1) e t h fun d τ1 H1 e1 g1 t1 h1 => by
    cases d with
    | true => rw [if_pos rfl]; exact ⟨ρ, τ1, B, e1, t1, h1⟩
    | false => rw [if_neg Bool.false_ne_true]; exact ⟨ρ, τ1, B, e1, t1, h1⟩
/-! tests -/
theorem dw_and1 (ha : PT X a (tDT L u E)) : PW X (.BoolOp .And [a] pos) (tDT L u E) := pw_and1 ha
theorem dw_or1 (ha : PT X a (tDT L u E)) : PW X (.BoolOp .Or [a] pos) (tDT L u E) := pw_or1 ha
theorem dw_and {rest : List Expr} (ha : PT X a (tDT L u E)) (hb : PW X (.BoolOp .And (b :: rest) pos) (tDT L v E)) : PW X (.BoolOp .And (a :: b :: rest) pos) (tDT L (bAnd u v) E) :=
  (pw_and ha hb).imp fun σ H Q ⟨ρ, τ, B, e, t, h⟩ => tDT_bind (k := fun a ρ τ1 => if a then v ρ τ1 else .ok false τ1) e t h fun d τ1 H1 e1 g1 t1 h1 => by
    cases d with
    | true => rw [if_pos rfl]; exact ⟨ρ, τ1, B, e1, t1, h1⟩
    | false => rw [if_neg Bool.false_ne_true]; exact post_ok (d := false) h1 t1 rfl
theorem dw_or {rest : List Expr} (ha : PT X a (tDT L u E)) (hb : PW X (.BoolOp .Or (b :: rest) pos) (tDT L v E)) : PW X (.BoolOp .Or (a :: b :: rest) pos) (tDT L (bOr u v) E) :=
  (pw_or ha hb).imp fun σ H Q ⟨ρ, τ, B, e, t, h⟩ => tDT_bind (k := fun a ρ τ1 => if a then .ok true τ1 else v ρ τ1) e t h fun d τ1 H1 e1 g1 t1 h1 => by
    cases d with
    | false => rw [if_neg Bool.false_ne_true]; exact ⟨ρ, τ1, B, e1, t1, h1⟩
    | true => rw [if_pos rfl]; exact post_ok (d := true) h1 t1 rfl
theorem dt_not (ha : PT X a (tDT L u E)) : PT X (.UnaryOp .Not a pos) (tDT L (bNot u) E) :=
  (pt_not ha).imp fun σ H Q ⟨ρ, τ, B, e, t, h⟩ => tDT_bind (k := fun a _ τ1 => .ok (!a) τ1) e t h fun d τ1 H1 e1 g1 t1 h1 => post_ok (d := !d) h1 t1 rfl
/-- any other expression as a test -/
theorem dt_tru (hL : LX X L) (ha : PE X a (tD L f E)) (he : ∀ whole, isTrue a X.env whole = (do let v ← whole; standAt a.pos; holding [v] (truthy v)) := by intro _; rfl) : PT X a (tDT L (tru f) E) :=
  (pt_truth ha he).imp fun σ H Q ⟨ρ, τ, B, e, t, h⟩ => tD_bind (k := fun a _ τ1 => opt (dTru a) τ1) e t h fun d τ1 v H1 e1 g1 t1 r1 h1 => by
    obtain ⟨k, hk, q⟩ := post_opt h1
    have q' := post_ok q t1 rfl
    refine ⟨k, ?_, q'⟩
    rw [hL.k]
    cases d with
    | none => cases hk; rw [r1.nonInv]; rfl
    | bool b => cases hk; rw [r1.blInv]; rfl
    | int i => cases hk; rw [r1.intInv]; rfl
    | str x =>
      rw [r1.strInv]
      have hk : (if x.length ≤ LIM then some ((x.length : Int) != 0) else none) = some k := hk
      split at hk
      · rename_i hl
        cases hk
        exact ⟨Nat.le_trans hl lim_le, rfl⟩
      · cases hk
    | list xs =>
      cases hk
      obtain ⟨p, ys, rfl, nb, rd, ra⟩ := r1.lstInv
      refine .inl ⟨ys, .of rd, ?_⟩
      have := ra.length
      cases ys <;> cases xs <;> simp_all
    | tuple xs =>
      cases hk
      obtain ⟨p, ys, rfl, sq, ra⟩ := r1.tupInv
      refine .inr (.inl ⟨ys, sq, ?_⟩)
      have := ra.length
      cases ys <;> cases xs <;> simp_all
    | dict _ => cases hk
end
end SG

/-! SgD: the operations by values. -/
namespace SG
open PySem PySem.Spec PyProof.Rows L2

theorem sh_lay {d : D} (h : sh d = true) : d.canLay0 = true := SeqAt.canLay_of_shaped h
theorem ite_some {α : Type} {c : Prop} [Decidable c] {a b : α} (h : (if c then some a else none) = some b) : c ∧ a = b := by
  split at h
  · rename_i hc
    cases h
    exact ⟨hc, rfl⟩
  · cases h
section
variable {X : Cx} {L : LC} {B : Addr → Prop} {σ : St} {H H' : Hp} {ρ : Rho} {τ τ' : S} {E : XK} {a b c : Expr} {pos : Pos} {f g h : M D}

theorem od_eq (hL : LX X L) (hu : X.A.units + 64 < cLine) : OpD X L (compareOp .Eq) dEq := by
  intro pins s σ H x y v u Q I rx ry h
  obtain ⟨da, db, d, B, nf, ra, rb, hd, q, _⟩ := h
  obtain ⟨hs, rfl⟩ := ite_some hd
  rw [Bool.and_eq_true] at hs
  exact op_eqD hu pins s σ H x y v u Q I rx ry ⟨da, db, by rw [hL.k]; exact ra.dp (sh_lay hs.1), by rw [hL.k]; exact rb.dp (sh_lay hs.2), hs.1, hs.2, q _ (.bl _)⟩
theorem od_ne (hL : LX X L) (hu : X.A.units + 64 < cLine) : OpD X L (compareOp .NotEq) dNe := by
  intro pins s σ H x y v u Q I rx ry h
  obtain ⟨da, db, d, B, nf, ra, rb, hd, q, _⟩ := h
  obtain ⟨hs, rfl⟩ := ite_some hd
  rw [Bool.and_eq_true] at hs
  exact op_neD hu pins s σ H x y v u Q I rx ry ⟨da, db, by rw [hL.k]; exact ra.dp (sh_lay hs.1), by rw [hL.k]; exact rb.dp (sh_lay hs.2), hs.1, hs.2, q _ (.bl _)⟩
theorem od_lt : OpD X L (compareOp .Lt) dLt := by
  intro pins s σ H x y v u Q I rx ry h
  obtain ⟨da, db, d, B, nf, ra, rb, hd, q, _⟩ := h
  cases da with
  | int i =>
    cases db with
    | int j =>
      cases hd
      exact op_lt pins s σ H x y v u Q I rx ry ⟨i, j, ra.intInv, rb.intInv, q _ (.bl _)⟩
    | _ => cases hd
  | str i =>
    cases db with
    | str j =>
      cases hd
      exact op_lt_str pins s σ H x y v u Q I rx ry ⟨i, j, ra.strInv, rb.strInv, q _ (.bl _)⟩
    | _ => cases hd
  | _ => cases db <;> cases hd
theorem od_le : OpD X L (compareOp .LtE) dLe := by
  intro pins s σ H x y v u Q I rx ry h
  obtain ⟨da, db, d, B, nf, ra, rb, hd, q, _⟩ := h
  cases da with
  | int i =>
    cases db with
    | int j =>
      cases hd
      exact op_le pins s σ H x y v u Q I rx ry ⟨i, j, ra.intInv, rb.intInv, q _ (.bl _)⟩
    | _ => cases hd
  | _ => cases db <;> cases hd
theorem od_gt : OpD X L (compareOp .Gt) dGt := by
  intro pins s σ H x y v u Q I rx ry h
  obtain ⟨da, db, d, B, nf, ra, rb, hd, q, _⟩ := h
  cases da with
  | int i =>
    cases db with
    | int j =>
      cases hd
      exact op_gt pins s σ H x y v u Q I rx ry ⟨i, j, ra.intInv, rb.intInv, q _ (.bl _)⟩
    | _ => cases hd
  | _ => cases db <;> cases hd
theorem od_ge : OpD X L (compareOp .GtE) dGe := by
  intro pins s σ H x y v u Q I rx ry h
  obtain ⟨da, db, d, B, nf, ra, rb, hd, q, _⟩ := h
  cases da with
  | int i =>
    cases db with
    | int j =>
      cases hd
      exact op_ge pins s σ H x y v u Q I rx ry ⟨i, j, ra.intInv, rb.intInv, q _ (.bl _)⟩
    | _ => cases hd
  | _ => cases db <;> cases hd
theorem od_in (hL : LX X L) (hu : X.A.units + 65 < cLine) : OpD X L (compareOp .In) dIn := by
  intro pins s σ H x y v u Q I rx ry h
  obtain ⟨da, db, d, B, nf, ra, rb, hd, q, _⟩ := h
  have tl : ∀ ds, db = .list ds → dIn da db = (if sh da && sh (.list ds) then some (.bool (ds.any fun z => PyData.eqv z da)) else none) := fun ds e => by subst e; cases da <;> rfl
  have tt : ∀ ds, db = .tuple ds → dIn da db = (if sh da && sh (.tuple ds) then some (.bool (ds.any fun z => PyData.eqv z da)) else none) := fun ds e => by subst e; cases da <;> rfl
  cases db with
  | str j =>
    cases da with
    | str i =>
      cases hd
      exact op_in_str pins s σ H x y v u Q I rx ry ⟨i, j, ra.strInv, rb.strInv, q _ (.bl _)⟩
    | _ => cases hd
  | list ds =>
    rw [tl ds rfl] at hd
    obtain ⟨hs, rfl⟩ := ite_some hd
    rw [Bool.and_eq_true] at hs
    exact op_inD hu pins s σ H x y v u Q I rx ry ⟨da, ds, by rw [hL.k]; exact ra.dp (sh_lay hs.1), by rw [hL.k]; exact rb.dp (sh_lay hs.2), hs.1, hs.2, q _ (.bl _)⟩
  | tuple ds =>
    rw [tt ds rfl] at hd
    obtain ⟨hs, rfl⟩ := ite_some hd
    rw [Bool.and_eq_true] at hs
    obtain ⟨as, r1⟩ := Dp.reads I da x v (by rw [hL.k]; exact ra.dp (sh_lay hs.1)) rx
    obtain ⟨bs, r2⟩ := Dp.reads I (.tuple ds) y u (by rw [hL.k]; exact rb.dp (sh_lay hs.2)) ry
    exact SeqAt.in_tuple_reads r2 r1 (sh_lay hs.2) (sh_lay hs.1) (room_in_shaped hs.1 hu) ⟨.bl _, H, I, rfl, q _ (.bl _)⟩
  | _ => cases da <;> cases hd
theorem od_notIn (hL : LX X L) (hu : X.A.units + 65 < cLine) : OpD X L (compareOp .NotIn) dNotIn := by
  intro pins s σ H x y v u Q I rx ry h
  obtain ⟨da, db, d, B, nf, ra, rb, hd, q, _⟩ := h
  have tl : ∀ ds, db = .list ds → dIn da db = (if sh da && sh (.list ds) then some (.bool (ds.any fun z => PyData.eqv z da)) else none) := fun ds e => by subst e; cases da <;> rfl
  have tt : ∀ ds, db = .tuple ds → dIn da db = (if sh da && sh (.tuple ds) then some (.bool (ds.any fun z => PyData.eqv z da)) else none) := fun ds e => by subst e; cases da <;> rfl
  have un : ∀ z, dIn da db = some z → ∃ k, z = .bool k ∧ d = .bool (!k) := fun z e => by
    unfold dNotIn at hd
    rw [e, Option.bind_some] at hd
    cases z with
    | bool k => cases hd; exact ⟨k, rfl, rfl⟩
    | _ => cases hd
  obtain ⟨z, hz⟩ : ∃ z, dIn da db = some z := by
    unfold dNotIn at hd
    cases e : dIn da db with
    | none => rw [e] at hd; cases hd
    | some z => exact ⟨z, rfl⟩
  obtain ⟨k, rfl, rfl⟩ := un z hz
  cases db with
  | str j =>
    cases da with
    | str i =>
      cases hz
      exact op_notin_str pins s σ H x y v u Q I rx ry ⟨i, j, ra.strInv, rb.strInv, q _ (.bl _)⟩
    | _ => cases hz
  | list ds =>
    rw [tl ds rfl] at hz
    obtain ⟨hs, e⟩ := ite_some hz
    rw [Bool.and_eq_true] at hs
    cases e
    exact op_notInD hu pins s σ H x y v u Q I rx ry ⟨da, ds, by rw [hL.k]; exact ra.dp (sh_lay hs.1), by rw [hL.k]; exact rb.dp (sh_lay hs.2), hs.1, hs.2, q _ (.bl _)⟩
  | tuple ds =>
    rw [tt ds rfl] at hz
    obtain ⟨hs, e⟩ := ite_some hz
    rw [Bool.and_eq_true] at hs
    cases e
    obtain ⟨as, r1⟩ := Dp.reads I da x v (by rw [hL.k]; exact ra.dp (sh_lay hs.1)) rx
    obtain ⟨bs, r2⟩ := Dp.reads I (.tuple ds) y u (by rw [hL.k]; exact rb.dp (sh_lay hs.2)) ry
    exact SeqAt.notIn_tuple_reads r2 r1 (sh_lay hs.2) (sh_lay hs.1) (room_in_shaped hs.1 hu) ⟨.bl _, H, I, rfl, q _ (.bl _)⟩
  | _ => cases da <;> cases hz
theorem od_add (hL : LX X L) : OpD X L (binaryOp .Add) dAdd := by
  intro pins s σ H x y v u Q I rx ry h
  obtain ⟨da, db, d, B, nf, ra, rb, hd, q, q2⟩ := h
  have l2 : LIM + LIM ≤ sizeLine := by decide
  have rn : ∀ {p : Addr} {o : HO} {vs : List V} {ds : List D}, H p = none → RepA L B H vs ds → RepA L B (upd H p o) vs ds := fun n r => r.imp fun a u nb e _ => ⟨by rw [upd_ne (ne_of_none e n)]; exact e, nb⟩
  cases da with
  | int i =>
    cases db with
    | int j =>
      cases hd
      exact op_add pins s σ H x y v u Q I rx ry ⟨i, j, ra.intInv, rb.intInv, q _ (.int _)⟩
    | _ => cases hd
  | str i =>
    cases db with
    | str j =>
      obtain ⟨hs, rfl⟩ := ite_some hd
      exact op_add_str pins s σ H x y v u Q I rx ry ⟨i, j, ra.strInv, rb.strInv, by omega, q _ (.str _)⟩
    | _ => cases hd
  | tuple xs =>
    cases db with
    | tuple ys =>
      obtain ⟨hs, rfl⟩ := ite_some hd
      obtain ⟨p1, vs1, rfl, s1, r1⟩ := id ra.tupInv
      obtain ⟨p2, vs2, rfl, s2, r2⟩ := id rb.tupInv
      have h1 := r1.length
      have h2 := r2.length
      refine op_catA pins s σ H _ _ v u Q I rx ry ⟨p1, p2, vs1, vs2, rfl, rfl, by rw [hL.k]; exact s1, by rw [hL.k]; exact s2, by omega, fun e => ?_, fun _ e => ?_, fun _ _ p n => ?_⟩
      · have : xs = [] := by
          subst e
          cases r1
          rfl
        subst this
        exact q _ (by rw [List.nil_append]; exact rb)
      · have : ys = [] := by
          subst e
          cases r2
          rfl
        subst this
        exact q _ (by rw [List.append_nil]; exact ra)
      · exact q2 _ p _ n (.tup (nf p n) upd_same (rn n (r1.append r2)))
    | _ => cases hd
  | list xs =>
    cases db with
    | list ys =>
      obtain ⟨hs, rfl⟩ := ite_some hd
      obtain ⟨p1, vs1, rfl, nb1, s1, r1⟩ := ra.lstInv
      obtain ⟨p2, vs2, rfl, nb2, s2, r2⟩ := rb.lstInv
      have h1 := r1.length
      have h2 := r2.length
      exact op_cat pins s σ H _ _ v u Q I rx ry ⟨p1, p2, vs1, vs2, rfl, rfl, s1, s2, by omega, fun p n => q2 _ p _ n (.lst (nf p n) upd_same (rn n (r1.append r2)))⟩
    | _ => cases hd
  | _ => cases db <;> cases hd
theorem od_sub : OpD X L (binaryOp .Sub) dSub := by
  intro pins s σ H x y v u Q I rx ry h
  obtain ⟨da, db, d, B, nf, ra, rb, hd, q, _⟩ := h
  cases da with
  | int i =>
    cases db with
    | int j =>
      cases hd
      exact op_sub pins s σ H x y v u Q I rx ry ⟨i, j, ra.intInv, rb.intInv, q _ (.int _)⟩
    | _ => cases hd
  | _ => cases db <;> cases hd
theorem od_mul : OpD X L (binaryOp .Mult) dMul := by
  intro pins s σ H x y v u Q I rx ry h
  obtain ⟨da, db, d, B, nf, ra, rb, hd, q, _⟩ := h
  cases da with
  | int i =>
    cases db with
    | int j =>
      obtain ⟨hs, rfl⟩ := ite_some hd
      exact op_mul pins s σ H x y v u Q I rx ry ⟨i, j, ra.intInv, rb.intInv, .inl hs, q _ (.int _)⟩
    | _ => cases hd
  | _ => cases db <;> cases hd

/-! ### one-place -/
theorem de_isN {j : Nat} {p2 : Pos} (ha : PE X a (tD L f E)) : PE X (.Compare a [.Is] [.Constant .none j p2] pos) (tD L (e1 dIsN f) E) :=
  (pe_cmpR op_isN ha pe_non (nomark _)).imp fun σ H Q ⟨ρ, τ, B, e, t, h⟩ => tD_bind (k := fun a _ τ1 => opt (dIsN a) τ1) e t h fun d τ1 v H1 e1 g1 t1 r1 h1 => by
    obtain ⟨k, hk, q⟩ := post_opt h1
    refine ⟨rfl, ?_⟩
    cases r1 <;> cases hk <;> exact post_ok q t1 (.bl _)
theorem de_notN {j : Nat} {p2 : Pos} (ha : PE X a (tD L f E)) : PE X (.Compare a [.IsNot] [.Constant .none j p2] pos) (tD L (e1 dNotN f) E) :=
  (pe_cmpR op_notN ha pe_non (nomark _)).imp fun σ H Q ⟨ρ, τ, B, e, t, h⟩ => tD_bind (k := fun a _ τ1 => opt (dNotN a) τ1) e t h fun d τ1 v H1 e1 g1 t1 r1 h1 => by
    obtain ⟨k, hk, q⟩ := post_opt h1
    refine ⟨rfl, ?_⟩
    cases r1 <;> cases hk <;> exact post_ok q t1 (.bl _)
theorem dt_isN {j : Nat} {p2 : Pos} (ha : PE X a (tD L f E)) : PT X (.Compare a [.Is] [.Constant .none j p2] pos) (tDT L (asB (e1 dIsN f)) E) :=
  (pt_cmpR op_isN ha pe_non (nomark _)).imp (tB_of fun σ H Q ⟨ρ, τ, B, e, t, h⟩ => tD_bind (k := fun a _ τ1 => opt (dIsN a) τ1) e t h fun d τ1 v H1 e1 g1 t1 r1 h1 => by
    obtain ⟨k, hk, q⟩ := post_opt h1
    refine ⟨rfl, ?_⟩
    cases r1 <;> cases hk <;> exact post_ok q t1 (.bl _))
theorem dt_notN {j : Nat} {p2 : Pos} (ha : PE X a (tD L f E)) : PT X (.Compare a [.IsNot] [.Constant .none j p2] pos) (tDT L (asB (e1 dNotN f)) E) :=
  (pt_cmpR op_notN ha pe_non (nomark _)).imp (tB_of fun σ H Q ⟨ρ, τ, B, e, t, h⟩ => tD_bind (k := fun a _ τ1 => opt (dNotN a) τ1) e t h fun d τ1 v H1 e1 g1 t1 r1 h1 => by
    obtain ⟨k, hk, q⟩ := post_opt h1
    refine ⟨rfl, ?_⟩
    cases r1 <;> cases hk <;> exact post_ok q t1 (.bl _))
theorem de_neg (ha : PE X a (tD L f E)) : PE X (.UnaryOp .USub a pos) (tD L (e1 dNeg f) E) :=
  (pe_un un_neg ha).imp fun σ H Q ⟨ρ, τ, B, e, t, h⟩ => tD_bind (k := fun a _ τ1 => opt (dNeg a) τ1) e t h fun d τ1 v H1 e1 g1 t1 r1 h1 => by
    obtain ⟨k, hk, q⟩ := post_opt h1
    cases d with
    | int i => cases hk; exact ⟨i, r1.intInv, post_ok q t1 (.int _)⟩
    | _ => cases hk

/-! ### subscripts, slices -/
theorem RepA.atI {vs : List V} {ds : List D} (h : RepA L B H vs ds) {i : Int} {d : D} (e : atI ds i = some d) : ∃ v, atI vs i = some v ∧ Rep L B H v d := by
  unfold L2.atI at e ⊢
  rw [h.length]
  cases q : ixN ds.length i with
  | none => rw [q] at e; cases e
  | some j =>
    rw [q] at e
    exact h.get e
theorem de_ix (hL : LX X L) (ha : PE X a (tD L f E)) (hb : PE X b (tD L g E)) (hs : PlainIx b := by exact fun _ _ => rfl) : PE X (.Subscript a b pos) (tD L (e2 dIx f g) E) :=
  (pe_ix ix_seq ha hb hs).imp fun σ H Q ⟨ρ, τ, B, e, t, h⟩ => tD_bind (k := fun a ρ τ1 => (g ρ τ1).bind fun b τ2 => opt (dIx a b) τ2) e t h fun d τ1 v H1 e1 g1 t1 r1 h1 =>
    tD_bind (k := fun b _ τ2 => opt (dIx d b) τ2) e1 t1 h1 fun d2 τ2 v2 H2 e2 g2 t2 r2 h2 => by
      obtain ⟨z, hz, q⟩ := post_opt h2
      have r1' := e1.rep g2 r1
      show rIx X.K v v2 H2 Q
      rw [hL.k]
      cases d with
      | tuple xs =>
        cases d2 with
        | int i =>
          obtain ⟨p, ys, rfl, sq, ra⟩ := r1'.tupInv
          obtain ⟨w, hw, rw'⟩ := ra.atI hz
          exact .inr (.inl ⟨p, ys, i, w, rfl, r2.intInv, sq, hw, post_ok q t2 rw'⟩)
        | _ => cases hz
      | list xs =>
        cases d2 with
        | int i =>
          obtain ⟨p, ys, rfl, nb, sq, ra⟩ := r1'.lstInv
          obtain ⟨w, hw, rw'⟩ := ra.atI hz
          exact .inl ⟨p, ys, i, w, rfl, r2.intInv, .of sq, hw, post_ok q t2 rw'⟩
        | _ => cases hz
      | str x =>
        cases d2 with
        | int i =>
          have hz : (if x.length ≤ LIM then (L2.atI x.cps.toList i).map (fun c => PyData.str ⟨#[c]⟩) else none) = some z := hz
          split at hz
          · rename_i hl
            cases hc : L2.atI x.cps.toList i with
            | none => rw [hc] at hz; cases hz
            | some c =>
              rw [hc] at hz
              cases hz
              exact .inr (.inr ⟨x, i, c, r1'.strInv, r2.intInv, Nat.le_trans hl lim_le, hc, post_ok q t2 (.str _)⟩)
          · cases hz
        | _ => cases hz
      | _ => cases d2 <;> cases hz
def tDO (L : LC) (f : M (Option Int)) (E : XK) : TO := fun σ H Q => ∃ ρ τ B, EnvE L B σ H ρ ∧ TownOk L H τ ∧ PostG L H E (fun (v d : Option Int) _ => v = d) Q (f ρ τ)
theorem PO.imp {e : Option Expr} {t t' : TO} (h : PO X e t) (i : ∀ σ H Q, t' σ H Q → t σ H Q) : PO X e t' := ⟨fun pins s σ H Q I w => h.run pins s σ H Q I (i σ H Q w)⟩
theorem do_none : PO X none (tDO L oNone E) := PO.imp po_none fun σ H Q ⟨ρ, τ, B, e, t, h⟩ => post_ok (d := none) h t rfl
theorem do_some (ha : PE X a (tD L f E)) : PO X (some a) (tDO L (oSome f) E) := PO.imp (po_some ha) fun σ H Q ⟨ρ, τ, B, e, t, h⟩ =>
  tD_bind (k := fun a _ τ1 => opt ((dInt a).map some) τ1) e t h fun d τ1 v H1 e1 g1 t1 r1 h1 => by
    obtain ⟨z, hz, q⟩ := post_opt h1
    cases d with
    | int i => cases hz; exact ⟨i, r1.intInv, post_ok q t1 rfl⟩
    | _ => cases hz
theorem RepA.cut {vs : List V} {ds : List D} (h : RepA L B H vs ds) (lo hi : Option Int) : RepA L B H (cutV vs lo hi) (cutD ds lo hi) := by
  unfold cutV cutD
  rw [h.length]
  exact (h.drop _).take _
theorem cutD_whole {ds : List D} {lo hi : Option Int} (h : HT.sIx ds.length 0 lo = 0 ∧ HT.sIx ds.length ds.length hi = ds.length) : cutD ds lo hi = ds := by
  unfold cutD
  rw [h.1, h.2]
  simp
def rSlAny (K : PySem.W.Frag) : V → Option Int → Option Int → Hp → VK → Prop := fun x lo hi H Q => (rSlA K x lo hi H Q ∨ rSlL K x lo hi H Q) ∨ rSlS x lo hi H Q
theorem sl_any : SlR X (rSlAny X.K) := (sl_tupA.or sl_list).or sl_str
theorem de_sl (hL : LX X L) {lo hi : Option Expr} {u w : M (Option Int)} {p2 : Pos} (ha : PE X a (tD L f E)) (hl : PO X lo (tDO L u E)) (hh : PO X hi (tDO L w E)) : PE X (.Subscript a (.Slice lo hi none p2) pos) (tD L (eSl f u w) E) :=
  (pe_slice sl_any ha hl hh).imp fun σ H Q ⟨ρ, τ, B, e, t, h⟩ => tD_bind (k := fun a ρ τ1 => (u ρ τ1).bind fun l τ2 => (w ρ τ2).bind fun u τ3 => opt (dSl a l u) τ3) e t h fun d τ1 v H1 e1 g1 t1 r1 h1 =>
    ⟨ρ, τ1, B, e1, t1, post_bind h1 fun l τ2 l' H2 _ g2 t2 r2 h2 => by
      subst r2
      have e2 := e1.grow g2 t2
      exact ⟨ρ, τ2, B, e2, t2, post_bind h2 fun u τ3 u' H3 _ g3 t3 r3 h3 => by
        subst r3
        have e3 := e2.grow g3 t3
        obtain ⟨z, hz, q⟩ := post_opt h3
        have r1' := e2.rep g3 (e1.rep g2 r1)
        show rSlAny X.K v l' u' H3 Q
        rw [hL.k]
        cases d with
        | tuple xs =>
          cases hz
          obtain ⟨p, ys, rfl, sq, ra⟩ := id r1'.tupInv
          refine .inl (.inl ⟨p, ys, rfl, sq, fun hw => ?_, fun hw p n => ?_⟩)
          · rw [ra.length] at hw
            refine post_ok q t3 ?_
            rw [cutD_whole hw]
            exact r1'
          · exact post_new q t3 n (.tup (e3.fresh n) upd_same (e3.repA (Grow.new n) (ra.cut _ _)))
        | list xs =>
          cases hz
          obtain ⟨p, ys, rfl, nb, sq, ra⟩ := r1'.lstInv
          exact .inl (.inr ⟨p, ys, rfl, .of sq, fun p n => post_new q t3 n (.lst (e3.fresh n) upd_same (e3.repA (Grow.new n) (ra.cut _ _)))⟩)
        | str x =>
          obtain ⟨hl, rfl⟩ := ite_some hz
          exact .inr ⟨x, r1'.strInv, Nat.le_trans hl lim_le, post_ok q t3 (.str _)⟩
        | _ => cases hz⟩⟩

/-! ### len, isinstance -/
theorem pa_one {es : List Expr} {fs : M (List D)} (h : PA X es (tDA L fs E)) : True := trivial
theorem de_len (hL : LX X L) {p : Pos} (hm : X.mg "len" = none) (ha : PE X a (tD L f E)) (hg : Gl X "len" := by rfl) (he : starEach [a] X.env = (false, eval a X.env) :: starEach [] X.env := by rfl) :
    PE X (.Call (.Name "len" p) [a] [] pos) (tD L (e1 dLen f) E) :=
  (pe_callB call_len hg hm PySem.boot_len (pa_cons ha pa_nil he) (by decide) (by decide) he rfl).imp fun σ H Q ⟨ρ, τ, B, e, t, h⟩ => tD_bind (k := fun a _ τ1 => opt (dLen a) τ1) e t h fun d τ1 v H1 e1 g1 t1 r1 h1 => by
    obtain ⟨z, hz, q⟩ := post_opt h1
    show ∃ x n, [v] = [x] ∧ LenV X.K x H1 n ∧ Q (.int n) H1
    rw [hL.k]
    cases d with
    | tuple xs =>
      cases hz
      obtain ⟨p, ys, rfl, sq, ra⟩ := r1.tupInv
      refine ⟨_, _, rfl, .inr ⟨ys, sq, rfl⟩, ?_⟩
      rw [ra.length]
      exact post_ok q t1 (.int _)
    | list xs =>
      cases hz
      obtain ⟨p, ys, rfl, nb, sq, ra⟩ := r1.lstInv
      refine ⟨_, _, rfl, .inl ⟨ys, .of sq, rfl⟩, ?_⟩
      rw [ra.length]
      exact post_ok q t1 (.int _)
    | str x =>
      obtain ⟨hl, rfl⟩ := ite_some hz
      rw [r1.strInv]
      exact ⟨_, _, rfl, ⟨Nat.le_trans hl lim_le, rfl⟩, post_ok q t1 (.int _)⟩
    | _ => cases hz
theorem Rep.ty {v : V} {d : D} {t : String} (r : Rep L B H v d) (h : dTy d = some t) : TyX L.K H v (.type t) := by
  cases r with
  | non => cases h; exact .base .non
  | bl b => cases h; exact .base (.bl b)
  | int i => cases h; exact .base (.int i)
  | str x => cases h; exact .base (.str x)
  | lst nb e a => cases h; exact .base (.lst e)
  | tup nb e a => cases h; exact .base (.tup e)
  | ktup k c d z vs a => cases h; exact .kTuple k c
  | town => cases h
  | scr => cases h
  | dic _ _ _ _ => cases h
  | fn e => cases h
def tyNames : List String := ["NoneType", "bool", "int", "str", "list", "tuple"]
theorem dTy_mem {d : D} {t : String} (h : dTy d = some t) : t ∈ tyNames := by
  cases d <;> first | (cases h; done) | (cases h; decide)
def isiAll (c : String) : Bool := tyNames.all fun t => kitB t c == some (isiB t c)
theorem isi_int : isiAll "int" = true := by decide +kernel
theorem isi_bool : isiAll "bool" = true := by decide +kernel
theorem isi_str : isiAll "str" = true := by decide +kernel
theorem isi_tuple : isiAll "tuple" = true := by decide +kernel
theorem isi_of {c t : String} (h : isiAll c = true) (m : t ∈ tyNames) : kitB t c = some (isiB t c) := by
  have := List.all_eq_true.mp h t m
  exact eq_of_beq this
theorem de_isi (hL : LX X L) {p p2 : Pos} {T : Str} {c : String} (hc : isiAll c = true) (hm : X.mg "isinstance" = none) (hmT : X.mg T = none) (ha : PE X a (tD L f E)) (hbT : bootBuiltins T = some (.type c) := by decide +kernel)
    (hg : Gl X "isinstance" := by rfl) (hgT : Gl X T := by rfl) (hnT : T ≠ "__name__" := by decide) (hdT : (T == ("__debug__" : Str)) = false := by decide) (hb : bootBuiltins "isinstance" = some (.builtin "isinstance") := by decide +kernel)
    (he : starEach [a, .Name T p2] X.env = (false, eval a X.env) :: starEach [.Name T p2] X.env := by rfl) :
    PE X (.Call (.Name "isinstance" p) [a, .Name T p2] [] pos) (tD L (e1 (dIsi c) f) E) :=
  (pe_callB call_isi hg hm hb (pa_cons ha (pa_cons (pe_bltn (v := .ty c) hgT hmT hbT rfl hnT hdT) pa_nil) he) (by decide) (by decide) he rfl).imp fun σ H Q ⟨ρ, τ, B, e, t, h⟩ =>
    tD_bind (k := fun a _ τ1 => opt (dIsi c a) τ1) e t h fun d τ1 v H1 e1 g1 t1 r1 h1 => by
      obtain ⟨z, hz, q⟩ := post_opt h1
      unfold dIsi at hz
      cases ht : dTy d with
      | none => rw [ht] at hz; cases hz
      | some ty =>
        rw [ht] at hz
        cases hz
        show rIsi X.K [v, .ty c] H1 Q
        rw [hL.k]
        exact ⟨v, .ty c, .type ty, .type c, isiB ty c, rfl, .ty c, r1.ty ht, kit_ty (isi_of hc (dTy_mem ht)), post_ok q t1 (.bl _)⟩
end
end SG

/-! SgE: statements. -/
namespace SG
open PySem PySem.Spec PyProof.Rows L2

/-! ### calls -/
def spD (L : LC) (n : Nat) (F : Fn) : Sp := fun vs H Q E => vs.length = n ∧ ∃ ds τ B, B L.tw ∧ B L.tr ∧ (L.sb = true → B L.sc) ∧ (∀ a, B a → ∃ o, H a = some o ∧ NT o) ∧ RepA L B H vs ds ∧ TownOk L H τ ∧ Post L B H Q E (F ds τ)
/-- a def of the text and what it is worth -/
structure TF (P : Program) (w : World) (K : PySem.W.Frag) (mg : Str → Option Value) (base : Heap) (L : LC) (k : Nat) (x : Str) (n : Nat) (F : Fn) : Prop where
  ex : ∃ f fd ps, mg x = some (.ref f) ∧ FnOk P w K mg base (L2.CX P w) k f fd ps (spD L n F) ∧ ps.length = n ∧ PySem.W.keepIn K (.ref f) = true ∧ Binds K fd ps []
abbrev TFX (X : Cx) (L : LC) (k : Nat) (x : Str) (n : Nat) (F : Fn) : Prop := TF X.prog X.w X.K X.mg X.base L k x n F
abbrev PassX (X : Cx) (E : XK) : Prop := Passes (L2.CX X.prog X.w) X E
section
variable {X : Cx} {L : LC} {B : Addr → Prop} {σ : St} {H H' : Hp} {ρ : Rho} {τ τ' : S} {E : XK} {a b c : Expr} {pos : Pos} {f g h : M D}
theorem de_call {x : Str} {k : Nat} {F : Fn} {p : Pos} {e : Expr} {es : List Expr} {fs : M (List D)} (G : TFX X L k x (e :: es).length F) (hr : Room k X.A) (hx : PassX X E) (ha : DA X L E (e :: es) fs) (hg : Gl X x := by rfl)
    (hdb : (x == ("__debug__" : Str)) = false := by decide) (he : starEach (e :: es) X.env = (false, eval e X.env) :: starEach es X.env := by rfl) (hpl : (backTo pos (starEach es X.env)).any (·.1) = false := by rfl) :
    PE X (.Call (.Name x p) (e :: es) [] pos) (tD L (eCall F fs) E) := by
  obtain ⟨f, fd, ps, hm, G, hps, hk, hb⟩ := G.ex
  refine (pe_call G hr hg hm hk hb .nil hx ha.pa hdb he hpl).imp fun σ H Q ⟨ρ, τ, B, e, t, h⟩ => ⟨ρ, τ, B, e, t, post_bind h fun ds τ1 vs H1 hf g1 t1 r1 h1 => ?_⟩
  show spD L _ F (vs ++ []) H1 Q E
  rw [List.append_nil]
  have e1 := e.grow g1 t1
  exact ⟨by rw [r1.length, ha.len _ _ _ _ hf], ds, τ1, B, e1.tw, e1.tr, e1.sb, e1.dom, r1, t1, h1⟩
theorem de_call0 {x : Str} {k : Nat} {F : Fn} {p : Pos} (G : TFX X L k x 0 F) (hr : Room k X.A) (hx : PassX X E) (hg : Gl X x := by rfl)
    (hdb : (x == ("__debug__" : Str)) = false := by decide) : PE X (.Call (.Name x p) [] [] pos) (tD L (eCall F aNil) E) := by
  obtain ⟨f, fd, ps, hm, G, hps, hk, hb⟩ := G.ex
  refine (pe_call0 G hr hg hm hk hb .nil hx hdb).imp fun σ H Q ⟨ρ, τ, B, e, t, h⟩ => ?_
  show spD L _ F ([] ++ []) H Q E
  exact ⟨rfl, [], τ, B, e.tw, e.tr, e.sb, e.dom, .nil, t, h⟩
end

/-! ### the state of a body -/
def Blk (B0 : Addr → Prop) (σ : St) (ρ : Rho) : Addr → Prop := fun a => B0 a ∨ ∃ (i : Nat) (s : Sl), ρ[i]? = some s ∧ isOwn s = true ∧ σ[i]? = some (some (.ref a))
structure EnvS (L : LC) (B0 : Addr → Prop) (H0 : Hp) (σ : St) (H : Hp) (ρ : Rho) : Prop where
  env : EnvE L (Blk B0 σ ρ) σ H ρ
  grow : Grow L H0 H
  tw : B0 L.tw
  tr : B0 L.tr
  sb : L.sb = true → B0 L.sc
  new : ∀ (i : Nat) (s : Sl) (a : Addr), ρ[i]? = some s → isOwn s = true → σ[i]? = some (some (.ref a)) → ¬ B0 a ∧ Fr H0 a
  apart : ∀ (i j : Nat) (s u : Sl) (a : Addr), ρ[i]? = some s → isOwn s = true → σ[i]? = some (some (.ref a)) → ρ[j]? = some u → isOwn u = true → σ[j]? = some (some (.ref a)) → i = j
theorem ref_inj {a b : Addr} {x : Option (Option V)} (h : x = some (some (.ref a))) (h' : x = some (some (.ref b))) : a = b := by
  rw [h] at h'
  injection h' with h'
  injection h' with h'
  injection h'
section
variable {L : LC} {B0 : Addr → Prop} {σ : St} {H0 H0' H H' : Hp} {ρ : Rho} {τ τ' : S}
theorem EnvS.more (e : EnvS L B0 H0 σ H ρ) (g : Grow L H H') (t : TownOk L H' τ') : EnvS L B0 H0 σ H' ρ :=
  ⟨e.env.grow g t, e.grow.trans g, e.tw, e.tr, e.sb, e.new, e.apart⟩
theorem EnvS.weak (e : EnvS L B0 H0' σ H ρ) (g : Grow L H0 H0') : EnvS L B0 H0 σ H ρ := by
  refine ⟨e.env, g.trans e.grow, e.tw, e.tr, e.sb, fun i s a h1 hs h2 => ?_, e.apart⟩
  obtain ⟨n1, n2⟩ := e.new i s a h1 hs h2
  refine ⟨n1, ?_⟩
  obtain ⟨a', q1, q2, q3, _⟩ := e.env.own i s h1 hs
  have ea := ref_inj h2 q1
  subst ea
  exact .back g n2 q3.1 q3.2
/-- a slot that is not one's own is set -/
theorem own_set {i j : Nat} {d : D} {s : Sl} (h : (ρ.set i (.v d))[j]? = some s) (hs : isOwn s = true) : i ≠ j ∧ ρ[j]? = some s := by
  by_cases e : i = j
  · subst e
    by_cases hl : i < ρ.length
    · rw [List.getElem?_set_self hl] at h; cases h; cases hs
    · rw [List.getElem?_eq_none (by simpa using hl)] at h; cases h
  · rw [List.getElem?_set_ne e] at h; exact ⟨e, h⟩
theorem Blk.sub {B0 : Addr → Prop} {i : Nat} {v : Option V} {d : D} {a : Addr} (h : Blk B0 (σ.set i v) (ρ.set i (.v d)) a) : Blk B0 σ ρ a := by
  rcases h with h | ⟨j, s, h1, hs, h2⟩
  · exact .inl h
  · obtain ⟨ej, h1'⟩ := own_set h1 hs
    rw [List.getElem?_set_ne ej] at h2
    exact .inr ⟨j, s, h1', hs, h2⟩
/-- a name gets a value -/
theorem EnvS.set (e : EnvS L B0 H0 σ H ρ) {i : Nat} {v : V} {d : D} (r : Rep L (Blk B0 σ ρ) H v d) : EnvS L B0 H0 (σ.set i (some v)) H (ρ.set i (.v d)) := by
  have sub : ∀ a u, ¬ Blk B0 σ ρ a → H a = some u → NT u → H a = some u ∧ ¬ Blk B0 (σ.set i (some v)) (ρ.set i (.v d)) a := fun a u nb q _ => ⟨q, fun z => nb z.sub⟩
  refine ⟨⟨.inl e.tw, .inl e.tr, fun z => .inl (e.sb z), fun a h => e.env.dom a h.sub, by rw [List.length_set, List.length_set]; exact e.env.len, fun j d' h => ?_, fun j s h hs => ?_⟩, e.grow, e.tw, e.tr, e.sb, fun j s a h1 hs h2 => ?_, fun j k s u a h1 hs h2 h3 hu h4 => ?_⟩
  · by_cases ej : i = j
    · subst ej
      by_cases hl : i < ρ.length
      · rw [List.getElem?_set_self hl] at h
        cases h
        refine ⟨v, List.getElem?_set_self (by rw [e.env.len]; exact hl), r.imp sub⟩
      · rw [List.getElem?_eq_none (by simpa using hl)] at h; cases h
    · rw [List.getElem?_set_ne ej] at h
      obtain ⟨w, h1, h2⟩ := e.env.val j d' h
      exact ⟨w, by rw [List.getElem?_set_ne ej]; exact h1, h2.imp sub⟩
  · obtain ⟨ej, h'⟩ := own_set h hs
    obtain ⟨a, h1, h2, h3, h4⟩ := e.env.own j s h' hs
    have h1' : (σ.set i (some v))[j]? = some (some (.ref a)) := by rw [List.getElem?_set_ne ej]; exact h1
    exact ⟨a, h1', .inr ⟨j, s, h, hs, h1'⟩, h3, h4.imp (fun _ q _ => q) sub⟩
  · obtain ⟨ej, h'⟩ := own_set h1 hs
    rw [List.getElem?_set_ne ej] at h2
    exact e.new j s a h' hs h2
  · obtain ⟨ej, h1'⟩ := own_set h1 hs
    obtain ⟨ek, h3'⟩ := own_set h3 hu
    rw [List.getElem?_set_ne ej] at h2
    rw [List.getElem?_set_ne ek] at h4
    exact e.apart j k s u a h1' hs h2 h3' hu h4
/-- a name gets a new thing that is its own -/
theorem EnvS.setOwnA (e : EnvS L B0 H0 σ H ρ) {i : Nat} {p : Addr} {s0 : Sl} (hs0 : isOwn s0 = true) (hi : i < ρ.length) (g : Grow L H H') (t : TownOk L H' τ') (n : Fr H p) (r : Own L (fun a => Blk B0 σ ρ a ∨ a = p) H' p s0) :
    EnvS L B0 H0 (σ.set i (some (.ref p))) H' (ρ.set i s0) := by
  have hi' : i < σ.length := by rw [e.env.len]; exact hi
  have e' := e.more g t
  have np : ¬ Blk B0 σ ρ p := e.env.freshF n
  have ntw : p ≠ L.tw := fun z => np (by rw [z]; exact .inl e.tw)
  have ntr : p ≠ L.tr := fun z => np (by rw [z]; exact .inl e.tr)
  have sub : ∀ a, Blk B0 (σ.set i (some (.ref p))) (ρ.set i s0) a → Blk B0 σ ρ a ∨ a = p := fun a h => by
    rcases h with h | ⟨j, s, h1, hs, h2⟩
    · exact .inl (.inl h)
    · by_cases ej : i = j
      · subst ej
        rw [List.getElem?_set_self hi'] at h2
        injection h2 with h2
        injection h2 with h2
        injection h2 with h2
        exact .inr h2.symm
      · rw [List.getElem?_set_ne ej] at h1 h2
        exact .inl (.inr ⟨j, s, h1, hs, h2⟩)
  have up : ∀ a u, ¬ Blk B0 σ ρ a → H a = some u → NT u → H' a = some u ∧ ¬ Blk B0 (σ.set i (some (.ref p))) (ρ.set i s0) a := fun a u nb q nt => ⟨(grow_ok (.inl e.tw) (.inl e.tr) g a u nb q nt).1, fun z => (sub a z).elim nb (n.ne q nt)⟩
  have old : ∀ {j : Nat} {s : Sl}, (ρ.set i s0)[j]? = some s → i ≠ j → ρ[j]? = some s := fun {j s} h ej => by rw [List.getElem?_set_ne ej] at h; exact h
  have at_i : (σ.set i (some (V.ref p)))[i]? = some (some (.ref p)) := List.getElem?_set_self hi'
  have ro : (ρ.set i s0)[i]? = some s0 := List.getElem?_set_self hi
  have inj : ∀ {a : Addr}, (σ.set i (some (V.ref p)))[i]? = some (some (.ref a)) → a = p := fun {a} h => ref_inj h at_i
  have keep : ∀ {j : Nat} {s : Sl}, isOwn s = true → ρ[j]? = some s → ∃ a, σ[j]? = some (some (.ref a)) ∧ a ≠ p ∧ (a ≠ L.tw ∧ a ≠ L.tr) ∧ Own L (Blk B0 (σ.set i (some (.ref p))) (ρ.set i s0)) H' a s := fun {j s} hs h => by
    obtain ⟨a, h1, h2, h3, h4⟩ := e.env.own j s h hs
    obtain ⟨o, q, nt⟩ := h4.at
    exact ⟨a, h1, n.ne q nt, h3, h4.imp (fun o q nt => g a o q nt h3.1 h3.2) up⟩
  refine ⟨⟨.inl e.tw, .inl e.tr, fun z => .inl (e.sb z), fun a h => ?_, by rw [List.length_set, List.length_set]; exact e.env.len, fun j d' h => ?_, fun j s h hs => ?_⟩, e.grow.trans g, e.tw, e.tr, e.sb, fun j s a h1 hs h2 => ?_, fun j k s u a h1 hs h2 h3 hu h4 => ?_⟩
  · rcases sub a h with h | h
    · exact e'.env.dom a h
    · rw [h]; exact r.at
  · by_cases ej : i = j
    · subst ej
      rw [ro] at h; cases h; cases hs0
    · rw [List.getElem?_set_ne ej] at h
      obtain ⟨w, h1, h2⟩ := e.env.val j d' h
      exact ⟨w, by rw [List.getElem?_set_ne ej]; exact h1, h2.imp up⟩
  · by_cases ej : i = j
    · subst ej
      rw [ro] at h
      cases h
      exact ⟨p, at_i, .inr ⟨i, _, ro, hs0, at_i⟩, ⟨ntw, ntr⟩, r.imp (fun _ q _ => q) fun a u nb q _ => ⟨q, fun z => nb (sub a z)⟩⟩
    · obtain ⟨a, h1, h2, h3, h4⟩ := keep hs (old h ej)
      have h1' : (σ.set i (some (V.ref p)))[j]? = some (some (.ref a)) := by rw [List.getElem?_set_ne ej]; exact h1
      exact ⟨a, h1', .inr ⟨j, s, h, hs, h1'⟩, h3, h4⟩
  · by_cases ej : i = j
    · subst ej
      have ea := inj h2
      subst ea
      exact ⟨fun z => np (.inl z), .back e.grow n ntw ntr⟩
    · rw [List.getElem?_set_ne ej] at h2
      exact e.new j s a (old h1 ej) hs h2
  · by_cases ej : i = j
    · subst ej
      have ea := inj h2
      subst ea
      by_cases ek : i = k
      · exact ek
      · rw [List.getElem?_set_ne ek] at h4
        obtain ⟨b, q1, q2, _⟩ := keep hu (old h3 ek)
        exact absurd (ref_inj q1 h4) q2
    · rw [List.getElem?_set_ne ej] at h2
      by_cases ek : i = k
      · subst ek
        have ea := inj h4
        subst ea
        obtain ⟨b, q1, q2, _⟩ := keep hs (old h1 ej)
        exact absurd (ref_inj q1 h2) q2
      · rw [List.getElem?_set_ne ek] at h4
        exact e.apart j k s u a (old h1 ej) hs h2 (old h3 ek) hu h4
theorem EnvS.setOwn (e : EnvS L B0 H0 σ H ρ) {i : Nat} {p : Addr} {xs : List V} {ds : List D} (hi : i < ρ.length) (g : Grow L H H') (t : TownOk L H' τ') (n : Fr H p) (hp : H' p = some (.lst xs)) (r : RepA L (fun a => Blk B0 σ ρ a ∨ a = p) H' xs ds) :
    EnvS L B0 H0 (σ.set i (some (.ref p))) H' (ρ.set i (.ol ds)) := e.setOwnA rfl hi g t n ⟨xs, hp, r⟩
end
end SG

/-! SgF: statements, targets, loops. -/
namespace SG
open PySem PySem.Spec PyProof.Rows L2

/-! ### own lists: written, frozen -/
def fz1 (i : Nat) (ρ : Rho) : Rho := match ρ[i]? with
  | some (.ol ds) => ρ.set i (.v (.list ds))
  | _ => ρ
def fz : List Nat → Rho → Rho
  | [], ρ => ρ
  | i :: l, ρ => fz l (fz1 i ρ)
@[simp] theorem fz_nil (ρ : Rho) : fz [] ρ = ρ := rfl
section
variable {L : LC} {B0 : Addr → Prop} {σ : St} {H0 H0' H H' : Hp} {ρ : Rho} {τ τ' : S}
theorem set_own {i j : Nat} {s1 s2 s' : Sl} (h : (ρ.set i s2)[j]? = some s') (hs : isOwn s' = true) (hi : ρ[i]? = some s1) (h1 : isOwn s1 = true) : ∃ s'', ρ[j]? = some s'' ∧ isOwn s'' = true := by
  by_cases e : i = j
  · subst e; exact ⟨s1, hi, h1⟩
  · rw [List.getElem?_set_ne e] at h; exact ⟨s', h, hs⟩
/-- a thing of one's own is written -/
theorem EnvS.writeA (e : EnvS L B0 H0 σ H ρ) {i : Nat} {s1 s2 : Sl} {a : Addr} {o2 : HO} (hi : ρ[i]? = some s1) (h1 : isOwn s1 = true) (h2 : isOwn s2 = true) (hσ : σ[i]? = some (some (.ref a)))
    (hn : NT o2) (r : ∀ B', (∀ z u, ¬ Blk B0 σ ρ z → H z = some u → NT u → upd H a o2 z = some u ∧ ¬ B' z) → Own L B' (upd H a o2) a s2) :
    EnvS L B0 H0 σ (upd H a o2) (ρ.set i s2) := by
  have hil : i < ρ.length := (List.getElem?_eq_some_iff.mp hi).1
  have b1 : ∀ {z}, Blk B0 σ (ρ.set i s2) z → Blk B0 σ ρ z := fun {z} h => by
    rcases h with h | ⟨j, s, h3, hs, h4⟩
    · exact .inl h
    · obtain ⟨s'', q, hq⟩ := set_own h3 hs hi h1
      exact .inr ⟨j, s'', q, hq, h4⟩
  have b2 : ∀ {z}, Blk B0 σ ρ z → Blk B0 σ (ρ.set i s2) z := fun {z} h => by
    rcases h with h | ⟨j, s, h3, hs, h4⟩
    · exact .inl h
    · by_cases ej : i = j
      · subst ej; exact .inr ⟨i, s2, List.getElem?_set_self hil, h2, h4⟩
      · exact .inr ⟨j, s, by rw [List.getElem?_set_ne ej]; exact h3, hs, h4⟩
  have ba : Blk B0 σ ρ a := .inr ⟨i, s1, hi, h1, hσ⟩
  have up : ∀ z u, ¬ Blk B0 σ ρ z → H z = some u → NT u → upd H a o2 z = some u ∧ ¬ Blk B0 σ (ρ.set i s2) z := fun z u nb q _ => ⟨by rw [upd_ne (fun w => nb (by rw [w]; exact ba))]; exact q, fun w => nb (b1 w)⟩
  have nt : a ≠ L.tw ∧ a ≠ L.tr := by
    obtain ⟨a', q1, q2, q3, _⟩ := e.env.own i s1 hi h1
    have := ref_inj hσ q1
    subst this
    exact q3
  refine ⟨⟨.inl e.tw, .inl e.tr, fun z => .inl (e.sb z), fun z h => ?_, by rw [List.length_set]; exact e.env.len, fun j d' h => ?_, fun j s h hs => ?_⟩, fun z o q n h3 h4 => ?_, e.tw, e.tr, e.sb, fun j s z h3 hs h4 => ?_, fun j k s u z h3 hs h4 h5 hu h6 => ?_⟩
  · by_cases hz : z = a
    · subst hz; exact ⟨_, upd_same, hn⟩
    · obtain ⟨o, q, n⟩ := e.env.dom z (b1 h)
      exact ⟨o, by rw [upd_ne hz]; exact q, n⟩
  · by_cases ej : i = j
    · subst ej
      rw [List.getElem?_set_self hil] at h
      cases h
      cases h2
    · rw [List.getElem?_set_ne ej] at h
      obtain ⟨w, h3, h4⟩ := e.env.val j d' h
      exact ⟨w, h3, h4.imp up⟩
  · by_cases ej : i = j
    · subst ej
      rw [List.getElem?_set_self hil] at h
      cases h
      exact ⟨a, hσ, b2 ba, nt, r _ up⟩
    · rw [List.getElem?_set_ne ej] at h
      obtain ⟨z, h3, h4, h5, h6⟩ := e.env.own j s h hs
      refine ⟨z, h3, b2 h4, h5, h6.imp (fun o q _ => ?_) up⟩
      rw [upd_ne]
      · exact q
      · rintro rfl
        exact ej (e.apart i j s1 s z hi h1 hσ h hs h3)
  · have hz : z ≠ a := by
      rintro rfl
      exact (e.new i s1 z hi h1 hσ).2 o q n
    rw [upd_ne hz]
    exact e.grow z o q n h3 h4
  · obtain ⟨s'', q, hq⟩ := set_own h3 hs hi h1
    exact e.new j s'' z q hq h4
  · obtain ⟨d1, q1, k1⟩ := set_own h3 hs hi h1
    obtain ⟨d2, q2, k2⟩ := set_own h5 hu hi h1
    exact e.apart j k d1 d2 z q1 k1 h4 q2 k2 h6
theorem EnvS.write (e : EnvS L B0 H0 σ H ρ) {i : Nat} {ds es : List D} {a : Addr} {xs ys : List V} (hi : ρ[i]? = some (.ol ds)) (hσ : σ[i]? = some (some (.ref a))) (hH : H a = some (.lst xs)) (r : RepA L (Blk B0 σ ρ) H ys es) :
    EnvS L B0 H0 σ (upd H a (.lst ys)) (ρ.set i (.ol es)) := e.writeA hi rfl rfl hσ nt_lst fun B' h => ⟨ys, upd_same, r.imp h⟩
theorem EnvS.freeze1 (e : EnvS L B0 H0 σ H ρ) (i : Nat) : EnvS L B0 H0 σ H (fz1 i ρ) := by
  unfold fz1
  split
  · rename_i ds hi
    obtain ⟨a, hσ, hb, nt, xs, hH, ra⟩ := e.env.own i _ hi rfl
    have hil : i < ρ.length := (List.getElem?_eq_some_iff.mp hi).1
    have b1 : ∀ {z}, Blk B0 σ (ρ.set i (.v (.list ds))) z → Blk B0 σ ρ z := fun {z} h => by
      rcases h with h | ⟨j, s, h1, hs, h2⟩
      · exact .inl h
      · exact .inr ⟨j, s, (own_set h1 hs).2, hs, h2⟩
    have na : ¬ Blk B0 σ (ρ.set i (.v (.list ds))) a := fun h => by
      rcases h with h | ⟨j, s, h1, hs, h2⟩
      · exact (e.new i _ a hi rfl hσ).1 h
      · obtain ⟨ej, h1'⟩ := own_set h1 hs
        exact ej (e.apart i j _ s a hi rfl hσ h1' hs h2)
    have up : ∀ z u, ¬ Blk B0 σ ρ z → H z = some u → NT u → H z = some u ∧ ¬ Blk B0 σ (ρ.set i (.v (.list ds))) z := fun z u nb q _ => ⟨q, fun w => nb (b1 w)⟩
    refine ⟨⟨.inl e.tw, .inl e.tr, fun z => .inl (e.sb z), fun z h => e.env.dom z (b1 h), by rw [List.length_set]; exact e.env.len, fun j d' h => ?_, fun j s h hs => ?_⟩, e.grow, e.tw, e.tr, e.sb, fun j s z h1 hs h2 => ?_, fun j k s u z h1 hs h2 h3 hu h4 => ?_⟩
    · by_cases ej : i = j
      · subst ej
        rw [List.getElem?_set_self hil] at h
        cases h
        exact ⟨.ref a, hσ, .lst na hH (ra.imp up)⟩
      · rw [List.getElem?_set_ne ej] at h
        obtain ⟨w, h1, h2⟩ := e.env.val j d' h
        exact ⟨w, h1, h2.imp up⟩
    · obtain ⟨ej, h'⟩ := own_set h hs
      obtain ⟨z, h1, h2, h3, h4⟩ := e.env.own j s h' hs
      exact ⟨z, h1, .inr ⟨j, s, h, hs, h1⟩, h3, h4.imp (fun _ q _ => q) up⟩
    · exact e.new j s z (own_set h1 hs).2 hs h2
    · exact e.apart j k s u z (own_set h1 hs).2 hs h2 (own_set h3 hu).2 hu h4
  · exact e
theorem EnvS.fz (e : EnvS L B0 H0 σ H ρ) (l : List Nat) : EnvS L B0 H0 σ H (fz l ρ) := by
  induction l generalizing ρ with
  | nil => exact e
  | cons i l ih => exact ih (e.freeze1 i)
theorem fz1_length (i : Nat) (ρ : Rho) : (fz1 i ρ).length = ρ.length := by
  unfold fz1
  split
  · rw [List.length_set]
  · rfl
theorem fz_length (l : List Nat) (ρ : Rho) : (SG.fz l ρ).length = ρ.length := by
  induction l generalizing ρ with
  | nil => rfl
  | cons i l ih =>
    show (SG.fz l (fz1 i ρ)).length = _
    rw [ih, fz1_length]
end

/-! ### flows -/
inductive Fl where
  | nx (ρ : Rho)
  | rt (d : D)
  | bk (ρ : Rho)
  | ct (ρ : Rho)
abbrev MS := Rho → S → Res Fl
def PostS (L : LC) (B0 : Addr → Prop) (H0 : Hp) (De : Ends) (E : XK) : Res Fl → Prop
  | .ok (.nx ρ) τ => ∀ σ H, EnvS L B0 H0 σ H ρ → TownOk L H τ → De.nx σ H
  | .ok (.rt d) τ => ∀ v H, Grow L H0 H → TownOk L H τ → Rep L B0 H v d → De.rt v H
  | .ok (.bk ρ) τ => ∀ σ H, EnvS L B0 H0 σ H ρ → TownOk L H τ → De.bk σ H
  | .ok (.ct ρ) τ => ∀ σ H, EnvS L B0 H0 σ H ρ → TownOk L H τ → De.ct σ H
  | .ex c τ => ∀ H C, Grow L H0 H → TownOk L H τ → L.mg c = some C → E C none H
  | .bad => False
def tS (L : LC) (g : MS) (E : XK) : TS := fun De σ H => ∃ ρ τ B0 H0, EnvS L B0 H0 σ H ρ ∧ TownOk L H τ ∧ PostS L B0 H0 De E (g ρ τ)

def sNext : MS := fun ρ τ => .ok (.nx ρ) τ
def sBrk : MS := fun ρ τ => .ok (.bk ρ) τ
def sCont : MS := fun ρ τ => .ok (.ct ρ) τ
def seqK (g : MS) : Fl → S → Res Fl
  | .nx ρ, τ => g ρ τ
  | f, τ => .ok f τ
def sSeq (g h : MS) : MS := fun ρ τ => (g ρ τ).bind (seqK h)
def sRet (l : List Nat) (f : M D) : MS := fun ρ τ => (f (fz l ρ) τ).bind fun d τ' => .ok (.rt d) τ'
def sRetN : MS := fun ρ τ => .ok (.rt .none) τ
def sIf (l : List Nat) (c : M Bool) (g h : MS) : MS := fun ρ τ => (c (fz l ρ) τ).bind fun k τ' => if k then g ρ τ' else h ρ τ'
def sExpr (l : List Nat) (f : M D) : MS := fun ρ τ => (f (fz l ρ) τ).bind fun _ τ' => .ok (.nx (fz l ρ)) τ'
/-- a target: a name's place, or several targets -/
inductive Tg where
  | nm (i : Nat)
  | tp (ts : List Tg)
mutual
def asg : Tg → D → Rho → Option Rho
  | .nm i, d, ρ => some (ρ.set i (.v d))
  | .tp ts, .tuple ds, ρ => asgs ts ds ρ
  | .tp _, _, _ => none
def asgs : List Tg → List D → Rho → Option Rho
  | [], [], ρ => some ρ
  | t :: ts, d :: ds, ρ => (asg t d ρ).bind fun ρ1 => asgs ts ds ρ1
  | _, _, _ => none
def slots : Tg → List Nat
  | .nm i => [i]
  | .tp ts => slotss ts
def slotss : List Tg → List Nat
  | [] => []
  | t :: ts => slots t ++ slotss ts
end
def sAsg (T : Tg) (l : List Nat) (f : M D) : MS := fun ρ τ => (f (fz l ρ) τ).bind fun d τ' => match asg T d (fz l ρ) with | some ρ' => .ok (.nx ρ') τ' | none => .bad
def sOwn (i : Nat) (l : List Nat) (f : M (List D)) : MS := fun ρ τ => if i < ρ.length then (f (fz l ρ) τ).bind fun ds τ' => .ok (.nx ((fz l ρ).set i (.ol ds))) τ' else .bad
def sApp (i : Nat) (f : M D) : MS := fun ρ τ => match ρ[i]? with
  | some (.ol ds) => (f ρ τ).bind fun d τ' => if ds.length < LIM then .ok (.nx (ρ.set i (.ol (ds ++ [d])))) τ' else .bad
  | _ => .bad
def sExt (i : Nat) (f : M D) : MS := fun ρ τ => match ρ[i]? with
  | some (.ol ds) => (f ρ τ).bind fun d τ' => match d with
    | .list es => if ds.length ≤ LIM ∧ es.length ≤ LIM then .ok (.nx (ρ.set i (.ol (ds ++ es)))) τ' else .bad
    | _ => .bad
  | _ => .bad
def sAug (i : Nat) (op : D → D → Option D) (f : M D) : MS := fun ρ τ => match ρ[i]? with
  | some (.v a) => (f ρ τ).bind fun b τ' => match op a b with | some d => .ok (.nx (ρ.set i (.v d))) τ' | none => .bad
  | _ => .bad
def sRaise (c : Str) : MS := fun _ τ => .ex c τ
/-- the turns of a for -/
def loopS (T : Tg) (g : MS) : List D → Rho → S → Res Fl
  | [], ρ, τ => .ok (.nx ρ) τ
  | d :: ds, ρ, τ => match asg T d ρ with
    | none => .bad
    | some ρ1 => (g ρ1 τ).bind fun fl τ1 => match fl with
      | .nx ρ2 => loopS T g ds ρ2 τ1
      | .ct ρ2 => loopS T g ds ρ2 τ1
      | .bk ρ2 => .ok (.nx ρ2) τ1
      | .rt d => .ok (.rt d) τ1
def sFor (T : Tg) (l : List Nat) (it : M (List D)) (g : MS) : MS := fun ρ τ => (it (fz l ρ) τ).bind fun ds τ' => loopS T g ds (fz l ρ) τ'
/-- a while with fuel -/
def loopW (l : List Nat) (c : M Bool) (g : MS) : Nat → Rho → S → Res Fl
  | 0, _, _ => .bad
  | n + 1, ρ, τ => (c (fz l ρ) τ).bind fun k τ1 => if k then (g ρ τ1).bind fun fl τ2 => match fl with
      | .nx ρ2 => loopW l c g n ρ2 τ2
      | .ct ρ2 => loopW l c g n ρ2 τ2
      | .bk ρ2 => .ok (.nx ρ2) τ2
      | .rt d => .ok (.rt d) τ2
    else .ok (.nx ρ) τ1
def sWhile (n : Nat) (l : List Nat) (c : M Bool) (g : MS) : MS := fun ρ τ => loopW l c g n ρ τ

section
variable {X : Cx} {L : LC} {B0 : Addr → Prop} {σ : St} {H H0 H' : Hp} {ρ ρ' : Rho} {τ τ' : S} {E : XK} {De De' : Ends} {a b c : Expr} {pos : Pos} {f : M D} {u : M Bool} {g h : MS} {st : Stmt} {rest sts : List Stmt}
/-- behind an expression within a statement -/
theorem postS_bind {α β : Type} {r : Res α} {k : α → S → Res Fl} {R : β → α → Hp → Prop} {Q' : β → Hp → Prop} (es : EnvS L B0 H0 σ H ρ) (hh : PostS L B0 H0 De E (r.bind k))
    (hk : ∀ d τ' v H', Grow L H H' → TownOk L H' τ' → R v d H' → PostS L B0 H0 De E (k d τ') → Q' v H') : PostG L H E R Q' r := by
  cases r with
  | ok d τ' => exact fun v H' g t r => hk d τ' v H' g t r hh
  | ex c τ' => exact fun H' C g t q => hh H' C (es.grow.trans g) t q
  | bad => exact hh
theorem postS_imp {r : Res Fl} (h : PostS L B0 H0 De E r) (h1 : ∀ σ H, De.nx σ H → De'.nx σ H) (h2 : ∀ v H, De.rt v H → De'.rt v H) (h3 : ∀ σ H, De.bk σ H → De'.bk σ H) (h4 : ∀ σ H, De.ct σ H → De'.ct σ H) : PostS L B0 H0 De' E r := by
  cases r with
  | ok fl τ =>
    cases fl with
    | nx ρ => exact fun σ H e t => h1 _ _ (h σ H e t)
    | rt d => exact fun v H e t r => h2 _ _ (h v H e t r)
    | bk ρ => exact fun σ H e t => h3 _ _ (h σ H e t)
    | ct ρ => exact fun σ H e t => h4 _ _ (h σ H e t)
  | ex c τ => exact h
  | bad => exact h
theorem dss_nil : PSs X [] (tS L sNext E) := pss_nil.imp fun De σ H ⟨ρ, τ, B0, H0, e, t, h⟩ => h σ H e t
theorem ds_pass : PS X (.Pass pos) (tS L sNext E) := ps_pass.imp fun De σ H ⟨ρ, τ, B0, H0, e, t, h⟩ => h σ H e t
theorem ds_brk : PS X (.Break pos) (tS L sBrk E) := ps_break.imp fun De σ H ⟨ρ, τ, B0, H0, e, t, h⟩ => h σ H e t
theorem ds_cont : PS X (.Continue pos) (tS L sCont E) := ps_continue.imp fun De σ H ⟨ρ, τ, B0, H0, e, t, h⟩ => h σ H e t
theorem dss_cons (h1 : PS X st (tS L g E)) (h2 : PSs X rest (tS L h E)) : PSs X (st :: rest) (tS L (sSeq g h) E) :=
  (pss_cons h1 h2).imp fun De σ H ⟨ρ, τ, B0, H0, e, t, q⟩ => ⟨ρ, τ, B0, H0, e, t, by
    unfold sSeq at q
    cases r : g ρ τ with
    | ok fl τ' =>
      rw [r, bind_ok] at q
      cases fl with
      | nx ρ' => exact fun σ' H' e' t' => ⟨ρ', τ', B0, H0, e', t', q⟩
      | rt d => exact q
      | bk ρ' => exact q
      | ct ρ' => exact q
    | ex c τ' => rw [r] at q; exact q
    | bad => rw [r] at q; exact q⟩
theorem dss_one (h1 : PS X st (tS L g E)) : PSs X [st] (tS L g E) := pss_one h1
theorem Rep.out {v : V} {d : D} (e : EnvS L B0 H0 σ H ρ) (r : Rep L (Blk B0 σ ρ) H v d) : Rep L B0 H v d := r.imp fun a u nb q _ => ⟨q, fun z => nb (.inl z)⟩
theorem ds_ret (l : List Nat) (he : PE X a (tD L f E)) : PS X (.Return (some a) pos) (tS L (sRet l f) E) :=
  (ps_ret he).imp fun De σ H ⟨ρ, τ, B0, H0, e, t, q⟩ => ⟨fz l ρ, τ, _, (e.fz l).env, t, postS_bind e q fun d τ' v H' g t' r h => h v H' (e.grow.trans g) t' (Rep.out ((e.fz l).more g t') r)⟩
theorem ds_retN : PS X (.Return none pos) (tS L sRetN E) := ps_retN.imp fun De σ H ⟨ρ, τ, B0, H0, e, t, h⟩ => h .non H e.grow t .non
theorem ds_if (l : List Nat) (hc : PT X c (tDT L u E)) (ha : PSs X sts (tS L g E)) (hb : PSs X rest (tS L h E)) : PS X (.If c sts rest pos) (tS L (sIf l u g h) E) :=
  (ps_if hc ha hb).imp fun De σ H ⟨ρ, τ, B0, H0, e, t, q⟩ => ⟨fz l ρ, τ, _, (e.fz l).env, t, postS_bind e q fun d τ' v H' gr t' r hh => by
    have r : v = d := r
    subst r
    cases v with
    | true => rw [if_pos rfl]; exact ⟨ρ, τ', B0, H0, e.more gr t', t', hh⟩
    | false => rw [if_neg Bool.false_ne_true]; exact ⟨ρ, τ', B0, H0, e.more gr t', t', hh⟩⟩
theorem ds_expr (l : List Nat) (he : PE X a (tD L f E)) (hs : swapsWith a none pos.line X.env = pure false := by rfl) : PS X (.Expr a pos) (tS L (sExpr l f) E) :=
  (ps_expr he hs).imp fun De σ H ⟨ρ, τ, B0, H0, e, t, q⟩ => ⟨fz l ρ, τ, _, (e.fz l).env, t, postS_bind e q fun d τ' v H' gr t' r hh => hh σ H' ((e.fz l).more gr t') t'⟩
theorem ds_never : PS X st (tS L (fun _ _ => .bad) E) := ps_never.imp fun De σ H ⟨ρ, τ, B0, H0, e, t, q⟩ => q

/-! ### targets -/
/-- W: what is known of the slots while they are filled; B: the places that the items don't lean on -/
def tG (L : LC) (T : Tg) : TG := fun v σ H Q => ∃ (W : St → Rho → Prop) (B : Addr → Prop) (ρ : Rho) (d : D) (ρ' : Rho), (∀ σ ρ i v d, i ∈ slots T → W σ ρ → Rep L B H v d → W (σ.set i (some v)) (ρ.set i (.v d))) ∧ W σ ρ ∧ Rep L B H v d ∧ asg T d ρ = some ρ' ∧ ∀ σ', W σ' ρ' → Q σ' H
def tGs (L : LC) (ts : List Tg) : TGs := fun vs σ H Q => ∃ (W : St → Rho → Prop) (B : Addr → Prop) (ρ : Rho) (ds : List D) (ρ' : Rho), (∀ σ ρ i v d, i ∈ slotss ts → W σ ρ → Rep L B H v d → W (σ.set i (some v)) (ρ.set i (.v d))) ∧ W σ ρ ∧ RepA L B H vs ds ∧ asgs ts ds ρ = some ρ' ∧ ∀ σ', W σ' ρ' → Q σ' H
theorem _root_.L2.PG.imp {e : Expr} {t t' : TG} (h : PG X e t) (i : ∀ v σ H Q, t' v σ H Q → t v σ H Q) : PG X e t' := ⟨fun pins s σ H v u Q I r w => h.run pins s σ H v u Q I r (i v σ H Q w)⟩
theorem _root_.L2.PGs.imp {e : List Expr} {t t' : TGs} (h : PGs X e t) (i : ∀ v σ H Q, t' v σ H Q → t v σ H Q) : PGs X e t' := ⟨fun pins s σ H v u Q I r w => h.run pins s σ H v u Q I r (i v σ H Q w)⟩
theorem dg_nm {i : Nat} {x : Str} (hN : X.N.Nodup) (hi : X.N[i]? = some x := by rfl) (hx : Loc X.env.scope x := by first | exact Or.inl rfl | exact Or.inr rfl) (hf : X.fn x = true ∨ X.env.scope.names.lookup x = some .local := by first | exact .inl rfl | exact .inr rfl) :
    PG X (.Name x pos) (tG L (.nm i)) :=
  (pg_name hN hi hx hf).imp fun v σ H Q ⟨W, B, ρ, d, ρ', hW, w, r, ha, q⟩ => by
    have ha : some (ρ.set i (.v d)) = some ρ' := ha
    cases ha
    exact q _ (hW σ ρ i v d (by simp [slots]) w r)
theorem dgs_nil : PGs X [] (tGs L []) := pgs_nil.imp fun vs σ H Q ⟨W, B, ρ, ds, ρ', hW, w, r, ha, q⟩ => by
  cases r with
  | nil =>
    have ha : some ρ = some ρ' := ha
    cases ha
    exact ⟨rfl, q σ w⟩
  | cons _ _ => cases ha
theorem dgs_cons {T : Tg} {ts : List Tg} {es : List Expr} (h1 : PG X a (tG L T)) (h2 : PGs X es (tGs L ts)) (hs : (assignEach (a :: es) X.env).map (·.2) = assign a X.env :: (assignEach es X.env).map (·.2) := by rfl) : PGs X (a :: es) (tGs L (T :: ts)) :=
  (pgs_cons h1 h2 hs).imp fun vs σ H Q ⟨W, B, ρ, ds, ρ', hW, w, r, ha, q⟩ => by
    cases r with
    | nil => cases ha
    | @cons v vs' d ds' r ra =>
      have ha : (asg T d ρ).bind (fun ρ1 => asgs ts ds' ρ1) = some ρ' := ha
      cases h1 : asg T d ρ with
      | none => rw [h1] at ha; cases ha
      | some ρ1 =>
        rw [h1] at ha
        refine ⟨_, _, rfl, W, B, ρ, d, ρ1, fun σ ρ i v d hi => hW σ ρ i v d (by simp [slotss, hi]), w, r, h1, fun σ1 w1 => ?_⟩
        exact ⟨W, B, ρ1, ds', ρ', fun σ ρ i v d hi => hW σ ρ i v d (by simp [slotss, hi]), w1, ra, ha, q⟩
theorem asgs_length {ts : List Tg} {ds : List D} (h : asgs ts ds ρ = some ρ') : ds.length = ts.length := by
  induction ts generalizing ds ρ with
  | nil => cases ds with
    | nil => rfl
    | cons _ _ => cases h
  | cons t ts ih => cases ds with
    | nil => cases h
    | cons d ds =>
      have h : (asg t d ρ).bind (fun ρ1 => asgs ts ds ρ1) = some ρ' := h
      cases h1 : asg t d ρ with
      | none => rw [h1] at h; cases h
      | some ρ1 =>
        rw [h1] at h
        rw [List.length_cons, List.length_cons, ih h]
theorem dg_tp (hL : LX X L) {ts : List Tg} {es : List Expr} {k : Nat} (h : PGs X es (tGs L ts)) (hc : X.calm = true := by rfl) (hn : (assignEach es X.env).length = ts.length := by rfl) (hst : (assignEach es X.env).findIdx? (·.1) = none := by rfl) : PG X (.Tuple es k pos) (tG L (.tp ts)) :=
  (pg_tup hc h hn hst).imp fun v σ H Q ⟨W, B, ρ, d, ρ', hW, w, r, ha, q⟩ => by
    cases d with
    | tuple ds =>
      have ha : asgs ts ds ρ = some ρ' := ha
      obtain ⟨p, xs, rfl, sq, ra⟩ := r.tupInv
      refine ⟨p, xs, rfl, by rw [hL.k]; exact sq, by rw [ra.length, asgs_length ha], W, B, ρ, ds, ρ', hW, w, ra, ha, q⟩
    | _ => cases ha
/-- a store of a value in a statement -/
theorem asg_ok {T : Tg} {v : V} {d : D} {ρ' : Rho} {Q : St → Hp → Prop} (e : EnvS L B0 H0 σ H ρ) (r : Rep L (Blk B0 σ ρ) H v d) (ha : asg T d ρ = some ρ') (q : ∀ σ', EnvS L B0 H0 σ' H ρ' → Q σ' H) : tG L T v σ H Q :=
  ⟨fun σ' ρ1 => EnvS L B0 H0 σ' H ρ1 ∧ ∀ a, Blk B0 σ' ρ1 a → Blk B0 σ ρ a, Blk B0 σ ρ, ρ, d, ρ', fun σ' ρ1 i v d hi ⟨w1, w2⟩ r => by
    refine ⟨w1.set (r.imp fun a u nb q _ => ⟨q, fun z => nb (w2 a z)⟩), fun a h => w2 a h.sub⟩, ⟨e, fun a h => h⟩, r, ha, fun σ' w => q σ' w.1⟩
theorem ds_asg {T : Tg} {tg : Expr} (l : List Nat) (hg : PG X tg (tG L T)) (he : PE X a (tD L f E)) (hs : swapsWithSole [tg] a pos.line X.env = pure false := by rfl) (hw : swappedStores [tg] a X.env = pure none := by rfl)
    (h1 : (assignEach [tg] X.env).map (·.2) = [assign tg X.env] := by rfl) : PS X (.Assign [tg] a pos) (tS L (sAsg T l f) E) :=
  (ps_asg he hg hs hw h1).imp fun De σ H ⟨ρ, τ, B0, H0, e, t, q⟩ => ⟨fz l ρ, τ, _, (e.fz l).env, t, postS_bind e q fun d τ' v H' gr t' r hh => by
    cases ha : asg T d (fz l ρ) with
    | none => rw [ha] at hh; exact hh.elim
    | some ρ' =>
      rw [ha] at hh
      exact asg_ok ((e.fz l).more gr t') r ha fun σ' e' => hh σ' H' e' t'⟩
end
end SG

/-! SgG: own lists, loops, comprehensions, a def's body. -/
namespace SG
open PySem PySem.Spec PyProof.Rows L2

section
variable {X : Cx} {L : LC} {B B' B0 : Addr → Prop} {σ : St} {H H0 H' H1 : Hp} {ρ ρ' : Rho} {τ τ' : S} {E : XK} {De De' : Ends} {a b c : Expr} {pos : Pos} {f : M D} {u : M Bool} {g h : MS} {st : Stmt} {rest sts : List Stmt}

/-! ### own lists -/
theorem ds_own {i : Nat} {x : Str} {px : Pos} {fs : M (List D)} (l : List Nat) (hN : X.N.Nodup) (he : PE X a (tDF L fs E)) (hi : X.N[i]? = some x := by rfl) (hx : Loc X.env.scope x := by first | exact Or.inl rfl | exact Or.inr rfl)
    (hs : swapsWith a (some (.Name x px)) pos.line X.env = pure false := by rfl) (hf : X.fn x = true ∨ X.env.scope.names.lookup x = some .local := by first | exact .inl rfl | exact .inr rfl) :
    PS X (.Assign [.Name x px] a pos) (tS L (sOwn i l fs) E) :=
  (ps_set hN hi hx he hs hf).imp fun De σ H ⟨ρ, τ, B0, H0, e, t, q⟩ => ⟨fz l ρ, τ, _, (e.fz l).env, t, by
    unfold sOwn at q
    split at q
    · rename_i hl
      exact postS_bind e q fun d τ' v H' gr t' r hh => by
        obtain ⟨p, xs, rfl, n, hp, ra⟩ := r
        exact hh _ H' ((e.fz l).setOwn (by rw [fz_length]; exact hl) gr t' n hp ra) t'
    · exact q.elim⟩
theorem own_var {i : Nat} {ds : List D} (e : EnvS L B0 H0 σ H ρ) (hi : ρ[i]? = some (.ol ds)) : ∃ p xs, σ[i]? = some (some (.ref p)) ∧ H p = some (.lst xs) ∧ p ≠ L.tw ∧ p ≠ L.tr ∧ RepA L (Blk B0 σ ρ) H xs ds := by
  obtain ⟨p, h1, h2, h3, xs, h4, h5⟩ := e.env.own i _ hi rfl
  exact ⟨p, xs, h1, h4, h3.1, h3.2, h5⟩
theorem ds_app {i : Nat} {x : Str} {px pa pc : Pos} (he : PE X a (tD L f E)) (hN : X.N[i]? = some x := by rfl) (hv : Vis X.env.scope x := by first | exact Or.inl rfl | exact Or.inr (Or.inl rfl) | exact Or.inr (Or.inr rfl))
    (hd : (x == ("__debug__" : Str)) = false := by decide) (hcd : (x == ("__classdict__" : Str)) = false := by decide)
    (hbase : attributeBase (.Name x px) "append" X.env (eval (.Name x px) X.env) = eval (.Name x px) X.env := by rfl)
    (hfew : ((backTo pc (starEach [a] X.env)).all (fun x => !x.1) && (backToKw pc (keywordEach [] X.env)).all (fun x => x.1.isSome) && decide (([a] : List Expr).length + ([] : List Keyword).length + (if ([] : List Keyword).isEmpty then 0 else 1) < 30)) = true := by rfl)
    (hline : (pa.endLine == pc.line) = true := by rfl) (hst : starEach [a] X.env = (false, eval a X.env) :: starEach [] X.env := by rfl) (hs : swapsWith (.Call (.Attribute (.Name x px) "append" pa) [a] [] pc) none pos.line X.env = pure false := by rfl) :
    PS X (.Expr (.Call (.Attribute (.Name x px) "append" pa) [a] [] pc) pos) (tS L (sApp i f) E) :=
  (ps_expr (pe_bm PySem.F.plainAttrs_list PySem.F.slot_list_append PySem.F.type_list_append mt_append (pe_var hN hv hd hcd) (pa_cons he pa_nil hst) hbase hfew hline hst rfl) hs).imp fun De σ H ⟨ρ, τ, B0, H0, e, t, q⟩ => by
    unfold sApp at q
    split at q
    · rename_i ds hi
      obtain ⟨p, xs, hσ, hH, n1, n2, ra⟩ := own_var e hi
      refine ⟨.ref p, hσ, .inl ⟨rfl, xs, .of hH⟩, ρ, τ, _, e.env, t, postS_bind e q fun d τ' v H' gr t' r hh => ?_⟩
      have e' := e.more gr t'
      have hH' : H' p = some (.lst xs) := gr p _ hH nt_lst n1 n2
      split at hh
      · rename_i hl
        have ra' := e.env.repA gr ra
        refine ⟨p, xs, v, rfl, rfl, hH', by rw [ra.length]; exact Nat.lt_trans hl lim_lt, ?_⟩
        exact hh σ _ (e'.write hi hσ hH' (ra'.append (.cons r .nil))) (t'.upd hH' fun z w => (e.new i _ p hi rfl hσ).1 (by rw [w]; exact e.sb z))
      · exact hh.elim
    · exact q.elim
theorem ds_ext {i : Nat} {x : Str} {px pa pc : Pos} (he : PE X a (tD L f E)) (hN : X.N[i]? = some x := by rfl) (hv : Vis X.env.scope x := by first | exact Or.inl rfl | exact Or.inr (Or.inl rfl) | exact Or.inr (Or.inr rfl))
    (hd : (x == ("__debug__" : Str)) = false := by decide) (hcd : (x == ("__classdict__" : Str)) = false := by decide)
    (hbase : attributeBase (.Name x px) "extend" X.env (eval (.Name x px) X.env) = eval (.Name x px) X.env := by rfl)
    (hfew : ((backTo pc (starEach [a] X.env)).all (fun x => !x.1) && (backToKw pc (keywordEach [] X.env)).all (fun x => x.1.isSome) && decide (([a] : List Expr).length + ([] : List Keyword).length + (if ([] : List Keyword).isEmpty then 0 else 1) < 30)) = true := by rfl)
    (hline : (pa.endLine == pc.line) = true := by rfl) (hst : starEach [a] X.env = (false, eval a X.env) :: starEach [] X.env := by rfl) (hs : swapsWith (.Call (.Attribute (.Name x px) "extend" pa) [a] [] pc) none pos.line X.env = pure false := by rfl) :
    PS X (.Expr (.Call (.Attribute (.Name x px) "extend" pa) [a] [] pc) pos) (tS L (sExt i f) E) :=
  (ps_expr (pe_bm PySem.F.plainAttrs_list PySem.F.slot_list_extend PySem.F.type_list_extend mt_extend (pe_var hN hv hd hcd) (pa_cons he pa_nil hst) hbase hfew hline hst rfl) hs).imp fun De σ H ⟨ρ, τ, B0, H0, e, t, q⟩ => by
    unfold sExt at q
    split at q
    · rename_i ds hi
      obtain ⟨p, xs, hσ, hH, n1, n2, ra⟩ := own_var e hi
      refine ⟨.ref p, hσ, .inl ⟨rfl, xs, .of hH⟩, ρ, τ, _, e.env, t, postS_bind e q fun d τ' v H' gr t' r hh => ?_⟩
      have e' := e.more gr t'
      have hH' : H' p = some (.lst xs) := gr p _ hH nt_lst n1 n2
      cases d with
      | list es =>
        have hh : PostS L B0 H0 De E (if ds.length ≤ LIM ∧ es.length ≤ LIM then .ok (.nx (ρ.set i (.ol (ds ++ es)))) τ' else .bad) := hh
        split at hh
        · rename_i hl
          have ra' := e.env.repA gr ra
          obtain ⟨b, ys, rfl, nb, hb, rb⟩ := r.lstInv
          have h2 : LIM + LIM ≤ sizeLine := by decide
          refine ⟨p, b, xs, ys, rfl, rfl, hH', hb, by rw [ra.length, rb.length]; omega, ?_⟩
          exact hh σ _ (e'.write hi hσ hH' (ra'.append rb)) (t'.upd hH' fun z w => (e.new i _ p hi rfl hσ).1 (by rw [w]; exact e.sb z))
        · exact hh.elim
      | _ => exact hh.elim
    · exact q.elim
def ipD (L : LC) (op : D → D → Option D) : TIp := rD L op
theorem ds_aug {i : Nat} {x : Str} {px : Pos} {op : Operator} {op2 : D → D → Option D} (hN : X.N.Nodup) (ho : PIp X op (rD L op2)) (he : PE X a (tD L f E)) (hi : X.N[i]? = some x := by rfl) (hx : Loc X.env.scope x := by first | exact Or.inl rfl | exact Or.inr rfl)
    (hf : X.fn x = true ∨ X.env.scope.names.lookup x = some .local := by first | exact .inl rfl | exact .inr rfl) : PS X (.AugAssign (.Name x px) op a pos) (tS L (sAug i op2 f) E) :=
  (ps_aug hN hi hx he ho hf).imp fun De σ H ⟨ρ, τ, B0, H0, e, t, q⟩ => by
    unfold sAug at q
    split at q
    · rename_i da hi
      obtain ⟨v, hσ, rv⟩ := e.env.val i da hi
      refine ⟨v, hσ, ρ, τ, _, e.env, t, postS_bind e q fun d τ' w H' gr t' r hh => ?_⟩
      have e' := e.more gr t'
      cases ho : op2 da d with
      | none => rw [ho] at hh; exact hh.elim
      | some z =>
        rw [ho] at hh
        refine ⟨da, d, z, _, fun p hp => e'.env.fresh hp, e.env.rep gr rv, r, ho, fun v' r' => hh _ _ (e'.set r') t', fun v' p o n r' => ?_⟩
        have e'' := e'.more (H' := upd H' p o) (Grow.new n) (t'.new n)
        exact hh _ _ (e''.set r') (t'.new n)
    · exact q.elim
theorem ip_addD (hL : LX X L) : PIp X .Add (rD L (fun a b => match a, b with | .int i, .int j => some (.int (i + j)) | _, _ => none)) := by
  intro pins s σ H x y v u Q I rx ry h
  obtain ⟨da, db, d, B, nf, ra, rb, hd, q, _⟩ := h
  cases da with
  | int i =>
    cases db with
    | int j =>
      cases hd
      exact ip_add pins s σ H x y v u Q I rx ry ⟨i, j, ra.intInv, rb.intInv, q _ (.int _)⟩
    | _ => cases hd
  | _ => cases db <;> cases hd

/-! ### what is walked -/
/-- what stands on unblocked places is carried over -/
def Carry (B : Addr → Prop) (H : Hp) (B' : Addr → Prop) (H' : Hp) : Prop := ∀ a u, ¬ B a → H a = some u → NT u → H' a = some u ∧ ¬ B' a
theorem Carry.refl (B : Addr → Prop) (H : Hp) : Carry B H B H := fun _ _ n e _ => ⟨e, n⟩
theorem Carry.trans {B1 B2 B3 : Addr → Prop} {H1 H2 H3 : Hp} (a : Carry B1 H1 B2 H2) (b : Carry B2 H2 B3 H3) : Carry B1 H1 B3 H3 := fun x u n e t => let ⟨e1, n1⟩ := a x u n e t; b x u n1 e1 t
def WalkD (L : LC) (B : Addr → Prop) (H : Hp) (J : It) (ds : List D) : Prop := ∃ (G : Hp → Prop) (Y : Nat → Hp → V → Hp → Prop), Walk J ds.length G Y ∧ (∀ B' H', Carry B H B' H' → G H') ∧
  ∀ i B' H' x H2, Carry B H B' H' → (∀ p, H' p = none → ¬ B' p) → i < ds.length → Y i H' x H2 → ∃ d, ds[i]? = some d ∧ (H2 = H' ∨ ∃ p o, H' p = none ∧ H2 = upd H' p o) ∧ Rep L B' H2 x d
def tI (L : LC) (it : M (List D)) (E : XK) : TI := fun σ H R => ∃ ρ τ B, EnvE L B σ H ρ ∧ TownOk L H τ ∧ PostG L H E (fun J ds H' => WalkD L B H' J ds) R (it ρ τ)
theorem _root_.L2.PI.imp {tg e : Expr} {t t' : TI} (h : PI X tg e t) (i : ∀ σ H Q, t' σ H Q → t σ H Q) : PI X tg e t' := ⟨fun pins s σ H Q I w => h.run pins s σ H Q I (i σ H Q w)⟩
/-- a list, a tuple, a text -/
def dItems : D → Option (List D)
  | .list ds => some ds
  | .tuple ds => some ds
  | .str z => some ((chars z).map .str)
  | _ => none
def iSeq (f : M D) : M (List D) := fun ρ τ => (f ρ τ).bind fun d τ' => opt (dItems d) τ'
theorem walkD_at {J : It} {xs : List V} {ds : List D} {G : Hp → Prop} (w : Walk J xs.length G (YAt xs)) (hG : ∀ B' H', Carry B H B' H' → G H') (ra : RepA L B H xs ds) : WalkD L B H J ds := by
  have hl := ra.length
  refine ⟨G, YAt xs, by rw [← hl]; exact w, hG, fun i B' H' x H2 hc _ hi y => ?_⟩
  obtain ⟨rfl, hx⟩ := y
  obtain ⟨d, hd, r⟩ := ra.getV hx
  exact ⟨d, hd, .inl rfl, r.imp hc⟩
theorem sqT_carry {K : PySem.W.Frag} {p : Addr} {xs : List V} (h : H p = some (.tup xs)) (nb : ¬ B p) (hc : Carry B H B' H') : SqT K H' p xs := .of (hc p _ nb h nt_tup).1
/-- the three kinds in one -/
def iAny (K : PySem.W.Frag) (tl : TE) : TI := fun σ H R => tl σ H fun x H1 => (∃ a, x = .ref a ∧ (∃ xs, SqL K H1 a xs) ∧ R (Itl K a) H1) ∨ (∃ a, x = .ref a ∧ (∃ xs, SqT K H1 a xs) ∧ R (Itt K a) H1) ∨ (∃ z, x = .str z ∧ R (Its z) H1)
theorem walkD_of {v : V} {d : D} {ds : List D} (r : Rep L B H v d) (hd : dItems d = some ds) : (∃ a, v = .ref a ∧ (∃ xs, SqL L.K H a xs) ∧ WalkD L B H (Itl L.K a) ds) ∨ (∃ a, v = .ref a ∧ (∃ xs, SqT L.K H a xs) ∧ WalkD L B H (Itt L.K a) ds) ∨ (∃ z, v = .str z ∧ WalkD L B H (Its z) ds) := by
  cases r with
  | lst nb e ra =>
    cases hd
    exact .inl ⟨_, rfl, ⟨_, .of e⟩, walkD_at walk_list (fun B' H' hc => .of (hc _ _ nb e nt_lst).1) ra⟩
  | tup nb e ra =>
    cases hd
    exact .inr (.inl ⟨_, rfl, ⟨_, .of e⟩, walkD_at walk_tup (fun B' H' hc => .of (hc _ _ nb e nt_tup).1) ra⟩)
  | ktup k c d z vs ra =>
    cases hd
    exact .inr (.inl ⟨_, rfl, ⟨_, .inr ⟨_, _, _, k, c, d, z, vs⟩⟩, walkD_at walk_tup (fun B' H' hc => .inr ⟨_, _, _, k, c, d, z, vs⟩) ra⟩)
  | str z =>
    cases hd
    refine .inr (.inr ⟨z, rfl, fun _ => True, fun i H v H' => H' = H ∧ ∃ c, z.cps[i]? = some c ∧ v = .str ⟨#[c]⟩, ?_, fun _ _ _ => trivial, fun i B' H' x H2 hc _ hi y => ?_⟩)
    · have e : ((chars z).map PyData.str).length = z.cps.size := by simp [chars]
      rw [e]
      exact walk_str
    · obtain ⟨rfl, c, hc, rfl⟩ := y
      refine ⟨.str ⟨#[c]⟩, ?_, .inl rfl, .str _⟩
      simp [chars, hc]
  | _ => cases hd
theorem pi_any {l : Expr} {tl : TE} {tg : Expr} (hl : PE X l tl) : PI X tg l (iAny X.K tl) := by
  refine ⟨fun pins s σ H R I h => ?_⟩
  refine thn (hl.run pins s σ H _ I h) fun v s1 ⟨x, H1, I1, r1, q1⟩ => ?_
  have fp : ∀ b ∈ [s1.heap.objs.size], FpOk X pins H1 b := fun b hb => by
    have e : b = s1.heap.objs.size := by simpa using hb
    subst e
    exact I1.fpOk (Nat.le_refl _) (I1.hok.fresh (Nat.le_refl _))
  rcases q1 with ⟨a, e, ⟨xs, hq⟩, q⟩ | ⟨a, e, ⟨xs, hq⟩, q⟩ | ⟨z, e, q⟩
  · subst e
    cases r1
    obtain ⟨its, rv, p, hz⟩ := I1.list hq
    refine wpAny_pyIter_list p.isList ?_
    exact ⟨s1.heap.objs.size, [s1.heap.objs.size], _, _, H1, rfl, I1.kept (t' := s1.toks) fun b o e => Heap.get?_push_of_some _ e, turn_list a _, ⟨_, Heap.get?_push_size _ rfl, rfl, rfl⟩, fp, q⟩
  · subst e
    cases r1
    obtain ⟨its, rv, p, hz⟩ := I1.tuple hq
    refine wpAny_pyIter_tuple (show s1.heap.IsTuple a its.toArray from p) ?_
    exact ⟨s1.heap.objs.size, [s1.heap.objs.size], _, _, H1, rfl, I1.kept (t' := s1.toks) fun b o e => Heap.get?_push_of_some _ e, turn_tuple a _, ⟨_, Heap.get?_push_size _ rfl, rfl, rfl⟩, fp, q⟩
  · subst e
    obtain ⟨t, rfl⟩ := r1
    cases ha : z.cps.all (· < 128)
    · exact wpAny_pyIter_wide ha (pi_one (tk := s1.toks) I1 _ (turn_str _ z t "str_iterator" (.inr rfl)) ⟨_, Heap.get?_push_size _ rfl, rfl, rfl⟩ q)
    · exact wpAny_pyIter_ascii ha (pi_one (tk := s1.toks) I1 _ (turn_str _ z t "str_ascii_iterator" (.inl rfl)) ⟨_, Heap.get?_push_size _ rfl, rfl, rfl⟩ q)
theorem di_seq (hL : LX X L) {tg : Expr} (ha : PE X a (tD L f E)) : PI X tg a (tI L (iSeq f) E) :=
  (pi_any ha).imp fun σ H R ⟨ρ, τ, B, e, t, q⟩ => tD_bind (k := fun d _ τ' => opt (dItems d) τ') e t q fun d τ1 v H1 e1 g1 t1 r1 h1 => by
    obtain ⟨ds, hd, q⟩ := post_opt h1
    rw [hL.k]
    rcases walkD_of r1 hd with ⟨a, e, hx, w⟩ | ⟨a, e, hx, w⟩ | ⟨z, e, w⟩
    · exact .inl ⟨a, e, hx, post_ok q t1 w⟩
    · exact .inr (.inl ⟨a, e, hx, post_ok q t1 w⟩)
    · exact .inr (.inr ⟨z, e, post_ok q t1 w⟩)
/-- range(n) -/
def rngD (n : Int) : List D := (List.range n.toNat).map fun i => .int (i : Nat)
def dRng : D → Option (List D)
  | .int n => if 0 ≤ n ∧ n ≤ 1000000 then some (rngD n) else none
  | _ => none
def iRng (f : M D) : M (List D) := fun ρ τ => (f ρ τ).bind fun d τ' => opt (dRng d) τ'
theorem di_rng {tg : Expr} {p : Pos} (hm : X.mg "range" = none) (ha : PE X a (tD L f E)) (hg : Gl X "range" := by rfl) (hst : starEach [a] X.env = (false, eval a X.env) :: starEach [] X.env := by rfl) (hs : starEach [a] X.env = [(false, eval a X.env)] := by rfl) :
    PI X tg (.Call (.Name "range" p) [a] [] pos) (tI L (iRng f) E) :=
  (pi_range1 hg hm (pa_cons ha pa_nil hst) hs).imp fun σ H R ⟨ρ, τ, B, e, t, q⟩ => tD_bind (k := fun d _ τ' => opt (dRng d) τ') e t q fun d τ1 v H1 e1 g1 t1 r1 h1 => by
    obtain ⟨ds, hd, q⟩ := post_opt h1
    cases d with
    | int n =>
      obtain ⟨hn, rfl⟩ := ite_some hd
      have hv := r1.intInv
      subst hv
      refine ⟨n, rfl, by omega, by omega, post_ok q t1 ⟨fun _ => True, YFn fun i => .int (0 + i), ?_, fun _ _ _ => trivial, fun i B' H' x H2 hc _ hi y => ?_⟩⟩
      · have e : (rngD n).length = n.toNat := by simp [rngD]
        rw [e]
        exact walk_range
      · obtain ⟨rfl, rfl⟩ := y
        refine ⟨.int i, ?_, .inl rfl, ?_⟩
        · have hi : i < n.toNat := by simpa [rngD] using hi
          simp [rngD, hi]
        · show Rep L B' H2 (V.int (0 + (i : Int))) (PyData.int i)
          rw [Int.zero_add]
          exact .int _
    | _ => cases hd

/-! ### for -/
/-- the heap without the body's own lists -/
noncomputable def bare (B0 : Addr → Prop) (σ : St) (ρ : Rho) (H : Hp) : Hp := by
  classical
  exact fun a => if ∃ (i : Nat) (s : Sl), ρ[i]? = some s ∧ isOwn s = true ∧ σ[i]? = some (some (.ref a)) then none else H a
theorem bare_own {i : Nat} {s : Sl} {p : Addr} (h1 : ρ[i]? = some s) (hs : isOwn s = true) (h2 : σ[i]? = some (some (.ref p))) : bare B0 σ ρ H p = none := by
  unfold bare
  rw [if_pos ⟨i, s, h1, hs, h2⟩]
theorem bare_out {p : Addr} (h : ¬ ∃ (i : Nat) (s : Sl), ρ[i]? = some s ∧ isOwn s = true ∧ σ[i]? = some (some (.ref p))) : bare B0 σ ρ H p = H p := by
  unfold bare
  rw [if_neg h]
theorem bare_some {p : Addr} {o : HO} (h : bare B0 σ ρ H p = some o) : H p = some o := by
  unfold bare at h
  split at h
  · cases h
  · exact h
theorem EnvS.inner (e : EnvS L B0 H0 σ H ρ) : EnvS L B0 (bare B0 σ ρ H) σ H ρ :=
  ⟨e.env, fun a o h _ _ _ => bare_some h, e.tw, e.tr, e.sb, fun i s a h1 hs h2 => ⟨(e.new i s a h1 hs h2).1, .of (bare_own h1 hs h2)⟩, e.apart⟩
theorem EnvS.outer (e : EnvS L B0 H0 σ H ρ) : Grow L H0 (bare B0 σ ρ H) := fun a o h n h1 h2 => by
  rw [bare_out]
  · exact e.grow a o h n h1 h2
  · rintro ⟨i, s, q1, hs, q2⟩
    exact (e.new i s a q1 hs q2).2 o h n
/-- what is carried into each turn -/
theorem EnvS.carry {σ' : St} {ρ1 : Rho} (e : EnvS L B0 H0 σ H ρ) (e' : EnvS L B0 (bare B0 σ ρ H) σ' H' ρ1) : Carry (Blk B0 σ ρ) H (Blk B0 σ' ρ1) H' := fun a u nb q nt => by
  have hb : bare B0 σ ρ H a = some u := by
    rw [bare_out]
    · exact q
    · exact fun z => nb (.inr z)
  refine ⟨e'.grow a u hb nt (fun z => nb (by rw [z]; exact .inl e.tw)) (fun z => nb (by rw [z]; exact .inl e.tr)), fun z => ?_⟩
  rcases z with z | ⟨i, s, h1, hs, h2⟩
  · exact nb (.inl z)
  · exact (e'.new i s a h1 hs h2).2 u hb nt
theorem ds_for {T : Tg} {tg : Expr} {it : M (List D)} (l : List Nat) (hi : PI X tg a (tI L it E)) (hg : PG X tg (tG L T)) (hb : PSs X sts (tS L g E)) (hp : PassesOwn (model X.prog X.w) X.A X.env X.xe) (hc : X.calm = true := by rfl)
    (hs : ∀ x, foldedSetIterable a X.env x = pure x := by intro _; rfl) : PS X (.For tg a sts [] pos) (tS L (sFor T l it g) E) :=
  (ps_for hp hc hi hg hb hs).imp fun De σ H ⟨ρ, τ, B0, H0, e, t, q⟩ => ⟨fz l ρ, τ, _, (e.fz l).env, t, postS_bind e q fun ds τ1 J H1 gr t1 w hh => by
    have e1 := (e.fz l).more gr t1
    obtain ⟨G, Y, wk, hG, hY⟩ := w
    refine for_it wk (fun i σ' H' => ∃ ρ' τ', EnvS L B0 (bare B0 σ (fz l ρ) H1) σ' H' ρ' ∧ TownOk L H' τ' ∧ PostS L B0 H0 De E (loopS T g (ds.drop i) ρ' τ')) ⟨fz l ρ, τ1, e1.inner, t1, by rw [List.drop_zero]; exact hh⟩ (fun i σ' H' hi ⟨ρ', τ', e', t', p⟩ => hG _ _ (e1.carry e')) (fun i x σ' H' H2 hi ⟨ρ', τ', e', t', p⟩ y => ?_) fun σ' H' ⟨ρ', τ', e', t', p⟩ => ?_
    · obtain ⟨d, hd, hH, r⟩ := hY i _ H' x H2 (e1.carry e') (fun p hp => e'.env.fresh hp) hi y
      have hdr : ds.drop i = d :: ds.drop (i + 1) := by
        rw [List.drop_eq_getElem_cons hi]
        congr 1
        rw [List.getElem?_eq_getElem hi] at hd
        exact Option.some.inj hd
      rw [hdr] at p
      have e2 : EnvS L B0 (bare B0 σ (fz l ρ) H1) σ' H2 ρ' ∧ TownOk L H2 τ' := by
        rcases hH with rfl | ⟨pp, o, n, rfl⟩
        · exact ⟨e', t'⟩
        · exact ⟨e'.more (Grow.new n) (t'.new n), t'.new n⟩
      unfold loopS at p
      cases ha : asg T d ρ' with
      | none => rw [ha] at p; exact p.elim
      | some ρ1 =>
        rw [ha] at p
        refine asg_ok e2.1 r ha fun σ2 e3 => ⟨ρ1, τ', B0, _, e3, e2.2, ?_⟩
        have p : PostS L B0 H0 De E ((g ρ1 τ').bind fun fl τ1 => match fl with | .nx ρ2 => loopS T g (ds.drop (i + 1)) ρ2 τ1 | .ct ρ2 => loopS T g (ds.drop (i + 1)) ρ2 τ1 | .bk ρ2 => .ok (.nx ρ2) τ1 | .rt d => .ok (.rt d) τ1) := p
        cases hr : g ρ1 τ' with
        | ok fl τ2 =>
          rw [hr, bind_ok] at p
          cases fl with
          | nx ρ2 => exact fun σ3 H3 e4 t4 => ⟨ρ2, τ2, e4, t4, p⟩
          | ct ρ2 => exact fun σ3 H3 e4 t4 => ⟨ρ2, τ2, e4, t4, p⟩
          | bk ρ2 => exact fun σ3 H3 e4 t4 => p σ3 H3 (e4.weak e1.outer) t4
          | rt d => exact fun v H3 g4 t4 r4 => p v H3 (e1.outer.trans g4) t4 r4
        | ex c τ2 =>
          rw [hr] at p
          exact fun H3 C g4 t4 q4 => p H3 C (e1.outer.trans g4) t4 q4
        | bad => rw [hr] at p; exact p
    · rw [List.drop_length] at p
      exact p σ' H' (e'.weak e1.outer) t'⟩
theorem ds_while (n : Nat) (l : List Nat) (hc : PT X c (tDT L u E)) (hb : PSs X sts (tS L g E)) (hp : PassesOwn (model X.prog X.w) X.A X.env X.xe) : PS X (.While c sts [] pos) (tS L (sWhile n l u g) E) :=
  (ps_while hp hc hb).imp fun De σ H ⟨ρ, τ, B0, H0, e, t, q⟩ => by
    refine ⟨fun m σ H => ∃ ρ τ, EnvS L B0 H0 σ H ρ ∧ TownOk L H τ ∧ PostS L B0 H0 De E (loopW l u g m ρ τ), ⟨n, ρ, τ, e, t, q⟩, ?_⟩
    rintro m σ H ⟨ρ, τ, e, t, q⟩
    cases m with
    | zero => exact q.elim
    | succ m =>
      refine ⟨fz l ρ, τ, _, (e.fz l).env, t, postS_bind e q fun k τ1 v H1 gr t1 r hh => ?_⟩
      have r : v = k := r
      subst r
      cases v with
      | false => rw [if_neg Bool.false_ne_true]; exact hh σ H1 (e.more gr t1) t1
      | true =>
        rw [if_pos rfl]
        have hh : PostS L B0 H0 De E ((g ρ τ1).bind fun fl τ2 => match fl with | .nx ρ2 => loopW l u g m ρ2 τ2 | .ct ρ2 => loopW l u g m ρ2 τ2 | .bk ρ2 => .ok (.nx ρ2) τ2 | .rt d => .ok (.rt d) τ2) := hh
        refine ⟨fun σ' H' => ∃ ρ' τ', EnvS L B0 H0 σ' H' ρ' ∧ TownOk L H' τ' ∧ PostS L B0 H0 De E (loopW l u g m ρ' τ'), fun σ' H' ⟨ρ', τ', e', t', p⟩ => ⟨m, Nat.lt_succ_self m, ρ', τ', e', t', p⟩, ρ, τ1, B0, H0, e.more gr t1, t1, ?_⟩
        cases hr : g ρ τ1 with
        | ok fl τ2 =>
          rw [hr, bind_ok] at hh
          cases fl with
          | nx ρ2 => exact fun σ3 H3 e4 t4 => ⟨ρ2, τ2, e4, t4, hh⟩
          | ct ρ2 => exact fun σ3 H3 e4 t4 => ⟨ρ2, τ2, e4, t4, hh⟩
          | bk ρ2 => exact hh
          | rt d => exact hh
        | ex c τ2 => rw [hr] at hh; exact hh
        | bad => rw [hr] at hh; exact hh

/-! ### a def's body -/
def runF (n : Nat) (g : MS) : Fn := fun ds τ => (g (ds.map .v ++ List.replicate (n - ds.length) .no) τ).bind fun fl τ' => match fl with
  | .nx _ => .ok .none τ'
  | .rt d => .ok d τ'
  | _ => .bad
theorem start_env {N : List Str} {vs : List V} {ds : List D} (tw : B L.tw) (tr : B L.tr) (sb : L.sb = true → B L.sc) (dom : ∀ a, B a → ∃ o, H a = some o ∧ NT o) (ra : RepA L B H vs ds) : EnvS L B H (start N vs) H (ds.map .v ++ List.replicate (N.length - ds.length) .no) := by
  have hl := ra.length
  have noOl : ∀ (i : Nat) (s : Sl), (ds.map Sl.v ++ List.replicate (N.length - ds.length) Sl.no)[i]? = some s → isOwn s ≠ true := fun i s h => by
    by_cases hi : i < ds.length
    · rw [List.getElem?_append_left (by simpa using hi), List.getElem?_map] at h
      cases q : ds[i]? with
      | none => rw [q] at h; cases h
      | some d => rw [q] at h; cases h; simp [isOwn]
    · rw [List.getElem?_append_right (by simpa using hi), List.getElem?_replicate] at h
      split at h <;> cases h
      simp [isOwn]
  have bl : ∀ a, Blk B (start N vs) (ds.map Sl.v ++ List.replicate (N.length - ds.length) Sl.no) a → B a := fun a h => by
    rcases h with h | ⟨i, s, h1, hs, _⟩
    · exact h
    · exact absurd hs (noOl i s h1)
  refine ⟨⟨.inl tw, .inl tr, fun z => .inl (sb z), fun a h => dom a (bl a h), ?_, fun i d h => ?_, fun i s h hs => absurd hs (noOl i s h)⟩, Grow.refl _, tw, tr, sb, fun i s a h hs => absurd hs (noOl i s h), fun i j s u a h hs => absurd hs (noOl i s h)⟩
  · unfold L2.start
    simp [hl]
  · by_cases hi : i < ds.length
    · rw [List.getElem?_append_left (by simpa using hi), List.getElem?_map] at h
      cases q : ds[i]? with
      | none => rw [q] at h; cases h
      | some d' =>
        rw [q] at h
        cases h
        obtain ⟨v, hv, r⟩ := ra.get q
        refine ⟨v, ?_, r.imp fun a u nb e _ => ⟨e, fun z => nb (bl a z)⟩⟩
        unfold L2.start
        rw [List.getElem?_append_left (by rw [List.length_map, hl]; exact hi), List.getElem?_map, hv]
        rfl
    · rw [List.getElem?_append_right (by simpa using hi), List.getElem?_replicate] at h
      split at h <;> cases h
end
section
variable {P : Program} {w : World} {K : PySem.W.Frag} {mg : Str → Option Value} {base : Heap}
/-- THE RULE for a def: its body's function over data -/
theorem fnD {x qual : Str} {st : Stmt} {f : Addr} {fd : FuncData} {N ps : List Str} {k : Nat} {L : LC} {g : MS} (F : Fun K x qual st f fd) (Sc : FnScope N ps (defScope st))
    (hbody : ∀ (cdv : Value) (A : Around) (outer : List Env) (s : Shared) (H : Hp) (E : XK), Room k (A.deeper (envOfC qual (defScope st) s.heap.objs.size f cdv)) →
      PSs (cxOf (L2.CX P w) P w K mg base N qual (defScope st) f cdv A outer s H E) (defBody st) (tS L g E)) : FnOk P w K mg base (L2.CX P w) (k + 1) f fd ps (spD L ps.length (runF N.length g)) := by
  refine F.okX Sc (fun vs H Q E h => h.1) (fun cdv A outer s H vs Q E hr h => ⟨_, hbody cdv A outer s H E hr, ?_⟩)
  obtain ⟨hl, ds, τ, B, tw, tr, sb, dom, ra, t, q⟩ := h
  refine ⟨_, τ, B, H, start_env tw tr sb dom ra, t, ?_⟩
  unfold runF at q
  cases hr : g (ds.map .v ++ List.replicate (N.length - ds.length) .no) τ with
  | ok fl τ' =>
    rw [hr, bind_ok] at q
    cases fl with
    | nx ρ' => exact fun σ' H' e' t' => q .non H' e'.grow t' .non
    | rt d => exact fun v H' g' t' r' => q v H' g' t' r'
    | bk ρ' => exact q.elim
    | ct ρ' => exact q.elim
  | ex c τ' => rw [hr] at q; exact fun H' C g' t' q' => q H' C g' t' q'
  | bad => rw [hr] at q; exact q
end
end SG

/-! SgH: comprehensions. -/
namespace SG
open PySem PySem.Spec PyProof.Rows L2

def noex {α : Type} : Res α → Res α
  | .ok a s => .ok a s
  | .ex _ _ => .bad
  | .bad => .bad
@[simp] theorem noex_ok {α : Type} (a : α) (s : S) : noex (.ok a s) = .ok a s := rfl
@[simp] theorem noex_ex {α : Type} (c : Str) (s : S) : noex (.ex c s : Res α) = .bad := rfl
@[simp] theorem noex_bad {α : Type} : noex (.bad : Res α) = .bad := rfl
def compL (T : Tg) (c : M Bool) (f : M D) (ρ : Rho) : List D → List D → S → Res (List D)
  | [], acc, τ => .ok acc τ
  | d :: ds, acc, τ => match asg T d ρ with
    | none => .bad
    | some ρ1 => (noex (c ρ1 τ)).bind fun k τ1 => if k then (noex (f ρ1 τ1)).bind fun y τ2 => compL T c f ρ ds (acc ++ [y]) τ2 else compL T c f ρ ds acc τ1
def wpR (vs : List Nat) (ρ : Rho) : Rho := match vs with
  | [] => ρ
  | v :: vs => (wpR vs ρ).set v .no
def noOwn1 : Sl → Sl
  | .ol _ => .no
  | .od _ => .no
  | s => s
def noOwn (ρ : Rho) : Rho := ρ.map noOwn1
def eComp (T : Tg) (vs : List Nat) (it : M (List D)) (c : M Bool) (f : M D) : M (List D) := fun ρ τ => (it ρ τ).bind fun ds τ1 => if ds.length ≤ LIM then compL T c f (noOwn (wpR vs ρ)) ds [] τ1 else .bad
def bYes : M Bool := fun _ τ => .ok true τ

section
variable {X : Cx} {L : LC} {B B' B0 : Addr → Prop} {σ : St} {H H0 H' H1 : Hp} {ρ ρ' : Rho} {τ τ' : S} {E : XK} {De De' : Ends} {a b c : Expr} {pos : Pos} {f : M D} {u : M Bool} {g h : MS}
theorem noOwn_get {i : Nat} {s : Sl} (h : (noOwn ρ)[i]? = some s) : ∃ s', ρ[i]? = some s' ∧ noOwn1 s' = s := by
  unfold noOwn at h
  rw [List.getElem?_map] at h
  cases q : ρ[i]? with
  | none => rw [q] at h; cases h
  | some s' => rw [q] at h; exact ⟨s', rfl, Option.some.inj h⟩
theorem noOwn_v {i : Nat} {d : D} (h : (noOwn ρ)[i]? = some (.v d)) : ρ[i]? = some (.v d) := by
  obtain ⟨s', h1, h2⟩ := noOwn_get h
  cases s' with
  | v d' => cases h2; exact h1
  | no => cases h2
  | ol _ => cases h2
  | od _ => cases h2
theorem noOwn_ol {i : Nat} {s : Sl} (h : (noOwn ρ)[i]? = some s) (hs : isOwn s = true) : False := by
  obtain ⟨s', h1, h2⟩ := noOwn_get h
  cases s' <;> cases h2 <;> cases hs
theorem wpR_length (vs : List Nat) (ρ : Rho) : (wpR vs ρ).length = ρ.length := by
  induction vs with
  | nil => rfl
  | cons v vs ih => unfold wpR; rw [List.length_set, ih]
theorem wpR_v {vs : List Nat} {i : Nat} {d : D} (h : (wpR vs ρ)[i]? = some (.v d)) : ρ[i]? = some (.v d) ∧ i ∉ vs := by
  induction vs with
  | nil => exact ⟨h, by simp⟩
  | cons v vs ih =>
    unfold wpR at h
    by_cases e : v = i
    · subst e
      by_cases hl : v < (wpR vs ρ).length
      · rw [List.getElem?_set_self hl] at h; cases h
      · rw [List.getElem?_eq_none (by simpa using hl)] at h; cases h
    · rw [List.getElem?_set_ne e] at h
      obtain ⟨h1, h2⟩ := ih h
      exact ⟨h1, by simp only [List.mem_cons, not_or]; exact ⟨fun z => e z.symm, h2⟩⟩
theorem wipe_get {vs : List Nat} {i : Nat} (h : i ∉ vs) : (wipe σ vs)[i]? = σ[i]? := by
  induction vs with
  | nil => rfl
  | cons v vs ih =>
    simp only [List.mem_cons, not_or] at h
    unfold wipe
    rw [List.getElem?_set_ne (fun z => h.1 z.symm)]
    exact ih h.2
theorem wipe_set {vs : List Nat} {i : Nat} {x : Option V} (h : i ∈ vs) : wipe (σ.set i x) vs = wipe σ vs := by
  induction vs with
  | nil => cases h
  | cons v vs ih =>
    unfold wipe
    by_cases hm : i ∈ vs
    · rw [ih hm]
    · have e : i = v := by
        rcases List.mem_cons.mp h with e | e
        · exact e
        · exact absurd e hm
      subst e
      have : wipe (σ.set i x) vs = (wipe σ vs).set i x := by
        clear ih h
        induction vs with
        | nil => rfl
        | cons v vs ih2 =>
          simp only [List.mem_cons, not_or] at hm
          unfold wipe
          rw [ih2 hm.2, List.set_comm _ _ hm.1]
      rw [this, List.set_set]
theorem wipe_wipe {vs : List Nat} : wipe (wipe σ vs) vs = wipe σ vs := by
  have : ∀ ws : List Nat, (∀ w ∈ ws, w ∈ vs) → wipe (wipe σ ws) vs = wipe σ vs := by
    intro ws
    induction ws with
    | nil => intro _; rfl
    | cons w ws ih =>
      intro hw
      show wipe ((wipe σ ws).set w none) vs = _
      rw [wipe_set (hw w (by simp))]
      exact ih fun z hz => hw z (by simp [hz])
  exact this vs fun w hw => hw
/-- the names of a comprehension's block at its start -/
theorem EnvE.block (e : EnvE L B σ H ρ) (vs : List Nat) (hb : ∀ a, B' a → ∃ o, H' a = some o ∧ NT o) (hc : Carry B H B' H') (tw : B' L.tw) (tr : B' L.tr) (sb : L.sb = true → B' L.sc) : EnvE L B' (wipe σ vs) H' (noOwn (wpR vs ρ)) := by
  refine ⟨tw, tr, sb, hb, ?_, fun i d h => ?_, fun i s h hs => (noOwn_ol h hs).elim⟩
  · rw [wipe_length]
    unfold noOwn
    rw [List.length_map, wpR_length]
    exact e.len
  · obtain ⟨h1, h2⟩ := wpR_v (noOwn_v h)
    obtain ⟨v, q1, q2⟩ := e.val i d h1
    exact ⟨v, by rw [wipe_get h2]; exact q1, q2.imp hc⟩
theorem EnvE.setv {i : Nat} {v : V} {d : D} (e : EnvE L B σ H ρ) (no : ∀ (i : Nat) (s : Sl), ρ[i]? = some s → isOwn s ≠ true) (r : Rep L B H v d) : EnvE L B (σ.set i (some v)) H (ρ.set i (.v d)) ∧ ∀ (j : Nat) (s : Sl), (ρ.set i (.v d))[j]? = some s → isOwn s ≠ true := by
  have no' : ∀ (j : Nat) (s : Sl), (ρ.set i (.v d))[j]? = some s → isOwn s ≠ true := fun j s h hs => no j s (own_set h hs).2 hs
  refine ⟨⟨e.tw, e.tr, e.sb, e.dom, by rw [List.length_set, List.length_set]; exact e.len, fun j d' h => ?_, fun j s h hs => absurd hs (no' j s h)⟩, no'⟩
  by_cases ej : i = j
  · subst ej
    by_cases hl : i < ρ.length
    · rw [List.getElem?_set_self hl] at h
      cases h
      exact ⟨v, List.getElem?_set_self (by rw [e.len]; exact hl), r⟩
    · rw [List.getElem?_eq_none (by simpa using hl)] at h; cases h
  · rw [List.getElem?_set_ne ej] at h
    obtain ⟨w, h1, h2⟩ := e.val j d' h
    exact ⟨w, by rw [List.getElem?_set_ne ej]; exact h1, h2⟩
/-- the first of two steps where nothing is raised -/
theorem post_noex {α β γ δ : Type} {r : Res α} {k : α → S → Res γ} {R : β → α → Hp → Prop} {R' : δ → γ → Hp → Prop} {Q : δ → Hp → Prop} {Q' : β → Hp → Prop} (hh : PostG L H0 E R' Q ((noex r).bind k))
    (hk : ∀ d τ' v H', Grow L H H' → TownOk L H' τ' → R v d H' → PostG L H0 E R' Q (k d τ') → Q' v H') : PostG L H E0 R Q' r := by
  cases r with
  | ok d τ' => exact fun v H' g t r => hk d τ' v H' g t r hh
  | ex c τ' => exact hh.elim
  | bad => exact hh.elim
theorem lc_imp {T : Tg} {vs : List Nat} {it : M (List D)} (hsl : ∀ i ∈ slots T, i ∈ vs) : ∀ σ H Q, tDF L (eComp T vs it u f) E σ H Q → tLc (tI L it E) (tG L T) (tDT L u E0) (tD L f E0) vs σ H Q := fun σ H Q ⟨ρ, τ, B, e, t, h⟩ =>
  ⟨ρ, τ, B, e, t, by
    unfold eComp at h
    cases hit : it ρ τ with
    | ex c τ1 => rw [hit] at h; exact h
    | bad => rw [hit] at h; exact h
    | ok ds τ1 =>
      rw [hit, bind_ok] at h
      intro J H1 g1 t1 w D nD
      split at h
      · rename_i hlim
        have e1 := e.grow g1 t1
        have nHD : Fr H D := t1.fr g1 (.of nD)
        have nBD : ¬ B D := e1.fresh nD
        have ntw : D ≠ L.tw := fun z => nBD (by rw [z]; exact e1.tw)
        have ntr : D ≠ L.tr := fun z => nBD (by rw [z]; exact e1.tr)
        obtain ⟨G, Y, wk, hG, hY⟩ := w
        refine lc_it wk (fun i H' => ∃ acc xs τ', EnvE L (fun a => B a ∨ a = D) (wipe σ vs) H' (noOwn (wpR vs ρ)) ∧ TownOk L H' τ' ∧ Carry B H1 (fun a => B a ∨ a = D) H' ∧ Grow L H1 H' ∧ H' D = some (.lst xs) ∧ RepA L (fun a => B a ∨ a = D) H' xs acc ∧ xs.length ≤ i ∧
          PostG L H E (fun (v : V) (ds : List SG.D) H' => ∃ p xs, v = .ref p ∧ Fr H p ∧ H' p = some (.lst xs) ∧ RepA L (fun a => B a ∨ a = p) H' xs ds) Q (compL T u f (noOwn (wpR vs ρ)) (ds.drop i) acc τ')) ?_ (fun i H' hi ⟨acc, xs, τ', e', t', hc, gr, hD, ra, hn, p⟩ => hG _ _ hc) (fun i x H' H2 hi ⟨acc, xs, τ', e', t', hc, gr, hD, ra, hn, p⟩ y => ?_) fun H' ⟨acc, xs, τ', e', t', hc, gr, hD, ra, hn, p⟩ => ?_
        · have hc : Carry B H1 (fun a => B a ∨ a = D) (upd H1 D (.lst [])) := fun z o nb q _ => ⟨by rw [upd_ne (ne_of_none q nD)]; exact q, fun w => w.elim nb (ne_of_none q nD)⟩
          refine ⟨[], [], τ1, e1.block vs (fun z hz => ?_) hc (.inl e1.tw) (.inl e1.tr) (fun z => .inl (e1.sb z)), t1.new nD, hc, Grow.new nD, upd_same, .nil, Nat.zero_le _, by rw [List.drop_zero]; exact h⟩
          rcases hz with hz | hz
          · obtain ⟨o, q, nt⟩ := e1.dom z hz
            exact ⟨o, by rw [upd_ne (ne_of_none q nD)]; exact q, nt⟩
          · rw [hz]; exact ⟨_, upd_same, nt_lst⟩
        · obtain ⟨d, hd, hH, r⟩ := hY i _ H' x H2 hc (fun p hp => e'.fresh hp) hi y
          have hdr : ds.drop i = d :: ds.drop (i + 1) := by
            rw [List.drop_eq_getElem_cons hi]
            congr 1
            rw [List.getElem?_eq_getElem hi] at hd
            exact Option.some.inj hd
          rw [hdr] at p
          have st2 : Grow L H' H2 ∧ TownOk L H2 τ' := by
            rcases hH with rfl | ⟨pp, o, n, rfl⟩
            · exact ⟨Grow.refl _, t'⟩
            · exact ⟨Grow.new n, t'.new n⟩
          have e2 := e'.grow st2.1 st2.2
          have bl : ∀ {Ha Hb : Hp}, Grow L Ha Hb → ∀ a u, ¬ (B a ∨ a = D) → Ha a = some u → NT u → Hb a = some u ∧ ¬ (B a ∨ a = D) := fun gg => grow_ok (L := L) (B := fun a => B a ∨ a = D) (.inl e1.tw) (.inl e1.tr) gg
          unfold compL at p
          cases ha : asg T d (noOwn (wpR vs ρ)) with
          | none => rw [ha] at p; exact p.elim
          | some ρ1 =>
            rw [ha] at p
            have p : PostG L H E (fun (v : V) (ds : List SG.D) H' => ∃ p xs, v = .ref p ∧ Fr H p ∧ H' p = some (.lst xs) ∧ RepA L (fun a => B a ∨ a = p) H' xs ds) Q ((noex (u ρ1 τ')).bind fun k τ1 => if k then (noex (f ρ1 τ1)).bind fun y τ2 => compL T u f (noOwn (wpR vs ρ)) (ds.drop (i + 1)) (acc ++ [y]) τ2 else compL T u f (noOwn (wpR vs ρ)) (ds.drop (i + 1)) acc τ1) := p
            refine ⟨fun σ' ρ' => (EnvE L (fun a => B a ∨ a = D) σ' H2 ρ' ∧ ∀ (j : Nat) (es : Sl), ρ'[j]? = some es → isOwn es ≠ true) ∧ wipe σ' vs = wipe σ vs, fun a => B a ∨ a = D, noOwn (wpR vs ρ), d, ρ1, fun σ' ρ' j v d hj ⟨w1, w2⟩ r => ⟨w1.1.setv w1.2 r, by rw [wipe_set (hsl j hj)]; exact w2⟩, ⟨⟨e2, fun j es h hs => noOwn_ol h hs⟩, wipe_wipe⟩, r, ha, fun σ2 w2 => ⟨w2.2, ρ1, τ', _, w2.1.1, st2.2, post_noex p fun k τ2 kv H3 g3 t3 rk p3 => ?_⟩⟩
            have rk : kv = k := rk
            subst rk
            have e3 := w2.1.1.grow g3 t3
            have g13 : Grow L H1 H3 := gr.trans (st2.1.trans g3)
            have c13 : Carry B H1 (fun a => B a ∨ a = D) H3 := fun z o nb q nt => let ⟨q1, n1⟩ := hc z o nb q nt; bl (st2.1.trans g3) z o n1 q1 nt
            have hD3 : H3 D = some (.lst xs) := (st2.1.trans g3) D _ hD nt_lst ntw ntr
            cases kv with
            | false =>
              rw [if_neg Bool.false_ne_true]
              exact ⟨acc, xs, τ2, e'.grow (st2.1.trans g3) t3, t3, c13, g13, hD3, ra.imp (bl (st2.1.trans g3)), by omega, p3⟩
            | true =>
              rw [if_pos rfl]
              have p3 : PostG L H E (fun (v : V) (ds : List SG.D) H' => ∃ p xs, v = .ref p ∧ Fr H p ∧ H' p = some (.lst xs) ∧ RepA L (fun a => B a ∨ a = p) H' xs ds) Q ((noex (f ρ1 τ2)).bind fun y τ2 => compL T u f (noOwn (wpR vs ρ)) (ds.drop (i + 1)) (acc ++ [y]) τ2) := p3
              refine ⟨ρ1, τ2, _, e3, t3, post_noex p3 fun y τ4 yv H4 g4 t4 ry p4 => ?_⟩
              have g14 : Grow L H' H4 := st2.1.trans (g3.trans g4)
              have hD4 : H4 D = some (.lst xs) := g14 D _ hD nt_lst ntw ntr
              have ra4 := ra.imp (bl g14)
              have e4 := e'.grow g14 t4
              have up : ∀ z o, ¬ (B z ∨ z = D) → H4 z = some o → NT o → upd H4 D (.lst (xs ++ [yv])) z = some o ∧ ¬ (B z ∨ z = D) := fun z o nb q _ => ⟨by rw [upd_ne (fun w => nb (.inr w))]; exact q, nb⟩
              refine ⟨xs, hD4, by have := lim_lt; omega, acc ++ [y], xs ++ [yv], τ4, ?_, t4.upd hD4 (fun z w => nBD (by rw [w]; exact e1.sb z)), fun z o nb q nt => ?_, fun z o q nt h1 h2 => ?_, upd_same, (ra4.append (.cons ry .nil)).imp up, by rw [List.length_append]; simp; omega, p4⟩
              · refine ⟨.inl e1.tw, .inl e1.tr, fun z => .inl (e1.sb z), fun z hz => ?_, e4.len, fun j d' hj => ?_, fun j es hj hs => (noOwn_ol hj hs).elim⟩
                · by_cases hz' : z = D
                  · rw [hz']; exact ⟨_, upd_same, nt_lst⟩
                  · obtain ⟨o, q, nt⟩ := e4.dom z hz
                    exact ⟨o, by rw [upd_ne hz']; exact q, nt⟩
                · obtain ⟨w, q1, q2⟩ := e4.val j d' hj
                  exact ⟨w, q1, q2.imp up⟩
              · obtain ⟨q1, n1⟩ := hc z o nb q nt
                exact up z o n1 (bl g14 z o n1 q1 nt).1 nt
              · have hz : z ≠ D := ne_of_none q nD
                rw [upd_ne hz]
                exact (gr.trans g14) z o q nt h1 h2
        · rw [List.drop_length] at p
          exact p _ H' (g1.trans gr) t' ⟨D, xs, rfl, nHD, hD, ra⟩
      · exact h.elim⟩
theorem dts_nil : PTs X [] (tDT L bYes E0) := ⟨fun pins s σ H Q I w => pts_nil.run pins s σ H Q I (by obtain ⟨ρ, τ, B, e, t, h⟩ := w; exact post_ok h t rfl)⟩
theorem dts_one {cnd : Expr} (h : PT X cnd (tDT L u E0)) : PTs X [cnd] (tDT L u E0) := pts_one h
theorem df_lc {elt tg iter : Expr} {ifs : List Expr} {scope : Scope} {own : List (Str × Nat)} {T : Tg} {it : M (List D)} (hN : X.N.Nodup) (ok : BlkOk X.N X.env.scope scope own) (hi : PI X tg iter (tI L it E))
    (hg : ∀ (s : Shared) (H : Hp) (C : Addr) (cl : List (Str × Addr)) (fp : List Addr), PG (X.blk s H scope (compEnvC scope cl C X.env) fp) tg (tG L T)) (ht : ∀ (s : Shared) (H : Hp) (C : Addr) (cl : List (Str × Addr)) (fp : List Addr), PTs (X.blk s H scope (compEnvC scope cl C X.env) fp) ifs (tDT L u E0))
    (he : ∀ (s : Shared) (H : Hp) (C : Addr) (cl : List (Str × Addr)) (fp : List Addr), PE (X.blk s H scope (compEnvC scope cl C X.env) fp) elt (tD L f E0)) (hsl : ∀ i ∈ slots T, i ∈ own.map (·.2)) (hc : X.calm = true := by rfl) (hs : ∀ x, foldedSetIterable iter X.env x = pure x := by intro _; rfl) :
    PE X (.ListComp elt [⟨tg, iter, ifs, 0⟩] scope pos) (tDF L (eComp T (own.map (·.2)) it u f) E) := (pe_lc hc hN hi ok hg ht he hs).imp (lc_imp hsl)
/-- name = [..] on one line: the name's place gets the list -/
theorem ds_lc (l : List Nat) {i : Nat} {y : Str} {py spos : Pos} {elt tg iter : Expr} {ifs : List Expr} {scope : Scope} {own : List (Str × Nat)} {T : Tg} {it : M (List D)} (hN : X.N.Nodup) (ok : BlkOk X.N X.env.scope scope own) (hi : PI X tg iter (tI L it E))
    (hg : ∀ (s : Shared) (H : Hp) (C : Addr) (cl : List (Str × Addr)) (fp : List Addr), PG (X.blk s H scope (compEnvC scope cl C X.env) fp) tg (tG L T)) (ht : ∀ (s : Shared) (H : Hp) (C : Addr) (cl : List (Str × Addr)) (fp : List Addr), PTs (X.blk s H scope (compEnvC scope cl C X.env) fp) ifs (tDT L u E0))
    (he : ∀ (s : Shared) (H : Hp) (C : Addr) (cl : List (Str × Addr)) (fp : List Addr), PE (X.blk s H scope (compEnvC scope cl C X.env) fp) elt (tD L f E0)) (hsl : ∀ i ∈ slots T, i ∈ own.map (·.2))
    (hsw : swapsWith (.ListComp elt [⟨tg, iter, ifs, 0⟩] scope pos) (some (.Name y py)) spos.line X.env = pure true) (hy : X.N[i]? = some y := by rfl) (hyl : X.env.scope.names.lookup y = some .local := by rfl) (hc : X.calm = true := by rfl) (hs : ∀ x, foldedSetIterable iter X.env x = pure x := by intro _; rfl) :
    PS X (.Assign [.Name y py] (.ListComp elt [⟨tg, iter, ifs, 0⟩] scope pos) spos) (tS L (sAsg (.nm i) l (eF (eComp T (own.map (·.2)) it u f))) E) :=
  (ps_setLc hc hN hy hyl hsw hi ok hg ht he hs).imp fun De σ H ⟨ρ, τ, B0, H0, e, t, q⟩ => lc_imp hsl σ H _ ⟨fz l ρ, τ, _, (e.fz l).env, t, by
    unfold sAsg eF at q
    cases hr : eComp T (own.map (·.2)) it u f (fz l ρ) τ with
    | ok ds τ' =>
      rw [hr] at q
      intro v H' gr t' r
      obtain ⟨p, xs, rfl, n, hp, ra⟩ := r
      have e' := (e.fz l).more gr t'
      exact q _ H' (e'.set (.lst ((e.fz l).env.freshF n) hp (ra.imp fun a u nb e1 _ => ⟨e1, fun z => nb (.inl z)⟩))) t'
    | ex c τ' => rw [hr] at q; exact fun H' C gr t' qq => q H' C (e.grow.trans gr) t' qq
    | bad => rw [hr] at q; exact q⟩
theorem ds_ownLc (l : List Nat) {i : Nat} {y : Str} {py spos : Pos} {elt tg iter : Expr} {ifs : List Expr} {scope : Scope} {own : List (Str × Nat)} {T : Tg} {it : M (List D)} (hN : X.N.Nodup) (ok : BlkOk X.N X.env.scope scope own) (hi : PI X tg iter (tI L it E))
    (hg : ∀ (s : Shared) (H : Hp) (C : Addr) (cl : List (Str × Addr)) (fp : List Addr), PG (X.blk s H scope (compEnvC scope cl C X.env) fp) tg (tG L T)) (ht : ∀ (s : Shared) (H : Hp) (C : Addr) (cl : List (Str × Addr)) (fp : List Addr), PTs (X.blk s H scope (compEnvC scope cl C X.env) fp) ifs (tDT L u E0))
    (he : ∀ (s : Shared) (H : Hp) (C : Addr) (cl : List (Str × Addr)) (fp : List Addr), PE (X.blk s H scope (compEnvC scope cl C X.env) fp) elt (tD L f E0)) (hsl : ∀ i ∈ slots T, i ∈ own.map (·.2))
    (hsw : swapsWith (.ListComp elt [⟨tg, iter, ifs, 0⟩] scope pos) (some (.Name y py)) spos.line X.env = pure true) (hy : X.N[i]? = some y := by rfl) (hyl : X.env.scope.names.lookup y = some .local := by rfl) (hc : X.calm = true := by rfl) (hs : ∀ x, foldedSetIterable iter X.env x = pure x := by intro _; rfl) :
    PS X (.Assign [.Name y py] (.ListComp elt [⟨tg, iter, ifs, 0⟩] scope pos) spos) (tS L (sOwn i l (eComp T (own.map (·.2)) it u f)) E) :=
  (ps_setLc hc hN hy hyl hsw hi ok hg ht he hs).imp fun De σ H ⟨ρ, τ, B0, H0, e, t, q⟩ => lc_imp hsl σ H _ ⟨fz l ρ, τ, _, (e.fz l).env, t, by
    unfold sOwn at q
    split at q
    · rename_i hl
      exact postS_bind e q fun d τ' v H' gr t' r hh => by
        obtain ⟨p, xs, rfl, n, hp, ra⟩ := r
        exact hh _ H' ((e.fz l).setOwn (by rw [fz_length]; exact hl) gr t' n hp ra) t'
    · exact q.elim⟩
end
end SG

/-! SgI: enumerate, zip, all, tuple(), list(), dicts with text keys. -/
namespace SG
open PySem PySem.Spec PyProof.Rows L2

/-! ### enumerate of a tuple -/
section
open PySem.AutoSeq1 (wpAny_loadPart')
theorem meets_enumerate_newT (l : Addr) (items : Array Value) (n : Nat) (dct : Option Addr) (sl : Array (Option Value)) :
    Meets (Builtin.«enumerate.__new__» ⟨[.type "enumerate", .ref l], []⟩) (fun _ R s => s.heap.get? l = some { cls := .type "tuple", dict := dct, data := .seq items n, slots := sl } ∧
      R (.ok (.ret (.ref (s.heap.push { cls := .type "tuple_iterator", data := .fields #[.ref l, .int 0 0] }).objs.size)))
        { s with heap := (s.heap.push { cls := .type "tuple_iterator", data := .fields #[.ref l, .int 0 0] }).push { cls := .type "enumerate", data := .fields #[.none, .bool false, .ref s.heap.objs.size, rawInt 0, .none, .none] } }) :=
  .of_wp fun prog w A R s h => by
    obtain ⟨hp, g, d, tk, os⟩ := s; obtain ⟨hl, h⟩ := h
    have hsub := sub_enumerate
    have hL : Heap.IsTuple (Shared.heap ⟨hp, g, d, tk, os⟩) l items := ⟨_, hl, rfl, n, rfl⟩
    wp_walk using wpAny_loadPart' hl
    refine wpAny_stack_any fun st => wpAny_pure ?_
    split
    · rename_i c _ _ _ _ _
      cases (c == Value.type "enumerate")
      · wp_walk using wpAny_loadPart' hl, wpAny_pyIter_tuple hL
        exact ⟨_, rfl, h⟩
      · wp_walk using wpAny_loadPart' hl, wpAny_pyIter_tuple hL
        exact ⟨_, rfl, h⟩
    · wp_walk using wpAny_loadPart' hl, wpAny_pyIter_tuple hL
      exact ⟨_, rfl, h⟩
end
section
variable {prog : Program} {w : World} {A : Around} {E : Value → Shared → Prop} {s : Shared}
theorem call_enumerate_tuple {l : Addr} {items : Array Value} {Q : Value → Shared → Prop} (hL : s.heap.IsTuple l items)
    (h : ∀ h', IsEnum h' (s.heap.objs.size + 1) s.heap.objs.size 0 .none → h'.IsTupleIter s.heap.objs.size l 0 → h'.objs.size = s.heap.objs.size + 2 →
      (∀ b o, s.heap.get? b = some o → h'.get? b = some o) → Q (.ref (s.heap.objs.size + 1)) { s with heap := h' }) :
    wpAny (model prog w) A (call (.type "enumerate") [.ref l]) Q E s := by
  obtain ⟨⟨c, dct, dt, sl⟩, hl, hc, n, hd⟩ := hL
  replace hc : c = .type "tuple" := hc
  replace hd : dt = .seq items n := hd
  subst hc hd
  refine callType_new F.called_enumerate (by decide) (F.typeCall_enumerate_1 _) (F.newCall_enumerate_1 _) (fun obj => F.args_object_init_2 obj _) F.entry_enumerate_new
    (meets_enumerate_newT l items n dct sl) ⟨hl, ?_⟩
  have hz : (s.heap.push { cls := .type "tuple_iterator", data := .fields #[.ref l, .int 0 0] }).objs.size = s.heap.objs.size + 1 := Heap.size_push ..
  show _ ∧ _
  rw [hz]
  have he : IsEnum ((s.heap.push { cls := .type "tuple_iterator", data := .fields #[.ref l, .int 0 0] }).push
      { cls := .type "enumerate", data := .fields #[.none, .bool false, .ref s.heap.objs.size, rawInt 0, .none, .none] }) (s.heap.objs.size + 1) s.heap.objs.size 0 .none := by
    have := Heap.get?_push_size (s.heap.push { cls := .type "tuple_iterator", data := .fields #[.ref l, .int 0 0] })
      (o := { cls := .type "enumerate", data := .fields #[.none, .bool false, .ref s.heap.objs.size, rawInt 0, .none, .none] }) rfl
    rw [hz] at this; exact this
  refine ⟨⟨_, he, rfl⟩, h _ he ⟨_, Heap.get?_push_of_some _ (Heap.get?_push_size _ rfl), rfl, rfl⟩ (by rw [Heap.size_push, hz]) fun b o x => Heap.get?_push_of_some _ (Heap.get?_push_of_some _ x)⟩
end
/-- the tuple at a, the items in new pairs with their numbers -/
def ItEt (K : PySem.W.Frag) (a : Addr) : It :=
  ⟨fun i H => ∃ xs x, SqT K H a xs ∧ xs[i]? = some x, fun i H v H' => ∃ T x, v = .ref T ∧ H T = none ∧ H' = upd H T (.tup [.int (i : Nat), x]) ∧ ∀ xs, SqT K H a xs → xs[i]? = some x, fun i H => ∃ xs, SqT K H a xs ∧ xs.length ≤ i⟩
theorem turn_enumT {P : Program} {w : World} {K : PySem.W.Frag} {elts : List Expr} {kk : Nat} {tpos : Pos} (a e it : Addr) : Turn P w K (.Tuple elts kk tpos) (ItEt K a) [e, it] e (fun i h => (∃ old, IsEnum h e it i old) ∧ h.IsTupleIter it a i ∧ e ≠ it) where
  mem := by simp
  obj := fun i h st b hb => by
    obtain ⟨⟨old, he⟩, ⟨o, ho, hc, hd⟩, _⟩ := st
    have e' : b = e ∨ b = it := by simpa using hb
    rcases e' with z | z
    · rw [z]; exact ⟨_, he, fun v q => nomatch q⟩
    · rw [z]; exact ⟨o, ho, fun v q => by rw [hd] at q; cases q⟩
  keep := fun i h h' st k => let ⟨⟨old, he⟩, hi, hne⟩ := st; ⟨⟨old, k e (by simp) _ he⟩, hi.at fun o q => k it (by simp) o q, hne⟩
  item := by
    intro X hP hw hK hc i pins s σ H E I hf st hg
    subst hP hw hK
    obtain ⟨⟨old, he⟩, hit, hne⟩ := st
    obtain ⟨xs, x, hq, hx⟩ := hg
    obtain ⟨its, rv, p, hz⟩ := I.tuple hq
    have hl := rv.length
    have hxl := (List.getElem?_eq_some_iff.mp hx).1
    obtain ⟨oa, hoa, hca, _⟩ := id p
    have nae : a ≠ e := fun z => by
      rw [z] at hoa
      have := hoa.symm.trans he
      injection this with this
      rw [this] at hca
      exact absurd (show Value.type "enumerate" = .type "tuple" from hca) (by decide)
    have nai : a ≠ it := fun z => by
      obtain ⟨oi, hoi, hci, _⟩ := id hit
      rw [z] at hoa
      have := hoa.symm.trans hoi
      injection this with this
      rw [this, hci] at hca
      exact absurd hca (by decide)
    have hel : e < s.heap.objs.size := Heap.lt_size he
    have hil : it < s.heap.objs.size := by obtain ⟨_, q, _⟩ := hit; exact Heap.lt_size q
    refine wpAny_pyNext_enum_itemD (Draws.tuple (A := X.A.in1) (I.ok.hd hc) it a nai its.toArray) he ⟨hit, (show s.heap.IsTuple a its.toArray from p)⟩ (by rw [List.size_toArray]; omega) hne (by simp [hne, Ne.symm nae]) fun u h' tk hu ho hst' hT hsz hk => ?_
    obtain ⟨hit', _⟩ := hst'
    have ru : RelV x u := by
      obtain ⟨u', hu', r'⟩ := rv.get hx
      have hu : its.toArray[i]? = some u := hu
      have : its[i]? = some u := by simpa using hu
      rw [this] at hu'
      cases hu'
      exact r'
    refine ⟨_, rfl, wpAny_letOwnedTupleGo_enum (s := { s with heap := h', toks := tk + 1 }) ho fun h'' he' sb => ?_⟩
    have hT2 : h''.get? s.heap.objs.size = some { cls := .type "tuple", data := .seq #[.int i tk, u] } := (sb.2 _ (Nat.ne_of_gt hel)).trans hT
    have new : ObjOk X.prog X.w (upd H s.heap.objs.size (.tup [.int (i : Nat), x])) h'' s.heap.objs.size (.tup [.int (i : Nat), x]) :=
      ⟨by show 2 ≤ sizeLine; decide, [.int i tk, u], .cons ⟨_, rfl⟩ (.cons ru .nil), ⟨_, hT2, rfl, _, rfl⟩⟩
    have I1 : Inv X pins σ (upd H s.heap.objs.size (.tup [.int (i : Nat), x])) { s with heap := h'', toks := tk + 1 } :=
      I.turnedNew (ch := [e, it]) (fun b ob hb q => (sb.2 b (fun z => hb (by simp [z]))).trans (hk b ob (fun z => hb (by simp [z])) (fun z => hb (by simp [z])) q)) hf (Nat.le_refl _) new
    refine ⟨.ref s.heap.objs.size, _, I1, rfl, ⟨_, x, rfl, I.hok.fresh (Nat.le_refl _), rfl, fun ys hy => by rw [I.tuple_inj hy hq]; exact hx⟩, ⟨⟨u, ?_⟩, hit'.at fun o q => (sb.2 it (Ne.symm hne)).trans q, hne⟩, fun b hb => ?_⟩
    · have e1 : ((i + 1 : Nat) : Int) = (i : Int) + 1 := by omega
      rw [e1]; exact he'
    · have hb' : b < s.heap.objs.size := by
        have e' : b = e ∨ b = it := by simpa using hb
        rcases e' with z | z
        · rw [z]; exact hel
        · rw [z]; exact hil
      rw [upd_ne (Nat.ne_of_lt hb')]
      exact (hf b hb).1
  done := by
    intro X hP hw hK hc i pins s σ H E I hf st hg
    subst hP hw hK
    obtain ⟨⟨old, he⟩, hit, hne⟩ := st
    obtain ⟨xs, hq, hx⟩ := hg
    obtain ⟨its, rv, p, hz⟩ := I.tuple hq
    obtain ⟨f0, f1, f2, f3, f4, f5⟩ := hf it (by simp)
    have hl := rv.length
    have hT : s.TypeIs (.ref e) "enumerate" := ⟨_, he, rfl⟩
    unfold pyNext
    refine wpAny_bind (wpAny_attempt (wpAny_callSpecial?_slot (name := Str.ofString "__next__") hT F.slot_enumerate_next
      (wpAny_call_entry F.slot_enumerate_next hT F.entry_enumerate_next ?_ (F.args_enumerate_next_1 _))))
    show wpAny _ _ (field (.ref e) 2 >>= _) _ _ _
    refine wpAny_bind (wpAny_field he rfl (x := .ref it) rfl ?_)
    refine wpAny_bind (wpAny_nextOf_tuple_end (A := X.A.in1) (I.ok.hd hc) hit (show s.heap.IsTuple a its.toArray from p) (by simp; omega) fun h' x he' hx' => ?_)
    obtain ⟨o, ho, hc'⟩ := hx'
    refine wpAny_bind (wpAny_isInstance (T := "StopIteration") (b := true) ⟨o, ho, hc'⟩ isSubtype_stop ?_)
    exact wpAny_pure ⟨rfl, I.turned (t' := s.toks) (fun b o hb q => he' b o hb q) f0 f1 f3 f4 f5⟩
  self := fun A i s Q E st h => let ⟨⟨_, he⟩, _⟩ := st; wpAny_pyIter_enum he h
def iEnumA (K : PySem.W.Frag) (ta : TA) : TI := fun σ H R => ta σ H fun vs H1 => ∃ a xs, vs = [.ref a] ∧ ((SqL K H1 a xs ∧ R (Ite K a) H1) ∨ (SqT K H1 a xs ∧ R (ItEt K a) H1))
theorem pi_enumA {X : Cx} {e : Expr} {ta : TA} {p pos tpos : Pos} {elts : List Expr} {kk : Nat} (hg : Gl X "enumerate") (hm : X.mg "enumerate" = none) (ha : PA X [e] ta) (hs : starEach [e] X.env = [(false, eval e X.env)] := by rfl) :
    PI X (.Tuple elts kk tpos) (.Call (.Name "enumerate" p) [e] [] pos) (iEnumA X.K ta) := by
  refine ⟨fun pins s σ H R I h => ?_⟩
  refine Call_ (ld_blt I hg hm boot_enumerate (PyProof.Rows.callWith_type1 (thn (ha.run pos pins s σ H _ I h) fun us s1 ⟨vs, H1, I1, r1, q1⟩ => ?_) hs rfl))
  obtain ⟨a, xs, ex, hq⟩ := q1
  subst ex
  have fp : ∀ b ∈ [s1.heap.objs.size + 1, s1.heap.objs.size], FpOk X pins H1 b := fun b hb => by
    have e' : b = s1.heap.objs.size + 1 ∨ b = s1.heap.objs.size := by simpa using hb
    have hle : s1.heap.objs.size ≤ b := by
      rcases e' with z | z
      · rw [z]; exact Nat.le_add_right _ _
      · rw [z]; exact Nat.le_refl _
    exact I1.fpOk hle (I1.hok.fresh hle)
  cases r1 with
  | cons r rr =>
    cases rr
    cases r
    rcases hq with ⟨hq, q⟩ | ⟨hq, q⟩
    · obtain ⟨its, rv, p', hz⟩ := I1.list hq
      refine call_enumerate_list p'.isList fun h' he hit hsz hk => wpAny_pyIter_enum he ?_
      have I2 : Inv X pins σ H1 { s1 with heap := h' } := I1.kept (t' := s1.toks) hk
      exact ⟨s1.heap.objs.size + 1, [s1.heap.objs.size + 1, s1.heap.objs.size], _, _, H1, rfl, I2, turn_enum a (s1.heap.objs.size + 1) s1.heap.objs.size, ⟨⟨.none, he⟩, hit, Nat.succ_ne_self _⟩, fp, q⟩
    · obtain ⟨its, rv, p', hz⟩ := I1.tuple hq
      refine call_enumerate_tuple (show s1.heap.IsTuple a its.toArray from p') fun h' he hit hsz hk => wpAny_pyIter_enum he ?_
      have I2 : Inv X pins σ H1 { s1 with heap := h' } := I1.kept (t' := s1.toks) hk
      exact ⟨s1.heap.objs.size + 1, [s1.heap.objs.size + 1, s1.heap.objs.size], _, _, H1, rfl, I2, turn_enumT a (s1.heap.objs.size + 1) s1.heap.objs.size, ⟨⟨.none, he⟩, hit, Nat.succ_ne_self _⟩, fp, q⟩

section
variable {X : Cx} {L : LC} {B B' B0 : Addr → Prop} {σ : St} {H H0 H' H1 : Hp} {ρ ρ' : Rho} {τ τ' : S} {E : XK} {De De' : Ends} {a b c : Expr} {pos : Pos} {f g h : M D} {u : M Bool}
theorem walk_enumT {K : PySem.W.Frag} {p : Addr} {xs : List V} : Walk (ItEt K p) xs.length (fun H => SqT K H p xs) (YPair (fun i => some (.int (i : Nat))) (fun i => xs[i]?)) := by
  refine ⟨fun i _ hi q => ⟨xs, xs[i], q, by simp [hi]⟩, fun _ q => ⟨xs, q, Nat.le_refl _⟩, fun i H v H' _ q y => ?_⟩
  obtain ⟨T, x, h1, h2, h3, h4⟩ := y
  exact ⟨T, .int (i : Nat), x, h1, h2, h3, rfl, h4 xs q⟩
theorem walk_zipT {K : PySem.W.Frag} {p q : Addr} {xs ys : List V} {n : Nat} (hn : n = min xs.length ys.length) : Walk (RZ.ItzT K p q) n (fun H => SqT K H p xs ∧ SqT K H q ys) (YPair (fun i => xs[i]?) (fun i => ys[i]?)) := by
  subst hn
  refine ⟨fun i _ hi q => ?_, fun _ q => ⟨xs, ys, q.1, q.2, by omega⟩, fun i H v H' _ q y => ?_⟩
  · have h1 : i < xs.length := by omega
    have h2 : i < ys.length := by omega
    exact ⟨xs, ys, xs[i], ys[i], q.1, q.2, by simp [h1], by simp [h2]⟩
  · obtain ⟨T, x, z, h1, h2, h3, h4, h5⟩ := y
    exact ⟨T, x, z, h1, h2, h3, h4 xs q.1, h5 ys q.2⟩
/-- pairs, new ones -/
def pairsD (xs ys : List D) : List D := (xs.zip ys).map fun p => .tuple [p.1, p.2]
def enumD (ds : List D) : List D := pairsD ((List.range ds.length).map fun i => .int (i : Nat)) ds
theorem walkD_pair {J : It} {G : Hp → Prop} {xs ys : List V} {ds es : List D} {fx : Nat → Option V} (w : Walk J (pairsD ds es).length G (YPair fx (fun i => ys[i]?))) (hG : ∀ B' H', Carry B H B' H' → G H') (hx : ∀ i x, fx i = some x → xs[i]? = some x) (rx : RepA L B H xs ds) (ry : RepA L B H ys es) :
    WalkD L B H J (pairsD ds es) := by
  refine ⟨G, _, w, hG, fun i B' H' v H2 hc nf hi y => ?_⟩
  obtain ⟨T, x, y, rfl, n, rfl, h1, h2⟩ := y
  obtain ⟨d, hd, r1⟩ := rx.getV (hx i x h1)
  obtain ⟨e, he, r2⟩ := ry.getV h2
  refine ⟨.tuple [d, e], ?_, .inr ⟨T, _, n, rfl⟩, .tup (nf T n) upd_same ?_⟩
  · unfold pairsD
    rw [List.getElem?_map, (List.getElem?_zip_eq_some (z := (d, e))).mpr ⟨hd, he⟩]
    rfl
  · have up : Carry B' H' B' (upd H' T (.tup [x, y])) := fun z o nb q _ => ⟨by rw [upd_ne (ne_of_none q n)]; exact q, nb⟩
    exact .cons ((r1.imp hc).imp up) (.cons ((r2.imp hc).imp up) .nil)
theorem repA_range (n : Nat) : RepA L B H ((List.range n).map fun i => V.int (i : Nat)) ((List.range n).map fun i => PyData.int (i : Nat)) := by
  have : ∀ l : List Nat, RepA L B H (l.map fun i => V.int (i : Nat)) (l.map fun i => PyData.int (i : Nat)) := by
    intro l
    induction l with
    | nil => exact .nil
    | cons a l ih => exact .cons (.int _) ih
  exact this _
def dEnum : D → Option (List D)
  | .list ds => some (enumD ds)
  | .tuple ds => some (enumD ds)
  | _ => none
def iEnum (f : M D) : M (List D) := fun ρ τ => (f ρ τ).bind fun d τ' => opt (dEnum d) τ'
theorem enumD_length (ds : List D) : (enumD ds).length = ds.length := by simp [enumD, pairsD]
theorem di_enum (hL : LX X L) {p tpos : Pos} {elts : List Expr} {kk : Nat} (hm : X.mg "enumerate" = none) (ha : PE X a (tD L f E)) (hg : Gl X "enumerate" := by rfl) (hst : starEach [a] X.env = (false, eval a X.env) :: starEach [] X.env := by rfl) (hs : starEach [a] X.env = [(false, eval a X.env)] := by rfl) :
    PI X (.Tuple elts kk tpos) (.Call (.Name "enumerate" p) [a] [] pos) (tI L (iEnum f) E) :=
  (pi_enumA hg hm (pa_cons ha pa_nil hst) hs).imp fun σ H R ⟨ρ, τ, B, e, t, q⟩ => tD_bind (k := fun d _ τ' => opt (dEnum d) τ') e t q fun d τ1 v H1 e1 g1 t1 r1 h1 => by
    obtain ⟨ds, hd, q⟩ := post_opt h1
    show ∃ a xs, [v] = [V.ref a] ∧ ((SqL X.K H1 a xs ∧ R (Ite X.K a) H1) ∨ (SqT X.K H1 a xs ∧ R (ItEt X.K a) H1))
    rw [hL.k]
    have fr : ∀ {n : Nat} (i : Nat) (x : V), (if i < n then some (V.int (i : Nat)) else none) = some x → ((List.range n).map fun i => V.int (i : Nat))[i]? = some x := fun {n} i x h => by
      split at h
      · rename_i hi
        cases h
        simp [hi]
      · cases h
    cases r1 with
    | @lst p xs es nb eH ra =>
      cases hd
      refine ⟨_, xs, rfl, .inl ⟨.of eH, post_ok q t1 (walkD_pair (fx := fun i => if i < es.length then some (V.int (i : Nat)) else none) (ys := xs) (G := fun H => SqL L.K H p xs) ?_ (fun B' H' hc => .of (hc _ _ nb eH nt_lst).1) fr (repA_range _) ra)⟩⟩
      have e : (pairsD ((List.range es.length).map fun i => PyData.int (i : Nat)) es).length = xs.length := by rw [ra.length]; exact enumD_length es
      rw [e]
      refine walk_enum.mono (fun H h => h) fun i H x H' hi _ y => ?_
      obtain ⟨T, x, y, h1, h2, h3, h4, h5⟩ := y
      exact ⟨T, x, y, h1, h2, h3, by show (if i < es.length then some (V.int (i : Nat)) else none) = some x; rw [if_pos (by rw [← ra.length]; exact hi)]; exact h4, h5⟩
    | @tup p xs es nb eH ra =>
      cases hd
      refine ⟨_, xs, rfl, .inr ⟨.of eH, post_ok q t1 (walkD_pair (fx := fun i => if i < es.length then some (V.int (i : Nat)) else none) (ys := xs) (G := fun H => SqT L.K H p xs) ?_ (fun B' H' hc => .of (hc _ _ nb eH nt_tup).1) fr (repA_range _) ra)⟩⟩
      have e : (pairsD ((List.range es.length).map fun i => PyData.int (i : Nat)) es).length = xs.length := by rw [ra.length]; exact enumD_length es
      rw [e]
      refine walk_enumT.mono (fun H h => h) fun i H x H' hi _ y => ?_
      obtain ⟨T, x, y, h1, h2, h3, h4, h5⟩ := y
      exact ⟨T, x, y, h1, h2, h3, by show (if i < es.length then some (V.int (i : Nat)) else none) = some x; rw [if_pos (by rw [← ra.length]; exact hi)]; exact h4, h5⟩
    | @ktup p xs es o its n k c d z vs ra =>
      cases hd
      refine ⟨_, xs, rfl, .inr ⟨.inr ⟨_, _, _, k, c, d, z, vs⟩, post_ok q t1 (walkD_pair (fx := fun i => if i < es.length then some (V.int (i : Nat)) else none) (ys := xs) (G := fun H => SqT L.K H p xs) ?_ (fun B' H' hc => .inr ⟨_, _, _, k, c, d, z, vs⟩) fr (repA_range _) ra)⟩⟩
      have e : (pairsD ((List.range es.length).map fun i => PyData.int (i : Nat)) es).length = xs.length := by rw [ra.length]; exact enumD_length es
      rw [e]
      refine walk_enumT.mono (fun H h => h) fun i H x H' hi _ y => ?_
      obtain ⟨T, x, y, h1, h2, h3, h4, h5⟩ := y
      exact ⟨T, x, y, h1, h2, h3, by show (if i < es.length then some (V.int (i : Nat)) else none) = some x; rw [if_pos (by rw [← ra.length]; exact hi)]; exact h4, h5⟩
    | _ => cases hd
/-- zip of two lists, of two tuples -/
def dZip : D → D → Option (List D)
  | .list xs, .list ys => some (pairsD xs ys)
  | .tuple xs, .tuple ys => some (pairsD xs ys)
  | _, _ => none
def iZip (f g : M D) : M (List D) := fun ρ τ => (f ρ τ).bind fun d τ1 => (g ρ τ1).bind fun e τ2 => opt (dZip d e) τ2
theorem pairsD_length (xs ys : List D) : (pairsD xs ys).length = min xs.length ys.length := by simp [pairsD]
theorem sqT_stay {K : PySem.W.Frag} {p : Addr} {ds : List D} (r : Rep L B H (.ref p) (.tuple ds)) : ∃ xs, RepA L B H xs ds ∧ SqT L.K H p xs ∧ ∀ B' H', Carry B H B' H' → SqT L.K H' p xs := by
  cases r with
  | tup nb e ra => exact ⟨_, ra, .of e, fun B' H' hc => .of (hc _ _ nb e nt_tup).1⟩
  | ktup k c d z vs ra => exact ⟨_, ra, .inr ⟨_, _, _, k, c, d, z, vs⟩, fun B' H' hc => .inr ⟨_, _, _, k, c, d, z, vs⟩⟩
theorem di_zip (hL : LX X L) {p tpos : Pos} {elts : List Expr} {kk : Nat} (hm : X.mg "zip" = none) (ha : PE X a (tD L f E)) (hb : PE X b (tD L g E)) (hg : Gl X "zip" := by rfl) (hst : starEach [a, b] X.env = (false, eval a X.env) :: starEach [b] X.env := by rfl) (hst2 : starEach [b] X.env = (false, eval b X.env) :: starEach [] X.env := by rfl) (hpl : (backTo pos (starEach [b] X.env)).any (·.1) = false := by rfl) :
    PI X (.Tuple elts kk tpos) (.Call (.Name "zip" p) [a, b] [] pos) (tI L (iZip f g) E) :=
  (RZ.pi_zipA hg hm (pa_cons ha (pa_cons hb pa_nil hst2) hst) hst hpl).imp fun σ H R ⟨ρ, τ, B, e, t, q⟩ => tD_bind (k := fun d ρ τ1 => (g ρ τ1).bind fun e τ2 => opt (dZip d e) τ2) e t q fun d τ1 v H1 e1 g1 t1 r1 h1 =>
    tD_bind (k := fun d2 _ τ2 => opt (dZip d d2) τ2) e1 t1 h1 fun d2 τ2 v2 H2 e2 g2 t2 r2 h2 => by
      obtain ⟨ds, hd, q⟩ := post_opt h2
      have r1' := e1.rep g2 r1
      show ∃ a b xs ys, [v, v2] = [V.ref a, V.ref b] ∧ ((SqL X.K H2 a xs ∧ SqL X.K H2 b ys ∧ R (Itz X.K a b) H2) ∨ (SqT X.K H2 a xs ∧ SqT X.K H2 b ys ∧ R (RZ.ItzT X.K a b) H2))
      rw [hL.k]
      cases d with
      | list xs =>
        cases d2 with
        | list ys =>
          cases hd
          obtain ⟨p1, vs1, rfl, nb1, s1, ra1⟩ := r1'.lstInv
          obtain ⟨p2, vs2, rfl, nb2, s2, ra2⟩ := r2.lstInv
          refine ⟨p1, p2, vs1, vs2, rfl, .inl ⟨.of s1, .of s2, post_ok q t2 (walkD_pair (xs := vs1) (fx := fun i => vs1[i]?) (walk_zip ?_) (fun B' H' hc => ⟨.of (hc _ _ nb1 s1 nt_lst).1, .of (hc _ _ nb2 s2 nt_lst).1⟩) (fun i x h => h) ra1 ra2)⟩⟩
          rw [pairsD_length, ra1.length, ra2.length]
        | _ => cases hd
      | tuple xs =>
        cases d2 with
        | tuple ys =>
          cases hd
          obtain ⟨p1, _, rfl, _, _⟩ := id r1'.tupInv
          obtain ⟨p2, _, rfl, _, _⟩ := id r2.tupInv
          obtain ⟨vs1, ra1, s1, st1⟩ := sqT_stay (K := L.K) r1'
          obtain ⟨vs2, ra2, s2, st2⟩ := sqT_stay (K := L.K) r2
          refine ⟨p1, p2, vs1, vs2, rfl, .inr ⟨s1, s2, post_ok q t2 (walkD_pair (xs := vs1) (fx := fun i => vs1[i]?) (walk_zipT ?_) (fun B' H' hc => ⟨st1 B' H' hc, st2 B' H' hc⟩) (fun i x h => h) ra1 ra2)⟩⟩
          rw [pairsD_length, ra1.length, ra2.length]
        | _ => cases hd
      | _ => cases d2 <;> cases hd

/-! ### all, tuple(), list() -/
def dBs : List D → Option (List Bool)
  | [] => some []
  | .bool b :: r => (dBs r).map fun l => b :: l
  | _ => none
def dAll : D → Option D
  | .list ds => (dBs ds).map fun bs => .bool (bs.all id)
  | _ => none
theorem RepA.bls {vs : List V} {ds : List D} {bs : List Bool} (r : RepA L B H vs ds) (h : dBs ds = some bs) : vs = bs.map V.bl := by
  induction ds generalizing vs bs with
  | nil => cases r; cases h; rfl
  | cons d ds ih =>
    cases r with
    | cons r1 r2 =>
      cases d with
      | bool b =>
        have h : (dBs ds).map (fun l => b :: l) = some bs := h
        cases q : dBs ds with
        | none => rw [q] at h; cases h
        | some l =>
          rw [q] at h
          cases h
          rw [r1.blInv, ih r2 q]
          rfl
      | _ => cases h
theorem de_all (hL : LX X L) {p : Pos} (hm : X.mg "all" = none) (ha : PE X a (tD L f E)) (hc : X.calm = true := by rfl) (hg : Gl X "all" := by rfl) (he : starEach [a] X.env = (false, eval a X.env) :: starEach [] X.env := by rfl) (hb : bootBuiltins "all" = some (.builtin "all") := by decide +kernel) :
    PE X (.Call (.Name "all" p) [a] [] pos) (tD L (e1 dAll f) E) :=
  (pe_callB (cr_all hc) hg hm hb (pa_cons ha pa_nil he) (by decide) (by decide) he rfl).imp fun σ H Q ⟨ρ, τ, B, e, t, h⟩ => tD_bind (k := fun a _ τ1 => opt (dAll a) τ1) e t h fun d τ1 v H1 e1 g1 t1 r1 h1 => by
    obtain ⟨z, hz, q⟩ := post_opt h1
    show rAll X.K [v] H1 Q
    rw [hL.k]
    cases d with
    | list ds =>
      have hz : (dBs ds).map (fun bs => PyData.bool (bs.all id)) = some z := hz
      cases qb : dBs ds with
      | none => rw [qb] at hz; cases hz
      | some bs =>
        rw [qb] at hz
        cases hz
        obtain ⟨a, ys, rfl, nb, sq, ra⟩ := r1.lstInv
        have := ra.bls qb
        subst this
        exact ⟨a, bs, rfl, .of sq, post_ok q t1 (.bl _)⟩
    | _ => cases hz
def dTuple : D → Option D
  | .list ds => some (.tuple ds)
  | .tuple ds => some (.tuple ds)
  | _ => none
theorem de_tuple (hL : LX X L) {p : Pos} (hm : X.mg "tuple" = none) (ha : PE X a (tD L f E)) (hg : Gl X "tuple" := by rfl) (he : starEach [a] X.env = (false, eval a X.env) :: starEach [] X.env := by rfl) (hb : bootBuiltins "tuple" = some (.type "tuple") := by decide +kernel) :
    PE X (.Call (.Name "tuple" p) [a] [] pos) (tD L (e1 dTuple f) E) :=
  (pe_callTy call_tuple_of hg hm hb (pa_cons ha pa_nil he) (by decide) (by decide) he rfl).imp fun σ H Q ⟨ρ, τ, B, e, t, h⟩ => tD_bind (k := fun a _ τ1 => opt (dTuple a) τ1) e t h fun d τ1 v H1 e1 g1 t1 r1 h1 => by
    obtain ⟨z, hz, q⟩ := post_opt h1
    show ∃ p ys, [v] = [V.ref p] ∧ ((SqL X.K H1 p ys ∧ ∀ l, H1 l = none → Q (.ref l) (upd H1 l (.tup ys))) ∨ (SqT X.K H1 p ys ∧ Q (.ref p) H1))
    rw [hL.k]
    cases d with
    | list ds =>
      cases hz
      obtain ⟨a, ys, rfl, nb, sq, ra⟩ := r1.lstInv
      exact ⟨a, ys, rfl, .inl ⟨.of sq, fun l n => post_new q t1 n (.tup (e1.fresh n) upd_same (e1.repA (Grow.new n) ra))⟩⟩
    | tuple ds =>
      cases hz
      obtain ⟨a, ys, rfl, sq, ra⟩ := id r1.tupInv
      exact ⟨a, ys, rfl, .inr ⟨sq, post_ok q t1 r1⟩⟩
    | _ => cases hz
def dList : D → Option D
  | .list ds => some (.list ds)
  | .tuple ds => some (.list ds)
  | _ => none
theorem de_list (hL : LX X L) {p : Pos} (hm : X.mg "list" = none) (ha : PE X a (tD L f E)) (hg : Gl X "list" := by rfl) (he : starEach [a] X.env = (false, eval a X.env) :: starEach [] X.env := by rfl) (hb : bootBuiltins "list" = some (.type "list") := by decide +kernel) :
    PE X (.Call (.Name "list" p) [a] [] pos) (tD L (e1 dList f) E) :=
  (pe_callTy call_list_of hg hm hb (pa_cons ha pa_nil he) (by decide) (by decide) he rfl).imp fun σ H Q ⟨ρ, τ, B, e, t, h⟩ => tD_bind (k := fun a _ τ1 => opt (dList a) τ1) e t h fun d τ1 v H1 e1 g1 t1 r1 h1 => by
    obtain ⟨z, hz, q⟩ := post_opt h1
    show ∃ p ys, [v] = [V.ref p] ∧ (SqL X.K H1 p ys ∨ SqT X.K H1 p ys) ∧ ∀ l, H1 l = none → Q (.ref l) (upd H1 l (.lst ys))
    rw [hL.k]
    cases d with
    | list ds =>
      cases hz
      obtain ⟨a, ys, rfl, nb, sq, ra⟩ := r1.lstInv
      exact ⟨a, ys, rfl, .inl (.of sq), fun l n => post_new q t1 n (.lst (e1.fresh n) upd_same (e1.repA (Grow.new n) ra))⟩
    | tuple ds =>
      cases hz
      obtain ⟨a, ys, rfl, sq, ra⟩ := id r1.tupInv
      exact ⟨a, ys, rfl, .inr sq, fun l n => post_new q t1 n (.lst (e1.fresh n) upd_same (e1.repA (Grow.new n) ra))⟩
    | _ => cases hz
end
end SG

/-! SgJ: dicts with text keys, calls by keywords, raise. -/
namespace SG
open PySem PySem.Spec PyProof.Rows L2

def dLook (kvs : List (Str × D)) (s : Str) : Option D := (kvs.find? fun kv => decide (kv.1 = s)).map (·.2)
def dStr : D → Option Str
  | .str s => some s
  | _ => none
def eGet (f g h : M D) : M D := fun ρ τ => (f ρ τ).bind fun d τ1 => match unDic d with
  | none => .bad
  | some kvs => (g ρ τ1).bind fun k τ2 => (h ρ τ2).bind fun z τ3 => match dStr k with
    | some s => .ok ((dLook kvs s).getD z) τ3
    | none => .bad
def dDix (d k : D) : Option D := match unDic d, k with
  | some kvs, .str s => dLook kvs s
  | _, _ => none
section
variable {X : Cx} {L : LC} {B B' B0 : Addr → Prop} {σ : St} {H H0 H' H1 : Hp} {ρ ρ' : Rho} {τ τ' : S} {E : XK} {De De' : Ends} {a b c : Expr} {pos : Pos} {f g h : M D} {u : M Bool}

theorem look_rep {ks : List Str} {vs : List V} {ds : List D} (hl : ks.length = vs.length) (ra : RepA L B H vs ds) (s : Str) :
    (∃ v d, valV (kvV ks vs) (Sum.inr s) = some v ∧ dLook (ks.zip ds) s = some d ∧ Rep L B H v d) ∨ (valV (kvV ks vs) (Sum.inr s) = none ∧ dLook (ks.zip ds) s = none) := by
  induction ks generalizing vs ds with
  | nil => exact .inr ⟨rfl, rfl⟩
  | cons k ks ih =>
    cases vs with
    | nil => cases hl
    | cons v vs =>
      cases ra with
      | @cons _ _ d ds' r ra =>
        by_cases e : k = s
        · subst e
          refine .inl ⟨v, d, ?_, ?_, r⟩
          · exact valV_pos (p := (Sum.inr k, v)) rfl
          · simp [dLook]
        · have h1 : valV (kvV (k :: ks) (v :: vs)) (Sum.inr s) = valV (kvV ks vs) (Sum.inr s) := valV_neg (p := (Sum.inr k, v)) (fun z => e (Sum.inr.inj z))
          have h2 : dLook ((k :: ks).zip (d :: ds')) s = dLook (ks.zip ds') s := by simp [dLook, e]
          rw [h1, h2]
          exact ih (by simpa using hl) ra
theorem Rep.dicInv {v : V} {d : D} {kvs : List (Str × D)} (r : Rep L B H v d) (h : unDic d = some kvs) : ∃ a ks xs ds, v = .ref a ∧ ¬ B a ∧ H a = some (.dK (kvV ks xs)) ∧ ks.length = xs.length ∧ RepA L B H xs ds ∧ kvs = ks.zip ds := by
  cases r with
  | dic nb e hl ra =>
    rw [unDic_dDic] at h
    cases h
    exact ⟨_, _, _, _, rfl, nb, e, hl, ra, rfl⟩
  | fn e => cases h
  | _ => cases h
theorem de_get {pa cpos : Pos} (hu : X.A.units + 1 < cLine) (ha : PE X a (tD L f E)) (hb : PE X b (tD L g E)) (hc : PE X c (tD L h E)) (m : M2 X a "get" pa b c cpos) : PE X (.Call (.Attribute a "get" pa) [b, c] [] cpos) (tD L (eGet f g h) E) :=
  (pe_dget2 hu ha hb hc m).imp fun σ H Q ⟨ρ, τ, B, e, t, q⟩ => ⟨ρ, τ, B, e, t, post_bind q fun d τ1 v H1 _ g1 t1 r1 h1 => by
    have e1 := e.grow g1 t1
    cases hd : unDic d with
    | none => rw [hd] at h1; exact h1.elim
    | some kvs =>
      rw [hd] at h1
      obtain ⟨p, ks, xs, ds, rfl, nb, hp, hl, ra, rfl⟩ := r1.dicInv hd
      refine ⟨p, rfl, .inl ⟨_, .inl hp⟩, tD_bind (k := fun k ρ τ2 => (h ρ τ2).bind fun z τ3 => match dStr k with | some s => .ok ((dLook (ks.zip ds) s).getD z) τ3 | none => .bad) e1 t1 h1 fun k τ2 kv H2 e2 g2 t2 r2 h2 => ?_⟩
      refine tD_bind (k := fun z _ τ3 => match dStr k with | some s => .ok ((dLook (ks.zip ds) s).getD z) τ3 | none => .bad) e2 t2 h2 fun z τ3 zv H3 e3 g3 t3 r3 h3 => ?_
      cases k with
      | str s =>
        have hk := r2.strInv
        subst hk
        have nt : p ≠ L.tw ∧ p ≠ L.tr := ⟨fun w => nb (by rw [w]; exact e1.tw), fun w => nb (by rw [w]; exact e1.tr)⟩
        have hp3 : H3 p = some (.dK (kvV ks xs)) := (g2.trans g3) p _ hp nt_dK nt.1 nt.2
        have ra3 := e1.repA (g2.trans g3) ra
        refine ⟨_, DGet.k (k := Sum.inr s) hp3, ?_⟩
        have h3 : PostG L H3 E (fun v d H' => Rep L B H' v d) Q (.ok ((dLook (ks.zip ds) s).getD z) τ3) := h3
        rcases look_rep hl ra3 s with ⟨v, d, q1, q2, r⟩ | ⟨q1, q2⟩
        · rw [q1]
          rw [q2] at h3
          exact post_ok h3 t3 r
        · rw [q1]
          rw [q2] at h3
          exact post_ok h3 t3 r3
      | _ => exact h3.elim⟩
theorem de_dix (hu : X.A.units + 1 < cLine) (ha : PE X a (tD L f E)) (hb : PE X b (tD L g E)) (hs : NoSl b := by exact fun _ _ => rfl) : PE X (.Subscript a b pos) (tD L (e2 dDix f g) E) :=
  (pe_dget hu ha hb hs).imp fun σ H Q ⟨ρ, τ, B, e, t, q⟩ => tD_bind (k := fun a ρ τ1 => (g ρ τ1).bind fun b τ2 => opt (dDix a b) τ2) e t q fun d τ1 v H1 e1 g1 t1 r1 h1 =>
    tD_bind (k := fun b _ τ2 => opt (dDix d b) τ2) e1 t1 h1 fun d2 τ2 v2 H2 e2 g2 t2 r2 h2 => by
      obtain ⟨z, hz, q⟩ := post_opt h2
      unfold dDix at hz
      cases hd : unDic d with
      | none => rw [hd] at hz; cases hz
      | some kvs =>
        rw [hd] at hz
        cases d2 with
        | str s =>
          have hz : dLook kvs s = some z := hz
          obtain ⟨p, ks, xs, ds, rfl, nb, hp, hl, ra, rfl⟩ := (e1.rep g2 r1).dicInv hd
          have hk := r2.strInv
          subst hk
          rcases look_rep hl ra s with ⟨v, d, q1, q2, r⟩ | ⟨q1, q2⟩
          · rw [q2] at hz
            cases hz
            refine ⟨p, v, rfl, ?_, post_ok q t2 r⟩
            rw [← q1]
            exact DGet.k (k := Sum.inr s) hp
          · rw [q2] at hz; cases hz
        | _ => cases hz
/-- a written dict of texts -/
def trsS (kvs : List (Str × Str)) : List (TE × TE) := kvs.map fun p => (tC (.str p.1), tC (.str p.2))
theorem dps_nil : PPs X pos [] [] (trsS []) := pps_nil
theorem dps_cons {k v : Str} {j j2 : Nat} {p p2 : Pos} {ks : List (Option Expr)} {vs : List Expr} {kvs : List (Str × Str)} (hr : PPs X pos ks vs (trsS kvs)) : PPs X pos (some (.Constant (.str k) j p) :: ks) (.Constant (.str v) j2 p2 :: vs) (trsS ((k, v) :: kvs)) := pps_cons pe_str pe_str hr
theorem pairs_const {kvs : List (Str × Str)} {Q : List (V × V) → Hp → Prop} (h : Q (kvs.map fun p => (V.str p.1, V.str p.2)) H) : tPairs (trsS kvs) σ H Q := by
  induction kvs generalizing Q with
  | nil => exact h
  | cons p r ih =>
    show tPairs (trsS r) σ H fun ps H3 => Q ((V.str p.1, V.str p.2) :: ps) H3
    exact ih h
def strsD (kvs : List (Str × Str)) : D := dDic (kvs.map fun p => (p.1, .str p.2))
theorem merge_nodup {kvs : List (Str × Str)} (h : (kvs.map (·.1)).Nodup) : mergeK [] (kvs.map fun p => ((Sum.inr p.1 : Key), V.str p.2)) = kvs.map fun p => (Sum.inr p.1, V.str p.2) := by
  have : ∀ (l acc : List (Key × V)), (acc.map (·.1) ++ l.map (·.1)).Nodup → mergeK acc l = acc ++ l := by
    intro l
    induction l with
    | nil => intro acc _; simp [mergeK]
    | cons p l ih =>
      intro acc hn
      have hp : (acc.any fun kv => decide (kv.1 = p.1)) = false := by
        rw [List.any_eq_false]
        intro kv hkv hd
        have hd := of_decide_eq_true hd
        rw [List.nodup_append] at hn
        exact hn.2.2 kv.1 (List.mem_map.mpr ⟨kv, hkv, rfl⟩) p.1 (by simp) hd
      show mergeK (putK acc p.1 p.2) l = _
      have hput : putK acc p.1 p.2 = acc ++ [p] := by
        unfold putK
        rw [hp]
        simp
      rw [hput, ih (acc ++ [p]) (by simpa using hn)]
      simp
  rw [this]
  · rfl
  · simp only [List.map_nil, List.nil_append, List.map_map]
    have : ((fun x : Key × V => x.1) ∘ fun p : Str × Str => ((Sum.inr p.1 : Key), V.str p.2)) = (fun s : Str => (Sum.inr s : Key)) ∘ fun p => p.1 := rfl
    rw [this, ← List.map_map]
    exact (List.Pairwise.map _ (fun a b (h : a ≠ b) => fun z => h (Sum.inr.inj z)) h)
theorem de_dicS {keys : List (Option Expr)} {values : List Expr} (kvs : List (Str × Str)) (hp : PPs X pos keys values (trsS kvs)) (hn : (kvs.map (·.1)).Nodup := by decide) (h15 : kvs.length ≤ 15 := by decide) (hall : keys.all (·.isSome) = true := by rfl) (hl : keys.length = values.length := by rfl) (h0 : keys ≠ [] := by exact fun z => by cases z) (h15' : keys.length ≤ 15 := by decide) :
    PE X (.Dict keys values pos) (tD L (eC (strsD kvs)) E) :=
  (pe_disp hp hall hl h0 h15').imp fun σ H Q ⟨ρ, τ, B, e, t, q⟩ p n => pairs_const ⟨upd_same, kvs.map (fun p => (Sum.inr p.1, V.str p.2)), by simp [kV], by simpa using h15, by
    rw [merge_nodup hn, upd_upd]
    have e1 : strsD kvs = dDic ((kvs.map (·.1)).zip (kvs.map fun p => PyData.str p.2)) := by
      unfold strsD
      congr 1
      rw [List.zip_map']
    have e2 : kvV (kvs.map (·.1)) (kvs.map fun p => V.str p.2) = kvs.map fun p => (Sum.inr p.1, V.str p.2) := by
      unfold kvV
      rw [List.zip_map', List.map_map]
      rfl
    have ra : ∀ l : List (Str × Str), RepA L B (upd H p (.dK (kvs.map fun p => (Sum.inr p.1, V.str p.2)))) (l.map fun p => V.str p.2) (l.map fun p => PyData.str p.2) := fun l => by
      induction l with
      | nil => exact .nil
      | cons a l ih => exact .cons (.str _) ih
    have q' : Post L B H Q E (.ok (strsD kvs) τ) := q
    rw [e1] at q'
    exact post_new q' t n (.dic (e.fresh n) (by rw [upd_same, e2]) (by simp) (ra kvs))⟩

/-! ### calls by keywords -/
def gK (m n : Nat) {α : Type} (us ws : List α) : List α := if us.length = m ∧ ws.length = n then us ++ ws else []
structure TK (P : Program) (w : World) (K : PySem.W.Frag) (mg : Str → Option Value) (base : Heap) (L : LC) (k : Nat) (x : Str) (m : Nat) (ks : List Str) (F : Fn) : Prop where
  ex : ∃ f fd ps, mg x = some (.ref f) ∧ FnOk P w K mg base (L2.CX P w) k f fd ps (spD L (m + ks.length) F) ∧ ps.length = m + ks.length ∧ PySem.W.keepIn K (.ref f) = true ∧ KBinds K fd ps ks (gK m ks.length) (gK m ks.length)
abbrev TKX (X : Cx) (L : LC) (k : Nat) (x : Str) (m : Nat) (ks : List Str) (F : Fn) : Prop := TK X.prog X.w X.K X.mg X.base L k x m ks F
theorem kb_mk {K : PySem.W.Frag} {fd : FuncData} {ps ks : List Str} (m : Nat) (h0 : 0 < m + ks.length) (hps : ps.length = m + ks.length) (h : ∀ us ws : List Value, us.length = m → ws.length = ks.length → bindArgs fd ⟨us, ks.zip ws⟩ = pure (ps.zip (us ++ ws))) : KBinds K fd ps ks (gK m ks.length) (gK m ks.length) where
  to := fun s us ws _ hl => by
    unfold gK at hl ⊢
    split at hl
    · rename_i hc
      rw [if_pos hc]
      exact .of_eq (h us ws hc.1 hc.2)
    · simp at hl
      omega
  rel := fun {vs us zs ws} r r2 => by
    unfold gK
    rw [r.length, r2.length]
    split
    · exact r.append r2
    · exact .nil
/-- the values of the keywords -/
structure DK (X : Cx) (L : LC) (E : XK) (kws : List Keyword) (fs : M (List D)) : Prop where
  pk : PK X kws (tDA L fs E)
  len : ∀ ρ τ ds τ', fs ρ τ = .ok ds τ' → ds.length = kws.length
theorem dk_nil : DK X L E [] aNil := ⟨⟨fun pos pins s σ H Q I w => pk_nil.run pos pins s σ H Q I (by obtain ⟨ρ, τ, B, e, t, h⟩ := w; exact post_ok h t .nil)⟩, fun ρ τ ds τ' h => by cases h; rfl⟩
theorem aCons_len {fs : M (List D)} {n : Nat} (h : ∀ ρ τ ds τ', fs ρ τ = .ok ds τ' → ds.length = n) : ∀ ρ τ ds τ', aCons f fs ρ τ = .ok ds τ' → ds.length = n + 1 := fun ρ τ ds τ' q => by
  unfold aCons at q
  cases h1 : f ρ τ with
  | ok d τ1 =>
    rw [h1, bind_ok] at q
    cases h2 : fs ρ τ1 with
    | ok ds2 τ2 =>
      rw [h2, bind_ok] at q
      cases q
      rw [List.length_cons, h _ _ _ _ h2]
    | ex c s => rw [h2] at q; cases q
    | bad => rw [h2] at q; cases q
  | ex c s => rw [h1] at q; cases q
  | bad => rw [h1] at q; cases q
theorem dk_cons {kws : List Keyword} {fs : M (List D)} {nm : Option Str} {kpos : Pos} (ha : PE X a (tD L f E)) (hr : DK X L E kws fs) : DK X L E (⟨nm, a, kpos⟩ :: kws) (aCons f fs) :=
  ⟨⟨fun pos pins s σ H Q I w => (pk_cons ha hr.pk).run pos pins s σ H Q I (by
    obtain ⟨ρ, τ, B, e, t, h⟩ := w
    exact tD_bind (k := fun a ρ τ1 => (fs ρ τ1).bind fun b τ2 => .ok (a :: b) τ2) e t h fun d τ1 v H1 e1 g1 t1 r1 h1 =>
      tDA_bind (k := fun b _ τ2 => .ok (d :: b) τ2) e1 t1 h1 fun d2 τ2 v2 H2 e2 g2 t2 r2 h2 => post_ok h2 t2 (.cons (e1.rep g2 r1) r2))⟩, aCons_len hr.len⟩
def aApp (f g : M (List D)) : M (List D) := fun ρ τ => (f ρ τ).bind fun a τ1 => (g ρ τ1).bind fun b τ2 => .ok (a ++ b) τ2
theorem de_callK {x : Str} {k : Nat} {ks : List Str} {F : Fn} {p : Pos} {e : Expr} {es : List Expr} {kws : List Keyword} {fs gs : M (List D)} (G : TKX X L k x (e :: es).length ks F) (hr : Room k X.A) (hx : PassX X E) (ha : DA X L E (e :: es) fs) (hkw : DK X L E kws gs) (hlen : kws.length = ks.length := by rfl) (hg : Gl X x := by rfl)
    (hall : (backToKw pos (keywordEach kws X.env)).all (·.1.isSome) = true := by rfl) (hks : (backToKw pos (keywordEach kws X.env)).filterMap (·.1) = ks := by rfl)
    (hdb : (x == ("__debug__" : Str)) = false := by decide) (he : starEach (e :: es) X.env = (false, eval e X.env) :: starEach es X.env := by rfl)
    (hpl : ((backTo pos (starEach (e :: es) X.env)).any (·.1) || (backToKw pos (keywordEach kws X.env)).any (·.1.isNone)) = false := by rfl) :
    PE X (.Call (.Name x p) (e :: es) kws pos) (tD L (eCall F (aApp fs gs)) E) := by
  obtain ⟨f, fd, ps, hm, G, hps, hk, hb⟩ := G.ex
  refine (pe_callK G hr hg hm hk hb hx ha.pa hkw.pk hall hks hdb he hpl).imp fun σ H Q ⟨ρ, τ, B, e, t, h⟩ => ?_
  unfold eCall aApp at h
  refine ⟨ρ, τ, B, e, t, ?_⟩
  cases h1 : fs ρ τ with
  | ex c τ1 => rw [h1] at h; exact h
  | bad => rw [h1] at h; exact h
  | ok ds τ1 =>
    rw [h1, bind_ok] at h
    intro vs H1 g1 t1 r1
    have e1 := e.grow g1 t1
    refine ⟨ρ, τ1, B, e1, t1, ?_⟩
    cases h2 : gs ρ τ1 with
    | ex c τ2 => rw [h2] at h; exact fun H2 C g2 t2 q2 => h H2 C (g1.trans g2) t2 q2
    | bad => rw [h2] at h; exact h
    | ok es2 τ2 =>
      rw [h2, bind_ok, bind_ok] at h
      intro zs H2 g2 t2 r2
      have e2 := e1.grow g2 t2
      have l1 : vs.length = _ := r1.length.trans (ha.len _ _ _ _ h1)
      have l2 : zs.length = ks.length := (r2.length.trans (hkw.len _ _ _ _ h2)).trans hlen
      show spD L _ F (gK _ _ vs zs) H2 Q E
      unfold gK
      rw [if_pos ⟨l1, l2⟩]
      refine ⟨by rw [List.length_append, l1, l2], ds ++ es2, τ2, B, e2.tw, e2.tr, e2.sb, e2.dom, (e1.repA g2 r1).append r2, t2, ?_⟩
      cases h3 : F (ds ++ es2) τ2 with
      | ok d τ3 => rw [h3] at h; exact fun v H3 g3 t3 r3 => h v H3 ((g1.trans g2).trans g3) t3 r3
      | ex c τ3 => rw [h3] at h; exact fun H3 C g3 t3 q3 => h H3 C ((g1.trans g2).trans g3) t3 q3
      | bad => rw [h3] at h; exact h
theorem pe_callK0 {CX : CXT} {k : Nat} {fa : Addr} {fd : FuncData} {ps ks : List Str} {sp : Sp} {g : List Value → List Value → List Value} {gV : List V → List V → List V} {x : Str} {p : Pos} {kws : List Keyword} {tk : TA} (F : FnOk X.prog X.w X.K X.mg X.base CX k fa fd ps sp) (hr : Room k X.A) (hg : Gl X x) (hm : X.mg x = some (.ref fa)) (hk : PySem.W.keepIn X.K (.ref fa) = true) (hb : KBinds X.K fd ps ks g gV) (hx : Passes CX X E)
    (hkw : PK X kws tk) (hall : (backToKw pos (keywordEach kws X.env)).all (·.1.isSome) = true := by rfl) (hks : (backToKw pos (keywordEach kws X.env)).filterMap (·.1) = ks := by rfl)
    (hdb : (x == ("__debug__" : Str)) = false := by decide)
    (hpl : ((backTo pos (starEach [] X.env)).any (·.1) || (backToKw pos (keywordEach kws X.env)).any (·.1.isNone)) = false := by rfl) :
    PE X (.Call (.Name x p) [] kws pos) (tCallK sp gV E tNil tk) := by
  refine ⟨fun pins s σ H Q I h => ?_⟩
  refine wpAny_Call_Name_kw (ld_glob I hg hm ?_ hdb)
  refine PySem.W.callWith_KW0 (h₀ := X.base) I.ok.mod.kin hk hall (thn (hkw.run pos pins s σ H _ I h) fun ws s2 ⟨zs, H2, I2, rz, q2⟩ => ⟨I2.kIn, ?_⟩) hpl
  rw [hks]
  exact run_fnk F hr hb hx I2 .nil rz q2
theorem de_callK0 {x : Str} {k : Nat} {ks : List Str} {F : Fn} {p : Pos} {kws : List Keyword} {gs : M (List D)} (G : TKX X L k x 0 ks F) (hr : Room k X.A) (hx : PassX X E) (hkw : DK X L E kws gs) (hlen : kws.length = ks.length := by rfl) (hg : Gl X x := by rfl)
    (hall : (backToKw pos (keywordEach kws X.env)).all (·.1.isSome) = true := by rfl) (hks : (backToKw pos (keywordEach kws X.env)).filterMap (·.1) = ks := by rfl)
    (hdb : (x == ("__debug__" : Str)) = false := by decide)
    (hpl : ((backTo pos (starEach [] X.env)).any (·.1) || (backToKw pos (keywordEach kws X.env)).any (·.1.isNone)) = false := by rfl) :
    PE X (.Call (.Name x p) [] kws pos) (tD L (eCall F gs) E) := by
  obtain ⟨f, fd, ps, hm, G, hps, hk, hb⟩ := G.ex
  refine (pe_callK0 G hr hg hm hk hb hx hkw.pk hall hks hdb hpl).imp fun σ H Q ⟨ρ, τ, B, e, t, h⟩ => ⟨ρ, τ, B, e, t, post_bind h fun ds τ1 zs H1 hf g1 t1 r1 h1 => ?_⟩
  have e1 := e.grow g1 t1
  have l2 : zs.length = ks.length := (r1.length.trans (hkw.len _ _ _ _ hf)).trans hlen
  show spD L _ F (gK 0 _ [] zs) H1 Q E
  unfold gK
  rw [if_pos ⟨rfl, l2⟩]
  exact ⟨by rw [List.nil_append, l2, Nat.zero_add], ds, τ1, B, e1.tw, e1.tr, e1.sb, e1.dom, r1, t1, h1⟩

/-! ### raise of an own exception class -/
structure TE1 (K : PySem.W.Frag) (mg : Str → Option Value) (x : Str) : Prop where
  ex : ∃ C, mg x = some (.ref C) ∧ PySem.W.excIn K C [.type "ValueError", .type "Exception", .type "BaseException", .type "object"] "ValueError.__new__" = true ∧ PySem.W.keepIn K (.ref C) = true ∧ PySem.W.subIn K (.ref C) (.type "BaseException") = some true ∧ PySem.W.typeIn K (.ref C) = some (.type "type")
end
end SG

/-! SgK: the draws. -/
namespace SG
open PySem PySem.Spec PyProof.Rows L2

def rsLook (rs : List (Int × Int)) (k : Int) : Option Int := (rs.find? fun p => decide (p.1 = k)).map (·.2)
def rsPut (rs : List (Int × Int)) (k v : Int) : List (Int × Int) := if (rs.any fun p => decide (p.1 = k)) = true then rs.map (fun p => if p.1 = k then (p.1, v) else p) else rs ++ [(k, v)]
def drawAt (ns : List Int) (c : Int) : Int := if ns.isEmpty then 0 else c % (ns.length : Int)
def drawRest (ns : List Int) (τ : S) : Int := (rsLook τ.rs (drawAt ns (τ.c + 1))).getD (if ns.isEmpty then 0 else ns.getD (drawAt ns (τ.c + 1)).toNat 0)
def mix1 (rest c : Int) : Int := (rest + 104729 * c) % 4294967291
def mix2 (n : Int) : Int := n ^ 5 % 4294967279
def mix3 (n : Int) : Int := (n / 64 * 69621 + n) % 4294967231 / 8
/-- the draw and the town behind it -/
def drawV (ns : List Int) (τ : S) (m : Int) : Int := if 1000000000000000000 ≤ drawRest ns τ then drawRest ns τ % m else mix3 (mix2 (mix1 (drawRest ns τ) (τ.c + 1))) % m
def drawS (ns : List Int) (τ : S) (m : Int) : S := if 1000000000000000000 ≤ drawRest ns τ then ⟨τ.c + 1, rsPut τ.rs (drawAt ns (τ.c + 1)) (drawRest ns τ / m)⟩ else ⟨τ.c + 1, τ.rs⟩
def dMany : D → Option Int
  | .int m => if 0 < m ∧ m < 1000000 then some m else none
  | _ => none
def drawF (ns : List Int) : Fn := fun ds τ => match ds with
  | [.dict [(.list [], .none)], .dict [], d] => match dMany d with
    | some m => .ok (.int (drawV ns τ m)) (drawS ns τ m)
    | none => .bad
  | _ => .bad
theorem drawV_range {ns : List Int} {τ : S} {m : Int} (h : 0 < m) : 0 ≤ drawV ns τ m ∧ drawV ns τ m < m := by
  unfold drawV
  split
  · exact ⟨Int.emod_nonneg _ (by omega), Int.emod_lt_of_pos _ h⟩
  · exact ⟨Int.emod_nonneg _ (by omega), Int.emod_lt_of_pos _ h⟩
theorem rsV_look (rs : List (Int × Int)) (k : Int) : valV (rsV rs) (Sum.inl k) = (rsLook rs k).map V.int := by
  induction rs with
  | nil => rfl
  | cons p r ih =>
    by_cases e : p.1 = k
    · have h1 : valV (rsV (p :: r)) (Sum.inl k) = some (V.int p.2) := valV_pos (p := (Sum.inl p.1, V.int p.2)) (by rw [e])
      rw [h1]
      simp [rsLook, e]
    · have h1 : valV (rsV (p :: r)) (Sum.inl k) = valV (rsV r) (Sum.inl k) := valV_neg (p := (Sum.inl p.1, V.int p.2)) (fun z => e (Sum.inl.inj z))
      rw [h1, ih]
      simp [rsLook, e]
theorem rsV_put (rs : List (Int × Int)) (k v : Int) : putK (rsV rs) (Sum.inl k) (V.int v) = rsV (rsPut rs k v) := by
  have ha : ((rsV rs).any fun kv => decide (kv.1 = (Sum.inl k : Key))) = rs.any fun p => decide (p.1 = k) := by
    induction rs with
    | nil => rfl
    | cons p r ih =>
      show (decide ((Sum.inl p.1 : Key) = Sum.inl k) || (rsV r).any _) = _
      rw [ih, List.any_cons]
      congr 1
      exact decide_eq_decide.mpr ⟨fun z => Sum.inl.inj z, fun z => by rw [z]⟩
  unfold putK rsPut
  rw [ha]
  split
  · unfold rsV
    rw [List.map_map, List.map_map]
    apply List.map_congr_left
    intro p _
    show (if (Sum.inl p.1 : Key) = Sum.inl k then ((Sum.inl p.1 : Key), V.int v) else (Sum.inl p.1, V.int p.2)) = _
    by_cases e : p.1 = k
    · simp [e]
    · simp [e]
  · unfold rsV
    rw [List.map_append]
    rfl
theorem wf_put {rs : List (Int × Int)} {k v : Int} (h : WfRs rs) (hk : 0 ≤ k ∧ k < 64) : WfRs (rsPut rs k v) := by
  unfold rsPut
  split
  · refine ⟨?_, fun p hp => ?_⟩
    · have : (rs.map (fun p => if p.1 = k then (p.1, v) else p)).map (·.1) = rs.map (·.1) := by
        rw [List.map_map]
        apply List.map_congr_left
        intro p _
        show (if p.1 = k then (p.1, v) else p).1 = p.1
        split <;> rfl
      rw [this]
      exact h.1
    · obtain ⟨q, hq, rfl⟩ := List.mem_map.mp hp
      have := h.2 q hq
      split <;> exact this
  · rename_i hn
    have hn : ∀ p ∈ rs, p.1 ≠ k := fun p hp z => hn (List.any_eq_true.mpr ⟨p, hp, decide_eq_true z⟩)
    refine ⟨?_, fun p hp => ?_⟩
    · rw [List.map_append, List.nodup_append]
      refine ⟨h.1, by simp, fun a ha b hb => ?_⟩
      obtain ⟨p, hp, rfl⟩ := List.mem_map.mp ha
      have hb : b = k := by simpa using hb
      rw [hb]
      exact hn p hp
    · rcases List.mem_append.mp hp with hp | hp
      · exact h.2 p hp
      · have : p = (k, v) := by simpa using hp
        rw [this]
        exact hk
theorem drawAt_range {ns : List Int} {c : Int} (h : ns.length ≤ 63) : 0 ≤ drawAt ns c ∧ drawAt ns c < 64 := by
  unfold drawAt
  split
  · omega
  · rename_i hn
    have : 0 < ns.length := by
      cases ns with
      | nil => simp at hn
      | cons _ _ => simp
    have h1 := Int.emod_nonneg c (b := (ns.length : Int)) (by omega)
    have h2 := Int.emod_lt_of_pos c (b := (ns.length : Int)) (by omega)
    omega
theorem drawAt_lt {ns : List Int} {c : Int} (h : ns.isEmpty = false) : 0 ≤ drawAt ns c ∧ (drawAt ns c).toNat < ns.length := by
  unfold drawAt
  rw [h]
  have : 0 < ns.length := by
    cases ns with
    | nil => simp at h
    | cons _ _ => simp
  have h1 := Int.emod_nonneg c (b := (ns.length : Int)) (by omega)
  have h2 := Int.emod_lt_of_pos c (b := (ns.length : Int)) (by omega)
  simp only [Bool.false_eq_true, if_false]
  omega
/-! ### the body's reading -/
abbrev sCnt : V := .str "count"
abbrev sRes : V := .str "rests"
def tScr (K : PySem.W.Frag) : TT := fun σ H Q => tVar 0 σ H fun x H' => ∃ k, TruV K x H' k ∧ Q k H'
def tLen (K : PySem.W.Frag) : TE := tCB (fun xs H Q => ∃ p ys, xs = [V.ref p] ∧ (SqL K H p ys ∨ SqT K H p ys) ∧ Q (V.int ys.length) H) (tCons (tVar 0) tNil)
def tDraw (K : PySem.W.Frag) : TS :=
  tSeq (sDPut (tVar 1) (tC sCnt) (tOp (rI0 fun i j => V.int (i + j)) (tDGet (tVar 1) (tC sCnt)) (tC (V.int 1))))
  (tSeq (tAsg (tIf (tScr K) (tOp (rI (fun x j => 0 < j) fun i j => V.int (i % j)) (tDGet (tVar 1) (tC sCnt)) (tLen K)) (tC (V.int 0))) (gName 3))
  (tSeq (tAsg (tDGet2 (tDGet (tVar 1) (tC sRes)) (tVar 3) (tIf (tScr K) (tOp (rIxL K) (tVar 0) (tVar 3)) (tC (V.int 0)))) (gName 4))
  (tSeq (tIfS (tTest (tOp (rI0 fun i j => V.bl (decide (j ≤ i))) (tVar 4) (tOp (rI CPow fun i j => V.int (i ^ j.toNat)) (tC (V.int 10)) (tC (V.int 18)))))
      (tSeq (sDPut (tDGet (tVar 1) (tC sRes)) (tVar 3) (tOp (rI CDiv fun i j => V.int (i / j)) (tVar 4) (tVar 2))) (tRet (tOp (rI (fun x j => 0 < j) fun i j => V.int (i % j)) (tVar 4) (tVar 2)))) tNext)
  (tSeq (tAsg (tOp (rI (fun x j => 0 < j) fun i j => V.int (i % j)) (tOp (rI0 fun i j => V.int (i + j)) (tVar 4) (tOp (rI CMul fun i j => V.int (i * j)) (tC (V.int 104729)) (tDGet (tVar 1) (tC sCnt)))) (tC (V.int 4294967291))) (gName 5))
  (tSeq (tAsg (tOp (rI (fun x j => 0 < j) fun i j => V.int (i % j)) (tOp (rI CPow fun i j => V.int (i ^ j.toNat)) (tVar 5) (tC (V.int 5))) (tC (V.int 4294967279))) (gName 5))
    (tRet (tOp (rI (fun x j => 0 < j) fun i j => V.int (i % j)) (tOp (rI CDiv fun i j => V.int (i / j)) (tOp (rI (fun x j => 0 < j) fun i j => V.int (i % j)) (tOp (rI0 fun i j => V.int (i + j)) (tOp (rI CMul fun i j => V.int (i * j)) (tOp (rI CDiv fun i j => V.int (i / j)) (tVar 5) (tC (V.int 64))) (tC (V.int 69621))) (tVar 5)) (tC (V.int 4294967231))) (tC (V.int 8))) (tVar 2))))))))
section
variable {L : LC} {B : Addr → Prop} {H : Hp} {τ : S} {Q : VK} {E : XK}
theorem scrTru (t : ScrOk L H) : TruV L.K (.ref L.sc) H (!L.ns.isEmpty) := .inl ⟨_, t.sq, by simp⟩
theorem get_cnt (h : H L.tw = some (.dK (townV L τ.c))) : DGet H L.tw sCnt (some (.int τ.c)) := by
  have := DGet.k (k := Sum.inr (Str.ofString "count")) h
  exact this
theorem get_res (h : H L.tw = some (.dK (townV L τ.c))) : DGet H L.tw sRes (some (.ref L.tr)) := by
  have := DGet.k (k := Sum.inr (Str.ofString "rests")) h
  exact this
theorem mix1_range (r c : Int) : 0 ≤ mix1 r c ∧ mix1 r c < 4294967291 := ⟨Int.emod_nonneg _ (by decide), Int.emod_lt_of_pos _ (by decide)⟩
theorem mix2_range (n : Int) : 0 ≤ mix2 n ∧ mix2 n < 4294967279 := ⟨Int.emod_nonneg _ (by decide), Int.emod_lt_of_pos _ (by decide)⟩
theorem scrInv {v : V} (r : Rep L B H v (PyData.dict [(PyData.list [], PyData.none)])) : v = .ref L.sc := by
  generalize e : (PyData.dict [(PyData.list [], PyData.none)]) = d at r
  cases r <;> first | rfl | (cases e; done) | (unfold dDic at e; cases e)
theorem draw_read {N : List Str} (hN : N = ([Str.ofString "script", Str.ofString "town", Str.ofString "many", Str.ofString "at", Str.ofString "rest", Str.ofString "number"] : List Str)) {vs : List V} (h : spD L 3 (drawF L.ns) vs H Q E) : tDraw L.K { nx := fun _ H' => Q .non H', rt := Q } (L2.start N vs) H := by
  obtain ⟨hl, ds, τ, B, tw, tr, sb, dom, ra, t, q⟩ := h
  unfold drawF at q
  split at q
  · rename_i d2
    cases hm : dMany d2 with
    | none => rw [hm] at q; exact q.elim
    | some m =>
      rw [hm] at q
      have hm' : d2 = .int m ∧ 0 < m ∧ m < 1000000 := by
        unfold dMany at hm
        split at hm
        · obtain ⟨h1, h2⟩ := ite_some hm
          subst h2
          exact ⟨rfl, h1⟩
        · cases hm
      obtain ⟨rfl, hm0, hm1⟩ := hm'
      cases ra with
      | cons r0 ra =>
      cases ra with
      | cons r1 ra =>
      cases ra with
      | cons r2 ra =>
      cases ra
      have e0 := scrInv r0
      have e1 := r1.townInv
      have e2 := r2.intInv
      subst e0 e1 e2
      subst hN
      have ntr : L.tr ≠ L.tw := fun z => t.ne z.symm
      -- town['count'] += 1
      refine ⟨.ref L.tw, rfl, L.tw, .int τ.c, rfl, get_cnt t.tw, τ.c, 1, rfl, rfl, .ref L.tw, rfl, L.tw, _, rfl, DPut.k (k := Sum.inr (Str.ofString "count")) t.tw (by show 2 < sizeLine; decide), ?_⟩
      have hput : putK (townV L τ.c) (Sum.inr (Str.ofString "count")) (V.int (τ.c + 1)) = townV L (τ.c + 1) := by
        have hne : ¬ (Str.ofString "rests" = Str.ofString "count") := by decide
        simp [putK, townV, hne]
      rw [hput]
      generalize hH1 : upd H L.tw (.dK (townV L (τ.c + 1))) = H1
      have tw1 : H1 L.tw = some (.dK (townV L (τ.c + 1))) := by rw [← hH1]; exact upd_same
      have tr1 : H1 L.tr = some (.dK (rsV τ.rs)) := by rw [← hH1, upd_ne ntr]; exact t.tr
      have scr1 : ScrOk L H1 := t.scr.up fun o e k => by rw [← hH1, upd_ne (ne_of e t.tw (fun z => by rcases k with ⟨_, _, k⟩ | ⟨_, _, k⟩ <;> (rw [k] at z; cases z)))]; exact e
      have tab1 : LamX.Tabs L.T H1 := by rw [← hH1]; exact tabs_upd t.tw nt_dK (fun _ z => by cases z) t.tab
      have g1 : Grow L H H1 := fun a o e _ h1 h2 => by rw [← hH1, upd_ne h1]; exact e
      -- at
      have hat : ∀ Qx : VK, Qx (.int (drawAt L.ns (τ.c + 1))) H1 → (tIf (tScr L.K) (tOp (rI (fun x j => 0 < j) fun i j => V.int (i % j)) (tDGet (tVar 1) (tC sCnt)) (tLen L.K)) (tC (V.int 0))) [some (.ref L.sc), some (.ref L.tw), some (.int m), none, none, none] H1 Qx := fun Qx hq => by
        refine ⟨.ref L.sc, rfl, _, scrTru scr1, ?_⟩
        cases he : L.ns.isEmpty with
        | true =>
          show if (!true) = true then _ else _
          rw [if_neg (by decide)]
          have : drawAt L.ns (τ.c + 1) = 0 := by unfold drawAt; rw [he]; rfl
          rw [this] at hq
          exact hq
        | false =>
          show if (!false) = true then _ else _
          rw [if_pos (by decide)]
          have : drawAt L.ns (τ.c + 1) = (τ.c + 1) % ((L.ns.map V.int).length : Int) := by unfold drawAt; rw [he, List.length_map]; rfl
          rw [this] at hq
          refine ⟨.ref L.tw, rfl, L.tw, .int (τ.c + 1), rfl, get_cnt (τ := ⟨τ.c + 1, τ.rs⟩) tw1, .ref L.sc, rfl, L.sc, L.ns.map V.int, rfl, .inl scr1.sq, τ.c + 1, _, rfl, rfl, ?_, hq⟩
          have := drawAt_lt (ns := L.ns) (c := 0) he
          rw [List.length_map]
          omega
      show (tIf (tScr L.K) (tOp (rI (fun x j => 0 < j) fun i j => V.int (i % j)) (tDGet (tVar 1) (tC sCnt)) (tLen L.K)) (tC (V.int 0))) [some (.ref L.sc), some (.ref L.tw), some (.int m), none, none, none] H1 _
      refine hat _ ?_
      -- rest
      have hrest : ∀ Qx : VK, Qx (.int (drawRest L.ns τ)) H1 → (tDGet2 (tDGet (tVar 1) (tC sRes)) (tVar 3) (tIf (tScr L.K) (tOp (rIxL L.K) (tVar 0) (tVar 3)) (tC (V.int 0)))) [some (.ref L.sc), some (.ref L.tw), some (.int m), some (.int (drawAt L.ns (τ.c + 1))), none, none] H1 Qx := fun Qx hq => by
        refine ⟨.ref L.tw, rfl, L.tw, .ref L.tr, rfl, get_res (τ := ⟨τ.c + 1, τ.rs⟩) tw1, L.tr, rfl, .inl ⟨_, .inl tr1⟩, .int (drawAt L.ns (τ.c + 1)), rfl, .ref L.sc, rfl, _, scrTru scr1, ?_⟩
        have hlook := DGet.k (k := Sum.inl (drawAt L.ns (τ.c + 1))) tr1
        rw [rsV_look] at hlook
        unfold drawRest at hq
        cases he : L.ns.isEmpty with
        | true =>
          show if (!true) = true then _ else _
          rw [if_neg (by decide)]
          rw [he] at hq
          refine ⟨_, hlook, ?_⟩
          cases hr : rsLook τ.rs (drawAt L.ns (τ.c + 1)) with
          | none => rw [hr] at hq; exact hq
          | some z => rw [hr] at hq; exact hq
        | false =>
          show if (!false) = true then _ else _
          rw [if_pos (by decide)]
          rw [he] at hq
          have hlt := drawAt_lt (ns := L.ns) (c := τ.c + 1) he
          refine ⟨.ref L.sc, rfl, .int (drawAt L.ns (τ.c + 1)), rfl, L.sc, L.ns.map V.int, drawAt L.ns (τ.c + 1), .int (L.ns.getD (drawAt L.ns (τ.c + 1)).toNat 0), rfl, rfl, scr1.sq, ?_, _, hlook, ?_⟩
          · unfold L2.atI ixN
            rw [if_pos hlt.1, List.length_map, if_pos (by omega)]
            show (L.ns.map V.int)[_]? = _
            rw [List.getElem?_map, List.getElem?_eq_getElem hlt.2]
            simp [List.getD, List.getElem?_eq_getElem hlt.2]
          · cases hr : rsLook τ.rs (drawAt L.ns (τ.c + 1)) with
            | none => rw [hr] at hq; exact hq
            | some z => rw [hr] at hq; exact hq
      unfold tSeq tAsg gName
      dsimp only
      show (tDGet2 (tDGet (tVar 1) (tC sRes)) (tVar 3) (tIf (tScr L.K) (tOp (rIxL L.K) (tVar 0) (tVar 3)) (tC (V.int 0)))) [some (.ref L.sc), some (.ref L.tw), some (.int m), some (.int (drawAt L.ns (τ.c + 1))), none, none] H1 _
      refine hrest _ ?_
      -- if rest >= 10 ** 18
      refine ⟨_, rfl, 10, 18, rfl, rfl, ⟨by decide, by decide, by decide⟩, _, _, rfl, rfl, _, rfl, ite2 (fun hc => ?_) (fun hc => ?_)⟩
      · have hc : 1000000000000000000 ≤ drawRest L.ns τ := by
          have := of_decide_eq_true hc
          have e : (10 : Int) ^ (18 : Int).toNat = 1000000000000000000 := by decide
          rw [e] at this
          exact this
        have hV : drawV L.ns τ m = drawRest L.ns τ % m := by unfold drawV; rw [if_pos hc]
        have hS : drawS L.ns τ m = ⟨τ.c + 1, rsPut τ.rs (drawAt L.ns (τ.c + 1)) (drawRest L.ns τ / m)⟩ := by unfold drawS; rw [if_pos hc]
        refine ⟨_, rfl, _, rfl, _, _, rfl, rfl, ⟨hm0, by omega⟩, .ref L.tw, rfl, L.tw, .ref L.tr, rfl, get_res (τ := ⟨τ.c + 1, τ.rs⟩) tw1, _, rfl, L.tr, _, rfl, DPut.k (k := Sum.inl (drawAt L.ns (τ.c + 1))) tr1 ?_, ?_⟩
        · have := t.wf.len
          have h2 : (rsV τ.rs).length = τ.rs.length := by simp [rsV]
          rw [h2]
          have : 64 < sizeLine := by decide
          omega
        · rw [rsV_put]
          refine ⟨_, rfl, _, rfl, _, _, rfl, rfl, hm0, ?_⟩
          show Q (.int (drawRest L.ns τ % m)) _
          rw [← hV]
          refine q _ _ (g1.trans fun a o e _ h1 h2 => by rw [upd_ne h2]; exact e) ?_ (.int _)
          rw [hS]
          exact ⟨t.ne, by rw [upd_ne t.ne]; exact tw1, upd_same, wf_put t.wf (drawAt_range t.nscr), scr1.up fun o e k => by rw [upd_ne (ne_of e tr1 (fun z => by rcases k with ⟨_, _, k⟩ | ⟨_, _, k⟩ <;> (rw [k] at z; cases z)))]; exact e, t.nscr, tabs_upd tr1 nt_dK (fun _ z => by cases z) tab1⟩
      · have hc : ¬ 1000000000000000000 ≤ drawRest L.ns τ := fun z => hc (by
          have e : (10 : Int) ^ (18 : Int).toNat = 1000000000000000000 := by decide
          rw [e]
          exact decide_eq_true z)
        have hV : drawV L.ns τ m = mix3 (mix2 (mix1 (drawRest L.ns τ) (τ.c + 1))) % m := by unfold drawV; rw [if_neg hc]
        have hS : drawS L.ns τ m = ⟨τ.c + 1, τ.rs⟩ := by unfold drawS; rw [if_neg hc]
        have m1 := mix1_range (drawRest L.ns τ) (τ.c + 1)
        have m2 := mix2_range (mix1 (drawRest L.ns τ) (τ.c + 1))
        refine ⟨_, rfl, .ref L.tw, rfl, L.tw, .int (τ.c + 1), rfl, get_cnt (τ := ⟨τ.c + 1, τ.rs⟩) tw1, 104729, _, rfl, rfl, .inl ⟨by decide, by decide⟩, _, _, rfl, rfl, _, 4294967291, rfl, rfl, (show (0 : Int) < 4294967291 by decide), ?_⟩
        refine ⟨.int (mix1 (drawRest L.ns τ) (τ.c + 1)), rfl, _, 5, rfl, rfl, ⟨by decide, by decide, by omega⟩, _, 4294967279, rfl, rfl, (show (0 : Int) < 4294967279 by decide), ?_⟩
        refine ⟨.int (mix2 (mix1 (drawRest L.ns τ) (τ.c + 1))), rfl, _, 64, rfl, rfl, ⟨by decide, by decide⟩, _, 69621, rfl, rfl, .inr ⟨by decide, by decide⟩, .int (mix2 (mix1 (drawRest L.ns τ) (τ.c + 1))), rfl, _, _, rfl, rfl, _, 4294967231, rfl, rfl, (show (0 : Int) < 4294967231 by decide), _, 8, rfl, rfl, ⟨by decide, by decide⟩, .int m, rfl, _, m, rfl, rfl, hm0, ?_⟩
        show Q (.int (mix3 (mix2 (mix1 (drawRest L.ns τ) (τ.c + 1))) % m)) H1
        rw [← hV]
        refine q _ _ g1 ?_ (.int _)
        rw [hS]
        exact ⟨t.ne, tw1, tr1, t.wf, scr1, t.nscr, tab1⟩
  · exact q.elim
end
end SG
namespace SG
open PySem PySem.Spec PyProof.Rows L2
/-! ### the law's own start -/
def spBegun : Sp := fun vs H Q _ => vs = [] ∧ ∀ p r H', H p = none → H r = none → p ≠ r → Same H H' → H' p = some (.dK [(Sum.inr (Str.ofString "count"), V.int 0), (Sum.inr (Str.ofString "rests"), V.ref r)]) → H' r = some (.dK []) → Q (.ref p) H'
def tBegun : TS := tRet (tDisp [(tC (.str "count"), tC (.int 0)), (tC (.str "rests"), fun _ H Q => ∀ p, H p = none → Q (.ref p) (upd H p (.dK [])))])
theorem begun_read {vs : List V} {H : Hp} {Q : VK} {E : XK} {σ : St} (h : spBegun vs H Q E) : tBegun { nx := fun _ H' => Q .non H', rt := Q } σ H := by
  obtain ⟨rfl, q⟩ := h
  intro p n r n2
  have hrp : p ≠ r := fun z => by
    rw [z, upd_same] at n2
    cases n2
  have n2' : H r = none := by
    rw [upd_ne (Ne.symm hrp)] at n2
    exact n2
  refine ⟨by rw [upd_ne hrp]; exact upd_same, [(Sum.inr (Str.ofString "count"), V.int 0), (Sum.inr (Str.ofString "rests"), V.ref r)], rfl, (show 2 ≤ 15 by decide), ?_⟩
  have hm : mergeK [] [((Sum.inr (Str.ofString "count") : Key), V.int 0), (Sum.inr (Str.ofString "rests"), V.ref r)] = [(Sum.inr (Str.ofString "count"), V.int 0), (Sum.inr (Str.ofString "rests"), V.ref r)] := by
    have hne : ¬ (Str.ofString "count" = Str.ofString "rests") := by decide
    simp [mergeK, putK, hne]
  rw [hm]
  refine q p r _ n n2' hrp (fun b o e => ?_) upd_same ?_
  · rw [upd_ne (ne_of_none e n), upd_ne (ne_of_none e n2'), upd_ne (ne_of_none e n)]
    exact e
  · rw [upd_ne (Ne.symm hrp), upd_same]
theorem pss_ex {X : Cx} {sts : List Stmt} {ι : Type} {t : ι → TS} (h : ∀ i, PSs X sts (t i)) : PSs X sts (fun De σ H => ∃ i, t i De σ H) := ⟨fun pins s σ H De I ⟨i, w⟩ => (h i).run pins s σ H De I w⟩
/-- the law's promise: the tables of code objects are empty at the start -/
def spLaw (K : PySem.W.Frag) (T : List (Addr × Str)) : Sp := fun vs H Q _ => ∃ (a : Addr) (ns : List Int), vs = [.ref a] ∧ SqL K H a (ns.map V.int) ∧ (∀ p ∈ T, H p.1 = some (.tbl #[])) ∧ ns.length ≤ 63 ∧ ∀ H', Q (.bl true) H'
def isLst : Option HO → Bool
  | some (.lst _) => true
  | _ => false
theorem law_read {P : Program} {w : World} {K : PySem.W.Frag} {T : List (Addr × Str)} {mg : Str → Option Value} {N : List Str} {g : List Int → MS} {E : XK} {Q : VK} {H : Hp} {a : Addr} {ns : List Int} (hN : N.length = 2 + (N.length - 2)) (hS : SqL K H a (ns.map V.int)) (hT : ∀ p ∈ T, H p.1 = some (.tbl #[])) (hn : ns.length ≤ 63) (q : ∀ H', Q (.bl true) H')
    (hg : ∃ τ', g ns (.v dScr :: .v dTown :: List.replicate (N.length - 2) .no) ⟨0, []⟩ = .ok (.rt (.bool true)) τ') :
    tSeq (tAsg (tCall spBegun [] E tNil) (gName 1)) (fun De σ H => ∃ i : Addr × Addr × Bool, tS ⟨P, w, K, i.1, i.2.1, a, ns, mg, T, i.2.2⟩ (g ns) E De σ H) { nx := fun _ H' => Q .non H', rt := Q } (L2.start N [.ref a]) H := by
  refine ⟨rfl, fun p r H' n1 n2 hpr sm hp hr => ⟨(p, r, isLst (H a)), ?_⟩⟩
  have sc : ScrOk ⟨P, w, K, p, r, a, ns, mg, T, isLst (H a)⟩ H' := by
    rcases hS with (s | ⟨o, s⟩) | s
    · exact .inr (.inr ⟨by show isLst (H a) = true; rw [s]; rfl, sm _ _ s⟩)
    · exact .inl ⟨o, sm _ _ s⟩
    · exact .inr (.inl s)
  have e0 : EnvS ⟨P, w, K, p, r, a, ns, mg, T, isLst (H a)⟩ (fun z => z = p ∨ z = r ∨ (isLst (H a) = true ∧ z = a)) H' (some (.ref a) :: some (.ref p) :: List.replicate (N.length - 2) none) H' (.v dScr :: .v dTown :: List.replicate (N.length - 2) .no) := by
    have noOl : ∀ (i : Nat) (s : Sl), (Sl.v dScr :: Sl.v dTown :: List.replicate (N.length - 2) Sl.no)[i]? = some s → isOwn s ≠ true := fun i s h => by
      match i with
      | 0 => cases h; simp [isOwn]
      | 1 => cases h; simp [isOwn]
      | i + 2 =>
        have h : (List.replicate (N.length - 2) Sl.no)[i]? = some s := h
        rw [List.getElem?_replicate] at h
        split at h <;> cases h
        simp [isOwn]
    have bl : ∀ z, Blk (fun z => z = p ∨ z = r ∨ (isLst (H a) = true ∧ z = a)) (some (.ref a) :: some (.ref p) :: List.replicate (N.length - 2) none) (.v dScr :: .v dTown :: List.replicate (N.length - 2) .no) z → z = p ∨ z = r ∨ (isLst (H a) = true ∧ z = a) := fun z h => by
      rcases h with h | ⟨i, s, h1, hs, _⟩
      · exact h
      · exact absurd hs (noOl i s h1)
    refine ⟨⟨.inl (.inl rfl), .inl (.inr (.inl rfl)), fun z => .inl (.inr (.inr ⟨z, rfl⟩)), fun z h => ?_, by simp, fun i d h => ?_, fun i s h hs => absurd hs (noOl i s h)⟩, Grow.refl _, .inl rfl, .inr (.inl rfl), fun z => .inr (.inr ⟨z, rfl⟩), fun i s a h hs => absurd hs (noOl i s h), fun i j s u a h hs => absurd hs (noOl i s h)⟩
    · rcases bl z h with rfl | rfl | ⟨hb, rfl⟩
      · exact ⟨_, hp, nt_dK⟩
      · exact ⟨_, hr, nt_dK⟩
      · cases q : H z with
        | none => rw [q] at hb; cases hb
        | some o =>
          rw [q] at hb
          cases o with
          | lst xs => exact ⟨_, sm _ _ q, nt_lst⟩
          | _ => cases hb
    · match i with
      | 0 => cases h; exact ⟨_, rfl, .scr⟩
      | 1 => cases h; exact ⟨_, rfl, .town⟩
      | i + 2 =>
        have h : (List.replicate (N.length - 2) Sl.no)[i]? = some (.v d) := h
        rw [List.getElem?_replicate] at h
        split at h <;> cases h
  have hσ : (L2.start N [V.ref a]).set 1 (some (.ref p)) = some (.ref a) :: some (.ref p) :: List.replicate (N.length - 2) none := by
    unfold L2.start
    obtain ⟨m, hm⟩ : ∃ m, N.length - 1 = m + 1 := ⟨N.length - 2, by omega⟩
    have hm2 : N.length - 2 = m := by omega
    show List.set (some (V.ref a) :: List.replicate (N.length - 1) none) 1 _ = _
    rw [hm, hm2, List.replicate_succ]
    rfl
  have t0 : TownOk ⟨P, w, K, p, r, a, ns, mg, T, isLst (H a)⟩ H' ⟨0, []⟩ := ⟨hpr, hp, hr, ⟨by simp, by simp⟩, sc, hn, fun x hx => LamX.TabS.nil (sm _ _ (hT x hx))⟩
  obtain ⟨τ', hτ⟩ := hg
  rw [hσ]
  refine ⟨_, _, _, _, e0, t0, ?_⟩
  rw [hτ]
  intro v H2 g2 t2 r2
  rw [r2.blInv]
  exact q H2
end SG

/-! SgL: parallel stores, keyword bindings, own lists read. -/
namespace SG
open PySem PySem.Spec PyProof.Rows L2
theorem hu65_of {A : Around} {k : Nat} (hr : Room k A) : A.units + 65 < cLine := by have := hr.un; omega
def sBad : MS := fun _ _ => .bad
def setAll : List Nat → List D → Rho → Option Rho
  | [], [], ρ => some ρ
  | i :: is, d :: ds, ρ => setAll is ds (ρ.set i (.v d))
  | _, _, _ => none
def sPar (is : List Nat) (l : List Nat) (f : M (List D)) : MS := fun ρ τ => (f (fz l ρ) τ).bind fun ds τ' => match setAll is ds (fz l ρ) with | some ρ' => .ok (.nx ρ') τ' | none => .bad
section
variable {X : Cx} {L : LC} {B B' B0 : Addr → Prop} {σ : St} {H H0 H' H1 : Hp} {ρ ρ' : Rho} {τ τ' : S} {E : XK} {De De' : Ends} {a b c : Expr} {pos : Pos} {f g h : M D} {u : M Bool}
theorem ds_par (l : List Nat) {i j : Nat} {x y : Str} {fs : M (List D)} {px py pt pt2 : Pos} {kt k2 : Nat} (hN : X.N.Nodup) (hij : i ≠ j) (ha : DA X L E [a, b] fs)
    (hw : swappedStores [.Tuple [.Name x px, .Name y py] kt pt] (.Tuple [a, b] k2 pt2) X.env = pure (some [x, y])) (hi : X.N[i]? = some x := by rfl) (hj : X.N[j]? = some y := by rfl) 
    (hx : X.env.scope.names.lookup x = some .local := by rfl) (hy : X.env.scope.names.lookup y = some .local := by rfl) (hc : X.calm = true := by rfl)
    (hs : swapsWithSole [.Tuple [.Name x px, .Name y py] kt pt] (.Tuple [a, b] k2 pt2) pos.line X.env = pure false := by rfl) :
    PS X (.Assign [.Tuple [.Name x px, .Name y py] kt pt] (.Tuple [a, b] k2 pt2) pos) (tS L (sPar [i, j] l fs) E) :=
  (ps_par hc hN hi hj hij hx hy ha.pa hw hs).imp fun De σ H ⟨ρ, τ, B0, H0, e, t, q⟩ => ⟨fz l ρ, τ, _, (e.fz l).env, t, postS_bind e q fun ds τ' vs H' gr t' r hh => by
    have e' := (e.fz l).more gr t'
    cases r with
    | nil => exact hh.elim
    | cons r1 r =>
      cases r with
      | nil => exact hh.elim
      | cons r2 r =>
        cases r with
        | cons _ _ => exact hh.elim
        | nil =>
          refine ⟨_, _, rfl, ?_⟩
          have e2 := e'.set (i := i) r1
          have e3 := e2.set (i := j) (r2.imp fun a u nb q _ => ⟨q, fun z => nb z.sub⟩)
          exact hh _ _ e3 t'⟩
end
section
variable {K : PySem.W.Frag}
theorem _root_.L2.Fun.kbinds {x qual : Str} {st : Stmt} {f : Addr} {fd : FuncData} {ps : List Str} (F : Fun K x qual st f fd) (m : Nat) (ks : List Str) (h0 : 0 < m + ks.length) (hps : ps.length = m + ks.length)
    (h : ∀ (kV doc pm : Value) (an : Option Addr) (cdv ct : Value) (us ws : List Value), us.length = m → ws.length = ks.length → bindArgs (PySem.W.fnOf x qual (defArgs st) (defBody st) (defScope st) .none kV doc pm an cdv ct) ⟨us, ks.zip ws⟩ = pure (ps.zip (us ++ ws))) : KBinds K fd ps ks (gK m ks.length) (gK m ks.length) := by
  obtain ⟨oc, od, kV, doc, pm, an, cdv, ct, osl, rfl, lk, hcd⟩ := F.ex
  exact kb_mk m h0 hps (h kV doc pm an cdv ct)
end
end SG
namespace SG
open PySem PySem.Spec PyProof.Rows L2
theorem fun_in {K : PySem.W.Frag} {h : Heap} {mg : Str → Option Value} {x : Str} {st : Stmt} {f : Addr} {oc : Value} {od an : Option Addr} {osl : Array (Option Value)} {kV doc pm cdv ct : Value} (X : K.In h) (G : h.Ns mainGlobals mg) (a : PySem.W.nsIn K mainGlobals x = some (some (.ref f)))
    (l : K.lookup f = some ⟨oc, od, .func (PySem.W.fnOf x x (defArgs st) (defBody st) (defScope st) .none kV doc pm an cdv ct), osl⟩) (c : PySem.W.codeIn K cdv x = true) (k : PySem.W.keepIn K (.ref f) = true) : ∃ f fd, mg x = some (.ref f) ∧ Fun K x x st f fd :=
  ⟨f, _, PySem.W.mg_of X G a, fun_mk (st := st) l c k⟩
theorem no_in {K : PySem.W.Frag} {h : Heap} {mg : Str → Option Value} {x : Str} (X : K.In h) (G : h.Ns mainGlobals mg) (a : PySem.W.nsIn K mainGlobals x = some none) : mg x = none := PySem.W.mg_none_of X G a
theorem str_in {K : PySem.W.Frag} {h : Heap} {mg : Str → Option Value} {x z : Str} {tk : Tok} (X : K.In h) (G : h.Ns mainGlobals mg) (a : PySem.W.nsIn K mainGlobals x = some (some (.str z tk))) : ∃ tk, mg x = some (.str z tk) := ⟨tk, PySem.W.mg_of X G a⟩
theorem int_in {K : PySem.W.Frag} {h : Heap} {mg : Str → Option Value} {x : Str} {z : Int} {tk : Tok} (X : K.In h) (G : h.Ns mainGlobals mg) (a : PySem.W.nsIn K mainGlobals x = some (some (.int z tk))) : ∃ tk, mg x = some (.int z tk) := ⟨tk, PySem.W.mg_of X G a⟩
theorem noCX {P : Program} {w : World} {H : Hp} {s : Shared} {e : Value} {s' : Shared} (h : L2.CX P w [] H s (fun _ _ _ => False) e s') : False := by
  obtain ⟨_, _, _, _, _, _, _, _, _, _, _, _, z⟩ := h
  exact z
end SG

/-! SgM: the evaluator's steps as rewriting rules. -/
namespace SG
open PySem PySem.Spec PyProof.Rows L2
def rng5 : List D := [.int 0, .int 1, .int 2, .int 3, .int 4]
def k_ret  (x : D) (τ : S) : Res Fl := .ok (.rt x) τ
theorem v_k_ret  (x : D) (τ : S) : k_ret x τ = .ok (.rt x) τ := id rfl
def iteK (k : Bool) (a b : MS) (ρ : Rho) (τ : S) : Res Fl := if k then a ρ τ else b ρ τ
theorem v_iteT {a b : MS} {ρ : Rho} {τ : S} : iteK true a b ρ τ = a ρ τ := id rfl
theorem v_iteF {a b : MS} {ρ : Rho} {τ : S} : iteK false a b ρ τ = b ρ τ := id rfl
def k_if (a b : MS) (ρ : Rho) (x : Bool) (τ : S) : Res Fl := iteK x a b ρ τ
theorem v_k_if {a b : MS} {ρ : Rho} (x : Bool) (τ : S) : k_if a b ρ x τ = iteK x a b ρ τ := id rfl
def k_expr (ρ : Rho) (x : D) (τ : S) : Res Fl := .ok (.nx ρ) τ
theorem v_k_expr {ρ : Rho} (x : D) (τ : S) : k_expr ρ x τ = .ok (.nx ρ) τ := id rfl
def nxO (o : Option Rho) (τ : S) : Res Fl := match o with | some ρ' => .ok (.nx ρ') τ | none => .bad
def k_asg (T : Tg) (ρ : Rho) (x : D) (τ : S) : Res Fl := nxO (asg T x ρ) τ
theorem v_k_asg {T : Tg} {ρ : Rho} (x : D) (τ : S) : k_asg T ρ x τ = nxO (asg T x ρ) τ := id rfl
def k_par (is : List Nat) (ρ : Rho) (x : (List D)) (τ : S) : Res Fl := nxO (setAll is x ρ) τ
theorem v_k_par {is : List Nat} {ρ : Rho} (x : (List D)) (τ : S) : k_par is ρ x τ = nxO (setAll is x ρ) τ := id rfl
def k_own (i : Nat) (ρ : Rho) (x : (List D)) (τ : S) : Res Fl := .ok (.nx (ρ.set i (.ol x))) τ
theorem v_k_own {i : Nat} {ρ : Rho} (x : (List D)) (τ : S) : k_own i ρ x τ = .ok (.nx (ρ.set i (.ol x))) τ := id rfl
def k_app (i : Nat) (ds : List D) (ρ : Rho) (x : D) (τ : S) : Res Fl := if ds.length < LIM then .ok (.nx (ρ.set i (.ol (ds ++ [x])))) τ else .bad
theorem v_k_app {i : Nat} {ds : List D} {ρ : Rho} (x : D) (τ : S) : k_app i ds ρ x τ = if ds.length < LIM then .ok (.nx (ρ.set i (.ol (ds ++ [x])))) τ else .bad := id rfl
def k_1 (op : D → Option D) (x : D) (τ : S) : Res D := opt (op x) τ
theorem v_k_1 {op : D → Option D} (x : D) (τ : S) : k_1 op x τ = opt (op x) τ := id rfl
def k_2b (op : D → D → Option D) (a : D) (x : D) (τ : S) : Res D := opt (op a x) τ
theorem v_k_2b {op : D → D → Option D} {a : D} (x : D) (τ : S) : k_2b op a x τ = opt (op a x) τ := id rfl
def k_2 (op : D → D → Option D) (g : M D) (ρ : Rho) (x : D) (τ : S) : Res D := (g ρ τ).bind (k_2b op x)
theorem v_k_2 {op : D → D → Option D} {g : M D} {ρ : Rho} (x : D) (τ : S) : k_2 op g ρ x τ = (g ρ τ).bind (k_2b op x) := id rfl
def k_consb (a : D) (x : (List D)) (τ : S) : Res (List D) := .ok (a :: x) τ
theorem v_k_consb {a : D} (x : (List D)) (τ : S) : k_consb a x τ = .ok (a :: x) τ := id rfl
def k_cons (fs : M (List D)) (ρ : Rho) (x : D) (τ : S) : Res (List D) := (fs ρ τ).bind (k_consb x)
theorem v_k_cons {fs : M (List D)} {ρ : Rho} (x : D) (τ : S) : k_cons fs ρ x τ = (fs ρ τ).bind (k_consb x) := id rfl
def k_tup  (x : (List D)) (τ : S) : Res D := .ok (.tuple x) τ
theorem v_k_tup  (x : (List D)) (τ : S) : k_tup x τ = .ok (.tuple x) τ := id rfl
def k_lst  (x : (List D)) (τ : S) : Res D := .ok (.list x) τ
theorem v_k_lst  (x : (List D)) (τ : S) : k_lst x τ = .ok (.list x) τ := id rfl
def k_asB  (x : D) (τ : S) : Res Bool := opt (dB x) τ
theorem v_k_asB  (x : D) (τ : S) : k_asB x τ = opt (dB x) τ := id rfl
def k_ofB  (x : Bool) (τ : S) : Res D := .ok (.bool x) τ
theorem v_k_ofB  (x : Bool) (τ : S) : k_ofB x τ = .ok (.bool x) τ := id rfl
def k_tru  (x : D) (τ : S) : Res Bool := opt (dTru x) τ
theorem v_k_tru  (x : D) (τ : S) : k_tru x τ = opt (dTru x) τ := id rfl
def andO (g : M D) (ρ : Rho) (τ : S) (o : Option Bool) : Res D := match o with | some true => g ρ τ | some false => .ok (.bool false) τ | none => .bad
def orO (g : M D) (ρ : Rho) (τ : S) (o : Option Bool) : Res D := match o with | some true => .ok (.bool true) τ | some false => g ρ τ | none => .bad
def k_and (g : M D) (ρ : Rho) (x : D) (τ : S) : Res D := andO g ρ τ (dB x)
theorem v_k_and {g : M D} {ρ : Rho} (x : D) (τ : S) : k_and g ρ x τ = andO g ρ τ (dB x) := id rfl
def k_or (g : M D) (ρ : Rho) (x : D) (τ : S) : Res D := orO g ρ τ (dB x)
theorem v_k_or {g : M D} {ρ : Rho} (x : D) (τ : S) : k_or g ρ x τ = orO g ρ τ (dB x) := id rfl
def k_not  (x : D) (τ : S) : Res D := opt ((dB x).map fun b => .bool (!b)) τ
theorem v_k_not  (x : D) (τ : S) : k_not x τ = opt ((dB x).map fun b => .bool (!b)) τ := id rfl
def k_bAnd (v : M Bool) (ρ : Rho) (x : Bool) (τ : S) : Res Bool := if x then v ρ τ else .ok false τ
theorem v_k_bAnd {v : M Bool} {ρ : Rho} (x : Bool) (τ : S) : k_bAnd v ρ x τ = if x then v ρ τ else .ok false τ := id rfl
def k_bOr (v : M Bool) (ρ : Rho) (x : Bool) (τ : S) : Res Bool := if x then .ok true τ else v ρ τ
theorem v_k_bOr {v : M Bool} {ρ : Rho} (x : Bool) (τ : S) : k_bOr v ρ x τ = if x then .ok true τ else v ρ τ := id rfl
def k_bNot  (x : Bool) (τ : S) : Res Bool := .ok (!x) τ
theorem v_k_bNot  (x : Bool) (τ : S) : k_bNot x τ = .ok (!x) τ := id rfl
def k_eIf (f g : M D) (ρ : Rho) (x : Bool) (τ : S) : Res D := if x then f ρ τ else g ρ τ
theorem v_k_eIf {f g : M D} {ρ : Rho} (x : Bool) (τ : S) : k_eIf f g ρ x τ = if x then f ρ τ else g ρ τ := id rfl
def chO (o' : D → D → Option D) (h : M D) (b : D) (ρ : Rho) (τ : S) (o : Option Bool) : Res D := match o with
  | some true => (h ρ τ).bind (k_2b o' b)
  | some false => .ok (.bool false) τ
  | none => .bad
def k_chb (o o' : D → D → Option D) (h : M D) (ρ : Rho) (a : D) (x : D) (τ : S) : Res D := chO o' h x ρ τ ((o a x).bind dB)
theorem v_k_chb {o o' : D → D → Option D} {h : M D} {ρ : Rho} {a : D} (x : D) (τ : S) : k_chb o o' h ρ a x τ = chO o' h x ρ τ ((o a x).bind dB) := id rfl
def k_ch (o o' : D → D → Option D) (g h : M D) (ρ : Rho) (x : D) (τ : S) : Res D := (g ρ τ).bind (k_chb o o' h ρ x)
theorem v_k_ch {o o' : D → D → Option D} {g h : M D} {ρ : Rho} (x : D) (τ : S) : k_ch o o' g h ρ x τ = (g ρ τ).bind (k_chb o o' h ρ x) := id rfl
def k_oSome  (x : D) (τ : S) : Res (Option Int) := opt ((dInt x).map some) τ
theorem v_k_oSome  (x : D) (τ : S) : k_oSome x τ = opt ((dInt x).map some) τ := id rfl
def k_slc (a : D) (l : Option Int) (x : (Option Int)) (τ : S) : Res D := opt (dSl a l x) τ
theorem v_k_slc {a : D} {l : Option Int} (x : (Option Int)) (τ : S) : k_slc a l x τ = opt (dSl a l x) τ := id rfl
def k_slb (hi : M (Option Int)) (ρ : Rho) (a : D) (x : (Option Int)) (τ : S) : Res D := (hi ρ τ).bind (k_slc a x)
theorem v_k_slb {hi : M (Option Int)} {ρ : Rho} {a : D} (x : (Option Int)) (τ : S) : k_slb hi ρ a x τ = (hi ρ τ).bind (k_slc a x) := id rfl
def k_sl (lo hi : M (Option Int)) (ρ : Rho) (x : D) (τ : S) : Res D := (lo ρ τ).bind (k_slb hi ρ x)
theorem v_k_sl {lo hi : M (Option Int)} {ρ : Rho} (x : D) (τ : S) : k_sl lo hi ρ x τ = (lo ρ τ).bind (k_slb hi ρ x) := id rfl
def k_call (F : Fn) (x : (List D)) (τ : S) : Res D := F x τ
theorem v_k_call {F : Fn} (x : (List D)) (τ : S) : k_call F x τ = F x τ := id rfl
def k_iSeq  (x : D) (τ : S) : Res (List D) := opt (dItems x) τ
theorem v_k_iSeq  (x : D) (τ : S) : k_iSeq x τ = opt (dItems x) τ := id rfl
def k_iRng  (x : D) (τ : S) : Res (List D) := opt (dRng x) τ
theorem v_k_iRng  (x : D) (τ : S) : k_iRng x τ = opt (dRng x) τ := id rfl
def k_iEnum  (x : D) (τ : S) : Res (List D) := opt (dEnum x) τ
theorem v_k_iEnum  (x : D) (τ : S) : k_iEnum x τ = opt (dEnum x) τ := id rfl
def k_iZipb (a : D) (x : D) (τ : S) : Res (List D) := opt (dZip a x) τ
theorem v_k_iZipb {a : D} (x : D) (τ : S) : k_iZipb a x τ = opt (dZip a x) τ := id rfl
def k_iZip (g : M D) (ρ : Rho) (x : D) (τ : S) : Res (List D) := (g ρ τ).bind (k_iZipb x)
theorem v_k_iZip {g : M D} {ρ : Rho} (x : D) (τ : S) : k_iZip g ρ x τ = (g ρ τ).bind (k_iZipb x) := id rfl
def k_comp (T : Tg) (u : M Bool) (f : M D) (ρ : Rho) (x : (List D)) (τ : S) : Res (List D) := if x.length ≤ LIM then compL T u f ρ x [] τ else .bad
theorem v_k_comp {T : Tg} {u : M Bool} {f : M D} {ρ : Rho} (x : (List D)) (τ : S) : k_comp T u f ρ x τ = if x.length ≤ LIM then compL T u f ρ x [] τ else .bad := id rfl
def k_compc (T : Tg) (u : M Bool) (f : M D) (ρ : Rho) (ds acc : List D) (x : D) (τ : S) : Res (List D) := compL T u f ρ ds (acc ++ [x]) τ
theorem v_k_compc {T : Tg} {u : M Bool} {f : M D} {ρ : Rho} {ds acc : List D} (x : D) (τ : S) : k_compc T u f ρ ds acc x τ = compL T u f ρ ds (acc ++ [x]) τ := id rfl
def iteC (k : Bool) (T : Tg) (u : M Bool) (f : M D) (ρ ρ' : Rho) (ds acc : List D) (τ : S) : Res (List D) := if k then (noex (f ρ' τ)).bind (k_compc T u f ρ ds acc) else compL T u f ρ ds acc τ
theorem v_iteCT {T : Tg} {u : M Bool} {f : M D} {ρ ρ' : Rho} {ds acc : List D} {τ : S} : iteC true T u f ρ ρ' ds acc τ = (noex (f ρ' τ)).bind (k_compc T u f ρ ds acc) := id rfl
theorem v_iteCF {T : Tg} {u : M Bool} {f : M D} {ρ ρ' : Rho} {ds acc : List D} {τ : S} : iteC false T u f ρ ρ' ds acc τ = compL T u f ρ ds acc τ := id rfl
def k_compb (T : Tg) (u : M Bool) (f : M D) (ρ ρ' : Rho) (ds acc : List D) (x : Bool) (τ : S) : Res (List D) := iteC x T u f ρ ρ' ds acc τ
theorem v_k_compb {T : Tg} {u : M Bool} {f : M D} {ρ ρ' : Rho} {ds acc : List D} (x : Bool) (τ : S) : k_compb T u f ρ ρ' ds acc x τ = iteC x T u f ρ ρ' ds acc τ := id rfl
def k_for (T : Tg) (a : MS) (ρ : Rho) (x : (List D)) (τ : S) : Res Fl := loopS T a x ρ τ
theorem v_k_for {T : Tg} {a : MS} {ρ : Rho} (x : (List D)) (τ : S) : k_for T a ρ x τ = loopS T a x ρ τ := id rfl
section
variable {ρ ρ' : Rho} {τ τ' : S} {f g h : M D} {u v : M Bool} {a b : MS} {fs gs : M (List D)} {l : List Nat} {d e : D} {ds es : List D} {i : Nat}
theorem v_bind_ok {α β : Type} {x : α} {k : α → S → Res β} : (Res.ok x τ).bind k = k x τ := id rfl
theorem v_bind_ex {α β : Type} {c : Str} {k : α → S → Res β} : (Res.ex c τ : Res α).bind k = .ex c τ := id rfl
theorem v_opt {α : Type} {x : α} : opt (some x) τ = .ok x τ := id rfl
theorem v_seq : sSeq a b ρ τ = (a ρ τ).bind (seqK b) := id rfl
theorem v_seqK_nx : seqK a (.nx ρ) τ = a ρ τ := id rfl
theorem v_seqK_rt : seqK a (.rt d) τ = .ok (.rt d) τ := id rfl
theorem v_seqK_bk : seqK a (.bk ρ) τ = .ok (.bk ρ) τ := id rfl
theorem v_seqK_ct : seqK a (.ct ρ) τ = .ok (.ct ρ) τ := id rfl
theorem v_next : sNext ρ τ = .ok (.nx ρ) τ := id rfl
theorem v_brk : sBrk ρ τ = .ok (.bk ρ) τ := id rfl
theorem v_cont : sCont ρ τ = .ok (.ct ρ) τ := id rfl
theorem v_ret : sRet l f ρ τ = (f (fz l ρ) τ).bind k_ret := id rfl
theorem v_retN : sRetN ρ τ = .ok (.rt .none) τ := id rfl
theorem v_if : sIf l u a b ρ τ = (u (fz l ρ) τ).bind (k_if a b ρ) := id rfl
theorem v_expr : sExpr l f ρ τ = (f (fz l ρ) τ).bind (k_expr (fz l ρ)) := id rfl
theorem v_nxO : nxO (some ρ) τ = .ok (.nx ρ) τ := id rfl
theorem v_asg {T : Tg} : sAsg T l f ρ τ = (f (fz l ρ) τ).bind (k_asg T (fz l ρ)) := id rfl
theorem v_asgN : asg (.nm i) d ρ = some (ρ.set i (.v d)) := id rfl
theorem v_asgT {ts : List Tg} : asg (.tp ts) (.tuple ds) ρ = asgs ts ds ρ := id rfl
theorem v_asgs0 : asgs [] [] ρ = some ρ := id rfl
theorem v_asgsN {ts : List Tg} : asgs (.nm i :: ts) (d :: ds) ρ = asgs ts ds (ρ.set i (.v d)) := id rfl
theorem v_par {is : List Nat} : sPar is l fs ρ τ = (fs (fz l ρ) τ).bind (k_par is (fz l ρ)) := id rfl
theorem v_setAll0 : setAll [] [] ρ = some ρ := id rfl
theorem v_setAllN {is : List Nat} : setAll (i :: is) (d :: ds) ρ = setAll is ds (ρ.set i (.v d)) := id rfl
theorem v_own : sOwn i l fs ρ τ = if i < ρ.length then (fs (fz l ρ) τ).bind (k_own i (fz l ρ)) else .bad := id rfl
def appO (i : Nat) (f : M D) (ρ : Rho) (τ : S) : Option Sl → Res Fl
  | some (.ol ds) => (f ρ τ).bind (k_app i ds ρ)
  | _ => .bad
theorem v_app : sApp i f ρ τ = appO i f ρ τ ρ[i]? := by unfold sApp appO; rfl
theorem v_appO : appO i f ρ τ (some (.ol ds)) = (f ρ τ).bind (k_app i ds ρ) := id rfl
def varO (τ : S) : Option Sl → Res D
  | some (.v d) => .ok d τ
  | _ => .bad
theorem v_var : eVar i ρ τ = varO τ ρ[i]? := by unfold eVar varO; rfl
theorem v_varO : varO τ (some (.v d)) = .ok d τ := id rfl
theorem v_C : eC d ρ τ = .ok d τ := id rfl
theorem v_1 {op : D → Option D} : e1 op f ρ τ = (f ρ τ).bind (k_1 op) := id rfl
theorem v_2 {op : D → D → Option D} : e2 op f g ρ τ = (f ρ τ).bind (k_2 op g ρ) := id rfl
theorem v_nil : aNil ρ τ = .ok [] τ := id rfl
theorem v_cons : aCons f fs ρ τ = (f ρ τ).bind (k_cons fs ρ) := id rfl
theorem v_tup : eTup fs ρ τ = (fs ρ τ).bind k_tup := id rfl
theorem v_lst : eLst fs ρ τ = (fs ρ τ).bind k_lst := id rfl
theorem v_F : eF fs ρ τ = (fs ρ τ).bind k_lst := id rfl
theorem v_asB : asB f ρ τ = (f ρ τ).bind k_asB := id rfl
theorem v_ofB : ofB u ρ τ = (u ρ τ).bind k_ofB := id rfl
theorem v_tru : tru f ρ τ = (f ρ τ).bind k_tru := id rfl
theorem v_and : eAnd f g ρ τ = (f ρ τ).bind (k_and g ρ) := id rfl
theorem v_or : eOr f g ρ τ = (f ρ τ).bind (k_or g ρ) := id rfl
theorem v_andO (k : Bool) : andO g ρ τ (some k) = if k then g ρ τ else .ok (.bool false) τ := by cases k <;> rfl
theorem v_orO (k : Bool) : orO g ρ τ (some k) = if k then .ok (.bool true) τ else g ρ τ := by cases k <;> rfl
theorem v_not : eNot f ρ τ = (f ρ τ).bind k_not := id rfl
theorem v_bAnd : bAnd u v ρ τ = (u ρ τ).bind (k_bAnd v ρ) := id rfl
theorem v_bOr : bOr u v ρ τ = (u ρ τ).bind (k_bOr v ρ) := id rfl
theorem v_bNot : bNot u ρ τ = (u ρ τ).bind k_bNot := id rfl
theorem v_eIf : eIf u f g ρ τ = (u ρ τ).bind (k_eIf f g ρ) := id rfl
theorem v_chain {o o' : D → D → Option D} : eChain o o' f g h ρ τ = (f ρ τ).bind (k_ch o o' g h ρ) := id rfl
theorem v_chO {o' : D → D → Option D} (k : Bool) : chO o' h d ρ τ (some k) = if k then (h ρ τ).bind (k_2b o' d) else .ok (.bool false) τ := by cases k <;> rfl
theorem v_oNone : oNone ρ τ = .ok none τ := id rfl
theorem v_oSome : oSome f ρ τ = (f ρ τ).bind k_oSome := id rfl
theorem v_sl {lo hi : M (Option Int)} : eSl f lo hi ρ τ = (f ρ τ).bind (k_sl lo hi ρ) := id rfl
theorem v_call {F : Fn} : eCall F fs ρ τ = (fs ρ τ).bind (k_call F) := id rfl
theorem v_iSeq : iSeq f ρ τ = (f ρ τ).bind k_iSeq := id rfl
theorem v_iRng : iRng f ρ τ = (f ρ τ).bind k_iRng := id rfl
theorem v_iEnum : iEnum f ρ τ = (f ρ τ).bind k_iEnum := id rfl
theorem v_iZip : iZip f g ρ τ = (f ρ τ).bind (k_iZip g ρ) := id rfl
theorem v_yes : bYes ρ τ = .ok true τ := id rfl
theorem v_comp {T : Tg} {vs : List Nat} {it : M (List D)} : eComp T vs it u f ρ τ = (it ρ τ).bind (k_comp T u f (noOwn (wpR vs ρ))) := id rfl
def compO (T : Tg) (c : M Bool) (f : M D) (ρ : Rho) (ds acc : List D) (τ : S) : Option Rho → Res (List D)
  | none => .bad
  | some ρ1 => (noex (c ρ1 τ)).bind (k_compb T c f ρ ρ1 ds acc)
theorem v_comp0 {T : Tg} {acc : List D} : compL T u f ρ [] acc τ = .ok acc τ := id rfl
theorem v_compN {T : Tg} {acc : List D} : compL T u f ρ (d :: ds) acc τ = compO T u f ρ ds acc τ (asg T d ρ) := by unfold compL compO; rfl
theorem v_compO {T : Tg} {acc : List D} : compO T u f ρ ds acc τ (some ρ') = (noex (u ρ' τ)).bind (k_compb T u f ρ ρ' ds acc) := id rfl
theorem v_noex {α : Type} {x : α} : noex (.ok x τ) = .ok x τ := id rfl
theorem v_noOwn0 : noOwn [] = [] := id rfl
theorem v_noOwnV : noOwn (.v d :: ρ) = .v d :: noOwn ρ := id rfl
theorem v_noOwnN : noOwn (.no :: ρ) = .no :: noOwn ρ := id rfl
theorem v_noOwnL : noOwn (.ol ds :: ρ) = .no :: noOwn ρ := id rfl
theorem v_noOwnA {s : Sl} : noOwn (s :: ρ) = noOwn1 s :: noOwn ρ := id rfl
theorem v_wp0 : wpR [] ρ = ρ := id rfl
theorem v_wpN {vs : List Nat} : wpR (i :: vs) ρ = (wpR vs ρ).set i .no := id rfl
theorem v_fz0 : fz [] ρ = ρ := id rfl
theorem v_fzN : fz (i :: l) ρ = fz l (fz1 i ρ) := id rfl
def fzO (i : Nat) (ρ : Rho) : Option Sl → Rho
  | some (.ol ds) => ρ.set i (.v (.list ds))
  | _ => ρ
theorem v_fz1 : fz1 i ρ = fzO i ρ ρ[i]? := by unfold fz1 fzO; rfl
theorem v_fzO_ol : fzO i ρ (some (.ol ds)) = ρ.set i (.v (.list ds)) := id rfl
theorem v_fzO_v : fzO i ρ (some (.v d)) = ρ := id rfl
theorem v_fzO_no : fzO i ρ (some .no) = ρ := id rfl
theorem v_for {T : Tg} {it : M (List D)} : sFor T l it a ρ τ = (it (fz l ρ) τ).bind (k_for T a (fz l ρ)) := id rfl
def finF (fl : Fl) (τ : S) : Res D := match fl with | .nx _ => .ok .none τ | .rt d => .ok d τ | _ => .bad
theorem v_run {n : Nat} : runF n a ds τ = (a (ds.map .v ++ List.replicate (n - ds.length) .no) τ).bind finF := id rfl
theorem v_fin_nx : finF (.nx ρ) τ = .ok .none τ := id rfl
theorem v_fin_rt : finF (.rt d) τ = .ok d τ := id rfl
def lpK (T : Tg) (a : MS) (ds : List D) (fl : Fl) (τ1 : S) : Res Fl := match fl with
      | .nx ρ2 => loopS T a ds ρ2 τ1
      | .ct ρ2 => loopS T a ds ρ2 τ1
      | .bk ρ2 => .ok (.nx ρ2) τ1
      | .rt d => .ok (.rt d) τ1
def lpO (T : Tg) (a : MS) (ds : List D) (τ : S) : Option Rho → Res Fl
  | none => .bad
  | some ρ1 => (a ρ1 τ).bind (lpK T a ds)
theorem v_loop0 {T : Tg} : loopS T a [] ρ τ = .ok (.nx ρ) τ := id rfl
theorem v_loopN {T : Tg} : loopS T a (d :: ds) ρ τ = lpO T a ds τ (asg T d ρ) := by unfold loopS lpO lpK; rfl
theorem v_lpO {T : Tg} : lpO T a ds τ (some ρ) = (a ρ τ).bind (lpK T a ds) := id rfl
theorem v_lpK_nx {T : Tg} : lpK T a ds (.nx ρ) τ = loopS T a ds ρ τ := id rfl
theorem v_lpK_ct {T : Tg} : lpK T a ds (.ct ρ) τ = loopS T a ds ρ τ := id rfl
theorem v_lpK_bk {T : Tg} : lpK T a ds (.bk ρ) τ = .ok (.nx ρ) τ := id rfl
theorem v_lpK_rt {T : Tg} : lpK T a ds (.rt d) τ = .ok (.rt d) τ := id rfl
theorem v_loop_inv {T : Tg} {I : Rho → Prop} (hs : ∀ d, d ∈ ds → ∀ ρ τ, I ρ → ∃ ρ1, asg T d ρ = some ρ1 ∧ ∃ ρ2 τ2, a ρ1 τ = .ok (.nx ρ2) τ2 ∧ I ρ2) : ∀ ρ τ, I ρ → ∃ ρ' τ', I ρ' ∧ loopS T a ds ρ τ = .ok (.nx ρ') τ' := by
  induction ds with
  | nil => intro ρ τ h; exact ⟨ρ, τ, h, rfl⟩
  | cons d ds ih =>
    intro ρ τ h
    obtain ⟨ρ1, h1, ρ2, τ2, h3, h2⟩ := hs d (List.mem_cons_self ..) ρ τ h
    obtain ⟨ρ', τ', h4, h5⟩ := ih (fun d hd => hs d (List.mem_cons_of_mem _ hd)) ρ2 τ2 h2
    refine ⟨ρ', τ', h4, ?_⟩
    rw [v_loopN, h1, v_lpO, h3, v_bind_ok, v_lpK_nx, h5]
theorem loop_all {T : Tg} {k : MS} {r : Fl} (I : Rho → Prop) (hs : ∀ d, d ∈ ds → ∀ ρ τ, I ρ → ∃ ρ1, asg T d ρ = some ρ1 ∧ ∃ ρ2 τ2, a ρ1 τ = .ok (.nx ρ2) τ2 ∧ I ρ2) (h0 : I ρ) (hk : ∀ ρ' τ', I ρ' → ∃ τ'', k ρ' τ' = .ok r τ'') : ∃ τ'', (loopS T a ds ρ τ).bind (seqK k) = .ok r τ'' := by
  obtain ⟨ρ', τ', h1, h2⟩ := v_loop_inv hs ρ τ h0
  rw [h2]
  exact hk ρ' τ' h1
theorem v_comp_map {T : Tg} {F : D → D} (hs : ∀ d, d ∈ ds → ∃ ρ1, asg T d ρ = some ρ1 ∧ u ρ1 τ = .ok true τ ∧ f ρ1 τ = .ok (F d) τ) : ∀ acc, compL T u f ρ ds acc τ = .ok (acc ++ ds.map F) τ := by
  induction ds with
  | nil => intro acc; rw [v_comp0]; simp
  | cons d ds ih =>
    intro acc
    obtain ⟨ρ1, h1, h2, h3⟩ := hs d (List.mem_cons_self ..)
    rw [v_compN, h1, v_compO, h2, v_noex, v_bind_ok, v_k_compb, v_iteCT, h3, v_noex, v_bind_ok, v_k_compc, ih fun d hd => hs d (List.mem_cons_of_mem _ hd)]
    simp
theorem v_comp_filter {T : Tg} {p : D → Bool} {F : D → D} (hs : ∀ d, d ∈ ds → ∃ ρ1, asg T d ρ = some ρ1 ∧ u ρ1 τ = .ok (p d) τ ∧ (p d = true → f ρ1 τ = .ok (F d) τ)) : ∀ acc, compL T u f ρ ds acc τ = .ok (acc ++ (ds.filter p).map F) τ := by
  induction ds with
  | nil => intro acc; rw [v_comp0]; simp
  | cons d ds ih =>
    intro acc
    obtain ⟨ρ1, h1, h2, h3⟩ := hs d (List.mem_cons_self ..)
    rw [v_compN, h1, v_compO, h2, v_noex, v_bind_ok, v_k_compb]
    cases hp : p d with
    | false => rw [v_iteCF, ih fun d hd => hs d (List.mem_cons_of_mem _ hd)]; simp [hp]
    | true => rw [v_iteCT, h3 hp, v_noex, v_bind_ok, v_k_compc, ih fun d hd => hs d (List.mem_cons_of_mem _ hd)]; simp [hp]
theorem comp_mapS {α : Type} {T : Tg} {l : List α} {g : α → D} {F : α → D} (hs : ∀ x, x ∈ l → ∃ ρ1, asg T (g x) ρ = some ρ1 ∧ u ρ1 τ = .ok true τ ∧ f ρ1 τ = .ok (F x) τ) : ∀ acc, compL T u f ρ (l.map g) acc τ = .ok (acc ++ l.map F) τ := by
  induction l with
  | nil => intro acc; rw [List.map_nil, v_comp0]; simp
  | cons d ds ih =>
    intro acc
    obtain ⟨ρ1, h1, h2, h3⟩ := hs d (List.mem_cons_self ..)
    rw [List.map_cons, v_compN, h1, v_compO, h2, v_noex, v_bind_ok, v_k_compb, v_iteCT, h3, v_noex, v_bind_ok, v_k_compc, ih fun d hd => hs d (List.mem_cons_of_mem _ hd)]
    simp
theorem comp_filterS {α : Type} {T : Tg} {l : List α} {g : α → D} {p : α → Bool} {F : α → D} (hs : ∀ x, x ∈ l → ∃ ρ1, asg T (g x) ρ = some ρ1 ∧ u ρ1 τ = .ok (p x) τ ∧ (p x = true → f ρ1 τ = .ok (F x) τ)) : ∀ acc, compL T u f ρ (l.map g) acc τ = .ok (acc ++ (l.filter p).map F) τ := by
  induction l with
  | nil => intro acc; rw [List.map_nil, v_comp0]; simp
  | cons d ds ih =>
    intro acc
    obtain ⟨ρ1, h1, h2, h3⟩ := hs d (List.mem_cons_self ..)
    rw [List.map_cons, v_compN, h1, v_compO, h2, v_noex, v_bind_ok, v_k_compb]
    cases hp : p d with
    | false => rw [v_iteCF, ih fun d hd => hs d (List.mem_cons_of_mem _ hd)]; simp [hp]
    | true => rw [v_iteCT, h3 hp, v_noex, v_bind_ok, v_k_compc, ih fun d hd => hs d (List.mem_cons_of_mem _ hd)]; simp [hp]
theorem v_iteAnd {x y : Bool} : (if x = true then Res.ok (PyData.bool y) τ else Res.ok (PyData.bool false) τ) = .ok (.bool (x && y)) τ := by cases x <;> rfl
theorem v_iteOr {x y : Bool} : (if x = true then Res.ok (PyData.bool true) τ else Res.ok (PyData.bool y) τ) = .ok (.bool (x || y)) τ := by cases x <;> rfl
theorem v_iteAndB {x y : Bool} : (if x = true then Res.ok y τ else Res.ok false τ) = .ok (x && y) τ := by cases x <;> rfl
theorem v_iteOrB {x y : Bool} : (if x = true then Res.ok true τ else Res.ok y τ) = .ok (x || y) τ := by cases x <;> rfl
/-! data -/
theorem v_dB {b : Bool} : dB (.bool b) = some b := id rfl
theorem v_dTru {b : Bool} : dTru (.bool b) = some b := id rfl
theorem v_omap {α β : Type} {f : α → β} {x : α} : (some x).map f = some (f x) := id rfl
theorem v_obind {α β : Type} {f : α → Option β} {x : α} : (some x).bind f = f x := id rfl
theorem v_dInt {z : Int} : dInt (.int z) = some z := id rfl
theorem v_lenT : dLen (.tuple ds) = some (.int ds.length) := id rfl
theorem v_lenL : dLen (.list ds) = some (.int ds.length) := id rfl
theorem v_isN0 : dIsN .none = some (.bool true) := id rfl
theorem v_isNs {z : Str} : dIsN (.str z) = some (.bool false) := id rfl
theorem v_isNt : dIsN (.tuple ds) = some (.bool false) := id rfl
theorem v_isNl : dIsN (.list ds) = some (.bool false) := id rfl
theorem v_isNi {z : Int} : dIsN (.int z) = some (.bool false) := id rfl
theorem v_notN0 : dNotN .none = some (.bool false) := id rfl
theorem v_notNs {z : Str} : dNotN (.str z) = some (.bool true) := id rfl
theorem v_notNt : dNotN (.tuple ds) = some (.bool true) := id rfl
theorem v_notNl : dNotN (.list ds) = some (.bool true) := id rfl
theorem v_notNi {z : Int} : dNotN (.int z) = some (.bool true) := id rfl
theorem v_isiTT : dIsi "tuple" (.tuple ds) = some (.bool true) := id rfl
theorem v_isiTL : dIsi "tuple" (.list ds) = some (.bool false) := id rfl
theorem v_isiTN : dIsi "tuple" .none = some (.bool false) := id rfl
theorem v_isiTS {z : Str} : dIsi "tuple" (.str z) = some (.bool false) := id rfl
theorem v_isiTI {z : Int} : dIsi "tuple" (.int z) = some (.bool false) := id rfl
theorem v_isiLT : dIsi "list" (.tuple ds) = some (.bool false) := id rfl
theorem v_isiLL : dIsi "list" (.list ds) = some (.bool true) := id rfl
theorem v_add {x y : Int} : dAdd (.int x) (.int y) = some (.int (x + y)) := id rfl
theorem v_sub {x y : Int} : dSub (.int x) (.int y) = some (.int (x - y)) := id rfl
theorem v_lt {x y : Int} : dLt (.int x) (.int y) = some (.bool (decide (x < y))) := id rfl
theorem v_le {x y : Int} : dLe (.int x) (.int y) = some (.bool (decide (x ≤ y))) := id rfl
theorem v_gt {x y : Int} : dGt (.int x) (.int y) = some (.bool (decide (y < x))) := id rfl
theorem v_ge {x y : Int} : dGe (.int x) (.int y) = some (.bool (decide (y ≤ x))) := id rfl
theorem sh_i {x : Int} : sh (.int x) = true := rfl
theorem sh_b {x : Bool} : sh (.bool x) = true := rfl
theorem sh_n : sh .none = true := rfl
theorem eq_of_sh {a b : D} (ha : sh a = true) (hb : sh b = true) : dEq a b = some (.bool (PyData.eqv a b)) := by unfold dEq; rw [ha, hb]; rfl
theorem ne_of_sh {a b : D} (ha : sh a = true) (hb : sh b = true) : dNe a b = some (.bool (!PyData.eqv a b)) := by unfold dNe; rw [ha, hb]; rfl
theorem beq_dec {α : Type} [BEq α] [LawfulBEq α] [DecidableEq α] (a b : α) : (a == b) = decide (a = b) := by
  rw [Bool.eq_iff_iff, beq_iff_eq, decide_eq_true_eq]
theorem eqv_i {x y : Int} : PyData.eqv (.int x) (.int y) = decide (x = y) := by
  simp only [PyData.eqv]; exact beq_dec x y
theorem eqv_s {x y : Str} : PyData.eqv (.str x) (.str y) = decide (x = y) := by
  simp only [PyData.eqv]; exact beq_dec x y
theorem eqv_t : PyData.eqv (.tuple ds) (.tuple es) = PyData.eqvAll ds es := by simp only [PyData.eqv]
theorem eqv_l : PyData.eqv (.list ds) (.list es) = PyData.eqvAll ds es := by simp only [PyData.eqv]
theorem eqvA_cons : PyData.eqvAll (d :: ds) (e :: es) = (PyData.eqv d e && PyData.eqvAll ds es) := by simp only [PyData.eqvAll]
theorem eqvA_nil : PyData.eqvAll [] [] = true := by simp only [PyData.eqvAll]
theorem v_eqI {x y : Int} : dEq (.int x) (.int y) = some (.bool (decide (x = y))) := by rw [eq_of_sh sh_i sh_i, eqv_i]
theorem v_neI {x y : Int} : dNe (.int x) (.int y) = some (.bool (!decide (x = y))) := by rw [ne_of_sh sh_i sh_i, eqv_i]
theorem v_all : dAll (.list ds) = (dBs ds).map fun bs => .bool (bs.all id) := id rfl
theorem v_dBs0 : dBs [] = some [] := id rfl
theorem v_dBsN {b : Bool} : dBs (.bool b :: ds) = (dBs ds).map fun l => b :: l := id rfl
theorem v_tupL : dTuple (.list ds) = some (.tuple ds) := id rfl
theorem v_tupT : dTuple (.tuple ds) = some (.tuple ds) := id rfl
theorem v_listL : dList (.list ds) = some (.list ds) := id rfl
theorem v_listT : dList (.tuple ds) = some (.list ds) := id rfl
theorem v_itemsL : dItems (.list ds) = some ds := id rfl
theorem v_itemsT : dItems (.tuple ds) = some ds := id rfl
theorem v_rng5 : dRng (.int 5) = some rng5 := id rfl
theorem v_rng0 : dRng (.int 0) = some (rngD 0) := id rfl
theorem v_rng1 : dRng (.int 1) = some (rngD 1) := id rfl
theorem v_rng2 : dRng (.int 2) = some (rngD 2) := id rfl
theorem v_rng3 : dRng (.int 3) = some (rngD 3) := id rfl
theorem v_rng4 : dRng (.int 4) = some (rngD 4) := id rfl
theorem v_rng6 : dRng (.int 6) = some (rngD 6) := id rfl
theorem v_rng7 : dRng (.int 7) = some (rngD 7) := id rfl
theorem v_rng8 : dRng (.int 8) = some (rngD 8) := id rfl
theorem v_rng9 : dRng (.int 9) = some (rngD 9) := id rfl
theorem v_rng10 : dRng (.int 10) = some (rngD 10) := id rfl
theorem v_rng11 : dRng (.int 11) = some (rngD 11) := id rfl
theorem v_rng12 : dRng (.int 12) = some (rngD 12) := id rfl
theorem v_rng5l : rng5.length = 5 := id rfl
theorem v_enum5 (a b c d e : D) : dEnum (.tuple [a, b, c, d, e]) = some [.tuple [.int 0, a], .tuple [.int 1, b], .tuple [.int 2, c], .tuple [.int 3, d], .tuple [.int 4, e]] := id rfl
theorem dNe_self {a : D} (h : sh a = true) : dNe a a = some (.bool false) := by
  rw [ne_of_sh h h, PySem.SeqAt.eqv_refl a (PySem.SeqAt.canLay_of_shaped h)]; rfl
theorem dEq_self {a : D} (h : sh a = true) : dEq a a = some (.bool true) := by
  rw [eq_of_sh h h, PySem.SeqAt.eqv_refl a (PySem.SeqAt.canLay_of_shaped h)]
mutual
/-- data without truth values and dicts -/
def clean : D → Bool
  | .none => true
  | .int _ => true
  | .str _ => true
  | .list ds => cleanA ds
  | .tuple ds => cleanA ds
  | .bool _ => false
  | .dict _ => false
def cleanA : List D → Bool
  | [] => true
  | d :: ds => clean d && cleanA ds
end
mutual
theorem eqv_clean : ∀ a b : D, clean a = true → clean b = true → (PyData.eqv a b = true ↔ a = b)
  | .none, b, _, hb => by
    cases b with
    | dict _ => exact absurd hb (by simp [clean])
    | bool _ => exact absurd hb (by simp [clean])
    | _ => simp [PyData.eqv]
  | .int x, b, _, hb => by
    cases b with
    | dict _ => exact absurd hb (by simp [clean])
    | bool _ => exact absurd hb (by simp [clean])
    | _ => simp [PyData.eqv]
  | .str x, b, _, hb => by
    cases b with
    | dict _ => exact absurd hb (by simp [clean])
    | bool _ => exact absurd hb (by simp [clean])
    | _ => simp [PyData.eqv]
  | .list xs, b, ha, hb => by
    cases b with
    | list ys => rw [eqv_l, eqvAll_clean xs ys (by simpa [clean] using ha) (by simpa [clean] using hb)]; simp
    | dict _ => exact absurd hb (by simp [clean])
    | bool _ => exact absurd hb (by simp [clean])
    | _ => simp [PyData.eqv]
  | .tuple xs, b, ha, hb => by
    cases b with
    | tuple ys => rw [eqv_t, eqvAll_clean xs ys (by simpa [clean] using ha) (by simpa [clean] using hb)]; simp
    | dict _ => exact absurd hb (by simp [clean])
    | bool _ => exact absurd hb (by simp [clean])
    | _ => simp [PyData.eqv]
  | .bool _, _, ha, _ => absurd ha (by simp [clean])
  | .dict _, _, ha, _ => absurd ha (by simp [clean])
theorem eqvAll_clean : ∀ a b : List D, cleanA a = true → cleanA b = true → (PyData.eqvAll a b = true ↔ a = b)
  | [], [], _, _ => by simp [PyData.eqvAll]
  | [], _ :: _, _, _ => by simp [PyData.eqvAll]
  | _ :: _, [], _, _ => by simp [PyData.eqvAll]
  | x :: xs, y :: ys, ha, hb => by
    have h1 : clean x = true ∧ cleanA xs = true := by simpa [cleanA] using ha
    have h2 : clean y = true ∧ cleanA ys = true := by simpa [cleanA] using hb
    rw [eqvA_cons, Bool.and_eq_true, eqv_clean x y h1.1 h2.1, eqvAll_clean xs ys h1.2 h2.2, List.cons.injEq]
end
/-- the place of a whole number of no sign -/
theorem v_ixT {n : Nat} : dIx (.tuple ds) (.int (n : Int)) = ds[n]? := by
  show (ixN ds.length (n : Int)).bind _ = _
  unfold ixN
  rw [if_pos (Int.natCast_nonneg n)]
  by_cases h : n < ds.length
  · rw [if_pos (by omega)]; rfl
  · rw [if_neg (by omega), List.getElem?_eq_none (by omega)]; rfl
theorem v_ixL {n : Nat} : dIx (.list ds) (.int (n : Int)) = ds[n]? := v_ixT
theorem v_ixT0 : dIx (.tuple ds) (.int 0) = ds[0]? := v_ixT (n := 0)
theorem v_ixT1 : dIx (.tuple ds) (.int 1) = ds[1]? := v_ixT (n := 1)
theorem v_ixT2 : dIx (.tuple ds) (.int 2) = ds[2]? := v_ixT (n := 2)
theorem v_ixT3 : dIx (.tuple ds) (.int 3) = ds[3]? := v_ixT (n := 3)
theorem v_ixT4 : dIx (.tuple ds) (.int 4) = ds[4]? := v_ixT (n := 4)
theorem dBs_len : ∀ {ds : List D} {bs : List Bool}, dBs ds = some bs → ds = bs.map .bool := by
  intro ds
  induction ds with
  | nil => intro bs h; cases h; rfl
  | cons d ds ih =>
    intro bs h
    cases d with
    | bool b =>
      have h' : (dBs ds).map (b :: ·) = some bs := h
      cases q : dBs ds with
      | none => rw [q] at h'; cases h'
      | some cs => rw [q] at h'; cases h'; rw [ih q]; rfl
    | _ => cases h
/-- draws -/
theorem v_draw {ns : List Int} {m : Int} (h : 0 < m ∧ m < 1000000) : drawF ns [dScr, dTown, .int m] τ = .ok (.int (drawV ns τ m)) (drawS ns τ m) := by
  have e : dMany (.int m) = some m := if_pos h
  show (match dMany (.int m) with | some m => _ | none => _ : Res D) = _
  rw [e]
theorem draw_ok (ns : List Int) (τ : S) (n : Nat) (h : 0 < n ∧ n < 1000000) : ∃ i : Fin n, ∃ τ', drawF ns [dScr, dTown, .int (n : Int)] τ = .ok (.int ((i.val : Nat) : Int)) τ' := by
  obtain ⟨h1, h2⟩ := drawV_range (ns := ns) (τ := τ) (m := (n : Int)) (by omega)
  refine ⟨⟨(drawV ns τ n).toNat, by omega⟩, drawS ns τ n, ?_⟩
  rw [v_draw (by omega)]
  show _ = Res.ok (PyData.int (((drawV ns τ n).toNat : Nat) : Int)) _
  rw [show (((drawV ns τ n).toNat : Nat) : Int) = drawV ns τ n by omega]
theorem draw2 (ns : List Int) (τ : S) : ∃ i : Fin 2, ∃ τ', drawF ns [dScr, dTown, .int 2] τ = .ok (.int ((i.val : Nat) : Int)) τ' := draw_ok ns τ 2 (by omega)
theorem draw3 (ns : List Int) (τ : S) : ∃ i : Fin 3, ∃ τ', drawF ns [dScr, dTown, .int 3] τ = .ok (.int ((i.val : Nat) : Int)) τ' := draw_ok ns τ 3 (by omega)
theorem draw4 (ns : List Int) (τ : S) : ∃ i : Fin 4, ∃ τ', drawF ns [dScr, dTown, .int 4] τ = .ok (.int ((i.val : Nat) : Int)) τ' := draw_ok ns τ 4 (by omega)
theorem draw5 (ns : List Int) (τ : S) : ∃ i : Fin 5, ∃ τ', drawF ns [dScr, dTown, .int 5] τ = .ok (.int ((i.val : Nat) : Int)) τ' := draw_ok ns τ 5 (by omega)
theorem draw6 (ns : List Int) (τ : S) : ∃ i : Fin 6, ∃ τ', drawF ns [dScr, dTown, .int 6] τ = .ok (.int ((i.val : Nat) : Int)) τ' := draw_ok ns τ 6 (by omega)
theorem draw_fin (ns : List Int) (τ : S) (n : Nat) (h : 0 < n) : ∃ i : Fin n, drawV ns τ (n : Int) = ((i.val : Nat) : Int) := by
  obtain ⟨h1, h2⟩ := drawV_range (ns := ns) (τ := τ) (m := (n : Int)) (by omega)
  exact ⟨⟨(drawV ns τ n).toNat, by omega⟩, by show _ = (((drawV ns τ n).toNat : Nat) : Int); omega⟩
end
end SG

/-! SgN: texts, dicts of pairs, sorting. -/
namespace SG
open PySem PySem.Spec PyProof.Rows L2

/-! ### sorting texts -/
def leS (a b : Str) : Bool := !ltCps b.cps.toList a.cps.toList
theorem leS_iff (a b : Str) : leS a b = true ↔ ¬ b.cps.toList < a.cps.toList := by
  unfold leS; rw [ltCps_eq]; simp
theorem leS_total (a b : Str) : leS a b = true ∨ leS b a = true := by
  rw [leS_iff, leS_iff]
  by_cases h : b.cps.toList < a.cps.toList
  · exact .inr (List.lt_asymm h)
  · exact .inl h
theorem leS_trans {a b c : Str} (h1 : leS a b = true) (h2 : leS b c = true) : leS a c = true := by
  rw [leS_iff] at *
  rw [List.not_lt] at *
  exact List.le_trans h1 h2
theorem leS_antisymm {a b : Str} (h1 : leS a b = true) (h2 : leS b a = true) : a = b := by
  rw [leS_iff] at *
  rw [List.not_lt] at *
  have h := List.le_antisymm h1 h2
  cases a; cases b
  congr 1
  exact Array.toList_inj.mp h
def insS (x : Str) : List Str → List Str
  | [] => [x]
  | y :: l => if leS x y then x :: y :: l else y :: insS x l
def sortS : List Str → List Str
  | [] => []
  | x :: l => insS x (sortS l)
theorem insS_perm (x : Str) : ∀ l : List Str, (insS x l).Perm (x :: l)
  | [] => .refl _
  | y :: l => by
    unfold insS
    split
    · exact .refl _
    · exact ((insS_perm x l).cons y).trans (.swap ..)
theorem sortS_perm : ∀ l : List Str, (sortS l).Perm l
  | [] => .refl _
  | x :: l => (insS_perm x (sortS l)).trans ((sortS_perm l).cons x)
theorem insS_sorted (x : Str) : ∀ {l : List Str}, l.Pairwise (fun a b => leS a b = true) → (insS x l).Pairwise (fun a b => leS a b = true)
  | [], _ => by simp [insS]
  | y :: l, h => by
    unfold insS
    cases hx : leS x y with
    | true =>
      rw [if_pos rfl]
      refine List.pairwise_cons.mpr ⟨fun z hz => ?_, h⟩
      rcases List.mem_cons.mp hz with rfl | hz
      · exact hx
      · exact leS_trans hx ((List.pairwise_cons.mp h).1 z hz)
    | false =>
      rw [if_neg (by simp)]
      refine List.pairwise_cons.mpr ⟨fun z hz => ?_, insS_sorted x (List.pairwise_cons.mp h).2⟩
      rcases List.mem_cons.mp ((insS_perm x l).mem_iff.mp hz) with rfl | hz
      · rcases leS_total y z with h | h
        · exact h
        · rw [hx] at h; cases h
      · exact (List.pairwise_cons.mp h).1 z hz
theorem sortS_sorted : ∀ l : List Str, (sortS l).Pairwise (fun a b => leS a b = true)
  | [] => .nil
  | x :: l => insS_sorted x (sortS_sorted l)
theorem rising_pw : ∀ (l : List Str) (p : Str), risingS p l = true → (p :: l).Pairwise (fun a b => leS a b = true)
  | [], p, _ => by simp
  | x :: l, p, h => by
    have h' : leS p x = true ∧ risingS x l = true := by simpa [risingS, leS] using h
    have ih := rising_pw l x h'.2
    refine List.pairwise_cons.mpr ⟨fun z hz => ?_, ih⟩
    rcases List.mem_cons.mp hz with rfl | hz
    · exact h'.1
    · exact leS_trans h'.1 ((List.pairwise_cons.mp ih).1 z hz)
theorem sortedS_pw : ∀ (l : List Str), sortedS l = true → l.Pairwise (fun a b => leS a b = true)
  | [], _ => .nil
  | x :: l, h => rising_pw l x h
theorem sortS_uniq {ys ks : List Str} (p : ys.Perm ks) (h : sortedS ys = true) : ys = sortS ks :=
  List.Perm.eq_of_pairwise (le := fun a b => leS a b = true) (fun _ _ _ _ => leS_antisymm) (sortedS_pw ys h) (sortS_sorted ks) (p.trans (sortS_perm ks).symm)

/-! ### join -/
def dStrs : List D → Option (List Str)
  | [] => some []
  | .str x :: r => (dStrs r).map fun l => x :: l
  | _ => none
def joinFits (a : Str) (ys : List Str) : Bool := Nat.ble ((ys.map (·.length)).sum + ys.length * a.length) 16777216
def joinD (a : Str) (ys : List Str) : Option D := if joinFits a ys then some (.str (Txt.join a ys)) else none
def dJoin : D → D → Option D
  | .str a, .list ds => (dStrs ds).bind (joinD a)
  | .str a, .tuple ds => (dStrs ds).bind (joinD a)
  | .str a, .str y => if Nat.ble y.length LIM then joinD a (chars y) else none
  | _, _ => none
section
variable {prog : Program} {w : World} {A : Around} {E : Value → Shared → Prop} {s : Shared}
open PySem.Builtin PySem.Builtin.Str in
theorem join_tree_any (sep : Str) (t : Tok) (a : Value) : «str.join» ⟨[.str sep t, a], []⟩ = (do
    let ty ← typeOf a
    if (ty == .type "list" || ty == .type "tuple") = true then (do
      match ← seqItems? a with
      | some xs => joinTail sep xs.toList
      | none => unsupported "internal:str.join")
    else (do
      let it ← (pyIter a).tryCatch fun e => do
        if ← isInstance e (.type "TypeError") then rule "str.join.not-iterable"; raiseError "TypeError" "can only join an iterable" else throw e
      let items ← collect it
      joinTail sep items)) := rfl
theorem signs_are {y : Str} {acc : Array Value} (h : ItemsOf (SignAt y) acc y.cps.size) : StrsAre acc.toList (chars y) := by
  have key : ∀ (vs : List Value) (cs : List Nat), vs.length = cs.length → (∀ (j : Nat) (v : Value), vs[j]? = some v → ∃ c u, cs[j]? = some c ∧ v = Value.str ⟨#[c]⟩ u) → StrsAre vs (cs.map fun c => (⟨#[c]⟩ : Str)) := by
    intro vs
    induction vs with
    | nil =>
      intro cs hl _
      cases cs with
      | nil => exact .nil
      | cons c cs => cases hl
    | cons v vs ih =>
      intro cs hl hv
      cases cs with
      | nil => cases hl
      | cons c cs =>
        obtain ⟨c', u, h1, rfl⟩ := hv 0 v rfl
        cases h1
        exact .cons _ u (ih cs (by simpa using hl) fun j w hj => hv (j + 1) w hj)
  refine key _ _ ?_ fun j v hj => ?_
  · rw [Array.length_toList, h.1, Array.length_toList]
  · obtain ⟨c, u, h1, h2⟩ := h.2 j v (by rw [← Array.getElem?_toList]; exact hj)
    exact ⟨c, u, by rw [Array.getElem?_toList]; exact h1, h2⟩
open PySem.Builtin PySem.Builtin.Str in
theorem join_txt {x y : Str} {t u : Tok} {Q : Value → Shared → Prop} (hh : A.handled = none) (hok : ((chars y).map (·.length)).sum + (chars y).length * x.length ≤ 16777216) (hn : y.cps.size ≤ sizeLine)
    (hq : ∀ h' : Heap, (∀ b o, s.heap.get? b = some o → h'.get? b = some o) → ∀ t' k, Q (.str (Txt.join x (chars y)) t') { s with heap := h', toks := k }) :
    wpAny (model prog w) A (call (.builtin "str.join") [.str x t, .str y u]) Q E s := by
  refine wpAny_call (codeAny_call_builtin F.slot_str_join.plain F.entry_str_join (F.slot_str_join.check _ _ _ _ _ _ _ _ (typeIs_str _ _ _) (F.args_str_join_2 _ _) ?_))
  rw [join_tree_any]
  refine wpAny_bind (wpAny_typeOf (T := "str") (v := .str y u) rfl ?_)
  show wpAny _ A.in1 ((pyIter (.str y u)).tryCatch _ >>= fun it => collect it >>= fun items => joinTail x items) _ _ s
  refine wpAny_bind (wpAny_tryCatch (wpAny_pyIter_strU ?_))
  have hty : strIterType y = "str_ascii_iterator" ∨ strIterType y = "str_iterator" := by unfold strIterType; split <;> simp
  refine wpAny_bind (wpAny_collect_strIter (x := y) (t := u) (A := A.in1) hh hty ⟨_, Heap.get?_push_size _ rfl, rfl, rfl⟩ (fun s' acc hm hg hd ho hacc => ?_) hn)
  obtain ⟨l, hl, ht⟩ := strsAre_values (signs_are hacc)
  rw [hl]
  have hok' : JoinOk x (l.map (·.1)) = true := by rw [ht]; exact joinOk_of hok
  unfold JoinOk at hok'
  rw [Bool.not_eq_true'] at hok'
  have g : Gives (joinTail x (strValues l)) (joinMade x l) := by
    have g0 := gives_joinTail x l hok'
    cases l with
    | nil => exact g0
    | cons p r => cases r with
      | nil => exact g0
      | cons q r' => exact g0
  refine g prog w A (wants Q E) s' (post_join l ⟨joinFit_length hok', fun t' k => ?_⟩)
  rw [ht]
  have es : ({ s' with toks := k } : Shared) = { s with heap := s'.heap, toks := k } := by
    obtain ⟨a, b, c, d, e⟩ := s'
    simp only at hg hd ho
    subst hg hd ho
    rfl
  rw [es]
  exact hq s'.heap (fun b o e => hm b o (fun z => by rw [z] at e; exact absurd (Heap.lt_size e) (Nat.lt_irrefl _)) (Heap.get?_push_of_some _ e)) t' k
end
section
variable {X : Cx} {L : LC} {B B' B0 : Addr → Prop} {σ : St} {H H0 H' H1 : Hp} {ρ ρ' : Rho} {τ τ' : S} {E : XK} {De De' : Ends} {a b c : Expr} {pos : Pos} {f g h : M D} {u : M Bool}
theorem mt_joinT (hc : X.calm = true) : MtR X "str.join" (fun x xs H Q => ∃ a y, x = .str a ∧ xs = [.str y] ∧ y.cps.size ≤ sizeLine ∧ ((chars y).map (·.length)).sum + (chars y).length * a.length ≤ 16777216 ∧ Q (.str (Txt.join a (chars y))) H) := by
  intro pins s σ H x xs v us Q I rx rs h
  obtain ⟨a, y, rfl, rfl, hy, hz, h⟩ := h
  obtain ⟨t, rfl⟩ := rx
  cases rs with
  | cons r1 rs =>
    cases rs
    obtain ⟨u, rfl⟩ := r1
    exact join_txt (I.ok.hd hc) hz hy fun h' hk t' k => ⟨.str _, H, I.kept hk, ⟨t', rfl⟩, h⟩
theorem mt_joinA (hc : X.calm = true) : MtR X "str.join" (fun x xs H Q => (∃ a p, ∃ ys : List Str, x = .str a ∧ xs = [.ref p] ∧ (SqL X.K H p (ys.map V.str) ∨ SqT X.K H p (ys.map V.str)) ∧ (ys.map (·.length)).sum + ys.length * a.length ≤ 16777216 ∧ Q (.str (Txt.join a ys)) H) ∨
    ∃ a y, x = .str a ∧ xs = [.str y] ∧ y.cps.size ≤ sizeLine ∧ ((chars y).map (·.length)).sum + (chars y).length * a.length ≤ 16777216 ∧ Q (.str (Txt.join a (chars y))) H) := fun pins s σ H x xs v us Q I rx rs h => by
  rcases h with h | h
  · exact mt_join pins s σ H x xs v us Q I rx rs h
  · exact mt_joinT hc pins s σ H x xs v us Q I rx rs h
theorem RepA.strs {vs : List V} {ds : List D} {ys : List Str} (r : RepA L B H vs ds) (h : dStrs ds = some ys) : vs = ys.map V.str := by
  induction ds generalizing vs ys with
  | nil => cases r; cases h; rfl
  | cons d ds ih =>
    cases r with
    | cons r ra =>
      cases d with
      | str x =>
        have h : (dStrs ds).map (fun l => x :: l) = some ys := h
        cases q : dStrs ds with
        | none => rw [q] at h; cases h
        | some l =>
          rw [q] at h
          cases h
          rw [r.strInv, ih ra q]
          rfl
      | _ => cases h
theorem joinD_some {a : Str} {ys : List Str} {z : D} (h : joinD a ys = some z) : (ys.map (·.length)).sum + ys.length * a.length ≤ 16777216 ∧ z = .str (Txt.join a ys) := by
  unfold joinD at h
  split at h
  · rename_i q
    cases h
    exact ⟨Nat.le_of_ble_eq_true q, rfl⟩
  · cases h
theorem ite_some' {p : Bool} {z w : D} {o : Option D} (h : (if p then o else none) = some z) : p = true ∧ o = some z := by
  cases p with
  | true => exact ⟨rfl, h⟩
  | false => cases h
theorem de_join (hL : LX X L) {apos p : Pos} {x : Str} {k : Nat} (hc : X.calm = true) (hb : PE X b (tD L g E)) (hs : starEach [b] X.env = [(false, eval b X.env)] := by rfl) (hbase : attributeBase (.Constant (.str x) k p) "join" X.env (eval (.Constant (.str x) k p) X.env) = eval (.Constant (.str x) k p) X.env := by rfl) (hline : (apos.endLine == pos.line) = true := by rfl) :
    PE X (.Call (.Attribute (.Constant (.str x) k p) "join" apos) [b] [] pos) (tD L (e1 (dJoin (.str x)) g) E) :=
  (pe_m1 F.slot_str_join F.type_str_join (mt_joinA hc) pe_str hb hs hbase hline).imp fun σ H Q ⟨ρ, τ, B, e, t, h⟩ => by
    refine ⟨⟨x, rfl⟩, ?_⟩
    refine tD_bind (k := fun b _ τ2 => opt (dJoin (.str x) b) τ2) e t h fun d2 τ2 v2 H2 e2 g2 t2 r2 h2 => ?_
    obtain ⟨z, hz, q⟩ := post_opt h2
    rw [hL.k]
    cases d2 with
    | list ds =>
      have hz : (dStrs ds).bind (joinD x) = some z := hz
      cases hy : dStrs ds with
      | none => rw [hy] at hz; cases hz
      | some ys =>
        rw [hy] at hz
        obtain ⟨h1, rfl⟩ := joinD_some hz
        obtain ⟨p, xs, rfl, nb, sq, ra⟩ := r2.lstInv
        rw [ra.strs hy] at sq
        exact .inl ⟨x, p, ys, rfl, rfl, .inl (.of sq), h1, post_ok q t2 (.str _)⟩
    | tuple ds =>
      have hz : (dStrs ds).bind (joinD x) = some z := hz
      cases hy : dStrs ds with
      | none => rw [hy] at hz; cases hz
      | some ys =>
        rw [hy] at hz
        obtain ⟨h1, rfl⟩ := joinD_some hz
        obtain ⟨p, xs, rfl, sq, ra⟩ := r2.tupInv
        rw [ra.strs hy] at sq
        exact .inl ⟨x, p, ys, rfl, rfl, .inr sq, h1, post_ok q t2 (.str _)⟩
    | str y =>
      have hz : (if Nat.ble y.length LIM then joinD x (chars y) else none) = some z := hz
      obtain ⟨hy, hz⟩ := ite_some' (w := .none) hz
      obtain ⟨h1, rfl⟩ := joinD_some hz
      rw [r2.strInv]
      exact .inr ⟨x, y, rfl, rfl, Nat.le_trans (Nat.le_of_ble_eq_true hy) lim_le, h1, post_ok q t2 (.str _)⟩
    | _ => cases hz
/-! ### f'..' -/
def dFmt : D → Option Str
  | .str x => if Nat.ble x.length LIM then some x else none
  | .int i => if i.natAbs < 2 ^ 1000 then some (toString i) else none
  | _ => none
def dCat (acc y : Str) : Option Str := if Nat.ble (acc ++ y).length LIM then some (acc ++ y) else none
/-- the parts, one behind the other -/
def fStr : List (M D) → Str → M D
  | [], acc => fun _ τ => .ok (.str acc) τ
  | f :: fs, acc => fun ρ τ => (f ρ τ).bind fun d τ1 => match (dFmt d).bind (dCat acc) with
    | some acc' => fStr fs acc' ρ τ1
    | none => .bad
structure DJ (X : Cx) (L : LC) (E : XK) (es : List Expr) (fs : List (M D)) : Prop where
  ts : ∃ ts, PJ X es ts ∧ ∀ acc σ H Q, (∃ ρ τ B, EnvE L B σ H ρ ∧ TownOk L H τ ∧ Post L B H (fun v H => ∃ y, v = V.str y ∧ Q y H) E (fStr fs acc ρ τ)) → tJs ts acc σ H Q
theorem dj_nil : DJ X L E [] [] := ⟨[], .nil, fun acc σ H Q ⟨ρ, τ, B, e, t, h⟩ => by
  obtain ⟨y, hy, q⟩ := post_ok h t (.str acc)
  cases hy
  exact q⟩
theorem dj_cons {es : List Expr} {fs : List (M D)} (ha : PE X a (tD L f E)) (hr : DJ X L E es fs) : DJ X L E (.FormattedValue a (-1) none pos :: es) (f :: fs) := by
  obtain ⟨ts, hp, hk⟩ := hr.ts
  refine ⟨_, .cons (pe_fmt ha) hp, fun acc σ H Q ⟨ρ, τ, B, e, t, h⟩ => ?_⟩
  refine tD_bind (k := fun d ρ τ1 => match (dFmt d).bind (dCat acc) with | some acc' => fStr fs acc' ρ τ1 | none => .bad) e t h fun d τ1 v H1 e1 g1 t1 r1 h1 => ?_
  cases hd : (dFmt d).bind (dCat acc) with
  | none => rw [hd] at h1; exact h1.elim
  | some acc' =>
    rw [hd] at h1
    cases hf : dFmt d with
    | none => rw [hf] at hd; cases hd
    | some y =>
      rw [hf] at hd
      have hd : dCat acc y = some acc' := hd
      unfold dCat at hd
      split at hd
      · rename_i hl
        cases hd
        have hl' : (acc ++ y).length ≤ sizeLine := Nat.le_trans (Nat.le_of_ble_eq_true hl) lim_le
        have rest : ∃ y' : Str, V.str y = .str y' ∧ (acc ++ y').length ≤ sizeLine ∧ tJs ts (acc ++ y') σ H1 Q := ⟨y, rfl, hl', hk _ _ _ _ ⟨ρ, τ1, B, e1, t1, h1⟩⟩
        cases d with
        | str x =>
          have hf : (if Nat.ble x.length LIM then some x else none) = some y := hf
          split at hf
          · rename_i hx
            cases hf
            exact .inl ⟨_, r1.strInv, Nat.le_trans (Nat.le_of_ble_eq_true hx) lim_le, rest⟩
          · cases hf
        | int i =>
          have hf : (if i.natAbs < 2 ^ 1000 then some (toString i : Str) else none) = some y := hf
          split at hf
          · rename_i hx
            cases hf
            refine .inr ⟨i, r1.intInv, ?_, rest⟩
            by_cases h0 : i.natAbs = 0
            · rw [h0]; decide
            · have := (Nat.log2_lt h0).mpr hx
              omega
          · cases hf
        | _ => cases hf
      · cases hd
theorem fStr_str : ∀ (fs : List (M D)) (acc : Str) (ρ : Rho) (τ : S) (d : D) (τ' : S), fStr fs acc ρ τ = .ok d τ' → ∃ y, d = .str y
  | [], acc, ρ, τ, d, τ', h => by
    have h : Res.ok (PyData.str acc) τ = .ok d τ' := h
    cases h
    exact ⟨acc, rfl⟩
  | f :: fs, acc, ρ, τ, d, τ', h => by
    have h : ((f ρ τ).bind fun d τ1 => match (dFmt d).bind (dCat acc) with | some acc' => fStr fs acc' ρ τ1 | none => .bad) = .ok d τ' := h
    cases hf : f ρ τ with
    | ok d1 τ1 =>
      rw [hf, bind_ok] at h
      cases hd : (dFmt d1).bind (dCat acc) with
      | none => rw [hd] at h; cases h
      | some acc' => rw [hd] at h; exact fStr_str fs acc' ρ τ1 d τ' h
    | ex c s => rw [hf] at h; cases h
    | bad => rw [hf] at h; cases h
theorem de_fstr {v1 v2 : Expr} {rest : List Expr} {fs : List (M D)} (h : DJ X L E (v1 :: v2 :: rest) fs) : PE X (.JoinedStr (v1 :: v2 :: rest) pos) (tD L (fStr fs Str.empty) E) := by
  obtain ⟨ts, hp, hk⟩ := h.ts
  refine (pe_joined hp).imp fun σ H Q ⟨ρ, τ, B, e, t, h⟩ => hk _ _ _ _ ⟨ρ, τ, B, e, t, ?_⟩
  cases hf : fStr fs Str.empty ρ τ with
  | ok d τ' =>
    rw [hf] at h
    intro v H' g' t' r'
    obtain ⟨y, rfl⟩ := fStr_str _ _ _ _ _ _ hf
    exact ⟨y, r'.strInv, by rw [← r'.strInv]; exact h v H' g' t' r'⟩
  | ex c s => rw [hf] at h; exact h
  | bad => rw [hf] at h; exact h
/-! ### str(number) -/
def dStrI : D → Option D
  | .int i => if i.natAbs < 2 ^ 1000 then some (.str (toString i)) else none
  | .str x => some (.str x)
  | _ => none
theorem call_strA : CallR X (.type "str") (fun xs H Q => (∃ i, xs = [.int i] ∧ i.natAbs.log2 < 1920 ∧ Q (.str (toString i)) H) ∨ ∃ a, xs = [.str a] ∧ Q (.str a) H) := fun pins s σ H xs us Q I r h => by
  rcases h with h | h
  · exact call_str_int pins s σ H xs us Q I r h
  · exact SkE.call_str_str pins s σ H xs us Q I r h
theorem de_strI {p : Pos} (hm : X.mg "str" = none) (ha : PE X a (tD L f E)) (hg : Gl X "str" := by rfl) (he : starEach [a] X.env = (false, eval a X.env) :: starEach [] X.env := by rfl) (hb : bootBuiltins "str" = some (.type "str") := by decide +kernel) :
    PE X (.Call (.Name "str" p) [a] [] pos) (tD L (e1 dStrI f) E) :=
  (pe_callTy call_strA hg hm hb (pa_cons ha pa_nil he) (by decide) (by decide) he rfl).imp fun σ H Q ⟨ρ, τ, B, e, t, h⟩ => tD_bind (k := fun a _ τ1 => opt (dStrI a) τ1) e t h fun d τ1 v H1 e1 g1 t1 r1 h1 => by
    obtain ⟨z, hz, q⟩ := post_opt h1
    cases d with
    | int i =>
      have hz : (if i.natAbs < 2 ^ 1000 then some (PyData.str (toString i)) else none) = some z := hz
      split at hz
      · rename_i hx
        cases hz
        refine .inl ⟨i, by rw [r1.intInv], ?_, post_ok q t1 (.str _)⟩
        by_cases h0 : i.natAbs = 0
        · rw [h0]; decide
        · have := (Nat.log2_lt h0).mpr hx
          omega
      · cases hz
    | str x =>
      cases hz
      exact .inr ⟨x, by rw [r1.strInv], post_ok q t1 (.str _)⟩
    | _ => cases hz
/-! ### sorted(dict of texts), sorted(list of texts) -/
def dSorted : D → Option D
  | .dict kvs => match unDic (.dict kvs) with
    | some kvs => if kvs.length < 64 then some (.list ((sortS (kvs.map (·.1))).map .str)) else none
    | none => none
  | .list ds => match dStrs ds with
    | some ys => if ys.length < 64 then some (.list ((sortS ys).map .str)) else none
    | none => none
  | _ => none
def dSortedF (d : D) : Option (List D) := match dSorted d with | some (.list ds) => some ds | _ => none
theorem repA_strs (ys : List Str) : RepA L B H (ys.map V.str) (ys.map PyData.str) := by
  induction ys with
  | nil => exact .nil
  | cons y ys ih => exact .cons (.str y) ih
theorem kvV_keys {ks : List Str} {xs : List V} (h : ks.length = xs.length) : (kvV ks xs).map (·.1) = ks.map Sum.inr := by
  unfold kvV
  rw [List.map_map]
  induction ks generalizing xs with
  | nil => rfl
  | cons k ks ih =>
    cases xs with
    | nil => cases h
    | cons x xs => simp [ih (xs := xs) (by simpa using h)]
theorem call_sortedA (hcalm : X.calm = true) : CallR X (.builtin "sorted") (fun xs H Q => (∃ (a : Addr) (kvs : List (Key × V)) (ks : List Str), xs = [.ref a] ∧ Rd H a (.dK kvs) ∧ kvs.map (·.1) = ks.map Sum.inr ∧ ks.length < 64 ∧
    ∀ ys p, ys.Perm ks → sortedS ys = true → H p = none → Q (.ref p) (upd H p (.lst (ys.map V.str)))) ∨ rSortedS X.K xs H Q) := fun pins s σ H xs us Q I r h => by
  rcases h with h | h
  · exact call_sortedD hcalm pins s σ H xs us Q I r h
  · exact cr_sortedS pins s σ H xs us Q I r h
theorem de_sorted (hL : LX X L) {p : Pos} (hc : X.calm = true) (hm : X.mg "sorted" = none) (ha : PE X a (tD L f E)) (hg : Gl X "sorted" := by rfl) (he : starEach [a] X.env = (false, eval a X.env) :: starEach [] X.env := by rfl) (hb : bootBuiltins "sorted" = some (.builtin "sorted") := by decide +kernel) :
    PE X (.Call (.Name "sorted" p) [a] [] pos) (tD L (e1 dSorted f) E) :=
  (pe_callB (call_sortedA hc) hg hm hb (pa_cons ha pa_nil he) (by decide) (by decide) he rfl).imp fun σ H Q ⟨ρ, τ, B, e, t, h⟩ => tD_bind (k := fun a _ τ1 => opt (dSorted a) τ1) e t h fun d τ1 v H1 e1 g1 t1 r1 h1 => by
    obtain ⟨z, hz, q⟩ := post_opt h1
    cases d with
    | dict kvs =>
      have hz : (match unDic (.dict kvs) with | some kvs => if kvs.length < 64 then some (PyData.list ((sortS (kvs.map (·.1))).map .str)) else none | none => none) = some z := hz
      cases hd : unDic (.dict kvs) with
      | none => rw [hd] at hz; cases hz
      | some kvs' =>
        rw [hd] at hz
        have hz : (if kvs'.length < 64 then some (PyData.list ((sortS (kvs'.map (·.1))).map .str)) else none) = some z := hz
        obtain ⟨a', ks, xs, ds, rfl, nb, hp, hl, ra, rfl⟩ := r1.dicInv hd
        have hlen := ra.length
        split at hz
        · rename_i h64
          cases hz
          have hks : (ks.zip ds).map (·.1) = ks := List.map_fst_zip (by omega)
          rw [hks] at q
          refine .inl ⟨a', _, ks, rfl, .inl hp, kvV_keys hl, ?_, fun ys p hpm hs hn => ?_⟩
          · rw [List.length_zip] at h64; omega
          · rw [sortS_uniq hpm hs]
            exact post_new q t1 hn (.lst (e1.fresh hn) upd_same (repA_strs _))
        · cases hz
    | list ds =>
      have hz : (match dStrs ds with | some ys => if ys.length < 64 then some (PyData.list ((sortS ys).map .str)) else none | none => none) = some z := hz
      cases hy : dStrs ds with
      | none => rw [hy] at hz; cases hz
      | some ys =>
        rw [hy] at hz
        have hz : (if ys.length < 64 then some (PyData.list ((sortS ys).map .str)) else none) = some z := hz
        split at hz
        · rename_i h64
          cases hz
          obtain ⟨p, xs, rfl, nb, sq, ra⟩ := r1.lstInv
          rw [ra.strs hy] at sq
          refine .inr ⟨p, ys, rfl, by rw [hL.k]; exact .of sq, h64, fun ys' p hpm hs hn => ?_⟩
          rw [sortS_uniq hpm hs]
          exact post_new q t1 hn (.lst (e1.fresh hn) upd_same (repA_strs _))
        · cases hz
    | _ => cases hz
/-! ### dict(list of pairs) -/
def putD (kvs : List (Str × D)) (k : Str) (v : D) : List (Str × D) := if (kvs.any fun kv => decide (kv.1 = k)) = true then kvs.map (fun kv => if kv.1 = k then (kv.1, v) else kv) else kvs ++ [(k, v)]
def dPairs : List D → Option (List (Str × D))
  | [] => some []
  | .tuple [.str k, v] :: r => (dPairs r).map fun l => (k, v) :: l
  | _ => none
def mergeD (kvs more : List (Str × D)) : List (Str × D) := more.foldl (fun acc kv => putD acc kv.1 kv.2) kvs
def dDict : D → Option D
  | .list ds => (dPairs ds).map fun l => dDic (mergeD [] l)
  | _ => none
/-- a dict's rows and their data -/
inductive KR (L : LC) (B : Addr → Prop) (H : Hp) : List (Key × V) → List (Str × D) → Prop
  | nil : KR L B H [] []
  | cons {k : Str} {v : V} {d : D} {r : List (Key × V)} {r' : List (Str × D)} : Rep L B H v d → KR L B H r r' → KR L B H ((Sum.inr k, v) :: r) ((k, d) :: r')
theorem KR.imp (h : ∀ a u, ¬ B a → H a = some u → NT u → H' a = some u ∧ ¬ B' a) {r : List (Key × V)} {r' : List (Str × D)} (k : KR L B H r r') : KR L B' H' r r' := by
  induction k with
  | nil => exact .nil
  | cons a _ ih => exact .cons (a.imp h) ih
theorem KR.any {r : List (Key × V)} {r' : List (Str × D)} (h : KR L B H r r') (k : Str) : (r.any fun kv => decide (kv.1 = Sum.inr k)) = r'.any fun kv => decide (kv.1 = k) := by
  induction h with
  | nil => rfl
  | @cons k' v d r r' a _ ih =>
    rw [List.any_cons, List.any_cons, ih]
    congr 1
    exact decide_eq_decide.mpr ⟨fun z => Sum.inr.inj z, fun z => congrArg Sum.inr z⟩
theorem KR.app {r s : List (Key × V)} {r' s' : List (Str × D)} (h : KR L B H r r') (k : KR L B H s s') : KR L B H (r ++ s) (r' ++ s') := by
  induction h with
  | nil => exact k
  | cons a _ ih => exact .cons a ih
theorem KR.mapPut {r : List (Key × V)} {r' : List (Str × D)} (h : KR L B H r r') {k : Str} {v : V} {d : D} (q : Rep L B H v d) : KR L B H (r.map fun kv => if kv.1 = Sum.inr k then (kv.1, v) else kv) (r'.map fun kv => if kv.1 = k then (kv.1, d) else kv) := by
  induction h with
  | nil => exact .nil
  | @cons k' v' d' r r' a b ih =>
    rw [List.map_cons, List.map_cons]
    by_cases e : k' = k
    · subst e; simp only [if_true]; exact .cons q ih
    · rw [if_neg (fun z => e (Sum.inr.inj z)), if_neg e]; exact .cons a ih
theorem KR.put {r : List (Key × V)} {r' : List (Str × D)} (h : KR L B H r r') {k : Str} {v : V} {d : D} (q : Rep L B H v d) : KR L B H (putK r (Sum.inr k) v) (putD r' k d) := by
  unfold putK putD
  rw [h.any k]
  split
  · exact h.mapPut q
  · exact h.app (.cons q .nil)
theorem KR.merge {m : List (Key × V)} {m' : List (Str × D)} (h : KR L B H m m') : ∀ {r : List (Key × V)} {r' : List (Str × D)}, KR L B H r r' → KR L B H (mergeK r m) (mergeD r' m') := by
  induction h with
  | nil => exact fun k => k
  | cons a _ ih => exact fun k => ih (k.put a)
theorem KR.rows {r : List (Key × V)} {r' : List (Str × D)} (h : KR L B H r r') : ∃ ks xs ds, r = kvV ks xs ∧ ks.length = xs.length ∧ RepA L B H xs ds ∧ r' = ks.zip ds := by
  induction h with
  | nil => exact ⟨[], [], [], rfl, rfl, .nil, rfl⟩
  | @cons k v d r r' a _ ih =>
    obtain ⟨ks, xs, ds, rfl, hl, ra, rfl⟩ := ih
    exact ⟨k :: ks, v :: xs, d :: ds, rfl, by simp [hl], .cons a ra, rfl⟩
theorem pairs_rep {vs : List V} {ds : List D} {l : List (Str × D)} (ra : RepA L B H vs ds) (h : dPairs ds = some l) : ∃ (ps : List Addr) (kvs : List (Key × V)), vs = ps.map V.ref ∧ Paired (fun p kv => SqT L.K H p [kV kv.1, kv.2]) ps kvs ∧ KR L B H kvs l := by
  induction ds generalizing vs l with
  | nil => cases ra; cases h; exact ⟨[], [], rfl, .nil, .nil⟩
  | cons d ds ih =>
    cases ra with
    | cons r ra =>
      unfold dPairs at h
      split at h
      · rename_i e; cases e
      · rename_i k v r' e
        cases e
        cases q : dPairs ds with
        | none => rw [q] at h; cases h
        | some l' =>
          rw [q] at h
          cases h
          obtain ⟨ps, kvs, rfl, hp, kr⟩ := ih ra q
          obtain ⟨p, ys, rfl, sq, ry⟩ := r.tupInv
          cases ry with
          | cons r1 ry =>
            cases ry with
            | cons r2 ry =>
              cases ry
              rw [r1.strInv] at sq
              exact ⟨p :: ps, (Sum.inr k, _) :: kvs, rfl, .cons sq hp, .cons r2 kr⟩
      · cases h
theorem de_dict (hL : LX X L) {p : Pos} (hc : X.calm = true) (hm : X.mg "dict" = none) (ha : PE X a (tD L f E)) (hg : Gl X "dict" := by rfl) (he : starEach [a] X.env = (false, eval a X.env) :: starEach [] X.env := by rfl) (hb : bootBuiltins "dict" = some (.type "dict") := by decide +kernel) :
    PE X (.Call (.Name "dict" p) [a] [] pos) (tD L (e1 dDict f) E) :=
  (pe_callTy (call_dictP hc) hg hm hb (pa_cons ha pa_nil he) (by decide) (by decide) he rfl).imp fun σ H Q ⟨ρ, τ, B, e, t, h⟩ => tD_bind (k := fun a _ τ1 => opt (dDict a) τ1) e t h fun d τ1 v H1 e1 g1 t1 r1 h1 => by
    obtain ⟨z, hz, q⟩ := post_opt h1
    cases d with
    | list ds =>
      have hz : (dPairs ds).map (fun l => dDic (mergeD [] l)) = some z := hz
      cases hy : dPairs ds with
      | none => rw [hy] at hz; cases hz
      | some l =>
        rw [hy] at hz
        cases hz
        obtain ⟨p, xs, rfl, nb, sq, ra⟩ := r1.lstInv
        obtain ⟨ps, kvs, rfl, hp, kr⟩ := pairs_rep ra hy
        refine ⟨p, ps, kvs, rfl, .of sq, by rw [hL.k]; exact hp, fun a' hn => ?_⟩
        have kr' : KR L B (upd H1 a' (.dK (mergeK [] kvs))) (mergeK [] kvs) (mergeD [] l) := (kr.merge .nil).imp fun a u nb e _ => ⟨by rw [upd_ne (ne_of_none e hn)]; exact e, nb⟩
        obtain ⟨ks, xs, ds', hr, hl, ra', hr'⟩ := kr'.rows
        have q : PostG L H1 E (fun v d H' => Rep L B H' v d) Q (Res.ok (dDic (mergeD [] l)) τ1) := q
        rw [hr'] at q
        exact post_new q t1 hn (.dic (e1.fresh hn) (by rw [upd_same, hr]) hl ra')
    | _ => cases hz
end
end SG

/-! SgO: [::-1], list(range), own lists read, lists put together. -/
namespace SG
open PySem PySem.Spec PyProof.Rows L2
section
variable {prog : Program} {w : World} {A : Around} {E : Value → Shared → Prop} {s : Shared}
theorem rev_pick (xs : Array Value) : ((List.range xs.size).filterMap fun (k : Nat) => xs[(((xs.size : Int) - 1) + (k : Int) * (-1)).toNat]?) = xs.toList.reverse := by
  apply List.ext_getElem?
  intro i
  have e : ∀ l : List Nat, (∀ k ∈ l, k < xs.size) → (l.filterMap fun (k : Nat) => xs[(((xs.size : Int) - 1) + (k : Int) * (-1)).toNat]?) = l.map fun k => xs.toList.reverse.getD k .none := by
    intro l
    induction l with
    | nil => intro _; rfl
    | cons k l ih =>
      intro h
      have hk : k < xs.size := h k (List.mem_cons_self ..)
      rw [List.map_cons, ← ih fun k hk => h k (List.mem_cons_of_mem _ hk)]
      have e1 : (((xs.size : Int) - 1) + (k : Int) * (-1)).toNat = xs.size - 1 - k := by omega
      have e2 : xs[xs.size - 1 - k]? = some (xs.toList.reverse.getD k .none) := by
        rw [List.getD_eq_getElem?_getD, List.getElem?_reverse (by rw [Array.length_toList]; exact hk), Array.length_toList, Array.getElem?_toList]
        have : xs.size - 1 - k < xs.size := by omega
        rw [Array.getElem?_eq_getElem this]
        rfl
      rw [List.filterMap_cons, e1, e2]
  rw [e _ fun k hk => List.mem_range.mp hk, List.getElem?_map]
  by_cases hi : i < xs.size
  · rw [List.getElem?_range hi]
    have : i < xs.toList.reverse.length := by rw [List.length_reverse, Array.length_toList]; exact hi
    show some (xs.toList.reverse.getD i .none) = _
    rw [List.getD_eq_getElem?_getD, List.getElem?_eq_getElem this]
    rfl
  · rw [List.getElem?_eq_none (by rw [List.length_range]; omega), List.getElem?_eq_none (by rw [List.length_reverse, Array.length_toList]; omega)]
    rfl
theorem sliceApplied_rev {sl : Addr} {vl vu vs : Value} {n : Nat} {Q : Int × Int × Nat → Shared → Prop} (hs : s.heap.IsSliceOf sl vl vu vs) (pl : IsPart vl none) (pu : IsPart vu none) (ps : IsPart vs (some (-1)))
    (h : Q ((n : Int) - 1, -1, n) s) : wpAny (model prog w) A (Builtin.Slice.sliceApplied (.ref sl) (pure (n : Int))) Q E s := by
  obtain ⟨os, hos, hcs, hds⟩ := id hs
  unfold Builtin.Slice.sliceApplied Builtin.Slice.sliceFields
  refine wpAny_bind (wpAny_bind (wpAny_field hos hds (x := vl) rfl (wpAny_bind (wpAny_field hos hds (x := vu) rfl (wpAny_bind (wpAny_field hos hds (x := vs) rfl (wpAny_pure ?_)))))))
  refine wpAny_bind (HT.slicePart_ ps ?_)
  show wpAny _ _ (if ((-1 : Int) == 0) = true then _ else _) _ _ s
  rw [if_neg (by decide)]
  refine wpAny_bind (HT.slicePart_ pl (wpAny_bind (HT.slicePart_ pu (wpAny_bind (wpAny_pure ?_)))))
  have e1 : Builtin.Slice.sliceAdjust none none (-1) (n : Int) = ((n : Int) - 1, -1) := by
    unfold Builtin.Slice.sliceAdjust
    rfl
  have e2 : Builtin.Slice.slicePlaces ((n : Int) - 1) (-1) (-1) = n := by
    unfold Builtin.Slice.slicePlaces
    have h1 : ¬ ((-1 : Int) > 0) := by omega
    simp only [h1, if_false, Int.neg_neg, Int.ediv_one]
    split <;> omega
  show wpAny _ _ (match Builtin.Slice.sliceAdjust none none (-1) (n : Int) with | (lo, hi) => pure (lo, (-1 : Int), Builtin.Slice.slicePlaces lo hi (-1))) _ _ s
  rw [e1]
  show wpAny _ _ (pure ((n : Int) - 1, (-1 : Int), Builtin.Slice.slicePlaces ((n : Int) - 1) (-1) (-1))) _ _ s
  rw [e2]
  exact wpAny_pure h
theorem getItem_tuple_rev {t sl : Addr} {items : Array Value} {vl vu vs : Value} {Q : Value → Shared → Prop} (ht : IsTup s.heap t items) (hs : s.heap.IsSliceOf sl vl vu vs) (pl : IsPart vl none) (pu : IsPart vu none) (ps : IsPart vs (some (-1)))
    (h : Q (.ref s.heap.objs.size) { s with heap := s.heap.push { cls := .type "tuple", data := .seq items.toList.reverse.toArray } })
    (hsz : items.size ≤ sizeLine) : wpAny (model prog w) A (getItem (.ref t) (.ref sl)) Q E s := by
  have htake : sizeOk (.seq items.toList.reverse.toArray) := by
    show items.toList.reverse.toArray.size ≤ sizeLine
    rw [List.size_toArray, List.length_reverse, Array.length_toList]
    exact hsz
  obtain ⟨os, hos, hcs, hds⟩ := id hs
  have hTs : s.TypeIs (.ref sl) "slice" := ⟨os, hos, hcs⟩
  unfold getItem
  try with_reducible refine wpAny_holding ?_
  first | refine wpAny_bind (wpAny_pure ?_) | skip
  refine wpAny_bind (wpAny_sequenceKey ht.typeIs (by decide) ?_)
  refine wpAny_bind (wpAny_callSpecial?_slot (name := Str.ofString "__getitem__") ht.typeIs PyProof.Rows.slot_tuple_getitem
    (wpAny_call_entry PyProof.Rows.slot_tuple_getitem ht.typeIs entry_tuple_getitem ?_ (args_tuple_getitem _ _)))
  show wpAny _ _ (Builtin.Tuple.tupleItemsOf (.ref t) >>= _) _ _ s
  refine wpAny_bind (PyProof.Rows.tupleItemsOf_ ht ?_)
  refine wpAny_bind (wpAny_typeOf hTs ?_)
  rw [if_pos (by decide)]
  refine wpAny_bind (sliceApplied_rev hs pl pu ps ?_)
  show wpAny _ _ (if ((((items.size : Int) - 1) == 0 && (-1 : Int) == 1 && items.size == items.size)) = true then _ else _) _ _ s
  rw [if_neg (by rw [show ((-1 : Int) == 1) = false by decide, Bool.and_false, Bool.false_and]; exact Bool.false_ne_true), rev_pick]
  first
    | exact wpAny_bind (m := Builtin.Tuple.tupleExact _) (wpAny_newObj_type (wpAny_pure ⟨_, rfl, wpAny_pure h⟩) htake)
    | exact wpAny_bind (m := Builtin.Tuple.tupleExact _) (wpAny_newObj_type (wpAny_bind (wpAny_pure (wpAny_pure ⟨_, rfl, wpAny_pure h⟩))) htake)
    | exact wpAny_bind (wpAny_bind (m := Builtin.Tuple.tupleExact _) (wpAny_newObj_type (wpAny_pure (wpAny_pure ⟨_, rfl, wpAny_pure h⟩)) htake))
    | exact wpAny_bind (wpAny_bind (m := Builtin.Tuple.tupleExact _) (wpAny_newObj_type (wpAny_pure ⟨_, rfl, wpAny_pure h⟩) htake))
end
section
variable {X : Cx}
def tRevA (K : PySem.W.Frag) (te : TE) : TE := fun σ H Q => te σ H fun x H1 => ∃ a xs, x = .ref a ∧ ((SqL K H1 a xs ∧ ∀ p, H1 p = none → Q (.ref p) (upd H1 p (.lst xs.reverse))) ∨ (SqT K H1 a xs ∧ ∀ p, H1 p = none → Q (.ref p) (upd H1 p (.tup xs.reverse))))
theorem pe_revA {e : Expr} {te : TE} {k : Nat} {p1 p2 p3 pos : Pos} (he : PE X e te) : PE X (.Subscript e (.Slice none none (some (.UnaryOp .USub (.Constant (.int 1) k p1) p2)) p3) pos) (tRevA X.K te) := by
  refine ⟨fun pins s σ H Q I h => ?_⟩
  refine Subscript_ (thn (he.run pins s σ H _ I h) fun v s1 ⟨x, H1, I1, r1, q1⟩ => ?_)
  obtain ⟨a, xs, ex, q⟩ := q1
  subst ex
  cases r1
  have hst : PO X (some (.UnaryOp .USub (.Constant (.int 1) k p1) p2)) (tPart (tUn (rU fun i => .int (-i)) (tC (.int 1)))) := po_some (pe_un un_neg pe_int)
  refine wpAny_Slice (thn (po_none.run pins s1 σ H1 (fun o H2 => o = none ∧ H2 = H1) I1 ⟨rfl, rfl⟩) fun vl s2 ⟨l, H2, I2, pl, el, e2⟩ => ?_)
  subst el e2
  refine thn (po_none.run pins s2 σ H2 (fun o H3 => o = none ∧ H3 = H2) I2 ⟨rfl, rfl⟩) fun vu s3 ⟨u, H3, I3, pu, eu, e3⟩ => ?_
  subst eu e3
  refine thn (hst.run pins s3 σ H3 (fun o H4 => o = some (-1) ∧ H4 = H3) I3 ⟨1, rfl, -1, rfl, rfl, rfl⟩) fun vs s4 ⟨o, H4, I4, ps, eo, e4⟩ => ?_
  subst eo e4
  have I5 : Inv X pins σ H4 { s4 with heap := s4.heap.push { cls := .type "slice", data := .fields #[vl, vu, vs] } } := I4.kept (t' := s4.toks) fun b ob q => Heap.get?_push_of_some _ q
  show wpAny (model X.prog X.w) X.A (subscriptTail e (.Slice none none (some (.UnaryOp .USub (.Constant (.int 1) k p1) p2)) p3) (.ref a) (.ref s4.heap.objs.size)) (EP X pins σ Q) X.xe { s4 with heap := s4.heap.push { cls := .type "slice", data := .fields #[vl, vu, vs] } }
  rcases q with ⟨hx, q⟩ | ⟨hx, q⟩
  · obtain ⟨its, r, ht, hz⟩ := I5.list hx
    have hlen := r.length
    refine tail_any (ops := [.ref a, .ref s4.heap.objs.size]) ht.isList.typeIs (PySem.slot_list_getitem.lookup) ?_ (by with_unfolding_all rfl)
    refine wpAny_getItem_list_slice ht.isList (Heap.IsSliceOf.new _ vl vu vs) pl pu ps (by decide) ?_ (by rw [List.size_toArray]; omega)
    rw [PySem.W.krv_pick]
    refine ⟨.ref _, _, I5.laid (t' := s4.toks) (o := .lst xs.reverse) (fun b ob q => Heap.get?_push_of_some _ q) (Nat.le_refl _) ?_, rfl, q _ (I5.hok.fresh (Nat.le_refl _))⟩
    exact ⟨by rw [List.length_reverse]; exact hz, _, 0, r.reverse, Heap.get?_push_size _ rfl⟩
  · obtain ⟨its, r, ht, hz⟩ := I5.tuple hx
    have hlen := r.length
    refine tail_any (ops := [.ref a, .ref s4.heap.objs.size]) ht.typeIs (PyProof.Rows.slot_tuple_getitem.lookup) ?_ (by with_unfolding_all rfl)
    refine getItem_tuple_rev ht (Heap.IsSliceOf.new _ vl vu vs) pl pu ps ?_ (by rw [List.size_toArray]; omega)
    refine ⟨.ref _, _, I5.laid (t' := s4.toks) (o := .tup xs.reverse) (fun b ob q => Heap.get?_push_of_some _ q) (Nat.le_refl _) ?_, rfl, q _ (I5.hok.fresh (Nat.le_refl _))⟩
    exact ⟨by rw [List.length_reverse]; exact hz, _, r.reverse, IsTup.new _ _⟩
variable {L : LC} {B B' B0 : Addr → Prop} {σ : St} {H H0 H' H1 : Hp} {ρ ρ' : Rho} {τ τ' : S} {E : XK} {De De' : Ends} {a b c : Expr} {pos : Pos} {f g h : M D} {u : M Bool}
def dRev : D → Option D
  | .list ds => some (.list ds.reverse)
  | .tuple ds => some (.tuple ds.reverse)
  | _ => none
theorem de_rev (hL : LX X L) {k : Nat} {p1 p2 p3 : Pos} (ha : PE X a (tD L f E)) : PE X (.Subscript a (.Slice none none (some (.UnaryOp .USub (.Constant (.int 1) k p1) p2)) p3) pos) (tD L (e1 dRev f) E) :=
  (pe_revA ha).imp fun σ H Q ⟨ρ, τ, B, e, t, h⟩ => tD_bind (k := fun a _ τ1 => opt (dRev a) τ1) e t h fun d τ1 v H1 e1 g1 t1 r1 h1 => by
    obtain ⟨z, hz, q⟩ := post_opt h1
    rw [hL.k]
    cases d with
    | list ds =>
      cases hz
      obtain ⟨p, xs, rfl, nb, sq, ra⟩ := r1.lstInv
      exact ⟨p, xs, rfl, .inl ⟨.of sq, fun p n => post_new q t1 n (.lst (e1.fresh n) upd_same (e1.repA (Grow.new n) ra.reverse))⟩⟩
    | tuple ds =>
      cases hz
      obtain ⟨p, xs, rfl, sq, ra⟩ := id r1.tupInv
      exact ⟨p, xs, rfl, .inr ⟨sq, fun p n => post_new q t1 n (.tup (e1.fresh n) upd_same (e1.repA (Grow.new n) ra.reverse))⟩⟩
    | _ => cases hz
/-- list(range(n)) -/
theorem rgV_rep (n : Int) : RepA L B H (rgV 0 n) (rngD n) := by
  unfold rgV rngD
  rw [Int.sub_zero]
  have := repA_range (L := L) (B := B) (H := H) n.toNat
  simpa using this
theorem res_assoc {α β γ : Type} (r : Res α) (f : α → S → Res β) (g : β → S → Res γ) : (r.bind f).bind g = r.bind fun a τ => (f a τ).bind g := by cases r <;> rfl
theorem de_listRg {p p2 : Pos} {pos2 : Pos} (hc : X.calm = true) (hm : X.mg "list" = none) (hm2 : X.mg "range" = none) (ha : PE X a (tD L f E)) (hg : Gl X "list" := by rfl) (hg2 : Gl X "range" := by rfl) (he : starEach [a] X.env = (false, eval a X.env) :: starEach [] X.env := by rfl) (he2 : starEach [.Call (.Name "range" p2) [a] [] pos2] X.env = (false, eval (.Call (.Name "range" p2) [a] [] pos2) X.env) :: starEach [] X.env := by rfl) :
    PE X (.Call (.Name "list" p) [.Call (.Name "range" p2) [a] [] pos2] [] pos) (tD L (eF (iRng f)) E) :=
  (pe_listRg hc hg hm (prg_1 hg2 hm2 ha he) he2).imp fun σ H Q ⟨ρ, τ, B, e, t, h⟩ => by
    have h : Post L B H Q E (((f ρ τ).bind fun d τ' => opt (dRng d) τ').bind fun a τ1 => .ok (.list a) τ1) := h
    rw [res_assoc] at h
    refine tD_bind (k := fun d _ τ1 => (opt (dRng d) τ1).bind fun a τ1 => .ok (PyData.list a) τ1) e t h fun d τ1 v H1 e1 g1 t1 r1 h1 => ?_
    cases d with
    | int n =>
      have h1 : PostG L H1 E (fun v d H' => Rep L B H' v d) Q ((opt (if 0 ≤ n ∧ n ≤ 1000000 then some (rngD n) else none) τ1).bind fun a τ1 => .ok (.list a) τ1) := h1
      split at h1
      · rename_i hn
        refine ⟨n, r1.intInv, .of_le (by omega) (by omega) (by omega) (by omega), fun q hq => ?_⟩
        exact post_new h1 t1 hq (.lst (e1.fresh hq) upd_same (rgV_rep n))
      · exact h1.elim
    | _ => exact h1.elim
/-! ### own lists, read -/
def olD : Option Sl → Option (List D)
  | some (.ol ds) => some ds
  | some (.v (.list ds)) => some ds
  | _ => none
def eIxO (i : Nat) (g : M D) : M D := fun ρ τ => match olD ρ[i]? with
  | some ds => (g ρ τ).bind fun k τ1 => opt (dIx (.list ds) k) τ1
  | none => .bad
def eLenO (i : Nat) : M D := fun ρ τ => match olD ρ[i]? with
  | some ds => .ok (.int ds.length) τ
  | none => .bad
theorem EnvE.olD {i : Nat} {ds : List D} (e : EnvE L B σ H ρ) (h : olD ρ[i]? = some ds) : ∃ a xs, σ[i]? = some (some (.ref a)) ∧ (a ≠ L.tw ∧ a ≠ L.tr) ∧ H a = some (.lst xs) ∧ RepA L B H xs ds := by
  cases q : ρ[i]? with
  | none => rw [q] at h; cases h
  | some s =>
    rw [q] at h
    cases s with
    | no => cases h
    | ol es =>
      cases h
      obtain ⟨a, h1, h2, h3, xs, h4, h5⟩ := e.own i _ q rfl
      exact ⟨a, xs, h1, h3, h4, h5⟩
    | od _ => cases h
    | v d =>
      cases d with
      | list es =>
        cases h
        obtain ⟨v, h1, r⟩ := e.val i _ q
        obtain ⟨a, xs, rfl, nb, sq, ra⟩ := r.lstInv
        exact ⟨a, xs, h1, ⟨fun z => nb (by rw [z]; exact e.tw), fun z => nb (by rw [z]; exact e.tr)⟩, sq, ra⟩
      | _ => cases h
theorem de_ixO (hL : LX X L) {i : Nat} {x : Str} {p : Pos} (hb : PE X b (tD L g E)) (hs : PlainIx b := by exact fun _ _ => rfl) (hN : X.N[i]? = some x := by rfl) (hv : Vis X.env.scope x := by first | exact Or.inl rfl | exact Or.inr (Or.inl rfl) | exact Or.inr (Or.inr rfl)) (hd : (x == ("__debug__" : Str)) = false := by decide)
    (hcd : (x == ("__classdict__" : Str)) = false := by decide) : PE X (.Subscript (.Name x p) b pos) (tD L (eIxO i g) E) :=
  (pe_ix ix_seq (pe_var hN hv hd hcd) hb hs).imp fun σ H Q ⟨ρ, τ, B, e, t, h⟩ => by
    unfold eIxO at h
    cases ho : olD ρ[i]? with
    | none => rw [ho] at h; exact h.elim
    | some ds =>
      rw [ho] at h
      obtain ⟨a, xs, h1, h3, h4, h5⟩ := e.olD ho
      refine ⟨.ref a, h1, ?_⟩
      refine tD_bind (k := fun k _ τ1 => opt (dIx (.list ds) k) τ1) e t h fun d2 τ2 v2 H2 e2 g2 t2 r2 h2 => ?_
      obtain ⟨z, hz, q⟩ := post_opt h2
      show rIx X.K (.ref a) v2 H2 Q
      rw [hL.k]
      cases d2 with
      | int k =>
        obtain ⟨w, hw, rw'⟩ := (e.repA g2 h5).atI hz
        exact .inl ⟨a, xs, k, w, rfl, r2.intInv, .of (g2 a _ h4 nt_lst h3.1 h3.2), hw, post_ok q t2 rw'⟩
      | _ => cases hz
theorem de_lenO (hL : LX X L) {i : Nat} {x : Str} {p p2 : Pos} (hm : X.mg "len" = none) (hg : Gl X "len" := by rfl) (he : starEach [.Name x p2] X.env = (false, eval (.Name x p2) X.env) :: starEach [] X.env := by rfl) (hN : X.N[i]? = some x := by rfl) (hv : Vis X.env.scope x := by first | exact Or.inl rfl | exact Or.inr (Or.inl rfl) | exact Or.inr (Or.inr rfl)) (hd : (x == ("__debug__" : Str)) = false := by decide)
    (hcd : (x == ("__classdict__" : Str)) = false := by decide) : PE X (.Call (.Name "len" p) [.Name x p2] [] pos) (tD L (eLenO i) E) :=
  (pe_callB call_len hg hm PySem.boot_len (pa_cons (pe_var hN hv hd hcd) pa_nil he) (by decide) (by decide) he rfl).imp fun σ H Q ⟨ρ, τ, B, e, t, h⟩ => by
    unfold eLenO at h
    cases ho : olD ρ[i]? with
    | none => rw [ho] at h; exact h.elim
    | some ds =>
      rw [ho] at h
      obtain ⟨a, xs, h1, h3, h4, h5⟩ := e.olD ho
      refine ⟨.ref a, h1, ?_⟩
      show ∃ x n, [V.ref a] = [x] ∧ LenV X.K x H n ∧ Q (.int n) H
      rw [hL.k]
      refine ⟨_, _, rfl, .inl ⟨xs, .of h4, rfl⟩, ?_⟩
      rw [h5.length]
      exact post_ok h t (.int _)
/-! ### list(text) -/
theorem vals_signs {y : Str} {acc : Array Value} (h : ItemsOf (SignAt y) acc y.cps.size) : Vals ((chars y).map V.str) acc.toList := by
  have key : ∀ (vs : List Value) (ys : List Str), StrsAre vs ys → Vals (ys.map V.str) vs := by
    intro vs ys h
    induction h with
    | nil => exact .nil
    | cons y t r ih => exact .cons ⟨t, rfl⟩ ih
  exact key _ _ (signs_are h)
theorem call_listT (hc : X.calm = true) : CallR X (.type "list") (fun xs H Q => ∃ z, xs = [.str z] ∧ z.length ≤ sizeLine ∧ ∀ l, H l = none → Q (.ref l) (upd H l (.lst ((chars z).map V.str)))) := by
  intro pins s σ H xs us Q I r h
  obtain ⟨z, rfl, hz, q⟩ := h
  obtain ⟨u, rfl, t, rfl⟩ := vals1 r
  refine call_list_str (I.ok.hd hc) z t (hn := hz) fun h' tk acc c' kp e hacc => ?_
  have hl : ((chars z).map V.str).length ≤ sizeLine := by
    unfold chars
    rw [List.length_map, List.length_map, Array.length_toList]
    exact hz
  exact ⟨.ref s.heap.objs.size, _, I.laid (t' := tk) kp (Nat.le_refl _) (show ObjOk X.prog X.w _ h' _ (.lst _) from ⟨hl, acc.toList, c', vals_signs hacc, by simpa using e⟩), rfl, q _ (I.hok.fresh (Nat.le_refl _))⟩
def dListA : D → Option D
  | .list ds => some (.list ds)
  | .tuple ds => some (.list ds)
  | .str z => if Nat.ble z.length LIM then some (.list ((chars z).map .str)) else none
  | _ => none
theorem de_listA (hL : LX X L) {p : Pos} (hc : X.calm = true) (hm : X.mg "list" = none) (ha : PE X a (tD L f E)) (hg : Gl X "list" := by rfl) (he : starEach [a] X.env = (false, eval a X.env) :: starEach [] X.env := by rfl) (hb : bootBuiltins "list" = some (.type "list") := by decide +kernel) :
    PE X (.Call (.Name "list" p) [a] [] pos) (tD L (e1 dListA f) E) :=
  (pe_callTy (CallR.or call_list_of (call_listT hc)) hg hm hb (pa_cons ha pa_nil he) (by decide) (by decide) he rfl).imp fun σ H Q ⟨ρ, τ, B, e, t, h⟩ => tD_bind (k := fun a _ τ1 => opt (dListA a) τ1) e t h fun d τ1 v H1 e1 g1 t1 r1 h1 => by
    obtain ⟨z, hz, q⟩ := post_opt h1
    rw [hL.k]
    cases d with
    | list ds =>
      cases hz
      obtain ⟨a, ys, rfl, nb, sq, ra⟩ := r1.lstInv
      exact .inl ⟨a, ys, rfl, .inl (.of sq), fun l n => post_new q t1 n (.lst (e1.fresh n) upd_same (e1.repA (Grow.new n) ra))⟩
    | tuple ds =>
      cases hz
      obtain ⟨a, ys, rfl, sq, ra⟩ := r1.tupInv
      exact .inl ⟨a, ys, rfl, .inr sq, fun l n => post_new q t1 n (.lst (e1.fresh n) upd_same (e1.repA (Grow.new n) ra))⟩
    | str x =>
      have hz : (if Nat.ble x.length LIM then some (PyData.list ((chars x).map .str)) else none) = some z := hz
      split at hz
      · rename_i hx
        cases hz
        exact .inr ⟨x, by rw [r1.strInv], Nat.le_trans (Nat.le_of_ble_eq_true hx) lim_le, fun l n => post_new q t1 n (.lst (e1.fresh n) upd_same (repA_strs _))⟩
      · cases hz
    | _ => cases hz
end
end SG

/-! SgP: more rules for the evaluator. -/
namespace SG
open PySem PySem.Spec PyProof.Rows L2
section
variable {ρ ρ' : Rho} {τ τ' : S} {f g h : M D} {u v : M Bool} {a b : MS} {fs gs : M (List D)} {l : List Nat} {d e : D} {ds es : List D} {i : Nat}
def k_ext (i : Nat) (ds : List D) (ρ : Rho) (x : D) (τ : S) : Res Fl := match x with
  | .list es => if ds.length ≤ LIM ∧ es.length ≤ LIM then .ok (.nx (ρ.set i (.ol (ds ++ es)))) τ else .bad
  | _ => .bad
def extO (i : Nat) (f : M D) (ρ : Rho) (τ : S) : Option Sl → Res Fl
  | some (.ol ds) => (f ρ τ).bind (k_ext i ds ρ)
  | _ => .bad
theorem v_ext : sExt i f ρ τ = extO i f ρ τ ρ[i]? := by unfold sExt extO k_ext; rfl
theorem v_extO : extO i f ρ τ (some (.ol ds)) = (f ρ τ).bind (k_ext i ds ρ) := id rfl
theorem v_k_ext : k_ext i ds ρ (.list es) τ = if ds.length ≤ LIM ∧ es.length ≤ LIM then .ok (.nx (ρ.set i (.ol (ds ++ es)))) τ else .bad := id rfl
theorem v_olD : olD (some (.ol ds)) = some ds := id rfl
theorem v_olV : olD (some (.v (.list ds))) = some ds := id rfl
def ixOO (g : M D) (ρ : Rho) (τ : S) : Option (List D) → Res D
  | some ds => (g ρ τ).bind (k_1 (dIx (.list ds)))
  | none => .bad
theorem v_ixO : eIxO i g ρ τ = ixOO g ρ τ (olD ρ[i]?) := by unfold eIxO ixOO; rfl
theorem v_ixOO : ixOO g ρ τ (some ds) = (g ρ τ).bind (k_1 (dIx (.list ds))) := id rfl
def lenOO (τ : S) : Option (List D) → Res D
  | some ds => .ok (.int ds.length) τ
  | none => .bad
theorem v_lenO : eLenO i ρ τ = lenOO τ (olD ρ[i]?) := by unfold eLenO lenOO; rfl
theorem v_lenOO : lenOO τ (some ds) = .ok (.int ds.length) τ := id rfl
theorem v_neg {x : Int} : dNeg (.int x) = some (.int (-x)) := id rfl
def lwK (l : List Nat) (c : M Bool) (a : MS) (n : Nat) (fl : Fl) (τ2 : S) : Res Fl := match fl with
      | .nx ρ2 => loopW l c a n ρ2 τ2
      | .ct ρ2 => loopW l c a n ρ2 τ2
      | .bk ρ2 => .ok (.nx ρ2) τ2
      | .rt d => .ok (.rt d) τ2
def lwI (l : List Nat) (c : M Bool) (a : MS) (n : Nat) (ρ : Rho) (k : Bool) (τ1 : S) : Res Fl := if k then (a ρ τ1).bind (lwK l c a n) else .ok (.nx ρ) τ1
theorem loopW_succ {n : Nat} : loopW l u a (n + 1) ρ τ = (u (fz l ρ) τ).bind (lwI l u a n ρ) := by
  conv => lhs; unfold loopW
  unfold lwI lwK
  rfl
theorem v_lwT {n : Nat} : lwI l u a n ρ true τ = (a ρ τ).bind (lwK l u a n) := id rfl
theorem v_lwF {n : Nat} : lwI l u a n ρ false τ = .ok (.nx ρ) τ := id rfl
theorem v_lwK_nx {n : Nat} : lwK l u a n (.nx ρ) τ = loopW l u a n ρ τ := id rfl
theorem v_lwK_ct {n : Nat} : lwK l u a n (.ct ρ) τ = loopW l u a n ρ τ := id rfl
theorem v_lwK_bk {n : Nat} : lwK l u a n (.bk ρ) τ = .ok (.nx ρ) τ := id rfl
theorem v_lwK_rt {n : Nat} : lwK l u a n (.rt d) τ = .ok (.rt d) τ := id rfl
theorem v_while {n : Nat} : sWhile n l u a ρ τ = loopW l u a n ρ τ := id rfl
end
end SG

/-! SgQ: three stores at once, with a list of one's own among them. -/
namespace SG
open PySem PySem.Spec PyProof.Rows L2
section
variable {X : Cx} {L : LC} {B B' B0 : Addr → Prop} {σ : St} {H H0 H' H1 : Hp} {ρ ρ' : Rho} {τ τ' : S} {E : XK} {De De' : Ends} {a b c : Expr} {pos : Pos} {f g h : M D} {u : M Bool}
/-- x, y, z = value, new list, number -/
def sPar3o (i j k : Nat) (l : List Nat) (f : M D) (fs : M (List D)) (z : Int) : MS := fun ρ τ => (f (fz l ρ) τ).bind fun d τ1 => (fs (fz l ρ) τ1).bind fun ds τ2 => if j < ρ.length then .ok (.nx ((((fz l ρ).set i (.v d)).set j (.ol ds)).set k (.v (.int z)))) τ2 else .bad
theorem ds_par3o (l : List Nat) {i j k : Nat} {x y z : Str} {fs : M (List D)} {n : Int} {jn : Nat} {px py pz pn pt pt2 : Pos} {kt k2 : Nat} (hN : X.N.Nodup) (hij : i ≠ j) (hik : i ≠ k) (hjk : j ≠ k) (ha : PE X a (tD L f E)) (hb : PE X b (tDF L fs E))
    (hw : swappedStores [.Tuple [.Name x px, .Name y py, .Name z pz] kt pt] (.Tuple [a, b, .Constant (.int n) jn pn] k2 pt2) X.env = pure (some [x, y, z])) (hi : X.N[i]? = some x := by rfl) (hj : X.N[j]? = some y := by rfl) (hk : X.N[k]? = some z := by rfl)
    (hx : X.env.scope.names.lookup x = some .local := by rfl) (hy : X.env.scope.names.lookup y = some .local := by rfl) (hz : X.env.scope.names.lookup z = some .local := by rfl) (hc : X.calm = true := by rfl)
    (hs : swapsWithSole [.Tuple [.Name x px, .Name y py, .Name z pz] kt pt] (.Tuple [a, b, .Constant (.int n) jn pn] k2 pt2) pos.line X.env = pure false := by rfl)
    (s1 : starEach [a, b, .Constant (.int n) jn pn] X.env = (false, eval a X.env) :: starEach [b, .Constant (.int n) jn pn] X.env := by rfl) (s2 : starEach [b, .Constant (.int n) jn pn] X.env = (false, eval b X.env) :: starEach [.Constant (.int n) jn pn] X.env := by rfl) :
    PS X (.Assign [.Tuple [.Name x px, .Name y py, .Name z pz] kt pt] (.Tuple [a, b, .Constant (.int n) jn pn] k2 pt2) pos) (tS L (sPar3o i j k l f fs n) E) :=
  (ps_par3 hc hN hi hj hk hij hik hjk hx hy hz (pa_cons ha (pa_cons hb (pa_cons pe_int pa_nil rfl) s2) s1) hw hs).imp fun De σ H ⟨ρ, τ, B0, H0, e, t, q⟩ => ⟨fz l ρ, τ, _, (e.fz l).env, t, postS_bind e q fun d τ1 v H1 g1 t1 r1 h1 => by
    have e1 := (e.fz l).more g1 t1
    refine ⟨fz l ρ, τ1, _, e1.env, t1, postS_bind e1 h1 fun ds τ2 v2 H2 g2 t2 r2 hh => ?_⟩
    obtain ⟨p, xs, rfl, n1, hp, ra⟩ := r2
    split at hh
    · rename_i hl
      have es := e1.set (i := i) r1
      have e3 := es.setOwn (i := j) (by rw [List.length_set, fz_length]; exact hl) g2 t2 n1 hp (ra.imp fun a u nb q _ => ⟨q, fun z => nb (z.elim (fun z => .inl z.sub) .inr)⟩)
      have e4 := e3.set (i := k) (.int n)
      exact ⟨_, _, _, rfl, hh _ _ e4 t2⟩
    · exact hh.elim⟩
def k_par3c (i j k : Nat) (ρ : Rho) (z : Int) (d : D) (x : List D) (τ : S) : Res Fl := if j < ρ.length then .ok (.nx (((ρ.set i (.v d)).set j (.ol x)).set k (.v (.int z)))) τ else .bad
def k_par3b (i j k : Nat) (ρ : Rho) (fs : M (List D)) (z : Int) (x : D) (τ : S) : Res Fl := (fs ρ τ).bind (k_par3c i j k ρ z x)
theorem v_par3 {i j k : Nat} {fs : M (List D)} {z : Int} : sPar3o i j k [] f fs z ρ τ = (f ρ τ).bind (k_par3b i j k ρ fs z) := id rfl
theorem v_k_par3b {i j k : Nat} {fs : M (List D)} {z : Int} {x : D} : k_par3b i j k ρ fs z x τ = (fs ρ τ).bind (k_par3c i j k ρ z x) := id rfl
theorem v_k_par3c {i j k : Nat} {z : Int} {d : D} {x : List D} : k_par3c i j k ρ z d x τ = if j < ρ.length then .ok (.nx (((ρ.set i (.v d)).set j (.ol x)).set k (.v (.int z)))) τ else .bad := id rfl
end
end SG

/-! SgR: a dict of one's own whose keys are tuples. -/
namespace SG
open PySem PySem.Spec PyProof.Rows L2

section
variable {X : Cx} {L : LC} {B B' B0 : Addr → Prop} {σ : St} {H H0 H' H1 : Hp} {ρ ρ' : Rho} {τ τ' : S} {E : XK} {De De' : Ends} {a b c : Expr} {pos : Pos} {f g h : M D} {u : M Bool} {pins : List (Addr × Obj)} {s : Shared}
mutual
theorem Rep.nested (I : Inv X pins σ H s) (hK : X.K = L.K) : ∀ {d : D} {v : V}, Rep L B H v d → ∀ {k : NestedKey} {z : Value}, nk d = some k → RelV v z → NestedIs s.heap k z
  | .none, _, .non, k, z, hk, rv => by
    have hk : some NestedKey.none = some k := hk
    cases hk
    have rv : z = Value.none := rv
    subst rv
    exact .none
  | .int i, _, .int _, k, z, hk, rv => by
    have hk : some (NestedKey.num i) = some k := hk
    cases hk
    obtain ⟨t, rfl⟩ := rv
    exact .int i t
  | .str x, _, .str _, k, z, hk, rv => by
    have hk : some (NestedKey.text x) = some k := hk
    cases hk
    obtain ⟨t, rfl⟩ := rv
    exact .text x t
  | .tuple ds, _, .tup nb e ra, k, z, hk, rv => by
    have hk : (nks ds).map NestedKey.tup = some k := by simpa only [nk] using hk
    have rv : z = Value.ref _ := rv
    subst rv
    cases q : nks ds with
    | none => rw [q] at hk; cases hk
    | some ks =>
      rw [q] at hk
      cases hk
      obtain ⟨its, rs, ⟨o, ho, hc, n, hd⟩, _⟩ := I.tuple (.of e)
      exact .tup ho hc hd (RepA.nested I hK ra q rs)
  | .tuple ds, _, .ktup k1 c1 d1 z1 vs ra, k, z, hk, rv => by
    have hk : (nks ds).map NestedKey.tup = some k := by simpa only [nk] using hk
    have rv : z = Value.ref _ := rv
    subst rv
    cases q : nks ds with
    | none => rw [q] at hk; cases hk
    | some ks =>
      rw [q] at hk
      cases hk
      obtain ⟨its, rs, ⟨o, ho, hc, n, hd⟩, _⟩ := I.tuple (.inr ⟨_, _, _, by rw [hK]; exact k1, c1, d1, z1, vs⟩)
      exact .tup ho hc hd (RepA.nested I hK ra q rs)
theorem RepA.nested (I : Inv X pins σ H s) (hK : X.K = L.K) : ∀ {ds : List D} {vs : List V}, RepA L B H vs ds → ∀ {ks : List NestedKey} {zs : List Value}, nks ds = some ks → Vals vs zs → NestedAll s.heap ks zs
  | [], _, .nil, ks, zs, hk, rv => by
    have hk : some ([] : List NestedKey) = some ks := by simpa only [nks] using hk
    cases hk
    cases rv
    exact .nil
  | d :: ds, _, .cons r ra, ks, zs, hk, rv => by
    have hk : ((nk d).bind fun k => (nks ds).map fun l => k :: l) = some ks := by simpa only [nks] using hk
    cases q1 : nk d with
    | none => rw [q1] at hk; cases hk
    | some k =>
      rw [q1, Option.bind_some] at hk
      cases q2 : nks ds with
      | none => rw [q2] at hk; cases hk
      | some l =>
        rw [q2] at hk
        cases hk
        cases rv with
        | cons r1 r2 => exact .cons (Rep.nested I hK r q1 r1) (RepA.nested I hK ra q2 r2)
end
/-- a tuple that can be a key -/
def keyOk : D → Bool
  | .tuple ds => match nk (.tuple ds) with | some k => decide (k.depth ≤ 8) | none => false
  | _ => false
theorem keyOk_inv {d : D} (h : keyOk d = true) : ∃ ds k, d = .tuple ds ∧ nk d = some k ∧ k.depth ≤ 8 := by
  cases d with
  | tuple ds =>
    have h : (match nk (.tuple ds) with | some k => decide (k.depth ≤ 8) | none => false) = true := h
    cases q : nk (.tuple ds) with
    | none => rw [q] at h; cases h
    | some k =>
      rw [q] at h
      exact ⟨ds, k, rfl, rfl, of_decide_eq_true h⟩
  | _ => cases h
def kLook (kvs : List (D × D)) (d : D) : Option D := (kvs.find? fun p => decide (nk p.1 = nk d)).map (·.2)
def vOf (xs : List (NestedKey × Addr × Addr)) : List (NestedKey × Addr × Value) := xs.map fun x => (x.1, x.2.1, Value.ref x.2.2)
theorem KRep.look {xs : List (NestedKey × Addr × Addr)} {kvs : List (D × D)} (r : KRep L B H xs kvs) {d : D} {k : NestedKey} (hk : nk d = some k) :
    (atKey (vOf xs) k = none ∧ kLook kvs d = none) ∨ ∃ a p e, atKey (vOf xs) k = some (a, Value.ref p) ∧ kLook kvs d = some e ∧ Rep L B H (.ref p) e := by
  induction r with
  | nil => exact .inl ⟨rfl, rfl⟩
  | @cons k' a p d' e xs kvs h1 h2 h3 h4 _ ih =>
    by_cases hq : k' = k
    · subst hq
      refine .inr ⟨a, p, e, ?_, ?_, h4⟩
      · simp [atKey, vOf]
      · simp [kLook, h1, hk]
    · have hq2 : ¬ some k' = some k := fun z => hq (Option.some.inj z)
      have e1 : atKey (vOf ((k', a, p) :: xs)) k = atKey (vOf xs) k := by simp [atKey, vOf, hq]
      have e2 : kLook ((d', e) :: kvs) d = kLook kvs d := by
        unfold kLook
        rw [List.find?_cons]
        simp only [h1, hk, decide_eq_false hq2]
      rw [e1, e2]
      exact ih
theorem KRep.is {xs : List (NestedKey × Addr × Addr)} {kvs : List (D × D)} (I : Inv X pins σ H s) (hK : X.K = L.K) (r : KRep L B H xs kvs) : ∀ x ∈ vOf xs, (nestedKind X.prog X.w).is s.heap x.1 x.2.1 := by
  induction r with
  | nil => intro x hx; cases hx
  | cons h1 h2 h3 h4 _ ih =>
    intro x hx
    rcases List.mem_cons.mp hx with rfl | hx
    · exact ⟨h3.nested I hK h1 rfl, h2⟩
    · exact ih x hx
theorem KRep.length {xs : List (NestedKey × Addr × Addr)} {kvs : List (D × D)} (r : KRep L B H xs kvs) : xs.length = kvs.length := by
  induction r with
  | nil => rfl
  | cons _ _ _ _ _ ih => simp [ih]
theorem KRep.snoc {xs : List (NestedKey × Addr × Addr)} {kvs : List (D × D)} (r : KRep L B H xs kvs) {k : NestedKey} {a p : Addr} {d e : D} (h1 : nk d = some k) (h2 : k.depth ≤ 8) (h3 : Rep L B H (.ref a) d) (h4 : Rep L B H (.ref p) e) : KRep L B H (xs ++ [(k, a, p)]) (kvs ++ [(d, e)]) := by
  induction r with
  | nil => exact .cons h1 h2 h3 h4 .nil
  | cons a b c d _ ih => exact .cons a b c d ih
structure LXP (X : Cx) (L : LC) : Prop where
  k : X.K = L.K
  p : X.prog = L.P
  w : X.w = L.w
theorem DicO.of (hX : LXP X L) (I : Inv X pins σ H s) {p : Addr} {xs : List (NestedKey × Addr × Addr)} {kvs : List (D × D)} (e : H p = some (DicO L.P L.w p xs)) (r : KRep L B H xs kvs) : (p == sysModules) = false ∧ s.heap.DictOfH (nestedKind X.prog X.w) p (vOf xs) := by
  rw [← hX.p, ← hX.w] at e
  obtain ⟨⟨hd, o, es, ep, h1, h2, h3, h4, h5⟩, _, _⟩ := I.hok p _ e
  exact ⟨hd, o, es, ep, h1, h2, h3, h4, r.is I hX.k, by simpa [vOf, Function.comp_def] using h5⟩
theorem DicO.ok {P : Program} {w : World} {H : Hp} {h : Heap} {p : Addr} {xs : List (NestedKey × Addr × Addr)} (hd : (p == sysModules) = false) (x : h.DictOfH (nestedKind P w) p (vOf xs)) : ObjOk P w H h p (DicO P w p xs) := by
  obtain ⟨o, es, ep, h1, h2, h3, h4, _, h5⟩ := x
  refine ⟨⟨hd, o, es, ep, h1, h2, h3, h4, by simpa [vOf, Function.comp_def] using h5⟩, ⟨o, h1⟩, ?_⟩
  rintro ha hb ⟨hd, o, es, ep, h1, h2, h3, h4, h5⟩ k
  exact ⟨hd, o, es, ep, k o h1, h2, h3, h4, h5⟩
theorem room8 (hu : X.A.units + 65 < cLine) : (nestedKind X.prog X.w).room X.A.in1 := by
  show X.A.units + 1 + 8 < cLine
  omega

/-! ### {} -/
def sOwnD (i : Nat) (l : List Nat) : MS := fun ρ τ => if i < ρ.length then .ok (.nx ((fz l ρ).set i (.od []))) τ else .bad
theorem pe_dnewD : PE X (.Dict [] [] pos) (fun _ H Q => ∀ p, H p = none → Q (.ref p) (upd H p (DicO X.prog X.w p []))) := ⟨fun pins s σ H Q I h =>
  wpAny_Dict_empty ⟨.ref s.heap.objs.size, _, I.laid (a := s.heap.objs.size) (o := DicO X.prog X.w s.heap.objs.size []) (t' := s.toks) (fun _ _ q => Heap.get?_push_of_some _ q) (Nat.le_refl _) (DicO.ok (beq_eq_false_iff_ne.mpr (Ne.symm (Nat.ne_of_lt I.big))) (Heap.DictOfH.new s.heap)), rfl, h _ (I.hok.fresh (Nat.le_refl _))⟩⟩
theorem ds_ownD (hX : LXP X L) {i : Nat} {x : Str} {px pd : Pos} (l : List Nat) (hN : X.N.Nodup) (hi : X.N[i]? = some x := by rfl) (hx : Loc X.env.scope x := by first | exact Or.inl rfl | exact Or.inr rfl)
    (hs : swapsWith (.Dict [] [] pd) (some (.Name x px)) pos.line X.env = pure false := by rfl) (hf : X.fn x = true ∨ X.env.scope.names.lookup x = some .local := by first | exact .inl rfl | exact .inr rfl) :
    PS X (.Assign [.Name x px] (.Dict [] [] pd) pos) (tS L (sOwnD i l) E) :=
  (ps_set hN hi hx pe_dnewD hs hf).imp fun De σ H ⟨ρ, τ, B0, H0, e, t, q⟩ p n => by
    unfold sOwnD at q
    split at q
    · rename_i hl
      rw [hX.p, hX.w]
      exact q _ _ ((e.fz l).setOwnA (s0 := .od []) rfl (by rw [fz_length]; exact hl) (Grow.new n) (t.new n) (.of n) ⟨[], upd_same, .nil⟩) (t.new n)
    · exact q.elim
/-! ### in, [] -/
def odD : Option Sl → Option (List (D × D))
  | some (.od kvs) => some kvs
  | _ => none
theorem EnvE.odD {i : Nat} {kvs : List (D × D)} (e : EnvE L B σ H ρ) (h : odD ρ[i]? = some kvs) : ∃ a xs, σ[i]? = some (some (.ref a)) ∧ (a ≠ L.tw ∧ a ≠ L.tr) ∧ H a = some (DicO L.P L.w a xs) ∧ KRep L B H xs kvs := by
  cases q : ρ[i]? with
  | none => rw [q] at h; cases h
  | some s =>
    rw [q] at h
    cases s with
    | od es =>
      cases h
      obtain ⟨a, h1, h2, h3, xs, h4, h5⟩ := e.own i _ q rfl
      exact ⟨a, xs, h1, h3, h4, h5⟩
    | _ => cases h
def eInD (i : Nat) (f : M D) : M D := fun ρ τ => match odD ρ[i]? with
  | some kvs => (f ρ τ).bind fun d τ1 => if keyOk d then .ok (.bool (kLook kvs d).isSome) τ1 else .bad
  | none => .bad
def eGetD (i : Nat) (f : M D) : M D := fun ρ τ => match odD ρ[i]? with
  | some kvs => (f ρ τ).bind fun d τ1 => if keyOk d then opt (kLook kvs d) τ1 else .bad
  | none => .bad
def rInD (L : LC) : R2 := fun x y H Q => ∃ B d p xs kvs, y = .ref p ∧ Rep L B H x d ∧ keyOk d = true ∧ H p = some (DicO L.P L.w p xs) ∧ KRep L B H xs kvs ∧ Q (.bl (kLook kvs d).isSome) H
theorem od_inD (hX : LXP X L) (hu : X.A.units + 65 < cLine) : OpR X (compareOp .In) (rInD L) := by
  intro pins s σ H x y v u Q I rx ry h
  obtain ⟨B, d, p, xs, kvs, rfl, r, hk, e, kr, q⟩ := h
  obtain ⟨ds, k, rfl, hk, hd⟩ := keyOk_inv hk
  obtain ⟨p1, _, rfl, _, _⟩ := id r.tupInv
  cases (show v = Value.ref p1 from rx)
  cases (show u = Value.ref p from ry)
  obtain ⟨h1, h2⟩ := DicO.of hX I e kr
  refine wpAny_in_heap (room8 hu) ⟨r.nested I hX.k hk rfl, hd⟩ h1 h2 ⟨.bl (kLook kvs (.tuple ds)).isSome, H, I.kept fun _ _ z => z, ?_, q⟩
  rcases kr.look hk with ⟨e1, e2⟩ | ⟨_, _, _, e1, e2, _⟩ <;> rw [e1, e2] <;> rfl
theorem in_imp {i : Nat} : ∀ σ H Q, tD L (eInD i f) E σ H Q → tOp (rInD L) (tD L f E) (tVar i) σ H Q := fun σ H Q ⟨ρ, τ, B, e, t, h⟩ => by
  unfold eInD at h
  cases ho : odD ρ[i]? with
  | none => rw [ho] at h; exact h.elim
  | some kvs =>
    rw [ho] at h
    refine tD_bind (k := fun d _ τ1 => if keyOk d then .ok (PyData.bool (kLook kvs d).isSome) τ1 else .bad) e t h fun d τ1 v H1 e1 g1 t1 r1 h1 => ?_
    obtain ⟨p, xs, h2, h3, h4, h5⟩ := e1.odD ho
    split at h1
    · rename_i hk
      exact ⟨.ref p, h2, B, d, p, xs, kvs, rfl, r1, hk, h4, h5, post_ok h1 t1 (.bl _)⟩
    · exact h1.elim
theorem dt_inD (hX : LXP X L) (hu : X.A.units + 65 < cLine) {i : Nat} {x : Str} {p : Pos} (ha : PE X a (tD L f E)) (hm : behindInMarks .In (.Name x p) = false := by rfl) (hN : X.N[i]? = some x := by rfl) (hv : Vis X.env.scope x := by first | exact Or.inl rfl | exact Or.inr (Or.inl rfl) | exact Or.inr (Or.inr rfl)) (hd : (x == ("__debug__" : Str)) = false := by decide)
    (hcd : (x == ("__classdict__" : Str)) = false := by decide) : PT X (.Compare a [.In] [.Name x p] pos) (tDT L (asB (eInD i f)) E) :=
  (pt_cmpR (od_inD hX hu) ha (pe_var hN hv hd hcd) hm).imp (tB_of in_imp)
theorem de_getD (hX : LXP X L) (hu : X.A.units + 65 < cLine) {i : Nat} {x : Str} {p : Pos} (hb : PE X b (tD L f E)) (hs : NoSl b := by exact fun _ _ => rfl) (hN : X.N[i]? = some x := by rfl) (hv : Vis X.env.scope x := by first | exact Or.inl rfl | exact Or.inr (Or.inl rfl) | exact Or.inr (Or.inr rfl)) (hd : (x == ("__debug__" : Str)) = false := by decide)
    (hcd : (x == ("__classdict__" : Str)) = false := by decide) : PE X (.Subscript (.Name x p) b pos) (tD L (eGetD i f) E) := by
  refine ⟨fun pins s σ H Q I w => ?_⟩
  obtain ⟨ρ, τ, B, e, t, h⟩ := w
  unfold eGetD at h
  cases ho : odD ρ[i]? with
  | none => rw [ho] at h; exact h.elim
  | some kvs =>
    rw [ho] at h
    obtain ⟨p0, xs, h2, h3, h4, h5⟩ := e.odD ho
    refine subD_of PySem.F.slot_dict_getitem.lookup hs (thn ((pe_var hN hv hd hcd).run pins s σ H (fun y H1 => y = .ref p0 ∧ H1 = H) I ⟨.ref p0, h2, rfl, rfl⟩) fun u s1 ⟨y, H1, I1, ry, ey, eH⟩ => ?_)
    subst ey
    subst eH
    cases (show u = Value.ref p0 from ry)
    refine thn (hb.run pins s1 σ H1 _ I1 (tD_bind (k := fun d _ τ1 => if keyOk d then opt (kLook kvs d) τ1 else .bad) (Q' := fun v H2 => ∃ d e2, Rep L B H2 v d ∧ keyOk d = true ∧ (∃ xs, H2 p0 = some (DicO L.P L.w p0 xs) ∧ KRep L B H2 xs kvs) ∧ kLook kvs d = some e2 ∧ ∀ z, Rep L B H2 z e2 → Q z H2) e t h fun d τ1 v H2 e1 g1 t1 r1 h1 => ?_)) fun iv s2 ⟨v, H2, I2, rv, d, e2, r, hk, ⟨xs2, e3, kr⟩, hl, q⟩ => ?_
    · obtain ⟨p1, xs1, h6, h7, h8, h9⟩ := e1.odD ho
      have ep := ref_inj h2 h6
      subst ep
      split at h1
      · rename_i hk
        obtain ⟨e2, he2, q⟩ := post_opt h1
        exact ⟨d, e2, r1, hk, ⟨xs1, h8, h9⟩, he2, fun z rz => post_ok q t1 rz⟩
      · exact h1.elim
    · obtain ⟨ds, k, rfl, hk, hdp⟩ := keyOk_inv hk
      obtain ⟨p1, _, rfl, _, _⟩ := id r.tupInv
      cases (show iv = Value.ref p1 from rv)
      obtain ⟨h6, h7⟩ := DicO.of hX I2 e3 kr
      rcases kr.look hk with ⟨q1, q2⟩ | ⟨a1, p2, e4, q1, q2, q3⟩
      · rw [q2] at hl; cases hl
      · rw [q2] at hl
        cases hl
        exact ⟨h7.typeIs, wpAny_getItem_heap (room8 hu) ⟨r.nested I2 hX.k hk rfl, hdp⟩ h7 q1 ⟨.ref p2, H2, I2.kept fun _ _ z => z, rfl, q _ q3⟩⟩
/-! ### d[k] = v, k new -/
def isT : D → Bool
  | .tuple _ => true
  | _ => false
def putO (i : Nat) (kvs : List (D × D)) (ρ : Rho) (d v : D) (τ : S) : Res Fl := if keyOk d && isT v && (kLook kvs d).isNone && decide (kvs.length < LIM) then .ok (.nx (ρ.set i (.od (kvs ++ [(d, v)])))) τ else .bad
def sPutD (i : Nat) (f g : M D) : MS := fun ρ τ => match odD ρ[i]? with
  | some kvs => (g ρ τ).bind fun v τ1 => (f ρ τ1).bind fun d τ2 => putO i kvs ρ d v τ2
  | none => .bad
theorem odD_some {o : Option Sl} {kvs : List (D × D)} (h : odD o = some kvs) : o = some (.od kvs) := by
  cases o with
  | none => cases h
  | some s => cases s <;> cases h; rfl
theorem ds_putD (hX : LXP X L) (hu : X.A.units + 65 < cLine) {i : Nat} {x : Str} {p pt : Pos} (hb : PE X b (tD L f E)) (hc : PE X c (tD L g E)) (hs : swapsWith c (some (.Subscript (.Name x p) b pt)) pos.line X.env = pure false := by rfl) (hN : X.N[i]? = some x := by rfl) (hv : Vis X.env.scope x := by first | exact Or.inl rfl | exact Or.inr (Or.inl rfl) | exact Or.inr (Or.inr rfl)) (hd : (x == ("__debug__" : Str)) = false := by decide)
    (hcd : (x == ("__classdict__" : Str)) = false := by decide) : PS X (.Assign [.Subscript (.Name x p) b pt] c pos) (tS L (sPutD i f g) E) := by
  refine ⟨fun pins s σ H De I w => ?_⟩
  obtain ⟨ρ, τ, B0, H0, e, t, h⟩ := w
  unfold sPutD at h
  cases ho : odD ρ[i]? with
  | none => rw [ho] at h; exact h.elim
  | some kvs =>
    rw [ho] at h
    obtain ⟨p0, xs, h2, h3, h4, h5⟩ := e.env.odD ho
    refine wpAny_Assign_Subscript (thn (hc.run pins s σ H (fun v H1 => ∃ τ1 dv, EnvS L B0 H0 σ H1 ρ ∧ TownOk L H1 τ1 ∧ Rep L (Blk B0 σ ρ) H1 v dv ∧ PostS L B0 H0 De E ((f ρ τ1).bind fun d τ2 => putO i kvs ρ d dv τ2)) I ⟨ρ, τ, _, e.env, t, postS_bind e h fun dv τ1 v H1 g1 t1 r1 hh => ⟨τ1, dv, e.more g1 t1, t1, r1, hh⟩⟩) fun vv s1 ⟨v, H1, I1, rv, τ1, dv, e1, t1, r1, h1⟩ => ?_) hs
    refine thn ((pe_var hN hv hd hcd).run pins s1 σ H1 (fun y H2 => y = .ref p0 ∧ H2 = H1) I1 ⟨.ref p0, h2, rfl, rfl⟩) fun u s2 ⟨y, H2, I2, ry, ey, eH⟩ => ?_
    subst ey
    subst eH
    cases (show u = Value.ref p0 from ry)
    refine thn (hb.run pins s2 σ H2 (fun k H3 => ∃ τ2 d, EnvS L B0 H0 σ H3 ρ ∧ TownOk L H3 τ2 ∧ Rep L (Blk B0 σ ρ) H3 v dv ∧ Rep L (Blk B0 σ ρ) H3 k d ∧ PostS L B0 H0 De E (putO i kvs ρ d dv τ2)) I2 ⟨ρ, τ1, _, e1.env, t1, postS_bind e1 h1 fun d τ2 k H3 g3 t3 r3 hh => ⟨τ2, d, e1.more g3 t3, t3, e1.env.rep g3 r1, r3, hh⟩⟩) fun iv s3 ⟨k, H3, I3, rk, τ2, d, e3, t3, rdv, rd, h3⟩ => ?_
    unfold putO at h3
    split at h3
    · rename_i hq
      simp only [Bool.and_eq_true, decide_eq_true_eq] at hq
      obtain ⟨⟨⟨q1, q2⟩, q3⟩, q4⟩ := hq
      obtain ⟨ds, kk, rfl, hk, hdp⟩ := keyOk_inv q1
      obtain ⟨p1, _, rfl, _, _⟩ := id rd.tupInv
      cases (show iv = Value.ref p1 from rk)
      obtain ⟨p2, hp2⟩ : ∃ p2, v = .ref p2 := by
        cases dv with
        | tuple es => obtain ⟨p2, _, e, _, _⟩ := id rdv.tupInv; exact ⟨p2, e⟩
        | _ => cases q2
      subst hp2
      cases (show vv = Value.ref p2 from rv)
      obtain ⟨p3, xs3, h6, h7, h8, h9⟩ := e3.env.odD ho
      have ep := ref_inj h2 h6
      subst ep
      obtain ⟨h10, h11⟩ := DicO.of hX I3 h8 h9
      have hnew : atKey (vOf xs3) kk = none := by
        rcases h9.look hk with ⟨z, _⟩ | ⟨_, _, _, _, z, _⟩
        · exact z
        · rw [z] at q3; cases q3
      have hsz : (vOf xs3).length ≤ sizeLine := by
        have := h9.length
        have hl : (vOf xs3).length = xs3.length := by simp [vOf]
        rw [hl, this]
        exact Nat.le_of_lt (Nat.lt_trans q4 lim_lt)
      refine wpAny_setItem_heap (hsz := hsz) (room8 hu) ⟨rd.nested I3 hX.k hk rfl, hdp⟩ h11 fun h' dd' hsame => ?_
      rw [storedH_new hnew] at dd'
      have ev : vOf xs3 ++ [(kk, p1, Value.ref p2)] = vOf (xs3 ++ [(kk, p1, p2)]) := by simp [vOf]
      rw [ev] at dd'
      have hex : ∃ q, h'.get? p0 = some q := let ⟨q, _, _, hq, _⟩ := dd'; ⟨q, hq⟩
      have mu : Mut (H3 p0) := by rw [h8]; exact True.intro
      have I4 : Inv X pins σ (upd H3 p0 (DicO X.prog X.w p0 (xs3 ++ [(kk, p1, p2)]))) { s3 with heap := h', toks := s3.toks + (nestedKind X.prog X.w).draws kk } := d_write I3 mu hsame hex (DicO.ok h10 dd')
      rw [hX.p, hX.w] at I4
      have hσ := h2
      refine ⟨σ, _, I4, h3 σ _ (e3.writeA (odD_some ho) rfl rfl hσ nt_ext fun B' hB => ⟨_, upd_same, ((h9.snoc hk hdp rd rdv).imp hB)⟩) ?_⟩
      refine ⟨t3.ne, by rw [upd_ne (ne_of t3.tw h8 (fun z => by cases z))]; exact t3.tw, by rw [upd_ne (ne_of t3.tr h8 (fun z => by cases z))]; exact t3.tr, t3.wf, t3.scr.up fun o eo k => by
          rw [upd_ne (ne_of eo h8 (fun z => by rcases k with ⟨_, _, k⟩ | ⟨_, _, k⟩ <;> (rw [k] at z; cases z)))]
          exact eo, t3.nscr, tabs_upd h8 nt_ext (fun q z => ?_) t3.tab⟩
      obtain ⟨⟨_, o, es, ep, k1, k2, k3, _⟩, _, _⟩ := I3.hok p0 _ h8
      rw [z] at h8
      obtain ⟨⟨oc, vs, tt, k4, k5, _⟩, _, _⟩ := I3.hok p0 _ h8
      rw [k1] at k4
      cases k4
      rw [k3] at k5
      cases k5
    · exact h3.elim
end
end SG

/-! SgS: sorted of rows, and of pairs with rows. -/
namespace SG
open PySem PySem.Spec PyProof.Rows L2
/-! ### the order -/
theorem lex_swo : SrtO.Swo HT.lexLt := by
  have asym : ∀ x y : List Int, HT.lexLt x y = true → HT.lexLt y x = false := by
    intro x
    induction x with
    | nil => intro y h; cases y with | nil => cases h | cons b y => rfl
    | cons a x ih =>
      intro y h
      cases y with
      | nil => cases h
      | cons b y =>
        rw [HT.lexLt_cons] at h ⊢
        by_cases e : a = b
        · rw [if_pos e] at h
          rw [if_pos e.symm]
          exact ih y h
        · rw [if_neg e] at h
          rw [if_neg (fun z => e z.symm)]
          have := of_decide_eq_true h
          exact decide_eq_false (by omega)
  refine ⟨asym, ?_⟩
  intro x
  induction x with
  | nil =>
    intro y z h1 h2
    cases z with
    | nil => rfl
    | cons c z => rfl
  | cons a x ih =>
    intro y z h1 h2
    cases y with
    | nil => cases h1
    | cons b y =>
      cases z with
      | nil => cases h2
      | cons c z =>
        rw [HT.lexLt_cons] at h1 h2 ⊢
        by_cases e1 : b = a
        · rw [if_pos e1] at h1
          by_cases e2 : c = b
          · rw [if_pos e2] at h2
            rw [if_pos (by omega)]
            exact ih y z h1 h2
          · rw [if_neg e2] at h2
            rw [if_neg (by omega)]
            have := of_decide_eq_false h2
            exact decide_eq_false (by omega)
        · rw [if_neg e1] at h1
          have q1 := of_decide_eq_false h1
          by_cases e2 : c = b
          · rw [if_neg (by omega)]
            exact decide_eq_false (by omega)
          · rw [if_neg e2] at h2
            have q2 := of_decide_eq_false h2
            rw [if_neg (by omega)]
            exact decide_eq_false (by omega)
section
variable {α : Type} (lt : α → α → Bool)
def isIns (x : α) : List α → List α
  | [] => [x]
  | y :: l => if lt y x then y :: isIns x l else x :: y :: l
def isort : List α → List α
  | [] => []
  | x :: l => isIns lt x (isort l)
end
section
variable {α : Type} {lt : α → α → Bool}
theorem isIns_stb (O : SrtO.Swo lt) (x : α) (l : List α) : SrtO.Stb lt (isIns lt x l) (x :: l) := by
  induction l with
  | nil => exact .refl _
  | cons y l ih =>
    unfold isIns
    split
    · rename_i h
      refine ((SrtO.Stb.refl [y]).app ih : SrtO.Stb lt ([y] ++ isIns lt x l) ([y] ++ x :: l)).trans ?_
      exact (SrtO.Stb.app (a := [y] ++ [x]) (b := [x] ++ [y]) (c := l) (d := l) (.swap O fun a ha b hb => by
        rw [List.mem_singleton.mp ha, List.mem_singleton.mp hb]; exact h) (.refl l))
    · exact .refl _
theorem isort_stb (O : SrtO.Swo lt) (l : List α) : SrtO.Stb lt (isort lt l) l := by
  induction l with
  | nil => exact .refl _
  | cons x l ih => exact (isIns_stb O x (isort lt l)).trans ((SrtO.Stb.refl [x]).app ih)
theorem isIns_srtd (O : SrtO.Swo lt) (x : α) (l : List α) (h : SrtO.Srtd lt l) : SrtO.Srtd lt (isIns lt x l) := by
  induction l with
  | nil => exact SrtO.srtd_one x
  | cons y l ih =>
    unfold isIns
    have h' := List.pairwise_cons.mp h
    split
    · rename_i hy
      refine List.pairwise_cons.mpr ⟨fun z hz => ?_, ih h'.2⟩
      rcases List.mem_cons.mp ((isIns_stb O x l).perm.mem_iff.mp hz) with rfl | hz
      · exact O.asym _ _ hy
      · exact h'.1 z hz
    · rename_i hy
      have hy : lt y x = false := by simpa using hy
      refine List.pairwise_cons.mpr ⟨fun z hz => ?_, h⟩
      rcases List.mem_cons.mp hz with rfl | hz
      · exact hy
      · exact O.tr x y z hy (h'.1 z hz)
theorem isort_srtd (O : SrtO.Swo lt) (l : List α) : SrtO.Srtd lt (isort lt l) := by
  induction l with
  | nil => exact List.Pairwise.nil
  | cons x l ih => exact isIns_srtd O x _ ih
end
/-! ### what is sorted, as lists of numbers -/
def rowI : List D → Option (List Int)
  | [] => some []
  | .int i :: r => (rowI r).map fun l => i :: l
  | _ => none
def encS (x : Str) : List Int := x.cps.toList.map fun c : Nat => (c : Int) + 1
def encT : Nat → D → Option (List Int)
  | 0, .tuple (d :: ds) => rowI (d :: ds)
  | 1, .tuple [.int i, .tuple es] => (rowI es).map fun l => i :: l
  | 2, .tuple [.str x, .tuple es] => (rowI es).map fun l => encS x ++ 0 :: l
  | _, _ => none
def encD (d : D) : List Int := match encT 0 d with
  | some l => l
  | none => match encT 1 d with
    | some l => l
    | none => (encT 2 d).getD []
theorem encD_of {k : Nat} {d : D} {l : List Int} (h : encT k d = some l) : encD d = l := by
  match k, d, h with
  | 0, d, h => unfold encD; rw [h]
  | 1, .tuple [.int i, .tuple es], h =>
    have e0 : encT 0 (.tuple [.int i, .tuple es]) = none := rfl
    unfold encD
    rw [e0, h]
  | 2, .tuple [.str x, .tuple es], h =>
    have e0 : encT 0 (.tuple [.str x, .tuple es]) = none := rfl
    have e1 : encT 1 (.tuple [.str x, .tuple es]) = none := rfl
    unfold encD
    rw [e0, e1, h]
    rfl
  | (k + 3), d, h => cases d <;> cases h
def dSortT : D → Option D
  | .list ds => if ds.all isT && PyData.canLayAll0 ds && (decide (ds.length < 2) || (ds.all fun d => (encT 0 d).isSome) || (ds.all fun d => (encT 1 d).isSome) || (ds.all fun d => (encT 2 d).isSome)) then some (.list (isort (fun x y => HT.lexLt (encD x) (encD y)) ds)) else none
  | _ => none
theorem encS_lt (x y : List Nat) (ns ms : List Int) : HT.lexLt (x.map (fun c : Nat => (c : Int) + 1) ++ 0 :: ns) (y.map (fun c : Nat => (c : Int) + 1) ++ 0 :: ms) = if x = y then HT.lexLt ns ms else decide (x < y) := by
  induction x generalizing y with
  | nil =>
    cases y with
    | nil => rw [if_pos rfl]; show HT.lexLt (0 :: ns) (0 :: ms) = _; rw [HT.lexLt_cons, if_pos rfl]
    | cons b y =>
      rw [if_neg (by simp)]
      show HT.lexLt (0 :: ns) (((b : Int) + 1) :: _) = _
      rw [HT.lexLt_cons, if_neg (by omega)]
      rw [Bool.eq_iff_iff, decide_eq_true_eq, decide_eq_true_eq]
      exact ⟨fun _ => List.Lex.nil, fun _ => by omega⟩
  | cons a x ih =>
    cases y with
    | nil =>
      rw [if_neg (by simp)]
      show HT.lexLt (((a : Int) + 1) :: _) (0 :: ms) = _
      rw [HT.lexLt_cons, if_neg (by omega)]
      rw [Bool.eq_iff_iff, decide_eq_true_eq, decide_eq_true_eq]
      exact ⟨fun h => by omega, fun h => by cases h⟩
    | cons b y =>
      show HT.lexLt (((a : Int) + 1) :: (x.map _ ++ 0 :: ns)) (((b : Int) + 1) :: (y.map _ ++ 0 :: ms)) = _
      rw [HT.lexLt_cons, ih y]
      by_cases e : a = b
      · subst e
        rw [if_pos rfl]
        by_cases e2 : x = y
        · subst e2; rw [if_pos rfl, if_pos rfl]
        · rw [if_neg e2, if_neg (fun z => e2 (List.cons.inj z).2)]
          rw [Bool.eq_iff_iff, decide_eq_true_eq, decide_eq_true_eq]
          exact ⟨fun h => List.Lex.cons h, fun h => by cases h with | cons h => exact h | rel h => exact absurd h (Nat.lt_irrefl _)⟩
      · rw [if_neg (by omega), if_neg (fun z => e (List.cons.inj z).1)]
        rw [Bool.eq_iff_iff, decide_eq_true_eq, decide_eq_true_eq]
        exact ⟨fun h => List.Lex.rel (by omega), fun h => by cases h with | cons h => exact absurd rfl e | rel h => omega⟩
/-! ### comparisons -/
section
variable {prog : Program} {w : World} {A : Around} {s : Shared}
theorem row_reads {h : Heap} : ∀ {ds : List D} {vs : List Value} {as : List Addr} {ns : List Int}, ReadsAll h vs ds as → rowI ds = some ns → IntsAre vs ns
  | [], _, _, ns, .nil, e => by
    have e : some ([] : List Int) = some ns := e
    cases e
    exact .nil
  | d :: ds, _, _, ns, .cons r rs, e => by
    cases d with
    | int i =>
      have e : (rowI ds).map (fun l => i :: l) = some ns := e
      cases q : rowI ds with
      | none => rw [q] at e; cases e
      | some l =>
        rw [q] at e
        cases e
        cases r with
        | int _ t => exact .cons i t (row_reads rs q)
    | _ => cases e
theorem row_data : ∀ {ds : List D} {ns : List Int}, rowI ds = some ns → ds = ns.map .int
  | [], ns, e => by
    have e : some ([] : List Int) = some ns := e
    cases e
    rfl
  | d :: ds, ns, e => by
    cases d with
    | int i =>
      have e : (rowI ds).map (fun l => i :: l) = some ns := e
      cases q : rowI ds with
      | none => rw [q] at e; cases e
      | some l =>
        rw [q] at e
        cases e
        rw [row_data q]
        rfl
    | _ => cases e
theorem row_lex (b : Bool) : ∀ (vs us : List Value) (ns ms : List Int) (i : Nat) (fin : Bool), IntsAre vs ns → IntsAre us ms → fin = decide (ns.length < ms.length) →
    PySem.W.KatLex prog w A b fin (fun r s' => s' = s ∧ r = HT.lexLt ns ms) (vs.zip us) i s
  | [], us, [], ms, i, fin, _, h2, hf => by
    refine PySem.W.kat_nil ⟨rfl, ?_⟩
    rw [hf]
    cases ms with
    | nil => rfl
    | cons m ms => simp [HT.lexLt]
  | v :: vs, [], n :: ns, [], i, fin, _, _, hf => by
    refine PySem.W.kat_nil ⟨rfl, ?_⟩
    rw [hf]
    rfl
  | v :: vs, u :: us, n :: ns, m :: ms, i, fin, h1, h2, hf => by
    cases h1 with
    | @cons _ t _ _ h1 =>
    cases h2 with
    | @cons _ t' _ _ h2 =>
    refine PySem.W.kat_cons (SeqAt.EqAt.int_int n t m t' prog w _ _ ?_)
    refine PySem.W.kat_go (fun e1 => ?_) (fun e1 => ?_)
    · have ex : n = m := by simpa using e1
      refine PySem.W.kat_yes ?_
      have e3 : HT.lexLt (n :: ns) (m :: ms) = HT.lexLt ns ms := by rw [HT.lexLt_cons, if_pos ex]
      rw [e3]
      exact row_lex b vs us ns ms (i + 1) fin h1 h2 (by rw [hf]; simp)
    · have ex : ¬ n = m := by simpa using e1
      have e3 : HT.lexLt (n :: ns) (m :: ms) = decide (n < m) := by rw [HT.lexLt_cons, if_neg ex]
      exact PySem.W.kat_no (TS.oneLt_ints _ ⟨rfl, e3.symm⟩)
theorem eqv_rows (ns ms : List Int) : PyData.eqv (.tuple (ns.map .int)) (.tuple (ms.map .int)) = decide (ns = ms) := by
  rw [Bool.eq_iff_iff, decide_eq_true_eq, eqv_clean]
  · constructor
    · intro h
      injection h with h
      have : ∀ a b : List Int, a.map PyData.int = b.map PyData.int → a = b := by
        intro a
        induction a with
        | nil => intro b h; cases b with | nil => rfl | cons _ _ => cases h
        | cons x a ih => intro b h; cases b with | nil => cases h | cons y b => simp only [List.map_cons, List.cons.injEq, PyData.int.injEq] at h; rw [h.1, ih b h.2]
      exact this ns ms h
    · rintro rfl; rfl
  all_goals
    have : ∀ a : List Int, cleanA (a.map PyData.int) = true := by
      intro a
      induction a with
      | nil => simp [cleanA]
      | cons x a ih => simp only [List.map_cons, cleanA, clean, ih, Bool.and_self]
    simp only [clean, this]
theorem can_rows (ns : List Int) : PyData.canLay0 (.tuple (ns.map .int)) = true := by
  have : ∀ a : List Int, PyData.canLayAll0 (a.map PyData.int) = true := by
    intro a
    induction a with
    | nil => simp [PyData.canLayAll0]
    | cons x a ih => simp only [List.map_cons, PyData.canLayAll0, PyData.canLay0, ih, Bool.and_self]
  simp only [PyData.canLay0, this]
theorem depth_rows (ns : List Int) : PyData.depth (.tuple (ns.map .int)) ≤ 1 := by
  have : ∀ a : List Int, PyData.depthAll (a.map PyData.int) = 0 := by
    intro a
    induction a with
    | nil => simp [PyData.depthAll]
    | cons x a ih => simp only [List.map_cons, PyData.depthAll, PyData.depth, ih, Nat.max_self]
  rw [PyData.depth, this]
  exact Nat.le_refl _
theorem rowI_map (ns : List Int) : rowI (ns.map .int) = some ns := by
  induction ns with
  | nil => rfl
  | cons n ns ih => show (rowI (ns.map .int)).map _ = _; rw [ih]; rfl
theorem reads1 {h : Heap} {vs : List Value} {d : D} {as : List Addr} (r : ReadsAll h vs [d] as) : ∃ v as1, vs = [v] ∧ Reads h v d as1 := by
  cases r with
  | cons r1 r => cases r; exact ⟨_, _, rfl, r1⟩
theorem reads2 {h : Heap} {vs : List Value} {d e : D} {as : List Addr} (r : ReadsAll h vs [d, e] as) : ∃ v u as1 as2, vs = [v, u] ∧ Reads h v d as1 ∧ Reads h u e as2 := by
  cases r with
  | cons r1 r =>
    obtain ⟨u, as2, rfl, r2⟩ := reads1 r
    exact ⟨_, _, _, _, rfl, r1, r2⟩
/-- two rows, the last ones of a pair -/
theorem last_lex {b : Bool} {u u' : Value} {as as' : List Addr} {ns ms : List Int} {i : Nat} {Q : Bool → Shared → Prop} (hu : A.units + 1 < cLine) (r : Reads s.heap u (.tuple (ns.map .int)) as) (r' : Reads s.heap u' (.tuple (ms.map .int)) as') (hb : (b && i == 0) = false) (q : Q (HT.lexLt ns ms) s) :
    PySem.W.KatLex prog w A b false Q [(u, u')] i s := by
  refine PySem.W.kat_cons (SeqAt.eqAt_reads _ _ A s u u' as as' r r' (can_rows ns) (can_rows ms) (by have h1 := depth_rows ns; have h2 := Nat.min_le_left (PyData.depth (.tuple (ns.map PyData.int))) (PyData.depth (.tuple (ms.map PyData.int))); omega) prog w _ _ ?_)
  rw [eqv_rows]
  refine PySem.W.kat_go (fun e1 => ?_) (fun e1 => ?_)
  · have e : ns = ms := of_decide_eq_true e1
    subst e
    refine PySem.W.kat_yes (PySem.W.kat_nil ?_)
    rw [lex_swo.refl] at q
    exact q
  · refine PySem.W.kat_no ?_
    rw [hb]
    cases r with
    | tuple ho hc hd hr =>
      cases r' with
      | tuple ho' hc' hd' hr' =>
        have e1 := rowI_map ns
        have e2 := rowI_map ms
        exact PySem.W.kat_one _ _ (HT.lt_tupInts ⟨_, ho, hc, _, hd⟩ ⟨_, ho', hc', _, hd'⟩ (row_reads hr e1) (row_reads hr' e2) (by omega) q)
theorem tup_cmp {k : Nat} {v u : Value} {d e : D} {as bs : List Addr} {l m : List Int} (hu : A.units + 3 < cLine) (hv : Reads s.heap v d as) (hw : Reads s.heap u e bs) (h1 : encT k d = some l) (h2 : encT k e = some m) :
    wpAny (model prog w) A (keyLt' (tuples' true) v u) (fun r s' => s' = s ∧ r = HT.lexLt l m) (fun _ _ => False) s := by
  match k, d, e, h1, h2, hv, hw with
  | 0, .tuple (d :: ds), .tuple (e :: es), h1, h2, hv, hw =>
    cases hv with
    | tuple ho hc hd hr =>
      cases hw with
      | tuple ho' hc' hd' hr' =>
        have i1 := row_reads hr h1
        have i2 := row_reads hr' h2
        have l1 := i1.length
        have l2 := i2.length
        refine PySem.W.kat_lt ho hd ho' hd' (row_lex true _ _ l m 0 _ i1 i2 ?_)
        rw [← Array.length_toList, ← Array.length_toList, l1, l2]
  | 1, .tuple [.int i, .tuple ds], .tuple [.int j, .tuple es], h1, h2, hv, hw =>
    cases hv with
    | tuple ho hc hd hr =>
      cases hw with
      | tuple ho' hc' hd' hr' =>
        obtain ⟨v1, v2, as1, as2, ev, r1, r2⟩ := reads2 hr
        obtain ⟨u1, u2, bs1, bs2, eu, r1', r2'⟩ := reads2 hr'
        have lv : ∀ {a b : Array Value} {n m : Nat}, a.toList.length = n → b.toList.length = m → decide (a.size < b.size) = decide (n < m) := fun h1 h2 => by rw [← h1, ← h2, Array.length_toList, Array.length_toList]
        have l2 := lv (n := 2) (m := 2) (by rw [ev]; rfl) (by rw [eu]; rfl)
        have l2 : decide (_ < _) = false := l2
        cases r1 with
                | int _ t =>
                  cases r1' with
                  | int _ t' =>
                    have h1 : (rowI ds).map (fun l => i :: l) = some l := h1
                    have h2 : (rowI es).map (fun l => j :: l) = some m := h2
                    cases q1 : rowI ds with
                    | none => rw [q1] at h1; cases h1
                    | some ns =>
                      cases q2 : rowI es with
                      | none => rw [q2] at h2; cases h2
                      | some ms =>
                        rw [q1] at h1
                        rw [q2] at h2
                        cases h1
                        cases h2
                        rw [row_data q1] at r2
                        rw [row_data q2] at r2'
                        refine PySem.W.kat_lt ho hd ho' hd' ?_
                        rw [ev, eu, l2]
                        refine PySem.W.kat_cons (SeqAt.EqAt.int_int i t j t' prog w _ _ ?_)
                        refine PySem.W.kat_go (fun e1 => ?_) (fun e1 => ?_)
                        · have ex : i = j := by simpa using e1
                          have e3 : HT.lexLt (i :: ns) (j :: ms) = HT.lexLt ns ms := by rw [HT.lexLt_cons, if_pos ex]
                          exact PySem.W.kat_yes (last_lex (by omega) r2 r2' rfl ⟨rfl, e3.symm⟩)
                        · have ex : ¬ i = j := by simpa using e1
                          have e3 : HT.lexLt (i :: ns) (j :: ms) = decide (i < j) := by rw [HT.lexLt_cons, if_neg ex]
                          exact PySem.W.kat_no (TS.oneLt_ints _ ⟨rfl, e3.symm⟩)
  | 2, .tuple [.str x, .tuple ds], .tuple [.str y, .tuple es], h1, h2, hv, hw =>
    cases hv with
    | tuple ho hc hd hr =>
      cases hw with
      | tuple ho' hc' hd' hr' =>
        obtain ⟨v1, v2, as1, as2, ev, r1, r2⟩ := reads2 hr
        obtain ⟨u1, u2, bs1, bs2, eu, r1', r2'⟩ := reads2 hr'
        have lv : ∀ {a b : Array Value} {n m : Nat}, a.toList.length = n → b.toList.length = m → decide (a.size < b.size) = decide (n < m) := fun h1 h2 => by rw [← h1, ← h2, Array.length_toList, Array.length_toList]
        have l2 := lv (n := 2) (m := 2) (by rw [ev]; rfl) (by rw [eu]; rfl)
        have l2 : decide (_ < _) = false := l2
        cases r1 with
                | str _ t =>
                  cases r1' with
                  | str _ t' =>
                    have h1 : (rowI ds).map (fun l => encS x ++ 0 :: l) = some l := h1
                    have h2 : (rowI es).map (fun l => encS y ++ 0 :: l) = some m := h2
                    cases q1 : rowI ds with
                    | none => rw [q1] at h1; cases h1
                    | some ns =>
                      cases q2 : rowI es with
                      | none => rw [q2] at h2; cases h2
                      | some ms =>
                        rw [q1] at h1
                        rw [q2] at h2
                        cases h1
                        cases h2
                        rw [row_data q1] at r2
                        rw [row_data q2] at r2'
                        have key : HT.lexLt (encS x ++ 0 :: ns) (encS y ++ 0 :: ms) = if x.cps.toList = y.cps.toList then HT.lexLt ns ms else decide (x.cps.toList < y.cps.toList) := encS_lt _ _ _ _
                        refine PySem.W.kat_lt ho hd ho' hd' ?_
                        rw [ev, eu, l2]
                        refine PySem.W.kat_cons (SeqAt.EqAt.str_str x t y t' prog w _ _ ?_)
                        refine PySem.W.kat_go (fun e1 => ?_) (fun e1 => ?_)
                        · have ex : x = y := by simpa using e1
                          have e3 : HT.lexLt (encS x ++ 0 :: ns) (encS y ++ 0 :: ms) = HT.lexLt ns ms := by rw [key, if_pos (by rw [ex])]
                          exact PySem.W.kat_yes (last_lex (by omega) r2 r2' rfl ⟨rfl, e3.symm⟩)
                        · have ex : ¬ x = y := by simpa using e1
                          have e3 : HT.lexLt (encS x ++ 0 :: ns) (encS y ++ 0 :: ms) = decide (x.cps.toList < y.cps.toList) := by
                            rw [key, if_neg]
                            intro z
                            apply ex
                            obtain ⟨⟨a⟩⟩ := x
                            obtain ⟨⟨b⟩⟩ := y
                            have z : a = b := z
                            rw [z]
                          exact PySem.W.kat_no (oneLt_str ⟨rfl, e3.symm⟩)
end
section
variable {X : Cx} {L : LC} {B B' B0 : Addr → Prop} {σ : St} {H H0 H' H1 : Hp} {ρ ρ' : Rho} {τ τ' : S} {E : XK} {De De' : Ends} {a b c : Expr} {pos : Pos} {f g h : M D} {u : M Bool} {pins : List (Addr × Obj)} {s : Shared}
open Classical in
/-- what a value of the heap is read as -/
noncomputable def rdv (h : Heap) (v : Value) : D := if x : ∃ d as, PyData.canLay0 d = true ∧ Reads h v d as then x.choose else .none
theorem rdv_eq {h : Heap} {v : Value} {d : D} {as : List Addr} (hc : PyData.canLay0 d = true) (r : Reads h v d as) : rdv h v = d := by
  have x : ∃ d as, PyData.canLay0 d = true ∧ Reads h v d as := ⟨d, as, hc, r⟩
  unfold rdv
  rw [dif_pos x]
  obtain ⟨as', hc', r'⟩ := x.choose_spec
  exact SeqAt.Reads.unique _ _ _ _ _ hc' r' r
theorem rdv_all {h : Heap} : ∀ {ds : List D} {vs : List Value} {as : List Addr}, PyData.canLayAll0 ds = true → ReadsAll h vs ds as → vs.map (rdv h) = ds
  | [], _, _, _, .nil => rfl
  | d :: ds, _, _, hc, .cons r rs => by
    have hc : (PyData.canLay0 d && PyData.canLayAll0 ds) = true := by simpa only [PyData.canLayAll0] using hc
    rw [Bool.and_eq_true] at hc
    rw [List.map_cons, rdv_eq hc.1 r, rdv_all hc.2 rs]
theorem reads_mem {h : Heap} : ∀ {ds : List D} {vs : List Value} {as : List Addr}, ReadsAll h vs ds as → PyData.canLayAll0 ds = true → ∀ v ∈ vs, ∃ d as, d ∈ ds ∧ PyData.canLay0 d = true ∧ Reads h v d as
  | [], _, _, .nil, _, v, hv => by cases hv
  | d :: ds, _, _, .cons r rs, hc, v, hv => by
    have hc : (PyData.canLay0 d && PyData.canLayAll0 ds) = true := by simpa only [PyData.canLayAll0] using hc
    rw [Bool.and_eq_true] at hc
    rcases List.mem_cons.mp hv with rfl | hv
    · exact ⟨d, _, .head _, hc.1, r⟩
    · obtain ⟨d', as', h1, h2, h3⟩ := reads_mem rs hc.2 v hv
      exact ⟨d', as', .tail _ h1, h2, h3⟩
/-- the list of the values that stand for data -/
theorem RepA.of_mem {vs : List V} {ds : List D} (r : RepA L B H vs ds) {x : V} (hx : x ∈ vs) : ∃ d, d ∈ ds ∧ Rep L B H x d := by
  induction ds generalizing vs with
  | nil => cases r; cases hx
  | cons d ds ih =>
    cases r with
    | cons r1 r2 =>
      rcases List.mem_cons.mp hx with rfl | hx
      · exact ⟨d, .head _, r1⟩
      · obtain ⟨d', h1, h2⟩ := ih r2 hx
        exact ⟨d', .tail _ h1, h2⟩
def ltD (x y : D) : Bool := HT.lexLt (encD x) (encD y)
theorem ltD_swo : SrtO.Swo ltD := ⟨fun x y h => lex_swo.asym _ _ h, fun x y z h1 h2 => lex_swo.tr _ _ _ h1 h2⟩
def rSortD (L : LC) : List V → Hp → VK → Prop := fun vs H Q => ∃ B a xs ds, vs = [V.ref a] ∧ H a = some (.lst xs) ∧ RepA L B H xs ds ∧ dSortT (.list ds) = some (.list (isort ltD ds)) ∧ ∀ ys p, H p = none → RepA L B H ys (isort ltD ds) → Q (.ref p) (upd H p (.lst ys))
theorem call_sortD (hL : LX X L) (hu : X.A.units + 65 < cLine) : CallR X (.builtin "sorted") (rSortD L) := by
  intro pins s σ H vs us Q I r h
  obtain ⟨B, a, xs, ds, rfl, hs, ra, hd, q⟩ := h
  obtain ⟨its, rv, hl, hz⟩ := I.list (.of hs)
  obtain ⟨u, rfl, ru⟩ := vals1 r
  obtain rfl : u = Value.ref a := ru
  have hd : (if ds.all isT && PyData.canLayAll0 ds && (decide (ds.length < 2) || (ds.all fun d => (encT 0 d).isSome) || (ds.all fun d => (encT 1 d).isSome) || (ds.all fun d => (encT 2 d).isSome)) then some (PyData.list (isort ltD ds)) else none) = some (.list (isort ltD ds)) := hd
  obtain ⟨hd, _⟩ := ite_some hd
  simp only [Bool.and_eq_true, Bool.or_eq_true, decide_eq_true_eq] at hd
  obtain ⟨⟨hT, hC⟩, hk⟩ := hd
  have refs : ∀ x ∈ xs, ∃ t, x = V.ref t := fun x hx => by
    obtain ⟨d, hm, rd⟩ := ra.of_mem hx
    have := List.all_eq_true.mp hT d hm
    cases d with
    | tuple es => obtain ⟨p, _, e, _, _⟩ := id rd.tupInv; exact ⟨p, e⟩
    | _ => cases this
  obtain ⟨e1, e2⟩ := refs_back rv refs
  obtain ⟨as, rds⟩ := Dp.readsAll I ds xs its (by rw [hL.k]; exact ra.dp hC) rv
  have em := rdv_all hC rds
  have hlen : its.length = ds.length := by rw [← em, List.length_map]
  refine SrtO.sorted_ord (ltv := fun v u => ltD (rdv s.heap v) (rdv s.heap u)) ⟨fun x y h => ltD_swo.asym _ _ h, fun x y z h1 h2 => ltD_swo.tr _ _ _ h1 h2⟩ hl.isList (by rw [← rv.length]; exact hz) (fun h2 h₁ a' ha kk => ?_) fun out hs hb => ?_
  · intro h' keep
    have keep' : ∀ b o, s.heap.get? b = some o → h'.get? b = some o := fun b o e => keep b o (kk b o e).1 (kk b o e).2
    obtain ⟨k, hk⟩ : ∃ k, k < 3 ∧ ∀ d ∈ ds, ∃ l, encT k d = some l := by
      have f : ∀ k, (ds.all fun d => (encT k d).isSome) = true → ∀ d ∈ ds, ∃ l, encT k d = some l := fun k h d hm => Option.isSome_iff_exists.mp (List.all_eq_true.mp h d hm)
      rcases hk with ((hk | hk) | hk) | hk
      · omega
      · exact ⟨0, by omega, f 0 hk⟩
      · exact ⟨1, by omega, f 1 hk⟩
      · exact ⟨2, by omega, f 2 hk⟩
    refine ⟨tuples' true, fun Q E hq => ?_, fun p q hp hq => ?_⟩
    · -- the kind
      obtain ⟨T, fs, h1, h2', h3, hT2⟩ : ∃ (T : Value) (fs : List Value), PySem.W.KatTups h' its fs ∧ its.length = fs.length ∧ (∀ v ∈ fs, PySem.W.Looks (model X.prog X.w) h' (typeOf v) T) ∧ (T = .type "int" ∨ T = .type "str") := by
        have go : ∀ (T : Value) (ok : Value → Prop), (∀ v, ok v → PySem.W.Looks (model X.prog X.w) h' (typeOf v) T) → (T = .type "int" ∨ T = .type "str") → (∀ v ∈ its, ∃ a o zs n f, v = .ref a ∧ h'.get? a = some o ∧ o.cls = .type "tuple" ∧ o.data = .seq zs n ∧ zs[0]? = some f ∧ ok f) → ∃ (T : Value) (fs : List Value), PySem.W.KatTups h' its fs ∧ its.length = fs.length ∧ (∀ v ∈ fs, PySem.W.Looks (model X.prog X.w) h' (typeOf v) T) ∧ (T = .type "int" ∨ T = .type "str") := by
          intro T ok hT hT2 hv
          suffices ∀ l : List Value, (∀ v ∈ l, ∃ a o zs n f, v = .ref a ∧ h'.get? a = some o ∧ o.cls = .type "tuple" ∧ o.data = .seq zs n ∧ zs[0]? = some f ∧ ok f) → ∃ fs, PySem.W.KatTups h' l fs ∧ l.length = fs.length ∧ ∀ v ∈ fs, ok v by
            obtain ⟨fs, g1, g2, g3⟩ := this its hv
            exact ⟨T, fs, g1, g2, fun v hm => hT v (g3 v hm), hT2⟩
          intro l
          induction l with
          | nil => intro _; exact ⟨[], .nil, rfl, fun v hm => absurd hm (by simp)⟩
          | cons v l ih =>
            intro hv
            obtain ⟨fs, g1, g2, g3⟩ := ih fun v hm => hv v (.tail _ hm)
            obtain ⟨a, o, zs, n, f, rfl, k1, k2, k3, k4, k5⟩ := hv v (.head _)
            refine ⟨f :: fs, .cons k1 k2 k3 k4 g1, by rw [List.length_cons, List.length_cons, g2], fun v hm => ?_⟩
            rcases List.mem_cons.mp hm with rfl | hm
            · exact k5
            · exact g3 v hm
        have first : ∀ {v : Value} {d : D} {ds' : List D} {as : List Addr}, Reads h' v (.tuple (d :: ds')) as → ∃ a o zs n f, v = .ref a ∧ h'.get? a = some o ∧ o.cls = .type "tuple" ∧ o.data = .seq zs n ∧ zs[0]? = some f ∧ ∃ as, Reads h' f d as := fun {v d ds' as} r => by
          cases r with
          | tuple ho hc hd hr =>
            rename_i a o zs n
            cases hz : zs.toList with
            | nil => rw [hz] at hr; cases hr
            | cons f r =>
              rw [hz] at hr
              cases hr with
              | cons r1 r2 => exact ⟨_, _, zs, n, f, rfl, ho, hc, hd, by rw [← Array.getElem?_toList, hz]; rfl, _, r1⟩
        have isI : ∀ {f : Value} {i : Int} {as : List Addr}, Reads h' f (.int i) as → ∃ t, f = .int i t := fun r => by cases r; exact ⟨_, rfl⟩
        have isS : ∀ {f : Value} {i : Str} {as : List Addr}, Reads h' f (.str i) as → ∃ t, f = .str i t := fun r => by cases r; exact ⟨_, rfl⟩
        obtain ⟨hk3, hk⟩ := hk
        have item : ∀ v ∈ its, ∃ d as, (∃ l, encT k d = some l) ∧ Reads h' v d as := fun v hm => by
          obtain ⟨d, as, g1, g2, g3⟩ := reads_mem rds hC v hm
          exact ⟨d, as, hk d g1, PyProof.Rows.Reads.keeps keep' g3⟩
        match k, hk3 with
        | 0, _ =>
          refine go (.type "int") (fun v => ∃ i t, v = .int i t) (fun v ⟨i, t, e⟩ => by subst e; exact PySem.W.Looks.now) (.inl rfl) fun v hm => ?_
          obtain ⟨d, as, ⟨l, g1⟩, g2⟩ := item v hm
          match d, g1, g2 with
          | .tuple (.int i :: ds'), g1, g2 =>
            obtain ⟨a, o, zs, n, f, k1, k2, k3, k4, k5, as, k6⟩ := first g2
            obtain ⟨t, k7⟩ := isI k6
            exact ⟨a, o, zs, n, f, k1, k2, k3, k4, k5, i, t, k7⟩
        | 1, _ =>
          refine go (.type "int") (fun v => ∃ i t, v = .int i t) (fun v ⟨i, t, e⟩ => by subst e; exact PySem.W.Looks.now) (.inl rfl) fun v hm => ?_
          obtain ⟨d, as, ⟨l, g1⟩, g2⟩ := item v hm
          match d, g1, g2 with
          | .tuple [.int i, .tuple es], g1, g2 =>
            obtain ⟨a, o, zs, n, f, k1, k2, k3, k4, k5, as, k6⟩ := first g2
            obtain ⟨t, k7⟩ := isI k6
            exact ⟨a, o, zs, n, f, k1, k2, k3, k4, k5, i, t, k7⟩
        | 2, _ =>
          refine go (.type "str") (fun v => ∃ i t, v = .str i t) (fun v ⟨i, t, e⟩ => by subst e; exact PySem.W.Looks.now) (.inr rfl) fun v hm => ?_
          obtain ⟨d, as, ⟨l, g1⟩, g2⟩ := item v hm
          match d, g1, g2 with
          | .tuple [.str i, .tuple es], g1, g2 =>
            obtain ⟨a, o, zs, n, f, k1, k2, k3, k4, k5, as, k6⟩ := first g2
            obtain ⟨t, k7⟩ := isS k6
            exact ⟨a, o, zs, n, f, k1, k2, k3, k4, k5, i, t, k7⟩
      refine PySem.W.kat_kind (T := T) h1 (by omega) h3 (by rcases hT2 with rfl | rfl <;> rfl) ?_
      have e : (T != Value.type "tuple") = true := by
        rcases hT2 with rfl | rfl
        · first | decide +kernel | rfl | decide
        · first | decide +kernel | rfl | decide
      rw [e]
      exact hq
    · obtain ⟨d, as, g1, g2, g3⟩ := reads_mem rds hC p.1 hp
      obtain ⟨d', as', g1', g2', g3'⟩ := reads_mem rds hC q.1 hq
      obtain ⟨l, hl1⟩ := hk.2 d g1
      obtain ⟨m, hm1⟩ := hk.2 d' g1'
      show wpAny _ _ _ (fun r s' => s' = { s with heap := h' } ∧ r = ltD (rdv s.heap p.1) (rdv s.heap q.1)) _ _
      rw [rdv_eq g2 g3, rdv_eq g2' g3', ltD, encD_of hl1, encD_of hm1]
      exact tup_cmp (A := X.A.in1.in1) (s := { s with heap := h' }) (by show X.A.units + 1 + 1 + 3 < cLine; omega) (PyProof.Rows.Reads.keeps keep' g3) (PyProof.Rows.Reads.keeps keep' g3') hl1 hm1
  · -- the end
    have h3 : ∀ u ∈ out, ∃ a, u = Value.ref a := fun u hu => e2 u (hb.perm.mem_iff.mp hu)
    have es : out.map (rdv s.heap) = isort ltD ds := by
      have s1 : SrtO.Stb ltD (out.map (rdv s.heap)) (its.map (rdv s.heap)) := SrtO.Stb.map ltD_swo (rdv s.heap) hb
      rw [em] at s1
      have s2 := isort_stb ltD_swo ds
      exact SrtO.stb_uniq ltD_swo (SrtO.srtd_map hs) (isort_srtd ltD_swo ds) (s1.trans ⟨s2.perm.symm, fun x => (s2.cls x).symm⟩)
    have rep : RepA L B H (out.map backV) (out.map (rdv s.heap)) := by
      have one : ∀ u ∈ its, Rep L B H (backV u) (rdv s.heap u) := fun u hu => by
        have hx : backV u ∈ xs := by rw [e1]; exact List.mem_map.mpr ⟨u, hu, rfl⟩
        obtain ⟨d, hm, rd⟩ := ra.of_mem hx
        obtain ⟨t, rfl⟩ := e2 u hu
        have hcd : PyData.canLay0 d = true := by
          have : ∀ l : List D, PyData.canLayAll0 l = true → d ∈ l → PyData.canLay0 d = true := by
            intro l
            induction l with
            | nil => intro _ h; cases h
            | cons z l ih =>
              intro h hm
              have h : (PyData.canLay0 z && PyData.canLayAll0 l) = true := by simpa only [PyData.canLayAll0] using h
              rw [Bool.and_eq_true] at h
              rcases List.mem_cons.mp hm with rfl | hm
              · exact h.1
              · exact ih h.2 hm
          exact this ds hC hm
        obtain ⟨as, rr⟩ := Dp.reads I d (.ref t) (.ref t) (by rw [hL.k]; exact rd.dp hcd) rfl
        rw [rdv_eq hcd rr]
        exact rd
      have : ∀ l : List Value, (∀ u ∈ l, u ∈ its) → RepA L B H (l.map backV) (l.map (rdv s.heap)) := by
        intro l
        induction l with
        | nil => intro _; exact .nil
        | cons v l ih => intro hm; exact .cons (one v (hm v (.head _))) (ih fun u hu => hm u (.tail _ hu))
      exact this out fun u hu => hb.perm.mem_iff.mp hu
    rw [es] at rep
    have hn : H (s.heap.objs.size + 1) = none := I.hok.fresh (Nat.le_succ _)
    obtain ⟨n, hat⟩ := sortedAll_at s.heap its out.toArray
    have vv : Vals (out.map backV) out := by
      have : ∀ l : List Value, (∀ u ∈ l, ∃ a, u = Value.ref a) → Vals (l.map backV) l := by
        intro l
        induction l with
        | nil => intro _; exact .nil
        | cons v l ih =>
          intro hm
          obtain ⟨a, rfl⟩ := hm v (.head _)
          exact .cons rfl (ih fun u hu => hm u (.tail _ hu))
      exact this out h3
    have I2 : Inv X pins σ (upd H (s.heap.objs.size + 1) (.lst (out.map backV))) { s with heap := sortedAll s.heap its out.toArray } := by
      refine I.laid (t' := s.toks) (a := s.heap.objs.size + 1) (o := .lst (out.map backV)) (fun b o e => sortedAll_old e) (Nat.le_succ _) ⟨?_, out, n, vv, hat⟩
      rw [List.length_map, hb.perm.length_eq, ← rv.length]
      exact hz
    exact ⟨.ref (s.heap.objs.size + 1), _, I2, rfl, q _ _ hn rep⟩
theorem dSortT_of {ds : List D} {z : D} (h : dSortT (.list ds) = some z) : z = .list (isort ltD ds) := by
  obtain ⟨_, e⟩ := ite_some h
  exact e.symm
theorem de_sortT (hL : LX X L) (hu : X.A.units + 65 < cLine) {p : Pos} (hm : X.mg "sorted" = none) (ha : PE X a (tD L f E)) (hg : Gl X "sorted" := by rfl) (he : starEach [a] X.env = (false, eval a X.env) :: starEach [] X.env := by rfl) (hb : bootBuiltins "sorted" = some (.builtin "sorted") := by decide +kernel) :
    PE X (.Call (.Name "sorted" p) [a] [] pos) (tD L (e1 dSortT f) E) :=
  (pe_callB (call_sortD hL hu) hg hm hb (pa_cons ha pa_nil he) (by decide) (by decide) he rfl).imp fun σ H Q ⟨ρ, τ, B, e, t, h⟩ => tD_bind (k := fun a _ τ1 => opt (dSortT a) τ1) e t h fun d τ1 v H1 e1 g1 t1 r1 h1 => by
    obtain ⟨z, hz, q⟩ := post_opt h1
    cases d with
    | list ds =>
      have ez := dSortT_of hz
      subst ez
      obtain ⟨a, xs, rfl, nb, hH, ra⟩ := r1.lstInv
      exact ⟨B, a, xs, ds, rfl, hH, ra, hz, fun ys p n ry => post_new q t1 n (.lst (e1.fresh n) upd_same (e1.repA (Grow.new n) ry))⟩
    | _ => cases hz
end
end SG

/-! SgT: constants of the module that are tuples; rules for the evaluator. -/
namespace SG
open PySem PySem.Spec PyProof.Rows L2
mutual
inductive KC (K : PySem.W.Frag) : V → D → Prop
  | non : KC K .non .none
  | bl (b : Bool) : KC K (.bl b) (.bool b)
  | int (i : Int) : KC K (.int i) (.int i)
  | str (x : Str) : KC K (.str x) (.str x)
  | tup {a : Addr} {xs : List V} {ds : List D} {od : Option Addr} {its : Array Value} {n : Nat} {sl : Array (Option Value)} : K.lookup a = some ⟨.type "tuple", od, .seq its n, sl⟩ → its.size ≤ sizeLine → Vals xs its.toList → KCA K xs ds → KC K (.ref a) (.tuple ds)
inductive KCA (K : PySem.W.Frag) : List V → List D → Prop
  | nil : KCA K [] []
  | cons {v : V} {vs : List V} {d : D} {ds : List D} : KC K v d → KCA K vs ds → KCA K (v :: vs) (d :: ds)
end
section
variable {X : Cx} {L : LC} {B : Addr → Prop} {H : Hp} {E : XK} {pos : Pos}
mutual
theorem KC.rep : ∀ {d : D} {v : V}, KC L.K v d → Rep L B H v d
  | _, _, .non => .non
  | _, _, .bl b => .bl b
  | _, _, .int i => .int i
  | _, _, .str x => .str x
  | _, _, .tup h1 h2 h3 h4 => .ktup h1 rfl rfl h2 h3 (KCA.rep h4)
theorem KCA.rep : ∀ {ds : List D} {vs : List V}, KCA L.K vs ds → RepA L B H vs ds
  | _, _, .nil => .nil
  | _, _, .cons h1 h2 => .cons (KC.rep h1) (KCA.rep h2)
end
theorem de_gtup {x : Str} {d : D} (hL : LX X L) (h : ∃ a, X.mg x = some (.ref a) ∧ KC X.K (.ref a) d) (hg : Gl X x := by rfl) (hd : (x == ("__debug__" : Str)) = false := by decide) : PE X (.Name x pos) (tD L (eC d) E) := by
  obtain ⟨a, hm, hk⟩ := h
  rw [hL.k] at hk
  exact (pe_glob (v := .ref a) hg hm rfl hd).imp fun σ H Q ⟨ρ, τ, B, e, t, h⟩ => post_ok h t hk.rep
end
theorem tup_in {K : PySem.W.Frag} {h : Heap} {mg : Str → Option Value} {x : Str} {a : Addr} {d : D} (X : K.In h) (G : h.Ns mainGlobals mg) (e : PySem.W.nsIn K mainGlobals x = some (some (.ref a))) (k : KC K (.ref a) d) : ∃ a, mg x = some (.ref a) ∧ KC K (.ref a) d := ⟨a, PySem.W.mg_of X G e, k⟩
theorem KC.seq {K : PySem.W.Frag} {a : Addr} {xs : List V} {ds : List D} {od : Option Addr} {its : List Value} {n : Nat} {sl : Array (Option Value)} (h : K.lookup a = some ⟨.type "tuple", od, .seq its.toArray n, sl⟩) (hl : Nat.ble its.length 1000 = true) (hv : Vals xs its) (hr : KCA K xs ds) : KC K (.ref a) (.tuple ds) :=
  .tup h (by rw [List.size_toArray]; exact Nat.le_trans (Nat.le_of_ble_eq_true hl) (by decide)) hv hr
def dAddI : D → D → Option D
  | .int i, .int j => some (.int (i + j))
  | _, _ => none
theorem ip_addI {X : Cx} {L : LC} : PIp X .Add (rD L dAddI) := by
  intro pins s σ H x y v u Q I rx ry h
  obtain ⟨da, db, d, B, nf, ra, rb, hd, q, _⟩ := h
  cases da with
  | int i =>
    cases db with
    | int j =>
      cases hd
      exact ip_add pins s σ H x y v u Q I rx ry ⟨i, j, ra.intInv, rb.intInv, q _ (.int _)⟩
    | _ => cases hd
  | _ => cases db <;> cases hd
/-! ### a sequence some times -/
def repD (k : Nat) (ds : List D) : List D := (List.replicate k ds).flatten
def dRep : D → D → Option D
  | .list xs, .int k => if 2 ≤ k ∧ k ≤ 1000 ∧ xs.length ≤ 1000 then some (.list (repD k.toNat xs)) else none
  | .tuple xs, .int k => if xs ≠ [] ∧ 2 ≤ k ∧ k ≤ 1000 ∧ xs.length ≤ 1000 then some (.tuple (repD k.toNat xs)) else none
  | _, _ => none
theorem RepA.times {L : LC} {B : Addr → Prop} {H : Hp} {vs : List V} {ds : List D} (h : RepA L B H vs ds) : ∀ k, RepA L B H (List.replicate k vs).flatten (repD k ds)
  | 0 => .nil
  | k + 1 => by
    rw [repD, List.replicate_succ, List.replicate_succ, List.flatten_cons, List.flatten_cons]
    exact h.append (h.times k)
theorem od_rep {X : Cx} {L : LC} (hL : LX X L) : OpD X L (binaryOp .Mult) dRep := by
  intro pins s σ H x y v u Q I rx ry h
  obtain ⟨da, db, d, B, nf, ra, rb, hd, q, q2⟩ := h
  have rn : ∀ {p : Addr} {o : HO} {vs : List V} {ds : List D}, H p = none → RepA L B H vs ds → RepA L B (upd H p o) vs ds := fun n r => r.imp fun a u nb e _ => ⟨by rw [upd_ne (ne_of_none e n)]; exact e, nb⟩
  cases da with
  | list xs =>
    cases db with
    | int k =>
      obtain ⟨⟨h1, h2, h3⟩, rfl⟩ := ite_some hd
      obtain ⟨p1, vs1, rfl, nb1, s1, r1⟩ := ra.lstInv
      have hl := r1.length
      have hz : vs1.length * k.toNat ≤ sizeLine := by
        rw [sizeLine_eq]
        exact Nat.le_trans (Nat.mul_le_mul (show vs1.length ≤ 1000 by omega) (show k.toNat ≤ 1000 by omega)) (by omega)
      exact op_rep pins s σ H _ _ v u Q I rx ry ⟨p1, k, vs1, rfl, rb.intInv, s1, by omega, by omega, hz, fun p n => q2 _ p _ n (.lst (nf p n) upd_same (rn n (r1.times _)))⟩
    | _ => cases hd
  | tuple xs =>
    cases db with
    | int k =>
      obtain ⟨⟨h0, h1, h2, h3⟩, rfl⟩ := ite_some hd
      obtain ⟨p1, vs1, rfl, s1, r1⟩ := id ra.tupInv
      have hl := r1.length
      refine op_repT pins s σ H _ _ v u Q I rx ry ⟨p1, k, vs1, rfl, rb.intInv, by rw [hL.k]; exact s1, fun e => h0 ?_, h1, h2, by omega, fun p n => q2 _ p _ n (.tup (nf p n) upd_same (rn n (r1.times _)))⟩
      subst e
      cases r1
      rfl
    | _ => cases hd
  | _ => cases db <;> cases hd
/-! ### a list of one's own by + -/
def catO (τ : S) : D → D → Res (List D)
  | .list xs, .list ys => if xs.length ≤ LIM ∧ ys.length ≤ LIM then .ok (xs ++ ys) τ else .bad
  | _, _ => .bad
def eCat (f g : M D) : M (List D) := fun ρ τ => (f ρ τ).bind fun a τ1 => (g ρ τ1).bind fun b τ2 => catO τ2 a b
theorem df_cat {X : Cx} {L : LC} {E : XK} {a b : Expr} {pos : Pos} {f g : M D} (ha : PE X a (tD L f E)) (hb : PE X b (tD L g E)) : PE X (.BinOp a .Add b pos) (tDF L (eCat f g) E) :=
  (pe_op op_cat ha hb).imp fun σ H Q ⟨ρ, τ, B, e, t, h⟩ => tD_bind (k := fun a ρ τ1 => (g ρ τ1).bind fun b τ2 => catO τ2 a b) e t h fun d τ1 v H1 e1 g1 t1 r1 h1 =>
    tD_bind (k := fun b _ τ2 => catO τ2 d b) e1 t1 h1 fun d2 τ2 v2 H2 e2 g2 t2 r2 h2 => by
      have r1' := e1.rep g2 r1
      have l2 : LIM + LIM ≤ sizeLine := by decide
      cases d with
      | list xs =>
        cases d2 with
        | list ys =>
          have h2 : PostG L H2 E _ Q (if xs.length ≤ LIM ∧ ys.length ≤ LIM then .ok (xs ++ ys) τ2 else .bad) := h2
          split at h2
          · rename_i hl
            obtain ⟨p1, vs1, rfl, nb1, s1, ra1⟩ := r1'.lstInv
            obtain ⟨p2, vs2, rfl, nb2, s2, ra2⟩ := r2.lstInv
            have h3 := ra1.length
            have h4 := ra2.length
            refine ⟨p1, p2, vs1, vs2, rfl, rfl, s1, s2, by omega, fun p n => ?_⟩
            refine h2 _ _ (Grow.new n) (t2.new n) ⟨p, _, rfl, t2.fr (g1.trans g2) (.of n), upd_same, (ra1.append ra2).imp fun z u nb e0 _ => ?_⟩
            exact ⟨by rw [upd_ne (ne_of_none e0 n)]; exact e0, fun w => w.elim nb (ne_of_none e0 n)⟩
          · exact h2.elim
        | _ => exact h2.elim
      | _ => exact h2.elim
/-! ### rules of the evaluator -/
section
variable {ρ ρ' : Rho} {τ τ' : S} {f g h : M D} {u v : M Bool} {a b : MS} {fs gs : M (List D)} {l : List Nat} {d e : D} {ds es : List D} {i : Nat} {kvs : List (D × D)}
def k_inD (kvs : List (D × D)) (x : D) (τ : S) : Res D := if keyOk x then .ok (.bool (kLook kvs x).isSome) τ else .bad
def k_getD (kvs : List (D × D)) (x : D) (τ : S) : Res D := if keyOk x then opt (kLook kvs x) τ else .bad
def k_putDb (i : Nat) (kvs : List (D × D)) (ρ : Rho) (v : D) (x : D) (τ : S) : Res Fl := putO i kvs ρ x v τ
def k_putD (i : Nat) (kvs : List (D × D)) (ρ : Rho) (f : M D) (x : D) (τ : S) : Res Fl := (f ρ τ).bind (k_putDb i kvs ρ x)
def inDO (f : M D) (ρ : Rho) (τ : S) : Option (List (D × D)) → Res D
  | some kvs => (f ρ τ).bind (k_inD kvs)
  | none => .bad
def getDO (f : M D) (ρ : Rho) (τ : S) : Option (List (D × D)) → Res D
  | some kvs => (f ρ τ).bind (k_getD kvs)
  | none => .bad
def putDO (i : Nat) (f g : M D) (ρ : Rho) (τ : S) : Option (List (D × D)) → Res Fl
  | some kvs => (g ρ τ).bind (k_putD i kvs ρ f)
  | none => .bad
def augO (i : Nat) (op : D → D → Option D) (f : M D) (ρ : Rho) (τ : S) : Option Sl → Res Fl
  | some (.v x) => (f ρ τ).bind fun b τ' => match op x b with | some d => .ok (.nx (ρ.set i (.v d))) τ' | none => .bad
  | _ => .bad
def k_aug (i : Nat) (op : D → D → Option D) (ρ : Rho) (x : D) (b : D) (τ : S) : Res Fl := match op x b with | some d => .ok (.nx (ρ.set i (.v d))) τ | none => .bad
def augN (i : Nat) (ρ : Rho) (τ : S) : Option D → Res Fl
  | some d => .ok (.nx (ρ.set i (.v d))) τ
  | none => .bad
theorem v_aug {op : D → D → Option D} : sAug i op f ρ τ = augO i op f ρ τ ρ[i]? := by unfold sAug augO; rfl
theorem v_augO {op : D → D → Option D} : augO i op f ρ τ (some (.v d)) = (f ρ τ).bind (k_aug i op ρ d) := id rfl
theorem v_k_aug {op : D → D → Option D} : k_aug i op ρ d e τ = augN i ρ τ (op d e) := by unfold k_aug augN; rfl
theorem v_augN : augN i ρ τ (some d) = .ok (.nx (ρ.set i (.v d))) τ := id rfl
theorem v_addI {x y : Int} : dAddI (.int x) (.int y) = some (.int (x + y)) := id rfl
def k_catb (a : D) (x : D) (τ : S) : Res (List D) := catO τ a x
def k_cat (g : M D) (ρ : Rho) (x : D) (τ : S) : Res (List D) := (g ρ τ).bind (k_catb x)
theorem v_cat : eCat f g ρ τ = (f ρ τ).bind (k_cat g ρ) := id rfl
theorem v_k_cat : k_cat g ρ d τ = (g ρ τ).bind (k_catb d) := id rfl
theorem v_k_catb : k_catb d e τ = catO τ d e := id rfl
theorem v_catO : catO τ (.list ds) (.list es) = if ds.length ≤ LIM ∧ es.length ≤ LIM then .ok (ds ++ es) τ else .bad := id rfl
theorem v_ownD : sOwnD i l ρ τ = if i < ρ.length then .ok (.nx ((fz l ρ).set i (.od []))) τ else .bad := id rfl
theorem v_odD : odD (some (.od kvs)) = some kvs := id rfl
theorem v_inD : eInD i f ρ τ = inDO f ρ τ (odD ρ[i]?) := by unfold eInD inDO k_inD; rfl
theorem v_inDO : inDO f ρ τ (some kvs) = (f ρ τ).bind (k_inD kvs) := id rfl
theorem v_k_inD : k_inD kvs d τ = if keyOk d then .ok (.bool (kLook kvs d).isSome) τ else .bad := id rfl
theorem v_getD : eGetD i f ρ τ = getDO f ρ τ (odD ρ[i]?) := by unfold eGetD getDO k_getD; rfl
theorem v_getDO : getDO f ρ τ (some kvs) = (f ρ τ).bind (k_getD kvs) := id rfl
theorem v_k_getD : k_getD kvs d τ = if keyOk d then opt (kLook kvs d) τ else .bad := id rfl
theorem v_putD : sPutD i f g ρ τ = putDO i f g ρ τ (odD ρ[i]?) := by unfold sPutD putDO k_putD k_putDb; rfl
theorem v_putDO : putDO i f g ρ τ (some kvs) = (g ρ τ).bind (k_putD i kvs ρ f) := id rfl
theorem v_k_putD : k_putD i kvs ρ f e τ = (f ρ τ).bind (k_putDb i kvs ρ e) := id rfl
theorem v_k_putDb : k_putDb i kvs ρ e d τ = putO i kvs ρ d e τ := id rfl
end
end SG

/-! SgU: what is raised, what is caught and kept. -/
namespace SG
open PySem PySem.Spec PyProof.Rows L2
abbrev mroV : List Value := [.type "ValueError", .type "Exception", .type "BaseException", .type "object"]
/-- an exception class of the text -/
structure ExcK (K : PySem.W.Frag) (C : Addr) : Prop where
  x : PySem.W.excIn K C mroV "ValueError.__new__" = true
  k : PySem.W.keepIn K (.ref C) = true
  b : PySem.W.subIn K (.ref C) (.type "BaseException") = some true
  t : PySem.W.typeIn K (.ref C) = some (.type "type")
section
variable {X : Cx} {L : LC} {B B' B0 : Addr → Prop} {σ : St} {H H0 H' H1 : Hp} {ρ ρ' : Rho} {τ τ' : S} {E : XK} {De De' : Ends} {pos : Pos} {pins : List (Addr × Obj)} {s : Shared}
abbrev wE (E : XK) : WX := fun cls d _ H => E cls d H
theorem ds_raise (hL : LX X L) {c m : Str} {j : Nat} {p p2 p3 : Pos} (tk : Takes X (wE E)) (h : ∃ C, X.mg c = some (.ref C) ∧ ExcK X.K C) (hg : Gl X c := by rfl) (hc : X.calm = true := by rfl) (hdb : (c == ("__debug__" : Str)) = false := by decide) :
    PS X (.Raise (some (.Call (.Name c p) [.Constant (.str m) j p2] [] p3)) none pos) (tS L (sRaise c) E) := by
  obtain ⟨C, hm, hk⟩ := h
  refine (ps_raise hc tk (pmk_own PySem.F.excBase_ValueError hk.x hm hk.k (raises_own hk.b hk.t) hg hdb)).imp fun De σ H ⟨ρ, τ, B0, H0, e, t, q⟩ => ?_
  exact q H (.ref C) e.grow t (by rw [← hL.m]; exact hm)
/-! ### an exception that is kept -/
def ExcO (a C : Addr) : HO := .ext fun h => ∃ ob, h.get? a = some ob ∧ Zc (.ref C) none ob ∧ ∃ vs, ob.data = .fields vs
theorem ExcO.okAt {P : Program} {w : World} {H : Hp} {h : Heap} {a C : Addr} {ob : Obj} (e : h.get? a = some ob) (z : Zc (.ref C) none ob) (d : ∃ vs, ob.data = .fields vs) : ObjOk P w H h a (ExcO a C) :=
  ⟨⟨ob, e, z, d⟩, ⟨ob, e⟩, fun h1 h2 ⟨o2, e2, z2, d2⟩ keep => ⟨o2, keep o2 e2, z2, d2⟩⟩
/-- an object that is not known yet gets known -/
theorem adopt {a C : Addr} {ob : Obj} (I : Inv X pins σ H s) (e : s.heap.get? a = some ob) (z : Zc (.ref C) none ob) (d : ∃ vs, ob.data = .fields vs) (na : H a = none) (nl : a ≠ X.env.locals) (n0 : X.s_0.heap.get? a = none) (np : ∀ p ∈ X.pn ++ pins, p.1 ≠ a) : Inv X pins σ (upd H a (ExcO a C)) s := by
  have other : ∀ {b : Addr}, b ≠ a → upd H a (ExcO a C) b = H b := fun h => upd_ne h
  have known : ∀ {b : Addr} {u : HO}, H b = some u → upd H a (ExcO a C) b = some u := fun {b u} q => by rw [other (ne_of_none q na)]; exact q
  refine { ok := I.ok, os := I.os, bare := I.bare, loc := I.loc, cell := I.cell, len := I.len, base := ?_, free := ?_, freeC := ?_, pin := ?_, hok := ?_ }
  · refine { keep := I.base.keep, slot := I.base.slot, there := I.base.there, free := ?_, tups := ?_, frzs := ?_, tbls := ?_ }
    · intro b o h0 h1 h2
      have hb : b ≠ a := fun q => by rw [q, n0] at h0; cases h0
      rw [other hb]
      exact I.base.free b o h0 h1 h2
    · exact fun b xs q => known (I.base.tups b xs q)
    · exact fun b o u q => known (I.base.frzs b o u q)
    · intro b ps q
      obtain ⟨more, q2⟩ := I.base.tbls b ps q
      exact ⟨more, known q2⟩
  · rw [other (Ne.symm nl)]; exact I.free
  · intro x c hc
    have hne : c ≠ a := fun q => by
      obtain ⟨v, o, ho, hd⟩ := I.cell x c hc
      rw [q, e] at ho
      cases ho
      obtain ⟨vs, hv⟩ := d
      rw [hv] at hd
      cases hd
    rw [other hne]; exact I.freeC x c hc
  · intro p hp
    obtain ⟨h1, h2, h3⟩ := I.pin p hp
    exact ⟨h1, by rw [other (np p hp)]; exact h2, h3⟩
  · intro b u q
    by_cases hb : b = a
    · subst hb
      rw [upd_same] at q
      cases q
      exact ExcO.okAt e z d
    · rw [other hb] at q
      exact (I.hok b u q).stay (fun _ _ _ q => q) (fun _ q => known q) fun _ _ q => known q
/-- what 'except x as n: r = n' wishes: slot i is n's, slot j is r's -/
def wKeep (K : PySem.W.Frag) (c : Value) (i j n : Nat) (D : Ends) : WX := fun cls d σ H =>
  PySem.W.exmOne K cls c = some true ∧ ∃ C, cls = .ref C ∧ d = none ∧ ∀ a, σ.length = n → H a = none → D.nx (((σ.set i (some (.ref a))).set j (some (.ref a))).set i none) (upd H a (ExcO a C))
theorem ps_try_keep {x n r : Str} {c : Value} {i j : Nat} {body : List Stmt} {np pos' pr pn' pa : Pos} {tb : WX → TS}
    (stk : X.stack = X.env :: X.outer) (frm : X.env.frame = some X.env.locals) (nd : X.N.Nodup) (ni : X.N[i]? = some n) (nj : X.N[j]? = some r) (kn : X.env.kindOf n = some .local) (kr : X.env.scope.names.lookup r = some .local) (nm : Names X x c) (hex : X.ex = [])
    (hsw : swapsWith (.Name n pn') (some (.Name r pr)) pa.line X.env = pure false) (hdn : (n == ("__debug__" : Str)) = false) (hcn : (n == ("__classdict__" : Str)) = false)
    (hb : ∀ (W : WX) (pn : List (Addr × Obj)) (xe : Value → Shared → Prop), Takes (X.tr pn xe) W → PassesOwn (model X.prog X.w) X.A X.env xe → PSs (X.tr pn xe) body (tb W)) :
    PS X (.Try body [.ExceptHandler (some (.Name x np)) (some n) [.Assign [.Name r pr] (.Name n pn') pa] pos'] [] [] pos) (fun D σ H => tb (wKeep X.K c i j X.N.length D) D σ H) := by
  refine ⟨fun pins s σ H D I wish => ?_⟩
  have good := I.ok
  have fr2 : X.A.frames = some (X.env :: X.outer) := by rw [good.frames, stk]
  refine wpAny_Try_except ?_
  have run := hb (wKeep X.K c i j X.N.length D) (X.pn ++ pins)
    (fun e z1 => wpAny (model X.prog X.w) X.A (noteFrame e X.env) (fun _ z2 => wpAny (model X.prog X.w) X.A (setFlight e none)
      (fun _ z3 => wpAny (model X.prog X.w) X.A (handleBy e X.env [.ExceptHandler (some (.Name x np)) (some n) [.Assign [.Name r pr] (.Name n pn') pa] pos']) (SP X pins D) X.xe z3) X.xe z2) X.xe z1)
    (fun u z x0 => ?caught) PassesOwn.looking
  case caught =>
    obtain ⟨a, G, t0, pins0, σ0, H0, cls, d, hu, J0, inG, ups, air, na, hos, hag, hm, C, hcls, hdn', go⟩ := x0
    subst hu
    subst hcls
    subst hdn'
    have J1 : Inv X pins σ0 H0 t0 := J0.ofTry good
    have air' : Sky G (X.env :: X.outer) a (Zc (.ref C) none) X.env.locals z.heap := by rw [← stk]; exact air
    refine Sky.land Zc.steady fr2 frm air' fun h1 fly1 ups1 => ?_
    have J2 : Inv X pins σ0 H0 { z with heap := h1 } := J1.landed inG fly1.1 (ups.trans ups1) hos hag
    obtain ⟨o1, vs1, at1, zc1, da1⟩ := fly1.there
    have offFr : a ∉ frs (X.env :: X.outer) := fun hmem => by
      obtain ⟨_, o', e', hnf⟩ := fly1.2.2.1.mem hmem
      rw [at1] at e'
      cases e'
      exact hnf _ da1
    have offL : a ≠ X.env.locals := fun q => offFr (List.mem_filterMap.mpr ⟨X.env, List.mem_cons_self, by rw [frm, q]⟩)
    have offF : a ∉ X.fs := fun hmem => by
      obtain ⟨e, he, q⟩ := List.mem_filterMap.mp hmem
      exact offFr (List.mem_filterMap.mpr ⟨e, List.mem_cons_of_mem _ he, q⟩)
    have new0 : X.s_0.heap.get? a = none := by
      cases q : X.s_0.heap.get? a with
      | none => rfl
      | some o =>
        obtain ⟨o', q'⟩ := J1.base.there a o q (by rw [hex]; simp)
        have := inG a o' q' (by rw [stk]; exact offFr)
        rw [fly1.2.1] at this
        cases this
    have apart : ∀ p ∈ X.pn ++ pins, p.1 ≠ a := fun p hp q => by
      obtain ⟨h1, h2, h3, h4, _⟩ := J1.pin p hp
      have := inG p.1 p.2 h1 (by
        rw [stk]
        intro hmem
        obtain ⟨e, he, hf⟩ := List.mem_filterMap.mp hmem
        rcases List.mem_cons.mp he with rfl | he
        · rw [frm] at hf; exact h3 (Option.some.inj hf).symm
        · exact h4 (List.mem_filterMap.mpr ⟨e, he, hf⟩))
      rw [q, fly1.2.1] at this
      cases this
    have S2 := J2.suite at1 da1 na offL offF
    refine wpAny_handleBy_cons (codeAny_handlers_test ?_) (fun q => by cases q)
    have isC : PySem.W.Looks (model X.prog X.w) h1 (typeOf (.ref a)) (.ref C) := fun A Q E s k q => wpAny_typeOf_ref (k _ _ at1) (by rw [zc1.1]; exact q)
    have hit := PySem.W.exm_one (M := model X.prog X.w) J2.kIn isC hm
    have named : ∀ {Q : Value → Shared → Prop} {E : Value → Shared → Prop}, Q c { z with heap := h1 } → wpAny (model X.prog X.w) (X.A.mark (some (.ref a))) (eval (.Name x np) X.env) Q E { z with heap := h1 } := fun {Q E} q => by
      obtain ⟨g1, g2, g3 | ⟨g3, g4, g5⟩⟩ := nm
      · exact ld_glob (X := X.suite a ((a, o1) :: (X.pn ++ pins))) S2 g1 g3 q g2
      · exact ld_blt (X := X.suite a ((a, o1) :: (X.pn ++ pins))) S2 g1 g3 g4 q g5 g2
    refine named (hit.here (codeAny_handlers_suite_as ?_))
    refine HandSPX.lands_againZ fly1 fun h2 fly2 ups2 => ?_
    have J3 : Inv X pins σ0 H0 { z with heap := h2 } := J1.landed inG fly2.1 ((ups.trans ups1).trans ups2) hos hag
    obtain ⟨o2, vs2, at2, zc2, da2⟩ := fly2.there
    have S3 := J3.suite at2 da2 na offL offF
    refine store_ok (X := X.suite a ((a, o2) :: (X.pn ++ pins))) (v := .ref a) S3 nd ni (.inl kn) rfl (fun s4 S4 => ?_) (.inr kn)
    have hlen : i < (σ0 : St).length := by
      have := S4.len
      have h1 : i < X.N.length := (List.getElem?_eq_some_iff.mp ni).1
      have h2 : (σ0.set i (some (V.ref a))).length = X.N.length := this
      rw [List.length_set] at h2
      omega
    have st := ps_set (X := X.suite a ((a, o2) :: (X.pn ++ pins))) (pos := pa) nd nj (.inl kr) (pe_var (pos := pn') ni (.inl kn) hdn hcn) hsw (.inr kr)
    refine wpAny_mono ((pss_one st).run [] s4 _ H0 { nx := fun σ6 H6 => σ6 = (σ0.set i (some (.ref a))).set j (some (.ref a)) ∧ H6 = H0, rt := fun _ _ => False, bk := fun _ _ => False, ct := fun _ _ => False } S4 ⟨.ref a, List.getElem?_set_self hlen, rfl, rfl⟩) (fun f s5 out => ?_) (fun _ _ q => q.elim)
    cases f with
    | next =>
      obtain ⟨σ6, H6, S6, e6, e7⟩ := out
      subst e6
      subst e7
      refine gone_ok (X := X.suite a ((a, o2) :: (X.pn ++ pins))) S6 nd ni kn fun s7 S7 => ?_
      obtain ⟨at7, _⟩ := S7.pin (a, o2) (List.mem_append.mpr (.inl List.mem_cons_self))
      exact ⟨_, _, adopt (S7.unsuite good) at7 zc2 ⟨_, da2⟩ na offL new0 apart, go a J1.len na⟩
    | brk => obtain ⟨_, _, _, q⟩ := out; exact q.elim
    | cont => obtain ⟨_, _, _, q⟩ := out; exact q.elim
    | ret u => obtain ⟨_, _, _, _, _, q⟩ := out; exact q.elim
  refine wpAny_mono (run.run [] s σ H D (I.toTry _) wish) (fun f s1 out => ?_) (fun _ _ q => q)
  cases f with
  | next =>
    obtain ⟨σ1, H1, J1, q⟩ := out
    exact wpAny_execs_nil ⟨σ1, H1, J1.ofTry good, q⟩
  | brk => obtain ⟨σ1, H1, J1, q⟩ := out; exact ⟨σ1, H1, J1.ofTry good, q⟩
  | cont => obtain ⟨σ1, H1, J1, q⟩ := out; exact ⟨σ1, H1, J1.ofTry good, q⟩
  | ret u => obtain ⟨v, σ1, H1, J1, rv, q⟩ := out; exact ⟨v, σ1, H1, J1.ofTry good, rv, q⟩
end
end SG

/-! SgV: the law's own def that tells which error was raised. -/
namespace SG
open PySem PySem.Spec PyProof.Rows L2
section
variable {X : Cx} {σ : St} {H H0 H' H1 : Hp} {De De' : Ends} {pos : Pos} {pins : List (Addr × Obj)} {s : Shared}
/-! ### isinstance of what was kept -/
def rIsX (K : PySem.W.Frag) : List V → Hp → VK → Prop := fun xs H Q => ∃ (a C : Addr) (c : V) (cv : Value) (b : Bool), xs = [.ref a, c] ∧ H a = some (ExcO a C) ∧ ExcC K C ∧ (∀ u, RelV c u → u = cv) ∧ PySem.W.kitOne K (.ref C) cv = some b ∧ Q (.bl b) H
theorem call_isX : CallR X (.builtin "isinstance") (rIsX X.K) := by
  intro pins s σ H xs us Q I r h
  obtain ⟨a, C, c, cv, b, rfl, hH, hc, hcv, hk, q⟩ := h
  obtain ⟨u1, u2, rfl, ra, rc⟩ := vals2 r
  cases (show u1 = Value.ref a from ra)
  obtain rfl := hcv _ rc
  obtain ⟨⟨ob, e, z, vs, hv⟩, _, _⟩ := I.hok a _ hH
  have J : PySem.W.InstAt s.heap a ob C none := by
    obtain ⟨oc, od, oda, osl⟩ := ob
    obtain ⟨h1, h2⟩ := z
    dsimp only at h1 h2 hv
    subst h1 h2 hv
    exact ⟨e, rfl, rfl, trivial⟩
  refine PySem.W.kia_one (PySem.W.handS_kitx_exc hc.hg hc.hk hc.hs hc.hd hc.ha hc.hn hc.ht hc.hm) I.kIn J hk (fun z => by cases z) fun tk => ?_
  exact ⟨.bl b, H, I.kept (t' := tk) fun _ _ z => z, rfl, q⟩
def tIsX (K : PySem.W.Frag) (i : Nat) (cv : Value) : TE := fun σ H Q => ∃ a C b, σ[i]? = some (some (.ref a)) ∧ H a = some (ExcO a C) ∧ ExcC K C ∧ PySem.W.kitOne K (.ref C) cv = some b ∧ Q (.bl b) H
theorem pe_isx {i : Nat} {x c : Str} {C : Addr} {p p1 p2 : Pos} (hm : X.mg "isinstance" = none) (hC : X.mg c = some (.ref C)) (hN : X.N[i]? = some x := by rfl) (hv : Vis X.env.scope x := by first | exact Or.inl rfl | exact Or.inr (Or.inl rfl) | exact Or.inr (Or.inr rfl)) (hg : Gl X "isinstance" := by rfl) (hgc : Gl X c := by rfl) (hd : (x == ("__debug__" : Str)) = false := by decide)
    (hcd : (x == ("__classdict__" : Str)) = false := by decide) (hdc : (c == ("__debug__" : Str)) = false := by decide) (hb : bootBuiltins "isinstance" = some (.builtin "isinstance") := by decide +kernel) (he : starEach [.Name x p1, .Name c p2] X.env = (false, eval (.Name x p1) X.env) :: starEach [.Name c p2] X.env := by rfl) (he2 : starEach [.Name c p2] X.env = (false, eval (.Name c p2) X.env) :: starEach [] X.env := by rfl) :
    PE X (.Call (.Name "isinstance" p) [.Name x p1, .Name c p2] [] pos) (tIsX X.K i (.ref C)) :=
  (pe_callB call_isX hg hm hb (pa_cons (pe_var hN hv hd hcd) (pa_cons (pe_glob (v := .ref C) hgc hC rfl hdc) pa_nil he2) he) (by decide) (by decide) he rfl).imp fun σ H Q ⟨a, C', b, h1, h2, h3, h4, q⟩ => ⟨.ref a, h1, a, C', .ref C, .ref C, b, rfl, h2, h3, fun u hu => hu, h4, q⟩
theorem pe_isxV {i : Nat} {x c : Str} {T : String} {p p1 p2 : Pos} (hm : X.mg "isinstance" = none) (hC : X.mg c = none) (hbc : bootBuiltins c = some (.type T) := by decide +kernel) (hN : X.N[i]? = some x := by rfl) (hv : Vis X.env.scope x := by first | exact Or.inl rfl | exact Or.inr (Or.inl rfl) | exact Or.inr (Or.inr rfl)) (hg : Gl X "isinstance" := by rfl) (hgc : Gl X c := by rfl) (hd : (x == ("__debug__" : Str)) = false := by decide)
    (hcd : (x == ("__classdict__" : Str)) = false := by decide) (hdc : (c == ("__debug__" : Str)) = false := by decide) (hnc : c ≠ "__name__" := by decide) (hb : bootBuiltins "isinstance" = some (.builtin "isinstance") := by decide +kernel) (he : starEach [.Name x p1, .Name c p2] X.env = (false, eval (.Name x p1) X.env) :: starEach [.Name c p2] X.env := by rfl) (he2 : starEach [.Name c p2] X.env = (false, eval (.Name c p2) X.env) :: starEach [] X.env := by rfl) :
    PE X (.Call (.Name "isinstance" p) [.Name x p1, .Name c p2] [] pos) (tIsX X.K i (.type T)) :=
  (pe_callB call_isX hg hm hb (pa_cons (pe_var hN hv hd hcd) (pa_cons (pe_bltn (v := .ty T) hgc hC hbc rfl hnc hdc) pa_nil he2) he) (by decide) (by decide) he rfl).imp fun σ H Q ⟨a, C', b, h1, h2, h3, h4, q⟩ => ⟨.ref a, h1, a, C', .ty T, .type T, b, rfl, h2, h3, fun u hu => hu, h4, q⟩
/-! ### d.update(e) -/
def rUpd : V → List V → Hp → VK → Prop := fun x xs H Q => ∃ (d o : Addr) (kvs more : List (Key × V)), x = .ref d ∧ xs = [.ref o] ∧ d ≠ o ∧ H d = some (.dK kvs) ∧ H o = some (.dK more) ∧ kvs.length + more.length ≤ 1000 ∧ Q .non (upd H d (.dK (mergeK kvs more)))
theorem mt_update : MtR X "dict.update" rUpd := by
  intro pins s σ H x xs v us Q I rx rs h
  obtain ⟨d, o, kvs, more, rfl, rfl, hne, e1, e2, hl, q⟩ := h
  cases (show v = Value.ref d from rx)
  obtain ⟨u, rfl, ru⟩ := vals1 rs
  cases (show u = Value.ref o from ru)
  obtain ⟨z1, hd1, vs1, r1, dd1⟩ := dk_of I.hok e1
  obtain ⟨z2, hd2, vs2, r2, dd2⟩ := dk_of I.hok e2
  have l1 : kvs.length = vs1.length := r1.length
  have l2 : more.length = vs2.length := r2.length
  have hz : 1000 ≤ sizeLine := by decide
  refine call_meetsIn F.slot_dict_update dd1.typeIs F.entry_dict_update (F.args_dict_update_2 _ _) (meets_dict_update (mixKind X.prog X.w) d o hne hd2) ⟨vs1, vs2, dd1, dd2, by omega, fun h' dd' _ hs => ?_⟩
  have hm := merged_length_le vs1 vs2
  have rel := r2.merge r1
  have lm : (mergeK kvs more).length = (merged vs1 vs2).length := rel.length
  have he : ∃ q, h'.get? d = some q := let ⟨q, _, _, hq, _⟩ := dd'; ⟨q, hq⟩
  exact ⟨.non, _, d_write I (by rw [e1]; exact True.intro) hs he (dk_new (by omega) hd1 rel dd'), rfl, q⟩
/-! ### {k: isinstance(..), k: isinstance(..)} -/
def tD2 (K : PySem.W.Frag) (i : Nat) (k1 k2 : Str) (c1 c2 : Value) : TE := fun σ H Q => ∃ a C b1 b2, σ[i]? = some (some (.ref a)) ∧ H a = some (ExcO a C) ∧ ExcC K C ∧ PySem.W.kitOne K (.ref C) c1 = some b1 ∧ PySem.W.kitOne K (.ref C) c2 = some b2 ∧ k1 ≠ k2 ∧
  ∀ p, H p = none → Q (.ref p) (upd H p (.dK [(Sum.inr k1, .bl b1), (Sum.inr k2, .bl b2)]))
theorem disp2_imp {K : PySem.W.Frag} {i : Nat} {k1 k2 : Str} {c1 c2 : Value} : ∀ σ H Q, tD2 K i k1 k2 c1 c2 σ H Q → tDisp [(tC (.str k1), tIsX K i c1), (tC (.str k2), tIsX K i c2)] σ H Q := fun σ H Q ⟨a, C, b1, b2, h1, h2, h3, h4, h5, h6, q⟩ p n => by
  have hp : a ≠ p := ne_of_none h2 n
  have h2' : upd H p (.dK []) a = some (ExcO a C) := by rw [upd_ne hp]; exact h2
  refine ⟨a, C, b1, h1, h2', h3, h4, a, C, b2, h1, h2', h3, h5, upd_same, [(Sum.inr k1, .bl b1), (Sum.inr k2, .bl b2)], rfl, by simp, ?_⟩
  have hm : mergeK [] [((Sum.inr k1 : Key), V.bl b1), (Sum.inr k2, V.bl b2)] = [(Sum.inr k1, V.bl b1), (Sum.inr k2, V.bl b2)] := by
    simp [mergeK, putK, h6]
  rw [hm, upd_upd]
  exact q p n
theorem pe_disp2 {i : Nat} {k1 k2 : Str} {c1 c2 : Value} {e1 e2 : Expr} {j1 j2 : Nat} {p1 p2 : Pos} (h1 : PE X e1 (tIsX X.K i c1)) (h2 : PE X e2 (tIsX X.K i c2)) : PE X (.Dict [some (.Constant (.str k1) j1 p1), some (.Constant (.str k2) j2 p2)] [e1, e2] pos) (tD2 X.K i k1 k2 c1 c2) :=
  (pe_disp (pps_cons pe_str h1 (pps_cons pe_str h2 pps_nil)) rfl rfl (fun z => by cases z) (by simp)).imp disp2_imp
def tU2 (K : PySem.W.Frag) (i m : Nat) (k1 k2 : Str) (c1 c2 : Value) : TS := fun D σ H => ∃ a C b1 b2 d kvs, σ[i]? = some (some (.ref a)) ∧ H a = some (ExcO a C) ∧ ExcC K C ∧ PySem.W.kitOne K (.ref C) c1 = some b1 ∧ PySem.W.kitOne K (.ref C) c2 = some b2 ∧ k1 ≠ k2 ∧
  σ[m]? = some (some (.ref d)) ∧ H d = some (.dK kvs) ∧ kvs.length ≤ 100 ∧ ∀ o, H o = none → D.nx σ (upd (upd H o (.dK [(Sum.inr k1, .bl b1), (Sum.inr k2, .bl b2)])) d (.dK (mergeK kvs [(Sum.inr k1, .bl b1), (Sum.inr k2, .bl b2)])))
theorem ps_upd2 {i m : Nat} {x : Str} {k1 k2 : Str} {c1 c2 : Value} {e1 e2 : Expr} {j1 j2 : Nat} {p1 p2 px pa pc pd : Pos} (h1 : PE X e1 (tIsX X.K i c1)) (h2 : PE X e2 (tIsX X.K i c2)) (hN : X.N[m]? = some x := by rfl) (hv : Vis X.env.scope x := by first | exact Or.inl rfl | exact Or.inr (Or.inl rfl) | exact Or.inr (Or.inr rfl)) (hd : (x == ("__debug__" : Str)) = false := by decide) (hcd : (x == ("__classdict__" : Str)) = false := by decide)
    (hbase : attributeBase (.Name x px) "update" X.env (eval (.Name x px) X.env) = eval (.Name x px) X.env := by rfl)
    (hfew : ((backTo pc (starEach [.Dict [some (.Constant (.str k1) j1 p1), some (.Constant (.str k2) j2 p2)] [e1, e2] pd] X.env)).all (fun x => !x.1) && (backToKw pc (keywordEach [] X.env)).all (fun x => x.1.isSome) && decide (([.Dict [some (.Constant (.str k1) j1 p1), some (.Constant (.str k2) j2 p2)] [e1, e2] pd] : List Expr).length + ([] : List Keyword).length + (if ([] : List Keyword).isEmpty then 0 else 1) < 30)) = true := by rfl)
    (hline : (pa.endLine == pc.line) = true := by rfl) (hst : starEach [.Dict [some (.Constant (.str k1) j1 p1), some (.Constant (.str k2) j2 p2)] [e1, e2] pd] X.env = (false, eval (.Dict [some (.Constant (.str k1) j1 p1), some (.Constant (.str k2) j2 p2)] [e1, e2] pd) X.env) :: starEach [] X.env := by rfl)
    (hs : swapsWith (.Call (.Attribute (.Name x px) "update" pa) [.Dict [some (.Constant (.str k1) j1 p1), some (.Constant (.str k2) j2 p2)] [e1, e2] pd] [] pc) none pos.line X.env = pure false := by rfl) :
    PS X (.Expr (.Call (.Attribute (.Name x px) "update" pa) [.Dict [some (.Constant (.str k1) j1 p1), some (.Constant (.str k2) j2 p2)] [e1, e2] pd] [] pc) pos) (tU2 X.K i m k1 k2 c1 c2) :=
  (ps_expr (pe_bm PySem.F.plainAttrs_dict PySem.F.slot_dict_update PySem.F.type_dict_update mt_update (pe_var hN hv hd hcd) (pa_cons (pe_disp2 h1 h2) pa_nil hst) hbase hfew hline hst rfl) hs).imp fun De σ H ⟨a, C, b1, b2, d, kvs, g1, g2, g3, g4, g5, g6, g7, g8, g9, q⟩ =>
    ⟨.ref d, g7, .inr (.inr (.inl ⟨rfl, .inl ⟨kvs, g8⟩⟩)), a, C, b1, b2, g1, g2, g3, g4, g5, g6, fun o n => by
      have hdo : d ≠ o := ne_of_none g8 n
      exact ⟨d, o, kvs, _, rfl, rfl, hdo, by rw [upd_ne hdo]; exact g8, upd_same, by simp; omega, q o n⟩⟩
/-! ### the names of what holds -/
def kvB (l : List (Str × Bool)) : List (Key × V) := l.map fun p => (Sum.inr p.1, V.bl p.2)
theorem kvB_val {l : List (Str × Bool)} (hn : (l.map (·.1)).Nodup) {i : Nat} {p : Str × Bool} (h : l[i]? = some p) : valV (kvB l) (Sum.inr p.1) = some (.bl p.2) := by
  induction l generalizing i with
  | nil => simp at h
  | cons q l ih =>
    have hn' := List.nodup_cons.mp hn
    cases i with
    | zero =>
      simp at h
      subst h
      exact valV_pos (p := (Sum.inr q.1, V.bl q.2)) rfl
    | succ i =>
      have h' : l[i]? = some p := by simpa using h
      have hne : q.1 ≠ p.1 := fun z => hn'.1 (List.mem_map.mpr ⟨p, List.mem_of_getElem? h', z.symm⟩)
      have : valV (kvB (q :: l)) (Sum.inr p.1) = valV (kvB l) (Sum.inr p.1) := valV_neg (p := (Sum.inr q.1, V.bl q.2)) (fun z => hne (Sum.inr.inj z))
      rw [this]
      exact ih hn'.2 h'
def tNm (m n : Nat) : TS := fun D σ H => ∃ d l, σ[m]? = some (some (.ref d)) ∧ H d = some (.dK (kvB l)) ∧ (l.map (·.1)).Nodup ∧ l.length ≤ 100 ∧ ∀ q, H q = none → D.nx (σ.set n (some (.ref q))) (upd H q (.lst (((l.filter (·.2)).map (·.1)).map V.str)))
theorem nm_imp {m n k : Nat} (hmk : m ≠ k) (hk : k < 7) : ∀ D σ H, (tNm m n D σ H ∧ σ.length = 7) → tLock (tAsg (tLc (iKeys (tVar m)) (gName k) (fun σ H Q => tDGet (tVar m) (tVar k) σ H fun x H' => ∃ b, TruV X.K x H' b ∧ Q b H') (tVar k) [k]) (gName n)) D σ H := fun D σ H ⟨⟨d, l, h1, h2, h3, h4, q⟩, hlen⟩ => by
  refine ⟨d, _, h2, trivial, fun od => ⟨.ref d, h1, d, od, rfl, .inl ⟨kvB l, upd_same, fun D' nD => ?_⟩⟩⟩
  have hdD : d ≠ D' := fun z => by rw [z, upd_same] at nD; cases nD
  have nD' : H D' = none := by rw [upd_ne (Ne.symm hdD)] at nD; exact nD
  have hl : (kvB l).length = l.length := by simp [kvB]
  refine lc_it (J := Itk d od (kvB l)) (g := gName k) (tt := fun σ H Q => tDGet (tVar m) (tVar k) σ H fun x H' => ∃ b, TruV X.K x H' b ∧ Q b H') (te := tVar k) (vs := [k]) (σ := σ) (H1 := upd H d (.frz od (.dK (kvB l)))) (D := D') (Qd := fun H1 => H1 d = some (.frz od (.dK (kvB l))) ∧ D.nx (σ.set n (some (.ref D'))) (upd H1 d (.dK (kvB l)))) walk_keys (fun i H' => H' = upd (upd H d (.frz od (.dK (kvB l)))) D' (.lst ((((l.take i).filter (·.2)).map (·.1)).map V.str))) ?_ (fun i H' _ e => ?_) (fun i x H' H2 hi e y => ?_) fun H' e => ?_
  · rw [List.take_zero]; rfl
  · rw [e, upd_ne hdD, upd_same]
  · obtain ⟨rfl, kk, v, hkv, rfl⟩ := y
    subst e
    rw [hl] at hi
    have hli : l[i]? = some l[i] := List.getElem?_eq_getElem hi
    have hkv' : (kvB l)[i]? = some (Sum.inr l[i].1, V.bl l[i].2) := by simp [kvB, hli]
    rw [hkv'] at hkv
    cases hkv
    refine ⟨?_, ?_⟩
    · show wipe ((wipe σ [k]).set k _) [k] = wipe σ [k]
      rw [wipe_set (by simp), wipe_wipe]
    · have e1 : ((wipe σ [k]).set k (some (kV (Sum.inr l[i].1))))[m]? = some (some (.ref d)) := by
        rw [List.getElem?_set_ne (Ne.symm hmk), wipe_get (by simpa using hmk)]
        exact h1
      have e2 : ((wipe σ [k]).set k (some (kV (Sum.inr l[i].1))))[k]? = some (some (.str l[i].1)) := List.getElem?_set_self (by rw [wipe_length, hlen]; exact hk)
      have hd' : upd (upd H d (.frz od (.dK (kvB l)))) D' (.lst ((((l.take i).filter (·.2)).map (·.1)).map V.str)) d = some (.frz od (.dK (kvB l))) := by rw [upd_ne hdD, upd_same]
      refine ⟨.ref d, e1, .str l[i].1, e2, d, .bl l[i].2, rfl, .inl ⟨kvB l, Sum.inr l[i].1, .inr ⟨od, hd'⟩, rfl, (kvB_val h3 hli).symm⟩, l[i].2, rfl, ?_⟩
      have ht : l.take (i + 1) = l.take i ++ [l[i]] := by rw [List.take_succ, hli]; rfl
      cases hb : l[i].2 with
      | true =>
        dsimp only
        rw [if_pos rfl]
        refine ⟨.str l[i].1, e2, _, upd_same, ?_, ?_⟩
        · have : (((l.take i).filter (·.2)).map (·.1)).length ≤ l.length := by
            rw [List.length_map]
            exact Nat.le_trans (List.length_filter_le _ _) (by rw [List.length_take]; omega)
          have hz : 100 < sizeLine := by decide
          rw [List.length_map]
          omega
        · rw [upd_upd, ht, List.filter_append, List.map_append, List.map_append]
          simp [hb]
      | false =>
        dsimp only
        rw [if_neg Bool.false_ne_true, ht, List.filter_append]
        simp [hb]
  · rw [hl, List.take_length] at e
    subst e
    refine ⟨by rw [upd_ne hdD, upd_same], ?_⟩
    have : upd (upd (upd H d (.frz od (.dK (kvB l)))) D' (.lst (((l.filter (·.2)).map (·.1)).map V.str))) d (.dK (kvB l)) = upd H D' (.lst (((l.filter (·.2)).map (·.1)).map V.str)) := by
      funext z
      by_cases hz : z = d
      · subst hz; rw [upd_same, upd_ne hdD, h2]
      · rw [upd_ne hz]
        by_cases hz2 : z = D'
        · subst hz2; rw [upd_same, upd_same]
        · rw [upd_ne hz2, upd_ne hz2, upd_ne hz]
    show D.nx (σ.set n (some (.ref D'))) _
    rw [this]
    exact q D' nD'
/-! ### if x is None: return (z, y) -/
def tR3 (i j : Nat) (z : Str) : TS := fun D σ H => ∃ v, σ[i]? = some (some v) ∧ ((v = .non ∧ ∃ u, σ[j]? = some (some u) ∧ ∀ p, H p = none → D.rt (.ref p) (upd H p (.tup [.str z, u]))) ∨ ((∃ a, v = .ref a) ∧ D.nx σ H))
theorem ps_r3 {i j : Nat} {x y z : Str} {j1 j2 k : Nat} {p1 p2 p3 p4 p5 p6 p7 : Pos} (hN : X.N[i]? = some x := by rfl) (hM : X.N[j]? = some y := by rfl) (hv : Vis X.env.scope x := by first | exact Or.inl rfl | exact Or.inr (Or.inl rfl) | exact Or.inr (Or.inr rfl)) (hw : Vis X.env.scope y := by first | exact Or.inl rfl | exact Or.inr (Or.inl rfl) | exact Or.inr (Or.inr rfl))
    (hd : (x == ("__debug__" : Str)) = false := by decide) (hcd : (x == ("__classdict__" : Str)) = false := by decide) (hd2 : (y == ("__debug__" : Str)) = false := by decide) (hcd2 : (y == ("__classdict__" : Str)) = false := by decide)
    (s1 : starEach [.Constant (.str z) j2 p4, .Name y p5] X.env = (false, eval (.Constant (.str z) j2 p4) X.env) :: starEach [.Name y p5] X.env := by rfl) (s2 : starEach [.Name y p5] X.env = (false, eval (.Name y p5) X.env) :: starEach [] X.env := by rfl) :
    PS X (.If (.Compare (.Name x p1) [.Is] [.Constant .none j1 p2] p3) [.Return (some (.Tuple [.Constant (.str z) j2 p4, .Name y p5] k p6)) p7] [] pos) (tR3 i j z) :=
  (ps_if (pt_cmpR op_isN (pe_var hN hv hd hcd) pe_non (nomark _)) (pss_one (ps_ret (pe_tup (pa_cons pe_str (pa_cons (pe_var hM hw hd2 hcd2) pa_nil s2) s1)))) pss_nil).imp fun De σ H ⟨v, h1, h2⟩ => by
    refine ⟨v, h1, rfl, ?_⟩
    rcases h2 with ⟨rfl, u, h3, h4⟩ | ⟨⟨a, rfl⟩, h3⟩
    · refine ⟨true, rfl, ?_⟩
      dsimp only
      rw [if_pos rfl]
      exact ⟨u, h3, by show 2 ≤ sizeLine; decide, h4⟩
    · refine ⟨false, rfl, ?_⟩
      dsimp only
      rw [if_neg Bool.false_ne_true]
      exact h3
/-! ### return (names[0],) if len(names) == 1 and isinstance(..) else .. -/
def tR7 (K : PySem.W.Frag) (i n : Nat) : TS := fun D σ H => ∃ q x a C, σ[n]? = some (some (.ref q)) ∧ H q = some (.lst [.str x]) ∧ σ[i]? = some (some (.ref a)) ∧ H a = some (ExcO a C) ∧ ExcC K C ∧ PySem.W.kitOne K (.ref C) (.type "ValueError") = some true ∧ ∀ p, H p = none → D.rt (.ref p) (upd H p (.tup [.str x]))
theorem ps_r7 {i n : Nat} {y : Str} {eI : Expr} {j1 j2 j3 k k2 : Nat} {z : Str} {p0 p1 p2 p3 p4 p5 p6 p7 p8 p9 pa pb pc : Pos} (hI : PE X eI (tIsX X.K i (.type "ValueError"))) (hm : X.mg "len" = none) (hN : X.N[n]? = some y := by rfl) (hv : Vis X.env.scope y := by first | exact Or.inl rfl | exact Or.inr (Or.inl rfl) | exact Or.inr (Or.inr rfl))
    (hd : (y == ("__debug__" : Str)) = false := by decide) (hcd : (y == ("__classdict__" : Str)) = false := by decide) (hg : Gl X "len" := by rfl) (he : starEach [.Name y p1] X.env = (false, eval (.Name y p1) X.env) :: starEach [] X.env := by rfl)
    (ht : ∀ whole, isTrue eI X.env whole = (do let v ← whole; standAt eI.pos; holding [v] (truthy v)) := by intro _; rfl)
    (s1 : starEach [.Subscript (.Name y p4) (.Constant (.int 0) j2 p5) p6] X.env = (false, eval (.Subscript (.Name y p4) (.Constant (.int 0) j2 p5) p6) X.env) :: starEach [] X.env := by rfl) (s2 : starEach [.Constant (.str z) j3 p8] X.env = (false, eval (.Constant (.str z) j3 p8) X.env) :: starEach [] X.env := by rfl) :
    PS X (.Return (some (.IfExp (.BoolOp .And [.Compare (.Call (.Name "len" p0) [.Name y p1] [] p2) [.Eq] [.Constant (.int 1) j1 p3] pa, eI] pb) (.Tuple [.Subscript (.Name y p4) (.Constant (.int 0) j2 p5) p6] k p7) (.Tuple [.Constant (.str z) j3 p8] k2 p9) pc)) pos) (tR7 X.K i n) :=
  (ps_ret (pe_ifExp (PW.pt (pw_and (pt_cmpR op_eq (pe_callB call_len_seq hg hm PySem.boot_len (pa_cons (pe_var hN hv hd hcd) pa_nil he) (by decide) (by decide) he rfl) pe_int (nomark _)) (pw_and1 (pt_truth hI ht)))) (pe_tup (pa_cons (pe_ix ix_list (pe_var hN hv hd hcd) pe_int (fun _ _ => rfl)) pa_nil s1)) (pe_tup (pa_cons pe_str pa_nil s2)))).imp fun De σ H ⟨q, x, a, C, h1, h2, h3, h4, h5, h6, h7⟩ => by
    refine ⟨.ref q, h1, q, _, rfl, .inl (.of h2), rfl, true, rfl, ?_⟩
    dsimp only
    rw [if_pos rfl]
    refine ⟨a, C, true, h3, h4, h5, h6, true, rfl, ?_⟩
    rw [if_pos rfl]
    exact ⟨.ref q, h1, q, _, 0, .str x, rfl, rfl, .of h2, rfl, by show 1 ≤ sizeLine; decide, h7⟩
/-! ### x, y = None, None -/
theorem ps_r1 {x y : Str} {j1 j2 k1 k2 : Nat} {p1 p2 p3 p4 p5 p6 : Pos} (nd : X.N.Nodup) (hc : X.calm = true := by rfl) (hN : X.N[1]? = some x := by rfl) (hM : X.N[2]? = some y := by rfl) (hx : Loc X.env.scope x := by first | exact Or.inl rfl | exact Or.inr rfl) (hy : Loc X.env.scope y := by first | exact Or.inl rfl | exact Or.inr rfl) (hf : X.fn x = true ∨ X.env.scope.names.lookup x = some .local := by first | exact .inl rfl | exact .inr rfl) (hf2 : X.fn y = true ∨ X.env.scope.names.lookup y = some .local := by first | exact .inl rfl | exact .inr rfl)
    (s1 : starEach [.Constant .none j1 p3, .Constant .none j2 p4] X.env = (false, eval (.Constant .none j1 p3) X.env) :: starEach [.Constant .none j2 p4] X.env := by rfl) (s2 : starEach [.Constant .none j2 p4] X.env = (false, eval (.Constant .none j2 p4) X.env) :: starEach [] X.env := by rfl)
    (a1 : (assignEach [.Name x p1, .Name y p2] X.env).map (·.2) = assign (.Name x p1) X.env :: (assignEach [.Name y p2] X.env).map (·.2) := by rfl) (a2 : (assignEach [.Name y p2] X.env).map (·.2) = assign (.Name y p2) X.env :: (assignEach [] X.env).map (·.2) := by rfl)
    (a3 : (assignEach [.Name x p1, .Name y p2] X.env).length = 2 := by rfl) (a4 : (assignEach [.Name x p1, .Name y p2] X.env).findIdx? (·.1) = none := by rfl)
    (hs : swapsWithSole [.Tuple [.Name x p1, .Name y p2] k1 p5] (.Tuple [.Constant .none j1 p3, .Constant .none j2 p4] k2 p6) pos.line X.env = pure false := by rfl) (hw : swappedStores [.Tuple [.Name x p1, .Name y p2] k1 p5] (.Tuple [.Constant .none j1 p3, .Constant .none j2 p4] k2 p6) X.env = pure none := by rfl)
    (h1 : (assignEach [.Tuple [.Name x p1, .Name y p2] k1 p5] X.env).map (·.2) = [assign (.Tuple [.Name x p1, .Name y p2] k1 p5) X.env] := by rfl) :
    PS X (.Assign [.Tuple [.Name x p1, .Name y p2] k1 p5] (.Tuple [.Constant .none j1 p3, .Constant .none j2 p4] k2 p6) pos) (fun D σ H => ∀ p, H p = none → D.nx ((σ.set 1 (some .non)).set 2 (some .non)) (upd H p (.tup [.non, .non]))) :=
  (ps_asg (pe_tup (pa_cons pe_non (pa_cons pe_non pa_nil s2) s1)) (pg_tup hc (pgs_cons (pg_name nd hN hx hf) (pgs_cons (pg_name nd hM hy hf2) pgs_nil a2) a1) a3 a4) hs hw h1).imp fun De σ H q =>
    ⟨by show 2 ≤ sizeLine; decide, fun p n => ⟨p, _, rfl, .of upd_same, rfl, _, _, rfl, _, _, rfl, rfl, q p n⟩⟩
/-! ### the whole -/
abbrev kNm : List Str := ["one", "hand", "all", "line", "way", "things", "glances", "place", "number", "text", "long", "undo"]
/-- what is known of an error class C: the answers to the twelve questions, the name of the one that holds -/
structure ErrK (K : PySem.W.Frag) (he : Value) (cs : List Value) (C : Addr) (n : Str) : Prop where
  m : PySem.W.exmOne K (.ref C) he = some true
  c : ExcC K C
  v : PySem.W.kitOne K (.ref C) (.type "ValueError") = some true
  l : cs.length = 12
  q : ∃ bs : List Bool, bs.length = 12 ∧ (∀ p ∈ cs.zip bs, PySem.W.kitOne K (.ref C) p.1 = some p.2) ∧ ((kNm.zip bs).filter (·.2)).map (·.1) = [n]
def TRes (K : PySem.W.Frag) (he : Value) (cs : List Value) : (XK → Hp → VK → Prop) → Hp → VK → Prop := fun tl H Q =>
  tl (fun cls d H' => ∃ C n, cls = .ref C ∧ d = none ∧ ErrK K he cs C n ∧ ∀ H2 p, (∀ b o, H' b = some o → H2 b = some o) → H2 p = none → Q (.ref p) (upd H2 p (.tup [.str n])))
    H (fun v H' => ∀ p, H' p = none → Q (.ref p) (upd H' p (.tup [.str "returns", v])))
def tBody (f c' : Addr) (q : Str) (tl : XK → Hp → VK → Prop) (W : WX) : TS := fun D σ H => ∃ Ex : XK, (∀ cls d σ' H', Ex cls d H' → W cls d σ' H') ∧ σ[0]? = some (some (.ref f)) ∧ H c' = some (LamX.CodeO c' q) ∧ tl Ex H (fun v H' => D.nx (σ.set 2 (some v)) H')
def tTail (K : PySem.W.Frag) (cs : List Value) : TS :=
  tSeq (tAsg (tD2 K 1 "one" "hand" (cs.getD 0 .none) (cs.getD 1 .none)) (gName 4))
  (tSeq (tU2 K 1 4 "all" "line" (cs.getD 2 .none) (cs.getD 3 .none))
  (tSeq (tU2 K 1 4 "way" "things" (cs.getD 4 .none) (cs.getD 5 .none))
  (tSeq (tU2 K 1 4 "glances" "place" (cs.getD 6 .none) (cs.getD 7 .none))
  (tSeq (tU2 K 1 4 "number" "text" (cs.getD 8 .none) (cs.getD 9 .none))
  (tSeq (tU2 K 1 4 "long" "undo" (cs.getD 10 .none) (cs.getD 11 .none))
  (tSeq (fun D σ H => tNm 4 5 D σ H ∧ σ.length = 7) (tR7 K 1 5)))))))
theorem tail_read {K : PySem.W.Frag} {he : Value} {cs : List Value} {C : Addr} {n : Str} (ek : ErrK K he cs C n) {D : Ends} {σ : St} {H : Hp} {a : Addr} (hl : σ.length = 7) (h1 : σ[1]? = some (some (.ref a))) (hH : H a = some (ExcO a C))
    (q : ∀ H2 p, (∀ b o, b ≠ a → H b = some o → H2 b = some o) → H2 p = none → D.rt (.ref p) (upd H2 p (.tup [.str n]))) : tTail K cs D σ H := by
  obtain ⟨bs, hbl, hb, hf⟩ := ek.q
  have hcl := ek.l
  match cs, bs, hcl, hbl with
  | [c0, c1, c2, c3, c4, c5, c6, c7, c8, c9, c10, c11], [b0, b1, b2, b3, b4, b5, b6, b7, b8, b9, b10, b11], _, _ =>
  have g : ∀ c b, (c, b) ∈ [c0, c1, c2, c3, c4, c5, c6, c7, c8, c9, c10, c11].zip [b0, b1, b2, b3, b4, b5, b6, b7, b8, b9, b10, b11] → PySem.W.kitOne K (.ref C) c = some b := fun c b hm => hb _ hm
  have mm : ∀ (l more : List (Str × Bool)), ((l ++ more).map (·.1)).Nodup → mergeK (kvB l) (kvB more) = kvB (l ++ more) := by
    intro l more
    induction more generalizing l with
    | nil => intro _; simp [kvB, mergeK]
    | cons p more ih =>
      intro hn
      have hp : putK (kvB l) (Sum.inr p.1) (V.bl p.2) = kvB (l ++ [p]) := by
        unfold putK
        have : ((kvB l).any fun kv => decide (kv.1 = (Sum.inr p.1 : Key))) = false := by
          rw [List.any_eq_false]
          intro kv hkv hd
          obtain ⟨x, hx, rfl⟩ := List.mem_map.mp hkv
          have hd : (Sum.inr x.1 : Key) = Sum.inr p.1 := of_decide_eq_true hd
          rw [List.map_append, List.nodup_append] at hn
          exact hn.2.2 x.1 (List.mem_map.mpr ⟨x, hx, rfl⟩) p.1 (by simp) (Sum.inr.inj hd)
        rw [this]
        simp [kvB]
      show mergeK (putK (kvB l) (Sum.inr p.1) (V.bl p.2)) (kvB more) = _
      rw [hp, ih (l ++ [p]) (by simpa using hn)]
      simp
  -- the heap of each step: all but d's and what is new is as it was
  have keep : ∀ {H1 : Hp} {d o : Addr} {y z : HO} {b : Addr} {u : HO}, H1 o = none → b ≠ d → H1 b = some u → upd (upd H1 o y) d z b = some u := fun n hb e => by
    rw [upd_ne hb, upd_ne (ne_of_none e n)]; exact e
  refine ⟨a, C, b0, b1, h1, hH, ek.c, g c0 b0 (by simp), g c1 b1 (by simp), by decide, fun d nd => ?_⟩
  have had : a ≠ d := ne_of_none hH nd
  have s1 : (σ.set 4 (some (V.ref d)))[1]? = some (some (.ref a)) := by rw [List.getElem?_set_ne (by decide)]; exact h1
  have s4 : (σ.set 4 (some (V.ref d)))[4]? = some (some (.ref d)) := List.getElem?_set_self (by omega)
  have sl : (σ.set 4 (some (V.ref d))).length = 7 := by rw [List.length_set]; exact hl
  -- one more pair
  have more : ∀ (l : List (Str × Bool)) (k1 k2 : Str) (x1 x2 : Value) (y1 y2 : Bool) (K' : TS) (H1 : Hp), PySem.W.kitOne K (.ref C) x1 = some y1 → PySem.W.kitOne K (.ref C) x2 = some y2 → ((l ++ [(k1, y1), (k2, y2)]).map (·.1)).Nodup → l.length ≤ 90 → H1 a = some (ExcO a C) → H1 d = some (.dK (kvB l)) →
      (∀ H2, (∀ b o, b ≠ d → H1 b = some o → H2 b = some o) → H2 a = some (ExcO a C) → H2 d = some (.dK (kvB (l ++ [(k1, y1), (k2, y2)]))) → K' D (σ.set 4 (some (V.ref d))) H2) → tSeq (tU2 K 1 4 k1 k2 x1 x2) K' D (σ.set 4 (some (V.ref d))) H1 := by
    intro l k1 k2 x1 x2 y1 y2 K' H1 q1 q2 hn hle e1 e2 go
    have hne : k1 ≠ k2 := by
      rw [List.map_append, List.nodup_append] at hn
      have := hn.2.1
      simp at this
      exact this
    refine ⟨a, C, y1, y2, d, kvB l, s1, e1, ek.c, q1, q2, hne, s4, e2, by simp [kvB]; omega, fun o no => ?_⟩
    have em : mergeK (kvB l) [((Sum.inr k1 : Key), V.bl y1), (Sum.inr k2, V.bl y2)] = kvB (l ++ [(k1, y1), (k2, y2)]) := mm l [(k1, y1), (k2, y2)] hn
    rw [em]
    exact go _ (fun b u hb e => keep no hb e) (keep no had e1) upd_same
  have e0 : upd H d (.dK [((Sum.inr "one" : Key), V.bl b0), (Sum.inr "hand", V.bl b1)]) d = some (.dK (kvB [("one", b0), ("hand", b1)])) := upd_same
  have ea : upd H d (.dK [((Sum.inr "one" : Key), V.bl b0), (Sum.inr "hand", V.bl b1)]) a = some (ExcO a C) := by rw [upd_ne had]; exact hH
  refine more [("one", b0), ("hand", b1)] "all" "line" c2 c3 b2 b3 _ _ (g c2 b2 (by simp)) (g c3 b3 (by simp)) (by show (kNm.take 4).Nodup; decide +kernel) (by show 2 ≤ 90; decide) ea e0 fun H2 k2 ea2 ed2 => ?_
  refine more _ "way" "things" c4 c5 b4 b5 _ _ (g c4 b4 (by simp)) (g c5 b5 (by simp)) (by show (kNm.take 6).Nodup; decide +kernel) (by show 4 ≤ 90; decide) ea2 ed2 fun H3 k3 ea3 ed3 => ?_
  refine more _ "glances" "place" c6 c7 b6 b7 _ _ (g c6 b6 (by simp)) (g c7 b7 (by simp)) (by show (kNm.take 8).Nodup; decide +kernel) (by show 6 ≤ 90; decide) ea3 ed3 fun H4 k4 ea4 ed4 => ?_
  refine more _ "number" "text" c8 c9 b8 b9 _ _ (g c8 b8 (by simp)) (g c9 b9 (by simp)) (by show (kNm.take 10).Nodup; decide +kernel) (by show 8 ≤ 90; decide) ea4 ed4 fun H5 k5 ea5 ed5 => ?_
  refine more _ "long" "undo" c10 c11 b10 b11 _ _ (g c10 b10 (by simp)) (g c11 b11 (by simp)) (by show (kNm.take 12).Nodup; decide +kernel) (by show 10 ≤ 90; decide) ea5 ed5 fun H6 k6 ea6 ed6 => ?_
  refine ⟨⟨d, _, s4, ed6, by show kNm.Nodup; decide +kernel, by show 12 ≤ 100; decide, fun r nr => ?_⟩, sl⟩
  have key : ∀ l : List (Str × Bool), l = kNm.zip [b0, b1, b2, b3, b4, b5, b6, b7, b8, b9, b10, b11] → (l.filter (·.2)).map (·.1) = [n] := fun l e => by rw [e]; exact hf
  rw [key]
  rotate_left
  · rfl
  have har : a ≠ r := ne_of_none ea6 nr
  refine ⟨r, n, a, C, List.getElem?_set_self (by rw [sl]; decide), upd_same, by rw [List.getElem?_set_ne (by decide)]; exact s1, by rw [upd_ne har]; exact ea6, ek.c, ek.v, fun p np => ?_⟩
  refine q _ p (fun b o hb e => ?_) np
  have hd0 : b ≠ d := ne_of_none e nd
  have e1 : upd H d (.dK [((Sum.inr "one" : Key), V.bl b0), (Sum.inr "hand", V.bl b1)]) b = some o := by rw [upd_ne hd0]; exact e
  have e6 := k6 b o hd0 (k5 b o hd0 (k4 b o hd0 (k3 b o hd0 (k2 b o hd0 e1))))
  rw [upd_ne (ne_of_none e6 nr)]
  exact e6
end
end SG

/-! SgW: x(lambda: ..), x the def that tells the errors. -/
namespace SG
open PySem PySem.Spec PyProof.Rows L2
section
variable {L : LC} {B B0 : Addr → Prop} {σ : St} {H H' : Hp} {τ : S}
theorem TownOk.all (t : TownOk L H τ) (k : ∀ b o, H b = some o → H' b = some o) : TownOk L H' τ :=
  ⟨t.ne, k _ _ t.tw, k _ _ t.tr, t.wf, t.scr.up fun o e _ => k _ _ e, t.nscr, t.tab.ext k⟩
theorem TownOk.extN (t : TownOk L H τ) (k : LamX.ExtN H H') (hT : LamX.Tabs L.T H') : TownOk L H' τ :=
  ⟨t.ne, k _ _ t.tw nt_dK, k _ _ t.tr nt_dK, t.wf, t.scr.up fun o e hk => k _ _ e (by rcases hk with ⟨_, _, rfl⟩ | ⟨_, _, rfl⟩ <;> (intro ps z; cases z)), t.nscr, hT⟩
theorem Grow.extN (k : LamX.ExtN H H') : Grow L H H' := fun a o e n _ _ => k a o e n
theorem Grow.all (k : ∀ b o, H b = some o → H' b = some o) : Grow L H H' := fun a o e _ _ _ => k a o e
end
/-! ### the def's reading -/
section
variable {K : PySem.W.Frag} {he : Value} {cs : List Value} {f c' : Addr} {q : Str} {tl : XK → Hp → VK → Prop} {H : Hp} {Q : VK}
def exR (K : PySem.W.Frag) (he : Value) (cs : List Value) (Q : VK) : XK := fun cls d H' => ∃ C n, cls = .ref C ∧ d = none ∧ ErrK K he cs C n ∧ ∀ H2 p, (∀ b o, H' b = some o → H2 b = some o) → H2 p = none → Q (.ref p) (upd H2 p (.tup [.str n]))
def okR (Q : VK) : VK := fun v H' => ∀ p, H' p = none → Q (.ref p) (upd H' p (.tup [.str "returns", v]))
def TRs (K : PySem.W.Frag) (he : Value) (cs : List Value) : (XK → Hp → VK → Prop) → Hp → VK → Prop := fun tl H Q => ∀ (H1 : Hp) (Ex : XK) (Qn : VK), (∀ b o, H b = some o → H1 b = some o) → (∀ cls d H', exR K he cs Q cls d H' → Ex cls d H') → (∀ v H', okR Q v H' → Qn v H') → tl Ex H1 Qn
def tRsAll (K : PySem.W.Frag) (he : Value) (cs : List Value) (f c' : Addr) (q : Str) (tl : XK → Hp → VK → Prop) : TS :=
  tSeq (fun D σ H => ∀ p, H p = none → D.nx ((σ.set 1 (some .non)).set 2 (some .non)) (upd H p (.tup [.non, .non]))) (tSeq (fun D σ H => tBody f c' q tl (wKeep K he 3 1 7 D) D σ H) (tSeq (tR3 1 2 "returns") (tTail K cs)))
theorem res_read {N : List Str} (hN : N.length = 7) (hc : H c' = some (LamX.CodeO c' q)) (h : TRs K he cs tl H Q) : tRsAll K he cs f c' q tl { nx := fun _ H' => Q .non H', rt := Q } (L2.start N [.ref f]) H := by
  have e0 : L2.start N [V.ref f] = [some (.ref f), none, none, none, none, none, none] := by
    unfold L2.start
    rw [hN]
    rfl
  rw [e0]
  intro p0 n0
  have k0 : ∀ b o, H b = some o → upd H p0 (.tup [.non, .non]) b = some o := fun b o e => by rw [upd_ne (ne_of_none e n0)]; exact e
  refine ⟨exR K he cs Q, ?_, rfl, k0 _ _ hc, h _ _ _ k0 (fun _ _ _ x => x) fun v H' hv => ?_⟩
  · rintro cls d σ' H' ⟨C, n, rfl, rfl, ek, go⟩
    refine ⟨ek.m, C, rfl, rfl, fun a hl na => ?_⟩
    match σ', hl with
    | [x0, x1, x2, x3, x4, x5, x6], _ =>
    refine ⟨.ref a, rfl, .inr ⟨⟨a, rfl⟩, ?_⟩⟩
    refine tail_read ek rfl rfl upd_same fun H2 p k n2 => go H2 p (fun b o e => ?_) n2
    have hb := ne_of_none e na
    exact k b o hb (by rw [upd_ne hb]; exact e)
  · exact ⟨.non, rfl, .inl ⟨rfl, v, rfl, hv⟩⟩
end
/-! ### over data -/
def enOf (l : List (Str × Str)) (c : Str) : Option Str := (l.find? fun p => decide (p.1 = c)).map (·.2)
def eRes (l : List (Str × Str)) (f : M D) : M D := fun ρ τ => match f ρ τ with
  | .ok d τ' => .ok (.tuple [.str "returns", d]) τ'
  | .ex c τ' => (match enOf l c with | some n => .ok (.tuple [.str n]) τ' | none => .bad)
  | .bad => .bad
theorem enOf_mem {l : List (Str × Str)} {c n : Str} (h : enOf l c = some n) : (c, n) ∈ l := by
  unfold enOf at h
  cases q : l.find? fun p => decide (p.1 = c) with
  | none => rw [q] at h; cases h
  | some p =>
    rw [q] at h
    cases h
    have h1 := List.mem_of_find?_eq_some q
    have h2 : p.1 = c := by simpa using List.find?_some q
    rw [← h2]
    exact h1
section
variable {X : Cx} {L : LC} {B B' B0 : Addr → Prop} {σ : St} {H H0 H' H1 : Hp} {ρ ρ' : Rho} {τ τ' : S} {E : XK} {pos : Pos} {f : M D}
theorem res_imp {he : Value} {cs : List Value} {l : List (Str × Str)} (hE : ∀ p ∈ l, ∃ C, L.mg p.1 = some (.ref C) ∧ ErrK L.K he cs C p.2) : ∀ σ H Q, tD L (eRes l f) E σ H Q → LamX.tLam L.T (TRs L.K he cs) (fun E' => tD L f E') σ H Q := fun σ H Q ⟨ρ, τ, B, e, t, h⟩ => by
  refine ⟨t.tab, fun H0 k0 hT H1 Ex Qn k1 hEx hQn => ?_⟩
  have t0 := t.extN k0 hT
  have t1 := t0.all k1
  have gk : Grow L H H1 := (Grow.extN k0).trans (Grow.all k1)
  have e1 := e.grow gk t1
  refine ⟨ρ, τ, B, e1, t1, ?_⟩
  unfold eRes at h
  cases hf : f ρ τ with
  | ok d τ' =>
    rw [hf] at h
    intro v H' g t' r
    refine hQn v H' fun p n => ?_
    have e2 := e1.grow g t'
    exact h _ _ (gk.trans (g.trans (Grow.new n))) (t'.new n) (.tup (e2.fresh n) upd_same (.cons (.str _) (.cons (e2.rep (Grow.new n) r) .nil)))
  | ex c τ' =>
    rw [hf] at h
    intro H' C g t' hC
    cases hn : enOf l c with
    | none => simp only [hn] at h; exact h.elim
    | some n =>
      simp only [hn] at h
      obtain ⟨C', hm, ek⟩ := hE (c, n) (enOf_mem hn)
      have hm : L.mg c = some (.ref C') := hm
      rw [hm] at hC
      cases hC
      refine hEx _ _ _ ⟨C', n, rfl, rfl, ek, fun H2 p k2 n2 => ?_⟩
      have t2 := t'.all k2
      have e2 := (e1.grow g t').grow (Grow.all k2) t2
      exact h _ _ (gk.trans (g.trans ((Grow.all k2).trans (Grow.new n2)))) (t2.new n2) (.tup (e2.fresh n2) upd_same (.cons (.str _) .nil))
  | bad => rw [hf] at h; exact h.elim
end
/-! ### a def in which lambdas are made -/
structure FunC (K : PySem.W.Frag) (x qual : Str) (st : Stmt) (f : Addr) (fd : FuncData) (c : Addr) : Prop where
  ex : ∃ (oc : Value) (od : Option Addr) (kV doc pm : Value) (an : Option Addr) (ct : Value) (osl : Array (Option Value)), fd = PySem.W.fnOf x qual (defArgs st) (defBody st) (defScope st) .none kV doc pm an (.ref c) ct ∧ K.lookup f = some ⟨oc, od, .func fd, osl⟩ ∧ PySem.W.codeIn K (.ref c) qual = true
  kp : PySem.W.keepIn K (.ref f) = true
theorem FunC.fun_ {K : PySem.W.Frag} {x qual : Str} {st : Stmt} {f : Addr} {fd : FuncData} {c : Addr} (F : FunC K x qual st f fd c) : Fun K x qual st f fd := by
  obtain ⟨⟨oc, od, kV, doc, pm, an, ct, osl, h1, h2, h3⟩, k⟩ := F
  exact ⟨⟨oc, od, kV, doc, pm, an, _, ct, osl, h1, h2, h3⟩, k⟩
section
variable {P : Program} {w : World} {K : PySem.W.Frag} {mg : Str → Option Value} {base : Heap}
theorem FunC.okX {x qual : Str} {st : Stmt} {f : Addr} {fd : FuncData} {c : Addr} {N ps : List Str} {k : Nat} {sp : Sp} (F : FunC K x qual st f fd c) (Sc : FnScope N ps (defScope st)) (len : ∀ vs H Q E, sp vs H Q E → vs.length = ps.length)
    (hbody : ∀ (A : Around) (outer : List Env) (s : Shared) (H : Hp) (vs : List V) (Q : VK) (E : XK), Room k (A.deeper (envOfC qual (defScope st) s.heap.objs.size f (.ref c))) → sp vs H Q E →
      ∃ t, PSs (cxOf (L2.CX P w) P w K mg base N qual (defScope st) f (.ref c) A outer s H E) (defBody st) t ∧ t { nx := fun _ H' => Q .non H', rt := Q } (L2.start N vs) H) : FnOk P w K mg base (L2.CX P w) (k + 1) f fd ps sp := by
  obtain ⟨⟨oc, od, kV, doc, pm, an, ct, osl, rfl, lk, hcd⟩, _⟩ := F
  exact fn_of lk hcd Sc len hbody
theorem fnDC {x qual : Str} {st : Stmt} {f : Addr} {fd : FuncData} {c : Addr} {N ps : List Str} {k : Nat} {L : LC} {g : MS} (F : FunC K x qual st f fd c) (Sc : FnScope N ps (defScope st))
    (hbody : ∀ (A : Around) (outer : List Env) (s : Shared) (H : Hp) (E : XK), Room k (A.deeper (envOfC qual (defScope st) s.heap.objs.size f (.ref c))) →
      PSs (cxOf (L2.CX P w) P w K mg base N qual (defScope st) f (.ref c) A outer s H E) (defBody st) (tS L g E)) : FnOk P w K mg base (L2.CX P w) (k + 1) f fd ps (spD L ps.length (runF N.length g)) := by
  refine F.okX Sc (fun vs H Q E h => h.1) (fun A outer s H vs Q E hr h => ⟨_, hbody A outer s H E hr, ?_⟩)
  obtain ⟨hl, ds, τ, B, tw, tr, sb, dom, ra, t, q⟩ := h
  refine ⟨_, τ, B, H, start_env tw tr sb dom ra, t, ?_⟩
  unfold runF at q
  cases hr : g (ds.map .v ++ List.replicate (N.length - ds.length) .no) τ with
  | ok fl τ' =>
    rw [hr, bind_ok] at q
    cases fl with
    | nx ρ' => exact fun σ' H' e' t' => q .non H' e'.grow t' .non
    | rt d => exact fun v H' g' t' r' => q v H' g' t' r'
    | bk ρ' => exact q.elim
    | ct ρ' => exact q.elim
  | ex c τ' => rw [hr] at q; exact fun H' C g' t' q' => q H' C g' t' q'
  | bad => rw [hr] at q; exact q
end
/-! ### x(lambda: body) -/
section
variable {X : Cx} {L : LC} {E : XK} {f : M D} {pos : Pos}
theorem de_res (hX : LX X L) {he : Value} {cs : List Value} {l : List (Str × Str)} {x a : Str} {g c P : Addr} {fd : FuncData} {st : Stmt} {k : Nat} {Ng : List Str} {params : Arguments} {body : Expr} {scope : Scope} {p lpos : Pos}
    (hE : ∀ p ∈ l, ∃ C, L.mg p.1 = some (.ref C) ∧ ErrK L.K he cs C p.2) (hm : X.mg x = some (.ref g)) (F : Fun X.K x x st g fd) (hb : L2.Binds X.K fd [a] []) (Sg : FnScope Ng [a] (defScope st)) (hNg : Ng[0]? = some a) (hva : Vis (defScope st) a)
    (hG : ∀ cdv, LamX.GivesTo X Ng x (defScope st) g cdv (defBody st) a (X.env.qual ++ "<lambda>") (TRs X.K he cs))
    (TB : LamX.TabB X.base X.mg c P) (hcode : X.env.code = .ref c) (hmT : (P, X.env.qual ++ "<lambda>") ∈ L.T) (hu : ∀ p ∈ L.T, p.1 = P → p.2 = X.env.qual ++ "<lambda>") (hr : Room (k + 2) X.A) (Ls : LamX.LamS X.env.scope scope) (hdef : defaultsOf params X.env = ([], []))
    (hbind : ∀ (q : Str) (cl : List (Str × Addr)) (pm cv ctv : Value), bindArgs (PySem.W.kla_fn "<lambda>" q params body scope cl pm cv ctv) ⟨[], []⟩ = pure [])
    (hbody : ∀ (A : Around) (outer : List Env) (s : Shared) (H : Hp) (E' : XK) (f' c' : Addr), Room k (A.deeper (LamX.lamEnv X scope s.heap.objs.size f' c')) → PE (LamX.lamCx X A outer s H E' scope f' c') body (tD L f E'))
    (hg : Gl X x := by rfl) (hdb : (x == ("__debug__" : Str)) = false := by decide) (hd : (a == ("__debug__" : Str)) = false := by decide) (hcd : (a == ("__classdict__" : Str)) = false := by decide) :
    PE X (.Call (.Name x p) [.Lambda params body scope lpos] [] pos) (tD L (eRes l f) E) := by
  obtain ⟨⟨oc, od, kV, doc, pm, an, cdv, ct, osl, rfl, lk, hcg⟩, hk⟩ := F
  have h := LamX.pe_lamcall (T := L.T) (TT := TRs X.K he cs) (t := fun E' => tD L f E') (p := p) (lpos := lpos) (pos := pos) hg hm hk lk hcg hb Sg hNg hva (hG cdv) TB hcode hmT hu hr Ls hdef hbind hbody hdb hd hcd
  rw [hX.k] at h
  exact h.imp (res_imp hE)
end
theorem lamPass {X : Cx} {A : Around} {outer : List Env} {s : Shared} {H : Hp} {E : XK} {scope : Scope} {f c : Addr} : PassX (LamX.lamCx X A outer s H E scope f c) E := passes_call (takes_of rfl rfl rfl rfl) (fun _ _ _ _ h => h)
/-! ### the end with tables -/
theorem walk_tabs {l : PySem.W.OpenLaw} {n k : Nat} {q : Program} {loose : List Str} {XP : (Str → Option Value) → Heap → Prop} {YP : World → Heap → Prop} {d : DefRec} {K : Params → PySem.W.Frag} {CX : World → CXT} {x : Str} (ms : List Str)
    (h1 : l.most = some n) (h2 : n ≤ sizeLine) (h3 : d.params.defaults = []) (h4 : Room k callerA) (h5 : ∀ m ∈ ms, ((recsOf q).any fun e => e.name == m) = true) (h6 : ∀ (w : World) (h : Heap), YP w h → (K w.params).In h)
    (go : ∀ (w : World) (mg : Str → Option Value) (fa : Addr) (h : Heap), (K w.params).In h → h.Ns mainGlobals mg → mg d.name = some (.ref fa) → (∀ m ∈ ms, ∀ fb, mg m = some (.ref fb) → LamX.OwnTab (K w.params) fb h) → LamX.LawAtS l w (K w.params) (CX w) k n x mg fa h)
    (h7 : ∀ (w : World) (H : Hp) (s : Shared) (e : Value) (s' : Shared), CX w [] H s (fun _ _ _ => False) e s' → False) : PySem.W.WalkO q loose XP YP l.row.toRowW d [] (fun f vs => PySem.call f vs) := by
  refine Att.attach_callB h1 h3 fun w t0 t1 mg mb fa o pm cd doc a vs ns gr yy _ _ _ hmg hobj hints hlen hbits hgens => ?_
  have kx := h6 w _ yy
  have tabs : ∀ m ∈ ms, ∀ fb, mg m = some (.ref fb) → LamX.OwnTab (K w.params) fb t1.heap := by
    intro m hm fb hfb c P o1 fd1 e dd vs1 sl k1 k2 k3 k4 k5
    obtain ⟨r, hr1, hr2⟩ := List.any_eq_true.mp (h5 m hm)
    have hr2 : r.name = m := beq_iff_eq.mp hr2
    obtain ⟨a', o', fd', c', P', z1, z2, z3, z4, z5, ⟨oc, vc, y1, _, y3, y4⟩, y5⟩ := gr.T.tab r hr1
    rw [hr2, hfb] at z1
    cases z1
    have z2' := (kx _ _ k1).symm.trans z2
    cases z2'
    have z3' := k2.symm.trans z3
    cases z3'
    have z4' := k3.symm.trans z4
    cases z4'
    have y1' := (kx _ _ k4).symm.trans y1
    cases y1'
    cases y3
    have y4' := k5.symm.trans y4
    cases y4'
    exact y5
  obtain ⟨fd, cs, sp, q1, q2, q3, q4, q5, q6⟩ := go w mg fa _ kx gr.T.g hmg tabs
  exact LamX.law_callTs kx gr.T.g gr.T.b gr.T.builtins gr.T.nolimit hgens q1 q2 q3 gr.T.bmain hobj hints (Nat.le_trans hlen h2) h4 q6 q4 (fun H u1 u2 => q5 H a ns hlen hbits u1 u2) (fun H e s' => h7 w H t1 e s')
theorem codeHd_in {K : PySem.W.Frag} {h : Heap} {c P : Addr} {dd : Option Addr} {vs : Array Value} {sl : Array (Option Value)} {file : Str} {tf tg tt : Tok} {flags text : Int} {inF : Bool} (KX : K.In h) (kc : K.lookup c = some ⟨.type "code", dd, .fields vs, sl⟩) (k11 : vs[11]? = some (.ref P)) (kp : K.lookup P = none)
    (k18 : vs.getD 18 .none = .str file tf) (k7 : vs.getD 7 .none = .int flags tg) (k9 : vs.getD 9 .none = .bool inF) (k10 : vs.getD 10 .none = .int text tt) : PySem.W.CodeHd h c P := by
  refine ⟨_, vs, file, tf, flags, tg, inF, text, tt, KX _ _ kc, rfl, rfl, k11, ?_, k18, k7, k9, k10, fun z => ?_⟩
  · rw [Array.getD_eq_getD_getElem?, k11]; rfl
  · rw [z, kp] at kc; cases kc
theorem tab_empty {K : PySem.W.Frag} {h : Heap} {mg : Str → Option Value} {x : Str} {st : Stmt} {f c P : Addr} {fd : FuncData} {dd : Option Addr} {vs : Array Value} {sl : Array (Option Value)} (F : FunC K x x st f fd c) (own : LamX.OwnTab K f h) (kc : K.lookup c = some ⟨.type "code", dd, .fields vs, sl⟩) (k11 : vs[11]? = some (.ref P)) :
    h.get? P = some { cls := .none, data := .fields #[] } := by
  obtain ⟨⟨oc, od, kV, doc, pm, an, ct, osl, rfl, lk, hcd⟩, _⟩ := F
  exact own c P _ _ _ dd vs sl lk rfl rfl kc k11
theorem func_in {K : PySem.W.Frag} {x : Str} {st : Stmt} {f c : Addr} {oc : Value} {od an : Option Addr} {osl : Array (Option Value)} {kV doc pm ct : Value}
    (l : K.lookup f = some ⟨oc, od, .func (PySem.W.fnOf x x (defArgs st) (defBody st) (defScope st) .none kV doc pm an (.ref c) ct), osl⟩) (hc : PySem.W.codeIn K (.ref c) x = true) (k : PySem.W.keepIn K (.ref f) = true) : FunC K x x st f (PySem.W.fnOf x x (defArgs st) (defBody st) (defScope st) .none kV doc pm an (.ref c) ct) c :=
  ⟨⟨oc, od, kV, doc, pm, an, ct, osl, rfl, l, hc⟩, k⟩
theorem ref_in {K : PySem.W.Frag} {h : Heap} {mg : Str → Option Value} {x : Str} {a : Addr} (X : K.In h) (G : h.Ns mainGlobals mg) (e : PySem.W.nsIn K mainGlobals x = some (some (.ref a))) : mg x = some (.ref a) := PySem.W.mg_of X G e
/-! ### rules of the evaluator -/
section
variable {ρ : Rho} {τ τ' : S} {f : M D} {l : List (Str × Str)} {d : D} {c n : Str}
def resO (l : List (Str × Str)) : Res D → Res D
  | .ok d τ' => .ok (.tuple [.str "returns", d]) τ'
  | .ex c τ' => (match enOf l c with | some n => .ok (.tuple [.str n]) τ' | none => .bad)
  | .bad => .bad
theorem v_res : eRes l f ρ τ = resO l (f ρ τ) := by unfold eRes resO; rfl
theorem v_resOk : resO l (.ok d τ) = .ok (.tuple [.str "returns", d]) τ := id rfl
def resN (τ : S) : Option Str → Res D
  | some n => .ok (.tuple [.str n]) τ
  | none => .bad
theorem v_resEx : resO l (.ex c τ) = resN τ (enOf l c) := by unfold resO resN; rfl
theorem v_resN : resN τ (some n) = .ok (.tuple [.str n]) τ := id rfl
theorem v_raise : sRaise c ρ τ = .ex c τ := id rfl
end
end SG

namespace SG
open PySem PySem.Spec PyProof.Rows L2
def errL : List (Str × Str) := [((Str.ofString "InvalidSign"), (Str.ofString "one")), ((Str.ofString "InvalidHand"), (Str.ofString "hand"))]
def B_is_between : MS :=
    (sRet [] (eAnd (e1 (dIsi "int") (eVar 0)) (eAnd (eNot (e1 (dIsi "bool") (eVar 0))) (eChain dLe dLe (eVar 1) (eVar 0) (eVar 2)))))
def M_is_between : Fn := runF 3 B_is_between
def B_is_letter : MS :=
    (sRet [] (eAnd (e1 (dIsi "str") (eVar 0)) (eAnd (e2 dEq (e1 dLen (eVar 0)) (eC (.int 1))) (e2 dIn (eVar 0) (eVar 1)))))
def M_is_letter : Fn := runF 2 B_is_letter
def B_is_hand : MS :=
    (sSeq (sIf [] (bOr (bNot (tru (e1 (dIsi "tuple") (eVar 0)))) (asB (e2 dNe (e1 dLen (eVar 0)) (eC (.int 2))))) (sRet [] (eC (.bool false))) sNext)
      (sRet [] (eAnd (eCall M_is_letter (aCons (e2 dIx (eVar 0) (eC (.int 0))) (aCons (eC (.str (Str.ofString "abcd"))) aNil))) (eCall M_is_letter (aCons (e2 dIx (eVar 0) (eC (.int 1))) (aCons (eC (.str (Str.ofString "iolr"))) aNil))))))
def M_is_hand : Fn := runF 1 B_is_hand
def B_is_entry : MS :=
    (sSeq (sIf [] (asB (e2 dEq (eVar 0) (eC (.int 3)))) (sRet [] (eCall M_is_between (aCons (eVar 1) (aCons (eC (.int 0)) (aCons (e2 dSub (eC (.int 3)) (eC (.int 1))) aNil))))) sNext)
      (sSeq (sIf [] (asB (e2 dEq (eVar 0) (eC (.int 4)))) (sRet [] (eOr (e1 dIsN (eVar 1)) (eOr (eCall M_is_letter (aCons (eVar 1) (aCons (eC (.str (Str.ofString "m"))) aNil))) (eCall M_is_hand (aCons (eVar 1) aNil))))) sNext)
      (sRet [] (eCall M_is_letter (aCons (eVar 1) (aCons (e2 dIx (eTup (aCons (eC (.str (Str.ofString "abcd"))) (aCons (eC (.str (Str.ofString "iolr"))) (aCons (eC (.str (Str.ofString "nuwlr"))) aNil)))) (eVar 0)) aNil))))))
def M_is_entry : Fn := runF 2 B_is_entry
def B_do_go_together : MS :=
    (sSeq (sIf [] (asB (e1 dIsN (eVar 2))) (sRet [] (eC (.bool true))) sNext)
      (sSeq (sIf [] (asB (e2 dEq (eVar 2) (eC (.str (Str.ofString "m"))))) (sRet [] (e2 dNe (eVar 1) (eC (.str (Str.ofString "n"))))) sNext)
      (sRet [] (eOr (e2 dIn (e2 dIx (eVar 2) (eC (.int 0))) (eC (.str (Str.ofString "ab")))) (e2 dEq (e2 dIx (eVar 2) (eC (.int 0))) (eVar 0))))))
def M_do_go_together : Fn := runF 3 B_do_go_together
def B_is_sign : MS :=
    (sSeq (sIf [] (bOr (bNot (tru (e1 (dIsi "tuple") (eVar 0)))) (asB (e2 dNe (e1 dLen (eVar 0)) (eC (.int 5))))) (sRet [] (eC (.bool false))) sNext)
      (sSeq (sIf [] (bNot (tru (e1 dAll (eF (eComp (.tp [(.nm 1), (.nm 2)]) [1, 2] (iEnum (eVar 0)) bYes (eCall M_is_entry (aCons (eVar 1) (aCons (eVar 2) aNil)))))))) (sRet [] (eC (.bool false))) sNext)
      (sRet [] (eCall M_do_go_together (aCons (e2 dIx (eVar 0) (eC (.int 0))) (aCons (e2 dIx (eVar 0) (eC (.int 2))) (aCons (e2 dIx (eVar 0) (eC (.int 4))) aNil)))))))
def M_is_sign : Fn := runF 3 B_is_sign
def B_check_sign : MS :=
    (sIf [] (bNot (tru (eCall M_is_sign (aCons (eVar 0) aNil)))) (sRaise (Str.ofString "InvalidSign")) sNext)
def M_check_sign : Fn := runF 1 B_check_sign
def B_all_hands : MS :=
    (sSeq (sOwn 0 [] aNil)
      (sSeq (sFor (.nm 1) [] (iSeq (eC (.str (Str.ofString "abcd")))) (sExt 0 (eF (eComp (.nm 2) [2] (iSeq (eC (.str (Str.ofString "iolr")))) bYes (eTup (aCons (eVar 1) (aCons (eVar 2) aNil)))))))
      (sRet [0] (eVar 0))))
def M_all_hands : Fn := runF 3 B_all_hands
def B_entries : MS :=
    (sSeq (sIf [] (asB (e2 dEq (eVar 0) (eC (.int 3)))) (sRet [] (eF (iRng (eC (.int 3))))) sNext)
      (sSeq (sIf [] (asB (e2 dEq (eVar 0) (eC (.int 4)))) (sRet [] (e2 dAdd (eF (aCons (eC .none) (aCons (eC (.str (Str.ofString "m"))) aNil))) (eCall M_all_hands aNil))) sNext)
      (sRet [] (e1 dListA (e2 dIx (eTup (aCons (eC (.str (Str.ofString "abcd"))) (aCons (eC (.str (Str.ofString "iolr"))) (aCons (eC (.str (Str.ofString "nuwlr"))) aNil)))) (eVar 0))))))
def M_entries : Fn := runF 1 B_entries
def B_count_signs : MS :=
    (sSeq (sAsg (.nm 0) [] (eC (.int 0)))
      (sSeq (sFor (.nm 1) [] (iSeq (eC (.str (Str.ofString "abcd")))) (sFor (.nm 2) [] (iSeq (eC (.str (Str.ofString "nuwlr")))) (sAug 0 dAddI (e1 dLen (eF (eComp (.nm 3) [3] (iSeq (eCall M_entries (aCons (eC (.int 4)) aNil))) (tru (eCall M_do_go_together (aCons (eVar 1) (aCons (eVar 2) (aCons (eVar 3) aNil))))) (eC (.int 1))))))))
      (sRet [] (e2 dMul (e2 dMul (eVar 0) (e1 dLen (eC (.str (Str.ofString "iolr"))))) (eC (.int 3))))))
def M_count_signs : Fn := runF 4 B_count_signs
def B_can_hold : MS :=
    (sRet [] (eCall M_do_go_together (aCons (e2 dIx (eVar 0) (eC (.int 0))) (aCons (e2 dIx (eVar 0) (eC (.int 2))) (aCons (eVar 1) aNil)))))
def M_can_hold : Fn := runF 2 B_can_hold
def B_can_rest : MS :=
    (sSeq (sExpr [] (eCall M_check_sign (aCons (eVar 0) aNil)))
      (sSeq (sIf [] (bNot (tru (eCall M_is_hand (aCons (eVar 1) aNil)))) (sRaise (Str.ofString "InvalidHand")) sNext)
      (sRet [] (eCall M_can_hold (aCons (eVar 0) (aCons (eVar 1) aNil))))))
def M_can_rest : Fn := runF 2 B_can_rest
def B_check_two : MS :=
    (sSeq (sExpr [] (eCall M_check_sign (aCons (eVar 0) aNil)))
      (sExpr [] (eCall M_check_sign (aCons (eVar 1) aNil))))
def M_check_two : Fn := runF 2 B_check_two
def B_unlike_in : MS :=
    (sRet [] (eF (eComp (.nm 2) [2] (iRng (eC (.int 5))) (asB (e2 dNe (e2 dIx (eVar 0) (eVar 2)) (e2 dIx (eVar 1) (eVar 2)))) (eVar 2))))
def M_unlike_in : Fn := runF 3 B_unlike_in
def B_differences : MS :=
    (sSeq (sExpr [] (eCall M_check_two (aCons (eVar 0) (aCons (eVar 1) aNil))))
      (sRet [] (e1 dTuple (eCall M_unlike_in (aCons (eVar 0) (aCons (eVar 1) aNil))))))
def M_differences : Fn := runF 2 B_differences
def B_swapped : MS :=
    (sRet [] (eGet (eC (strsD [((Str.ofString "l"), (Str.ofString "r")), ((Str.ofString "r"), (Str.ofString "l"))])) (eVar 0) (eVar 0)))
def M_swapped : Fn := runF 1 B_swapped
def B_turned_over : MS :=
    (sSeq (sAsg (.tp [(.nm 1), (.nm 2), (.nm 3), (.nm 4), (.nm 5)]) [] (eVar 0))
      (sSeq (sIf [] (tru (e1 (dIsi "tuple") (eVar 5))) (sAsg (.nm 5) [] (eTup (aCons (e2 dIx (eVar 5) (eC (.int 0))) (aCons (eCall M_swapped (aCons (e2 dIx (eVar 5) (eC (.int 1))) aNil)) aNil)))) sNext)
      (sRet [] (eTup (aCons (eVar 1) (aCons (eCall M_swapped (aCons (eVar 2) aNil)) (aCons (eCall M_swapped (aCons (eVar 3) aNil)) (aCons (eVar 4) (aCons (eVar 5) aNil)))))))))
def M_turned_over : Fn := runF 6 B_turned_over
def B_mirrored : MS :=
    (sSeq (sExpr [] (eCall M_check_sign (aCons (eVar 0) aNil)))
      (sRet [] (eCall M_turned_over (aCons (eVar 0) aNil))))
def M_mirrored : Fn := runF 1 B_mirrored
def B_law_is : MS :=
    (sRet [] (eAnd (e1 (dIsi "bool") (eVar 0)) (e2 dEq (eVar 0) (eVar 1))))
def M_law_is : Fn := runF 2 B_law_is
abbrev M_law_draw (ns : List Int) : Fn := drawF ns
def B_law_sign (ns : List Int) : MS :=
    (sSeq (sAsg (.nm 2) [] (e2 dIx (eC (.str (Str.ofString "abcd"))) (eCall (M_law_draw ns) (aCons (eVar 0) (aCons (eVar 1) (aCons (eC (.int 4)) aNil))))))
      (sSeq (sAsg (.nm 3) [] (e2 dIx (eC (.str (Str.ofString "iolr"))) (eCall (M_law_draw ns) (aCons (eVar 0) (aCons (eVar 1) (aCons (eC (.int 4)) aNil))))))
      (sSeq (sAsg (.nm 4) [] (e2 dIx (eC (.str (Str.ofString "nuwlr"))) (eCall (M_law_draw ns) (aCons (eVar 0) (aCons (eVar 1) (aCons (eC (.int 5)) aNil))))))
      (sSeq (sAsg (.nm 5) [] (eCall (M_law_draw ns) (aCons (eVar 0) (aCons (eVar 1) (aCons (eC (.int 3)) aNil)))))
      (sSeq (sAsg (.nm 6) [] (eCall (M_law_draw ns) (aCons (eVar 0) (aCons (eVar 1) (aCons (eC (.int 4)) aNil)))))
      (sSeq (sIf [] (bAnd (asB (e2 dEq (eVar 6) (eC (.int 0)))) (asB (e2 dNe (eVar 4) (eC (.str (Str.ofString "n")))))) (sRet [] (eTup (aCons (eVar 2) (aCons (eVar 3) (aCons (eVar 4) (aCons (eVar 5) (aCons (eC (.str (Str.ofString "m"))) aNil))))))) sNext)
      (sSeq (sIf [] (asB (e2 dLt (eVar 6) (eC (.int 2)))) (sRet [] (eTup (aCons (eVar 2) (aCons (eVar 3) (aCons (eVar 4) (aCons (eVar 5) (aCons (eC .none) aNil))))))) sNext)
      (sSeq (sAsg (.nm 7) [] (e2 dIx (eTup (aCons (eC (.str (Str.ofString "a"))) (aCons (eC (.str (Str.ofString "b"))) (aCons (eVar 2) aNil)))) (eCall (M_law_draw ns) (aCons (eVar 0) (aCons (eVar 1) (aCons (eC (.int 3)) aNil))))))
      (sRet [] (eTup (aCons (eVar 2) (aCons (eVar 3) (aCons (eVar 4) (aCons (eVar 5) (aCons (eTup (aCons (eVar 7) (aCons (e2 dIx (eC (.str (Str.ofString "iolr"))) (eCall (M_law_draw ns) (aCons (eVar 0) (aCons (eVar 1) (aCons (eC (.int 4)) aNil))))) aNil))) aNil)))))))))))))))
def M_law_sign (ns : List Int) : Fn := runF 8 (B_law_sign ns)
def B_law_good : MS :=
    (sSeq (sIf [] (asB (e1 dIsN (e2 dIx (eVar 0) (eC (.int 4))))) (sRet [] (eC (.bool true))) sNext)
      (sSeq (sIf [] (asB (e2 dEq (e2 dIx (eVar 0) (eC (.int 4))) (eC (.str (Str.ofString "m"))))) (sRet [] (e2 dNe (e2 dIx (eVar 0) (eC (.int 2))) (eC (.str (Str.ofString "n"))))) sNext)
      (sRet [] (eOr (e2 dIn (e2 dIx (e2 dIx (eVar 0) (eC (.int 4))) (eC (.int 0))) (eTup (aCons (eC (.str (Str.ofString "a"))) (aCons (eC (.str (Str.ofString "b"))) aNil)))) (e2 dEq (e2 dIx (e2 dIx (eVar 0) (eC (.int 4))) (eC (.int 0))) (e2 dIx (eVar 0) (eC (.int 0))))))))
def M_law_good : Fn := runF 1 B_law_good
def B_law_odd : MS :=
    (sSeq (sOwn 0 [] (aCons (eTup (aCons (eC (.str (Str.ofString "e"))) (aCons (eC (.str (Str.ofString "i"))) (aCons (eC (.str (Str.ofString "n"))) (aCons (eC (.int 0)) (aCons (eC .none) aNil)))))) (aCons (eTup (aCons (eC (.str (Str.ofString "a"))) (aCons (eC (.str (Str.ofString "u"))) (aCons (eC (.str (Str.ofString "n"))) (aCons (eC (.int 0)) (aCons (eC .none) aNil)))))) (aCons (eTup (aCons (eC (.str (Str.ofString "a"))) (aCons (eC (.str (Str.ofString "i"))) (aCons (eC (.str (Str.ofString "i"))) (aCons (eC (.int 0)) (aCons (eC .none) aNil)))))) (aCons (eTup (aCons (eC (.str (Str.ofString "a"))) (aCons (eC (.str (Str.ofString "i"))) (aCons (eC (.str (Str.ofString "n"))) (aCons (eC (.int 3)) (aCons (eC .none) aNil)))))) aNil)))))
      (sSeq (sOwn 0 [0] (eCat (eVar 0) (eF (aCons (eTup (aCons (eC (.str (Str.ofString "a"))) (aCons (eC (.str (Str.ofString "i"))) (aCons (eC (.str (Str.ofString "n"))) (aCons (e1 dNeg (eC (.int 1))) (aCons (eC .none) aNil)))))) (aCons (eTup (aCons (eC (.str (Str.ofString "a"))) (aCons (eC (.str (Str.ofString "i"))) (aCons (eC (.str (Str.ofString "n"))) (aCons (eC (.bool true)) (aCons (eC .none) aNil)))))) (aCons (eTup (aCons (eC (.str (Str.ofString "a"))) (aCons (eC (.str (Str.ofString "i"))) (aCons (eC (.str (Str.ofString "n"))) (aCons (eC (.int 0)) (aCons (eC (.str (Str.ofString "m"))) aNil)))))) aNil))))))
      (sSeq (sApp 0 (eTup (aCons (eC (.str (Str.ofString "a"))) (aCons (eC (.str (Str.ofString "i"))) (aCons (eC (.str (Str.ofString "u"))) (aCons (eC (.int 0)) (aCons (eC (.str (Str.ofString "n"))) aNil)))))))
      (sSeq (sOwn 0 [0] (eCat (eVar 0) (eF (aCons (eTup (aCons (eC (.str (Str.ofString "a"))) (aCons (eC (.str (Str.ofString "i"))) (aCons (eC (.str (Str.ofString "n"))) (aCons (eC (.int 0)) (aCons (eTup (aCons (eC (.str (Str.ofString "c"))) (aCons (eC (.str (Str.ofString "i"))) aNil))) aNil)))))) (aCons (eTup (aCons (eC (.str (Str.ofString "c"))) (aCons (eC (.str (Str.ofString "i"))) (aCons (eC (.str (Str.ofString "n"))) (aCons (eC (.int 0)) (aCons (eTup (aCons (eC (.str (Str.ofString "d"))) (aCons (eC (.str (Str.ofString "i"))) aNil))) aNil)))))) (aCons (eC .none) (aCons (eTup aNil) aNil)))))))
      (sSeq (sApp 0 (eTup (aCons (eC (.str (Str.ofString "a"))) (aCons (eC (.str (Str.ofString "i"))) (aCons (eC (.str (Str.ofString "n"))) (aCons (eC (.int 0)) (aCons (eTup (aCons (eC (.str (Str.ofString "a"))) (aCons (eC (.str (Str.ofString "u"))) aNil))) aNil)))))))
      (sSeq (sOwn 0 [0] (eCat (eVar 0) (eF (aCons (eTup (aCons (eC (.str (Str.ofString "a"))) (aCons (eC (.str (Str.ofString "i"))) (aCons (eC (.str (Str.ofString "n"))) (aCons (eC (.int 0)) aNil))))) (aCons (eF (aCons (eC (.str (Str.ofString "a"))) (aCons (eC (.str (Str.ofString "i"))) (aCons (eC (.str (Str.ofString "n"))) (aCons (eC (.int 0)) (aCons (eC .none) aNil)))))) (aCons (eTup (aCons (eC (.str (Str.ofString "ab"))) (aCons (eC (.str (Str.ofString "i"))) (aCons (eC (.str (Str.ofString "n"))) (aCons (eC (.int 0)) (aCons (eC .none) aNil)))))) aNil))))))
      (sSeq (sApp 0 (eTup (aCons (eC (.str (Str.ofString "a"))) (aCons (eC (.str (Str.ofString "i"))) (aCons (eC (.str (Str.ofString "n"))) (aCons (eC (.int 0)) (aCons (eF (aCons (eC (.str (Str.ofString "a"))) (aCons (eC (.str (Str.ofString "i"))) aNil))) aNil)))))))
      (sSeq (sOwn 0 [0] (eCat (eVar 0) (eF (aCons (eTup (aCons (eC (.str (Str.ofString ""))) (aCons (eC (.str (Str.ofString "i"))) (aCons (eC (.str (Str.ofString "n"))) (aCons (eC (.int 0)) (aCons (eC .none) aNil)))))) (aCons (eTup (aCons (eC (.str (Str.ofString "a"))) (aCons (eC (.str (Str.ofString "i"))) (aCons (eC (.str (Str.ofString "n"))) (aCons (eC (.str (Str.ofString "0"))) (aCons (eC .none) aNil)))))) (aCons (eTup (aCons (eC (.str (Str.ofString "a"))) (aCons (eC (.str (Str.ofString "i"))) (aCons (eC (.str (Str.ofString "n"))) (aCons (eC (.int 0)) (aCons (eTup (aCons (eC (.str (Str.ofString "a"))) aNil)) aNil)))))) (aCons (eC (.str (Str.ofString "ain0-"))) (aCons (eC (.int 0)) aNil))))))))
      (sSeq (sFor (.nm 1) [0] (iSeq (eVar 0)) (sIf [] (bOr (bNot (tru (eCall M_law_is (aCons (eCall M_is_sign (aCons (eVar 1) aNil)) (aCons (eC (.bool false)) aNil))))) (asB (e2 dNe (eRes errL (eCall M_mirrored (aCons (eVar 1) aNil))) (eTup (aCons (eC (.str (Str.ofString "one"))) aNil))))) (sRet [] (eC (.bool false))) sNext))
      (sRet [] (eAnd (eCall M_law_is (aCons (eCall M_is_sign (aCons (eTup (aCons (eC (.str (Str.ofString "c"))) (aCons (eC (.str (Str.ofString "i"))) (aCons (eC (.str (Str.ofString "n"))) (aCons (eC (.int 2)) (aCons (eTup (aCons (eC (.str (Str.ofString "c"))) (aCons (eC (.str (Str.ofString "r"))) aNil))) aNil)))))) aNil)) (aCons (eC (.bool true)) aNil))) (eCall M_law_is (aCons (eCall M_is_sign (aCons (eTup (aCons (eC (.str (Str.ofString "d"))) (aCons (eC (.str (Str.ofString "o"))) (aCons (eC (.str (Str.ofString "w"))) (aCons (eC (.int 0)) (aCons (eC (.str (Str.ofString "m"))) aNil)))))) aNil)) (aCons (eC (.bool true)) aNil))))))))))))))
def M_law_odd : Fn := runF 2 B_law_odd
def B_law_many : MS :=
    (sSeq (sAsg (.nm 0) [] (eC (.int 0)))
      (sSeq (sFor (.nm 1) [] (iSeq (eC (.str (Str.ofString "abcd")))) (sFor (.nm 2) [] (iSeq (eC (.str (Str.ofString "nuwlr")))) (sSeq (sAsg (.nm 0) [] (e2 dAdd (e2 dAdd (eVar 0) (eC (.int 1))) (eIf (asB (e2 dNe (eVar 2) (eC (.str (Str.ofString "n"))))) (eC (.int 1)) (eC (.int 0)))))
      (sAsg (.nm 0) [] (e2 dAdd (eVar 0) (e2 dMul (eC (.int 4)) (e1 dLen (eF (eComp (.nm 3) [3] (iSeq (eC (.str (Str.ofString "abcd")))) (asB (e2 dIn (eVar 3) (eTup (aCons (eC (.str (Str.ofString "a"))) (aCons (eC (.str (Str.ofString "b"))) (aCons (eVar 1) aNil)))))) (eC (.int 1)))))))))))
      (sRet [] (e2 dMul (e2 dMul (eVar 0) (eC (.int 4))) (eC (.int 3))))))
def M_law_many : Fn := runF 4 B_law_many
def B_law (ns : List Int) : MS :=
    (sSeq (sFor (.nm 2) [] (iRng (eC (.int 6))) (sSeq (sAsg (.tp [(.nm 3), (.nm 4)]) [] (eTup (aCons (eCall (M_law_sign ns) (aCons (eVar 0) (aCons (eVar 1) aNil))) (aCons (eCall (M_law_sign ns) (aCons (eVar 0) (aCons (eVar 1) aNil))) aNil))))
      (sSeq (sIf [] (bOr (bNot (tru (eCall M_law_is (aCons (eCall M_is_sign (aCons (eVar 3) aNil)) (aCons (eC (.bool true)) aNil))))) (bNot (tru (eCall M_law_is (aCons (eCall M_is_sign (aCons (e1 dListA (eVar 3)) aNil)) (aCons (eC (.bool false)) aNil)))))) (sRet [] (eC (.bool false))) sNext)
      (sSeq (sFor (.nm 5) [] (iRng (eC (.int 5))) (sSeq (sAsg (.nm 6) [] (e2 dAdd (e2 dAdd (eSl (eVar 3) oNone (oSome (eVar 5))) (eTup (aCons (e2 dIx (eVar 4) (eVar 5)) aNil))) (eSl (eVar 3) (oSome (e2 dAdd (eVar 5) (eC (.int 1)))) oNone)))
      (sIf [] (bNot (tru (eCall M_law_is (aCons (eCall M_is_sign (aCons (eVar 6) aNil)) (aCons (eCall M_law_good (aCons (eVar 6) aNil)) aNil))))) (sRet [] (eC (.bool false))) sNext)))
      (sSeq (sAsg (.nm 7) [] (eTup (aCons (e2 dIx (eC (.str (Str.ofString "abcd"))) (eCall (M_law_draw ns) (aCons (eVar 0) (aCons (eVar 1) (aCons (eC (.int 4)) aNil))))) (aCons (e2 dIx (eC (.str (Str.ofString "iolr"))) (eCall (M_law_draw ns) (aCons (eVar 0) (aCons (eVar 1) (aCons (eC (.int 4)) aNil))))) aNil))))
      (sSeq (sAsg (.nm 8) [] (eCall M_law_good (aCons (e2 dAdd (eSl (eVar 3) oNone (oSome (eC (.int 4)))) (eTup (aCons (eVar 7) aNil))) aNil)))
      (sSeq (sIf [] (bNot (tru (eCall M_law_is (aCons (eCall M_can_rest (aCons (eVar 3) (aCons (eVar 7) aNil))) (aCons (eVar 8) aNil))))) (sRet [] (eC (.bool false))) sNext)
      (sSeq (sFor (.nm 9) [] (iSeq (eTup (aCons (eC .none) (aCons (eC (.str (Str.ofString "m"))) (aCons (eTup (aCons (eC (.str (Str.ofString "a"))) aNil)) (aCons (eTup (aCons (eC (.str (Str.ofString "e"))) (aCons (eC (.str (Str.ofString "i"))) aNil))) (aCons (eTup (aCons (eC (.str (Str.ofString "a"))) (aCons (eC (.str (Str.ofString "u"))) aNil))) (aCons (eF (aCons (eC (.str (Str.ofString "a"))) (aCons (eC (.str (Str.ofString "i"))) aNil))) (aCons (eTup (aCons (eC (.str (Str.ofString "a"))) (aCons (eC (.str (Str.ofString "i"))) (aCons (eC (.str (Str.ofString "i"))) aNil)))) (aCons (eTup (aCons (eC (.str (Str.ofString ""))) (aCons (eC (.str (Str.ofString "i"))) aNil))) aNil)))))))))) (sIf [] (asB (e2 dNe (eRes errL (eCall M_can_rest (aCons (eVar 3) (aCons (eVar 9) aNil)))) (eTup (aCons (eC (.str (Str.ofString "hand"))) aNil)))) (sRet [] (eC (.bool false))) sNext))
      (sSeq (sOwn 10 [] (aCons (eRes errL (eCall M_can_rest (aCons (eC .none) (aCons (eC .none) aNil)))) aNil))
      (sSeq (sApp 10 (eRes errL (eCall M_differences (aCons (eC .none) (aCons (eVar 3) aNil)))))
      (sIf [10] (asB (e2 dNe (e2 dAdd (eVar 10) (eF (aCons (eRes errL (eCall M_differences (aCons (eVar 3) (aCons (eSl (eVar 3) oNone (oSome (eC (.int 4)))) aNil)))) aNil))) (e2 dRep (eF (aCons (eTup (aCons (eC (.str (Str.ofString "one"))) aNil)) aNil)) (eC (.int 3))))) (sRet [] (eC (.bool false))) sNext)))))))))))
      (sRet [] (eAnd (e2 dEq (eCall M_count_signs aNil) (eCall M_law_many aNil)) (eCall M_law_odd aNil))))
def topS (i : Nat) : Stmt := PySem.Challenge.pw_signscribes_k01_not_signs.main.body.getD i (.Pass ⟨0, 0, 0, 0⟩)
abbrev s_is_between : Stmt := topS 20
abbrev s_is_letter : Stmt := topS 21
abbrev s_is_hand : Stmt := topS 22
abbrev s_is_entry : Stmt := topS 23
abbrev s_do_go_together : Stmt := topS 24
abbrev s_is_sign : Stmt := topS 25
abbrev s_check_sign : Stmt := topS 26
abbrev s_all_hands : Stmt := topS 27
abbrev s_entries : Stmt := topS 28
abbrev s_count_signs : Stmt := topS 29
abbrev s_can_hold : Stmt := topS 30
abbrev s_can_rest : Stmt := topS 31
abbrev s_check_two : Stmt := topS 32
abbrev s_unlike_in : Stmt := topS 33
abbrev s_differences : Stmt := topS 34
abbrev s_swapped : Stmt := topS 35
abbrev s_turned_over : Stmt := topS 36
abbrev s_mirrored : Stmt := topS 37
abbrev s_law_result : Stmt := topS 39
abbrev s_law_is : Stmt := topS 40
abbrev s_law_draw : Stmt := topS 41
abbrev s_law_begun : Stmt := topS 42
abbrev s_law_sign : Stmt := topS 43
abbrev s_law_good : Stmt := topS 44
abbrev s_law_odd : Stmt := topS 45
abbrev s_law_many : Stmt := topS 46
abbrev s_law : Stmt := topS 47
theorem sc_is_between : FnScope [(Str.ofString "value"), (Str.ofString "low"), (Str.ofString "high")] [(Str.ofString "value"), (Str.ofString "low"), (Str.ofString "high")] (defScope s_is_between) := ⟨rfl, rfl, rfl, by decide +kernel, rfl, by decide +kernel, by decide +kernel⟩
theorem sc_is_letter : FnScope [(Str.ofString "value"), (Str.ofString "letters")] [(Str.ofString "value"), (Str.ofString "letters")] (defScope s_is_letter) := ⟨rfl, rfl, rfl, by decide +kernel, rfl, by decide +kernel, by decide +kernel⟩
theorem sc_is_hand : FnScope [(Str.ofString "value")] [(Str.ofString "value")] (defScope s_is_hand) := ⟨rfl, rfl, rfl, by decide +kernel, rfl, by decide +kernel, by decide +kernel⟩
theorem sc_is_entry : FnScope [(Str.ofString "thing"), (Str.ofString "value")] [(Str.ofString "thing"), (Str.ofString "value")] (defScope s_is_entry) := ⟨rfl, rfl, rfl, by decide +kernel, rfl, by decide +kernel, by decide +kernel⟩
theorem sc_do_go_together : FnScope [(Str.ofString "shape"), (Str.ofString "move"), (Str.ofString "second")] [(Str.ofString "shape"), (Str.ofString "move"), (Str.ofString "second")] (defScope s_do_go_together) := ⟨rfl, rfl, rfl, by decide +kernel, rfl, by decide +kernel, by decide +kernel⟩
theorem sc_is_sign : FnScope [(Str.ofString "value"), (Str.ofString "thing"), (Str.ofString "one")] [(Str.ofString "value")] (defScope s_is_sign) := ⟨rfl, rfl, rfl, by decide +kernel, rfl, by decide +kernel, by decide +kernel⟩
theorem sc_check_sign : FnScope [(Str.ofString "sign")] [(Str.ofString "sign")] (defScope s_check_sign) := ⟨rfl, rfl, rfl, by decide +kernel, rfl, by decide +kernel, by decide +kernel⟩
theorem sc_all_hands : FnScope [(Str.ofString "found"), (Str.ofString "shape"), (Str.ofString "turn")] [] (defScope s_all_hands) := ⟨rfl, rfl, rfl, by decide +kernel, rfl, by decide +kernel, by decide +kernel⟩
theorem sc_entries : FnScope [(Str.ofString "thing")] [(Str.ofString "thing")] (defScope s_entries) := ⟨rfl, rfl, rfl, by decide +kernel, rfl, by decide +kernel, by decide +kernel⟩
theorem sc_count_signs : FnScope [(Str.ofString "found"), (Str.ofString "shape"), (Str.ofString "move"), (Str.ofString "second")] [] (defScope s_count_signs) := ⟨rfl, rfl, rfl, by decide +kernel, rfl, by decide +kernel, by decide +kernel⟩
theorem sc_can_hold : FnScope [(Str.ofString "sign"), (Str.ofString "hand")] [(Str.ofString "sign"), (Str.ofString "hand")] (defScope s_can_hold) := ⟨rfl, rfl, rfl, by decide +kernel, rfl, by decide +kernel, by decide +kernel⟩
theorem sc_can_rest : FnScope [(Str.ofString "sign"), (Str.ofString "hand")] [(Str.ofString "sign"), (Str.ofString "hand")] (defScope s_can_rest) := ⟨rfl, rfl, rfl, by decide +kernel, rfl, by decide +kernel, by decide +kernel⟩
theorem sc_check_two : FnScope [(Str.ofString "one"), (Str.ofString "other")] [(Str.ofString "one"), (Str.ofString "other")] (defScope s_check_two) := ⟨rfl, rfl, rfl, by decide +kernel, rfl, by decide +kernel, by decide +kernel⟩
theorem sc_unlike_in : FnScope [(Str.ofString "one"), (Str.ofString "other"), (Str.ofString "thing")] [(Str.ofString "one"), (Str.ofString "other")] (defScope s_unlike_in) := ⟨rfl, rfl, rfl, by decide +kernel, rfl, by decide +kernel, by decide +kernel⟩
theorem sc_differences : FnScope [(Str.ofString "one"), (Str.ofString "other")] [(Str.ofString "one"), (Str.ofString "other")] (defScope s_differences) := ⟨rfl, rfl, rfl, by decide +kernel, rfl, by decide +kernel, by decide +kernel⟩
theorem sc_swapped : FnScope [(Str.ofString "letter")] [(Str.ofString "letter")] (defScope s_swapped) := ⟨rfl, rfl, rfl, by decide +kernel, rfl, by decide +kernel, by decide +kernel⟩
theorem sc_turned_over : FnScope [(Str.ofString "sign"), (Str.ofString "shape"), (Str.ofString "turn"), (Str.ofString "move"), (Str.ofString "place"), (Str.ofString "second")] [(Str.ofString "sign")] (defScope s_turned_over) := ⟨rfl, rfl, rfl, by decide +kernel, rfl, by decide +kernel, by decide +kernel⟩
theorem sc_mirrored : FnScope [(Str.ofString "sign")] [(Str.ofString "sign")] (defScope s_mirrored) := ⟨rfl, rfl, rfl, by decide +kernel, rfl, by decide +kernel, by decide +kernel⟩
theorem sc_law_result : FnScope [(Str.ofString "call"), (Str.ofString "raised"), (Str.ofString "answer"), (Str.ofString "e"), (Str.ofString "some"), (Str.ofString "names"), (Str.ofString "name")] [(Str.ofString "call")] (defScope s_law_result) := ⟨rfl, rfl, rfl, by decide +kernel, rfl, by decide +kernel, by decide +kernel⟩
theorem sc_law_is : FnScope [(Str.ofString "found"), (Str.ofString "expected")] [(Str.ofString "found"), (Str.ofString "expected")] (defScope s_law_is) := ⟨rfl, rfl, rfl, by decide +kernel, rfl, by decide +kernel, by decide +kernel⟩
theorem sc_law_draw : FnScope [(Str.ofString "script"), (Str.ofString "town"), (Str.ofString "many"), (Str.ofString "at"), (Str.ofString "rest"), (Str.ofString "number")] [(Str.ofString "script"), (Str.ofString "town"), (Str.ofString "many")] (defScope s_law_draw) := ⟨rfl, rfl, rfl, by decide +kernel, rfl, by decide +kernel, by decide +kernel⟩
theorem sc_law_begun : FnScope [] [] (defScope s_law_begun) := ⟨rfl, rfl, rfl, by decide +kernel, rfl, by decide +kernel, by decide +kernel⟩
theorem sc_law_sign : FnScope [(Str.ofString "script"), (Str.ofString "town"), (Str.ofString "shape"), (Str.ofString "turn"), (Str.ofString "move"), (Str.ofString "spot"), (Str.ofString "way"), (Str.ofString "rest")] [(Str.ofString "script"), (Str.ofString "town")] (defScope s_law_sign) := ⟨rfl, rfl, rfl, by decide +kernel, rfl, by decide +kernel, by decide +kernel⟩
theorem sc_law_good : FnScope [(Str.ofString "one")] [(Str.ofString "one")] (defScope s_law_good) := ⟨rfl, rfl, rfl, by decide +kernel, rfl, by decide +kernel, by decide +kernel⟩
theorem sc_law_odd : FnScope [(Str.ofString "odds"), (Str.ofString "odd")] [] (defScope s_law_odd) := ⟨rfl, rfl, rfl, by decide +kernel, rfl, by decide +kernel, by decide +kernel⟩
theorem sc_law_many : FnScope [(Str.ofString "found"), (Str.ofString "shape"), (Str.ofString "move"), (Str.ofString "rest")] [] (defScope s_law_many) := ⟨rfl, rfl, rfl, by decide +kernel, rfl, by decide +kernel, by decide +kernel⟩
theorem sc_law : FnScope [(Str.ofString "script"), (Str.ofString "town"), (Str.ofString "k"), (Str.ofString "sign_here"), (Str.ofString "other"), (Str.ofString "thing"), (Str.ofString "there"), (Str.ofString "hand_here"), (Str.ofString "due"), (Str.ofString "odd"), (Str.ofString "answers")] [(Str.ofString "script")] (defScope s_law) := ⟨rfl, rfl, rfl, by decide +kernel, rfl, by decide +kernel, by decide +kernel⟩
abbrev nR : List Str := [(Str.ofString "call"), (Str.ofString "raised"), (Str.ofString "answer"), (Str.ofString "e"), (Str.ofString "some"), (Str.ofString "names"), (Str.ofString "name")]
abbrev qL_law_odd : Str := (envOfC (Str.ofString "_law_odd") (defScope s_law_odd) 0 0 .none).qual ++ "<lambda>"
abbrev qL_law : Str := (envOfC (Str.ofString "law") (defScope s_law) 0 0 .none).qual ++ "<lambda>"
abbrev tabT (P_law_odd : Addr) (P_law : Addr) : List (Addr × Str) := [(P_law_odd, qL_law_odd), (P_law, qL_law)]
theorem tabU_law_odd {P_law_odd P_law : Addr} (h_law_odd_law : P_law_odd ≠ P_law) : ∀ p ∈ tabT P_law_odd P_law, p.1 = P_law_odd → p.2 = qL_law_odd := by
  intro p hp he
  simp only [tabT, List.mem_cons, List.not_mem_nil, or_false] at hp
  rcases hp with rfl | rfl
  · rfl
  · exact absurd he (by first | exact h_law_odd_law | exact fun z => h_law_odd_law z.symm)
theorem tabU_law {P_law_odd P_law : Addr} (h_law_odd_law : P_law_odd ≠ P_law) : ∀ p ∈ tabT P_law_odd P_law, p.1 = P_law → p.2 = qL_law := by
  intro p hp he
  simp only [tabT, List.mem_cons, List.not_mem_nil, or_false] at hp
  rcases hp with rfl | rfl
  · exact absurd he (by first | exact h_law_odd_law | exact fun z => h_law_odd_law z.symm)
  · rfl
structure AxT (K : PySem.W.Frag) (mg : Str → Option Value) (base : Heap) (c_law_odd P_law_odd c_law P_law : Addr) : Prop where
  tb_law_odd : LamX.TabB base mg c_law_odd P_law_odd
  tb_law : LamX.TabB base mg c_law P_law
  ne_law_odd_law : P_law_odd ≠ P_law
  x_InvalidSign : ∃ C, mg (Str.ofString "InvalidSign") = some (.ref C) ∧ ExcK K C
  x_InvalidHand : ∃ C, mg (Str.ofString "InvalidHand") = some (.ref C) ∧ ExcK K C
  err : ∃ he c0 c1 c2 c3 c4 c5 c6 c7 c8 c9 c10 c11 : Addr, mg (Str.ofString "HandError") = some (.ref he) ∧ mg (Str.ofString "InvalidSign") = some (.ref c0) ∧ mg (Str.ofString "InvalidHand") = some (.ref c1) ∧ mg (Str.ofString "InvalidSigns") = some (.ref c2) ∧ mg (Str.ofString "InvalidRow") = some (.ref c3) ∧ mg (Str.ofString "InvalidStyle") = some (.ref c4) ∧ mg (Str.ofString "InvalidView") = some (.ref c5) ∧ mg (Str.ofString "InvalidGlances") = some (.ref c6) ∧ mg (Str.ofString "InvalidPlace") = some (.ref c7) ∧ mg (Str.ofString "InvalidNumber") = some (.ref c8) ∧ mg (Str.ofString "InvalidText") = some (.ref c9) ∧ mg (Str.ofString "TooLong") = some (.ref c10) ∧ mg (Str.ofString "NothingToUndo") = some (.ref c11) ∧ ∀ p ∈ errL, ∃ C, mg p.1 = some (.ref C) ∧ ErrK K (.ref he) [.ref c0, .ref c1, .ref c2, .ref c3, .ref c4, .ref c5, .ref c6, .ref c7, .ref c8, .ref c9, .ref c10, .ref c11] C p.2
  b_ValueError : mg (Str.ofString "ValueError") = none
  f_is_between : ∃ f fd, mg (Str.ofString "is_between") = some (.ref f) ∧ Fun K (Str.ofString "is_between") (Str.ofString "is_between") s_is_between f fd
  f_is_letter : ∃ f fd, mg (Str.ofString "is_letter") = some (.ref f) ∧ Fun K (Str.ofString "is_letter") (Str.ofString "is_letter") s_is_letter f fd
  f_is_hand : ∃ f fd, mg (Str.ofString "is_hand") = some (.ref f) ∧ Fun K (Str.ofString "is_hand") (Str.ofString "is_hand") s_is_hand f fd
  f_is_entry : ∃ f fd, mg (Str.ofString "is_entry") = some (.ref f) ∧ Fun K (Str.ofString "is_entry") (Str.ofString "is_entry") s_is_entry f fd
  f_do_go_together : ∃ f fd, mg (Str.ofString "do_go_together") = some (.ref f) ∧ Fun K (Str.ofString "do_go_together") (Str.ofString "do_go_together") s_do_go_together f fd
  f_is_sign : ∃ f fd, mg (Str.ofString "is_sign") = some (.ref f) ∧ Fun K (Str.ofString "is_sign") (Str.ofString "is_sign") s_is_sign f fd
  f_check_sign : ∃ f fd, mg (Str.ofString "check_sign") = some (.ref f) ∧ Fun K (Str.ofString "check_sign") (Str.ofString "check_sign") s_check_sign f fd
  f_all_hands : ∃ f fd, mg (Str.ofString "all_hands") = some (.ref f) ∧ Fun K (Str.ofString "all_hands") (Str.ofString "all_hands") s_all_hands f fd
  f_entries : ∃ f fd, mg (Str.ofString "entries") = some (.ref f) ∧ Fun K (Str.ofString "entries") (Str.ofString "entries") s_entries f fd
  f_count_signs : ∃ f fd, mg (Str.ofString "count_signs") = some (.ref f) ∧ Fun K (Str.ofString "count_signs") (Str.ofString "count_signs") s_count_signs f fd
  f_can_hold : ∃ f fd, mg (Str.ofString "can_hold") = some (.ref f) ∧ Fun K (Str.ofString "can_hold") (Str.ofString "can_hold") s_can_hold f fd
  f_can_rest : ∃ f fd, mg (Str.ofString "can_rest") = some (.ref f) ∧ Fun K (Str.ofString "can_rest") (Str.ofString "can_rest") s_can_rest f fd
  f_check_two : ∃ f fd, mg (Str.ofString "check_two") = some (.ref f) ∧ Fun K (Str.ofString "check_two") (Str.ofString "check_two") s_check_two f fd
  f_unlike_in : ∃ f fd, mg (Str.ofString "unlike_in") = some (.ref f) ∧ Fun K (Str.ofString "unlike_in") (Str.ofString "unlike_in") s_unlike_in f fd
  f_differences : ∃ f fd, mg (Str.ofString "differences") = some (.ref f) ∧ Fun K (Str.ofString "differences") (Str.ofString "differences") s_differences f fd
  f_swapped : ∃ f fd, mg (Str.ofString "swapped") = some (.ref f) ∧ Fun K (Str.ofString "swapped") (Str.ofString "swapped") s_swapped f fd
  f_turned_over : ∃ f fd, mg (Str.ofString "turned_over") = some (.ref f) ∧ Fun K (Str.ofString "turned_over") (Str.ofString "turned_over") s_turned_over f fd
  f_mirrored : ∃ f fd, mg (Str.ofString "mirrored") = some (.ref f) ∧ Fun K (Str.ofString "mirrored") (Str.ofString "mirrored") s_mirrored f fd
  f_law_result : ∃ f fd, mg (Str.ofString "_law_result") = some (.ref f) ∧ Fun K (Str.ofString "_law_result") (Str.ofString "_law_result") s_law_result f fd
  f_law_is : ∃ f fd, mg (Str.ofString "_law_is") = some (.ref f) ∧ Fun K (Str.ofString "_law_is") (Str.ofString "_law_is") s_law_is f fd
  f_law_draw : ∃ f fd, mg (Str.ofString "_law_draw") = some (.ref f) ∧ Fun K (Str.ofString "_law_draw") (Str.ofString "_law_draw") s_law_draw f fd
  f_law_begun : ∃ f fd, mg (Str.ofString "_law_begun") = some (.ref f) ∧ Fun K (Str.ofString "_law_begun") (Str.ofString "_law_begun") s_law_begun f fd
  f_law_sign : ∃ f fd, mg (Str.ofString "_law_sign") = some (.ref f) ∧ Fun K (Str.ofString "_law_sign") (Str.ofString "_law_sign") s_law_sign f fd
  f_law_good : ∃ f fd, mg (Str.ofString "_law_good") = some (.ref f) ∧ Fun K (Str.ofString "_law_good") (Str.ofString "_law_good") s_law_good f fd
  f_law_odd : ∃ f fd, mg (Str.ofString "_law_odd") = some (.ref f) ∧ FunC K (Str.ofString "_law_odd") (Str.ofString "_law_odd") s_law_odd f fd c_law_odd
  f_law_many : ∃ f fd, mg (Str.ofString "_law_many") = some (.ref f) ∧ Fun K (Str.ofString "_law_many") (Str.ofString "_law_many") s_law_many f fd
  f_law : ∃ f fd, mg (Str.ofString "law") = some (.ref f) ∧ FunC K (Str.ofString "law") (Str.ofString "law") s_law f fd c_law
  b_all : mg (Str.ofString "all") = none
  b_bool : mg (Str.ofString "bool") = none
  b_enumerate : mg (Str.ofString "enumerate") = none
  b_int : mg (Str.ofString "int") = none
  b_isinstance : mg (Str.ofString "isinstance") = none
  b_len : mg (Str.ofString "len") = none
  b_list : mg (Str.ofString "list") = none
  b_range : mg (Str.ofString "range") = none
  b_str : mg (Str.ofString "str") = none
  b_tuple : mg (Str.ofString "tuple") = none
  c_MOVES : ∃ tk, mg (Str.ofString "MOVES") = some (.str (Str.ofString "nuwlr") tk)
  c_PLACES : ∃ tk, mg (Str.ofString "PLACES") = some (.int 3 tk)
  c_SHAPES : ∃ tk, mg (Str.ofString "SHAPES") = some (.str (Str.ofString "abcd") tk)
  c_SIMPLE : ∃ tk, mg (Str.ofString "SIMPLE") = some (.str (Str.ofString "ab") tk)
  c_TURNS : ∃ tk, mg (Str.ofString "TURNS") = some (.str (Str.ofString "iolr") tk)
section
variable {P : Program} {w : World} {K : PySem.W.Frag} {mg : Str → Option Value} {base : Heap} {tw tr sca : Addr} {ns : List Int} {sb : Bool} {c_law_odd P_law_odd c_law P_law : Addr}
theorem o_is_between (AX : AxT K mg base c_law_odd P_law_odd c_law P_law) : ∃ f fd, mg (Str.ofString "is_between") = some (.ref f) ∧ Fun K (Str.ofString "is_between") (Str.ofString "is_between") s_is_between f fd ∧ FnOk P w K mg base (L2.CX P w) 1 f fd [(Str.ofString "value"), (Str.ofString "low"), (Str.ofString "high")] (spD ⟨P, w, K, tw, tr, sca, ns, mg, (tabT P_law_odd P_law), sb⟩ 3 M_is_between) := by
  obtain ⟨f, fd, hm, F⟩ := AX.f_is_between
  refine ⟨f, fd, hm, F, fnD (N := [(Str.ofString "value"), (Str.ofString "low"), (Str.ofString "high")]) (ps := [(Str.ofString "value"), (Str.ofString "low"), (Str.ofString "high")]) (k := 0) (L := ⟨P, w, K, tw, tr, sca, ns, mg, (tabT P_law_odd P_law), sb⟩) (g := B_is_between) F sc_is_between fun cdv A outer s H E hr => ?_⟩
  have sc := sc_is_between
  have hu := hu_of hr
  have hu65 := hu65_of hr
  have hx : PassX (cxOf (L2.CX P w) P w K mg base [(Str.ofString "value"), (Str.ofString "low"), (Str.ofString "high")] (Str.ofString "is_between") (defScope s_is_between) f cdv A outer s H E) E := passes_call (takes_of rfl rfl rfl rfl) (fun _ _ _ _ h => h)
  have hp : PassesOwn (model P w) _ _ (cxOf (L2.CX P w) P w K mg base [(Str.ofString "value"), (Str.ofString "low"), (Str.ofString "high")] (Str.ofString "is_between") (defScope s_is_between) f cdv A outer s H E).xe := passes_of rfl
  exact (dss_one (ds_ret [] (de_and (de_isi ⟨rfl, rfl⟩ isi_int AX.b_isinstance AX.b_int (de_var (i := 0))) (de_and (de_not (de_isi ⟨rfl, rfl⟩ isi_bool AX.b_isinstance AX.b_bool (de_var (i := 0)))) (de_one (de_chain od_le od_le (de_var (i := 1)) (de_var (i := 0)) (de_var (i := 2))))))))
theorem t_is_between (AX : AxT K mg base c_law_odd P_law_odd c_law P_law) : TF P w K mg base ⟨P, w, K, tw, tr, sca, ns, mg, (tabT P_law_odd P_law), sb⟩ 1 (Str.ofString "is_between") 3 M_is_between := by
  obtain ⟨f, fd, hm, F, G⟩ := o_is_between (P := P) (w := w) (base := base) (tw := tw) (tr := tr) (sca := sca) (ns := ns) (sb := sb) AX
  exact ⟨f, fd, _, hm, G, rfl, F.kp, F.binds (fun _ _ _ _ _ _ us hl => match us, hl with | [_, _, _], _ => rfl)⟩
theorem o_is_letter (AX : AxT K mg base c_law_odd P_law_odd c_law P_law) : ∃ f fd, mg (Str.ofString "is_letter") = some (.ref f) ∧ Fun K (Str.ofString "is_letter") (Str.ofString "is_letter") s_is_letter f fd ∧ FnOk P w K mg base (L2.CX P w) 1 f fd [(Str.ofString "value"), (Str.ofString "letters")] (spD ⟨P, w, K, tw, tr, sca, ns, mg, (tabT P_law_odd P_law), sb⟩ 2 M_is_letter) := by
  obtain ⟨f, fd, hm, F⟩ := AX.f_is_letter
  refine ⟨f, fd, hm, F, fnD (N := [(Str.ofString "value"), (Str.ofString "letters")]) (ps := [(Str.ofString "value"), (Str.ofString "letters")]) (k := 0) (L := ⟨P, w, K, tw, tr, sca, ns, mg, (tabT P_law_odd P_law), sb⟩) (g := B_is_letter) F sc_is_letter fun cdv A outer s H E hr => ?_⟩
  have sc := sc_is_letter
  have hu := hu_of hr
  have hu65 := hu65_of hr
  have hx : PassX (cxOf (L2.CX P w) P w K mg base [(Str.ofString "value"), (Str.ofString "letters")] (Str.ofString "is_letter") (defScope s_is_letter) f cdv A outer s H E) E := passes_call (takes_of rfl rfl rfl rfl) (fun _ _ _ _ h => h)
  have hp : PassesOwn (model P w) _ _ (cxOf (L2.CX P w) P w K mg base [(Str.ofString "value"), (Str.ofString "letters")] (Str.ofString "is_letter") (defScope s_is_letter) f cdv A outer s H E).xe := passes_of rfl
  exact (dss_one (ds_ret [] (de_and (de_isi ⟨rfl, rfl⟩ isi_str AX.b_isinstance AX.b_str (de_var (i := 0))) (de_and (de_cmp (od_eq ⟨rfl, rfl⟩ hr.units) (de_len ⟨rfl, rfl⟩ AX.b_len (de_var (i := 0))) de_int (nomark _)) (de_one (de_cmp (od_in ⟨rfl, rfl⟩ hu65) (de_var (i := 0)) (de_var (i := 1)) (by rfl)))))))
theorem t_is_letter (AX : AxT K mg base c_law_odd P_law_odd c_law P_law) : TF P w K mg base ⟨P, w, K, tw, tr, sca, ns, mg, (tabT P_law_odd P_law), sb⟩ 1 (Str.ofString "is_letter") 2 M_is_letter := by
  obtain ⟨f, fd, hm, F, G⟩ := o_is_letter (P := P) (w := w) (base := base) (tw := tw) (tr := tr) (sca := sca) (ns := ns) (sb := sb) AX
  exact ⟨f, fd, _, hm, G, rfl, F.kp, F.binds (fun _ _ _ _ _ _ us hl => match us, hl with | [_, _], _ => rfl)⟩
theorem o_is_hand (AX : AxT K mg base c_law_odd P_law_odd c_law P_law) : ∃ f fd, mg (Str.ofString "is_hand") = some (.ref f) ∧ Fun K (Str.ofString "is_hand") (Str.ofString "is_hand") s_is_hand f fd ∧ FnOk P w K mg base (L2.CX P w) 2 f fd [(Str.ofString "value")] (spD ⟨P, w, K, tw, tr, sca, ns, mg, (tabT P_law_odd P_law), sb⟩ 1 M_is_hand) := by
  obtain ⟨f, fd, hm, F⟩ := AX.f_is_hand
  refine ⟨f, fd, hm, F, fnD (N := [(Str.ofString "value")]) (ps := [(Str.ofString "value")]) (k := 1) (L := ⟨P, w, K, tw, tr, sca, ns, mg, (tabT P_law_odd P_law), sb⟩) (g := B_is_hand) F sc_is_hand fun cdv A outer s H E hr => ?_⟩
  have sc := sc_is_hand
  have hu := hu_of hr
  have hu65 := hu65_of hr
  have hx : PassX (cxOf (L2.CX P w) P w K mg base [(Str.ofString "value")] (Str.ofString "is_hand") (defScope s_is_hand) f cdv A outer s H E) E := passes_call (takes_of rfl rfl rfl rfl) (fun _ _ _ _ h => h)
  have hp : PassesOwn (model P w) _ _ (cxOf (L2.CX P w) P w K mg base [(Str.ofString "value")] (Str.ofString "is_hand") (defScope s_is_hand) f cdv A outer s H E).xe := passes_of rfl
  exact (dss_cons (ds_if [] (PW.pt (dw_or (dt_not (dt_tru ⟨rfl, rfl⟩ (de_isi ⟨rfl, rfl⟩ isi_tuple AX.b_isinstance AX.b_tuple (de_var (i := 0))))) (dw_or1 (dt_cmp (od_ne ⟨rfl, rfl⟩ hr.units) (de_len ⟨rfl, rfl⟩ AX.b_len (de_var (i := 0))) de_int (nomark _))))) (dss_one (ds_ret [] de_bl)) dss_nil)
      (dss_one (ds_ret [] (de_and (de_call (t_is_letter AX) (hr.mono (by decide)) hx (da_cons (de_ix ⟨rfl, rfl⟩ (de_var (i := 0)) de_int) (da_cons (de_gstr AX.c_SHAPES.choose_spec) da_nil))) (de_one (de_call (t_is_letter AX) (hr.mono (by decide)) hx (da_cons (de_ix ⟨rfl, rfl⟩ (de_var (i := 0)) de_int) (da_cons (de_gstr AX.c_TURNS.choose_spec) da_nil))))))))
theorem t_is_hand (AX : AxT K mg base c_law_odd P_law_odd c_law P_law) : TF P w K mg base ⟨P, w, K, tw, tr, sca, ns, mg, (tabT P_law_odd P_law), sb⟩ 2 (Str.ofString "is_hand") 1 M_is_hand := by
  obtain ⟨f, fd, hm, F, G⟩ := o_is_hand (P := P) (w := w) (base := base) (tw := tw) (tr := tr) (sca := sca) (ns := ns) (sb := sb) AX
  exact ⟨f, fd, _, hm, G, rfl, F.kp, F.binds (fun _ _ _ _ _ _ us hl => match us, hl with | [_], _ => rfl)⟩
theorem o_is_entry (AX : AxT K mg base c_law_odd P_law_odd c_law P_law) : ∃ f fd, mg (Str.ofString "is_entry") = some (.ref f) ∧ Fun K (Str.ofString "is_entry") (Str.ofString "is_entry") s_is_entry f fd ∧ FnOk P w K mg base (L2.CX P w) 3 f fd [(Str.ofString "thing"), (Str.ofString "value")] (spD ⟨P, w, K, tw, tr, sca, ns, mg, (tabT P_law_odd P_law), sb⟩ 2 M_is_entry) := by
  obtain ⟨f, fd, hm, F⟩ := AX.f_is_entry
  refine ⟨f, fd, hm, F, fnD (N := [(Str.ofString "thing"), (Str.ofString "value")]) (ps := [(Str.ofString "thing"), (Str.ofString "value")]) (k := 2) (L := ⟨P, w, K, tw, tr, sca, ns, mg, (tabT P_law_odd P_law), sb⟩) (g := B_is_entry) F sc_is_entry fun cdv A outer s H E hr => ?_⟩
  have sc := sc_is_entry
  have hu := hu_of hr
  have hu65 := hu65_of hr
  have hx : PassX (cxOf (L2.CX P w) P w K mg base [(Str.ofString "thing"), (Str.ofString "value")] (Str.ofString "is_entry") (defScope s_is_entry) f cdv A outer s H E) E := passes_call (takes_of rfl rfl rfl rfl) (fun _ _ _ _ h => h)
  have hp : PassesOwn (model P w) _ _ (cxOf (L2.CX P w) P w K mg base [(Str.ofString "thing"), (Str.ofString "value")] (Str.ofString "is_entry") (defScope s_is_entry) f cdv A outer s H E).xe := passes_of rfl
  exact (dss_cons (ds_if [] (dt_cmp (od_eq ⟨rfl, rfl⟩ hr.units) (de_var (i := 0)) de_int (nomark _)) (dss_one (ds_ret [] (de_call (t_is_between AX) (hr.mono (by decide)) hx (da_cons (de_var (i := 1)) (da_cons de_int (da_cons (de_bin od_sub (de_gint AX.c_PLACES.choose_spec) de_int) da_nil)))))) dss_nil)
      (dss_cons (ds_if [] (dt_cmp (od_eq ⟨rfl, rfl⟩ hr.units) (de_var (i := 0)) de_int (nomark _)) (dss_one (ds_ret [] (de_or (de_isN (de_var (i := 1))) (de_or (de_call (t_is_letter AX) (hr.mono (by decide)) hx (da_cons (de_var (i := 1)) (da_cons de_str da_nil))) (de_one (de_call (t_is_hand AX) (hr.mono (by decide)) hx (da_cons (de_var (i := 1)) da_nil))))))) dss_nil)
      (dss_one (ds_ret [] (de_call (t_is_letter AX) (hr.mono (by decide)) hx (da_cons (de_var (i := 1)) (da_cons (de_ix ⟨rfl, rfl⟩ (de_tup (da_cons (de_gstr AX.c_SHAPES.choose_spec) (da_cons (de_gstr AX.c_TURNS.choose_spec) (da_cons (de_gstr AX.c_MOVES.choose_spec) da_nil)))) (de_var (i := 0))) da_nil)))))))
theorem t_is_entry (AX : AxT K mg base c_law_odd P_law_odd c_law P_law) : TF P w K mg base ⟨P, w, K, tw, tr, sca, ns, mg, (tabT P_law_odd P_law), sb⟩ 3 (Str.ofString "is_entry") 2 M_is_entry := by
  obtain ⟨f, fd, hm, F, G⟩ := o_is_entry (P := P) (w := w) (base := base) (tw := tw) (tr := tr) (sca := sca) (ns := ns) (sb := sb) AX
  exact ⟨f, fd, _, hm, G, rfl, F.kp, F.binds (fun _ _ _ _ _ _ us hl => match us, hl with | [_, _], _ => rfl)⟩
theorem o_do_go_together (AX : AxT K mg base c_law_odd P_law_odd c_law P_law) : ∃ f fd, mg (Str.ofString "do_go_together") = some (.ref f) ∧ Fun K (Str.ofString "do_go_together") (Str.ofString "do_go_together") s_do_go_together f fd ∧ FnOk P w K mg base (L2.CX P w) 1 f fd [(Str.ofString "shape"), (Str.ofString "move"), (Str.ofString "second")] (spD ⟨P, w, K, tw, tr, sca, ns, mg, (tabT P_law_odd P_law), sb⟩ 3 M_do_go_together) := by
  obtain ⟨f, fd, hm, F⟩ := AX.f_do_go_together
  refine ⟨f, fd, hm, F, fnD (N := [(Str.ofString "shape"), (Str.ofString "move"), (Str.ofString "second")]) (ps := [(Str.ofString "shape"), (Str.ofString "move"), (Str.ofString "second")]) (k := 0) (L := ⟨P, w, K, tw, tr, sca, ns, mg, (tabT P_law_odd P_law), sb⟩) (g := B_do_go_together) F sc_do_go_together fun cdv A outer s H E hr => ?_⟩
  have sc := sc_do_go_together
  have hu := hu_of hr
  have hu65 := hu65_of hr
  have hx : PassX (cxOf (L2.CX P w) P w K mg base [(Str.ofString "shape"), (Str.ofString "move"), (Str.ofString "second")] (Str.ofString "do_go_together") (defScope s_do_go_together) f cdv A outer s H E) E := passes_call (takes_of rfl rfl rfl rfl) (fun _ _ _ _ h => h)
  have hp : PassesOwn (model P w) _ _ (cxOf (L2.CX P w) P w K mg base [(Str.ofString "shape"), (Str.ofString "move"), (Str.ofString "second")] (Str.ofString "do_go_together") (defScope s_do_go_together) f cdv A outer s H E).xe := passes_of rfl
  exact (dss_cons (ds_if [] (dt_isN (de_var (i := 2))) (dss_one (ds_ret [] de_bl)) dss_nil)
      (dss_cons (ds_if [] (dt_cmp (od_eq ⟨rfl, rfl⟩ hr.units) (de_var (i := 2)) de_str (nomark _)) (dss_one (ds_ret [] (de_cmp (od_ne ⟨rfl, rfl⟩ hr.units) (de_var (i := 1)) de_str (nomark _)))) dss_nil)
      (dss_one (ds_ret [] (de_or (de_cmp (od_in ⟨rfl, rfl⟩ hu65) (de_ix ⟨rfl, rfl⟩ (de_var (i := 2)) de_int) (de_gstr AX.c_SIMPLE.choose_spec) (by rfl)) (de_one (de_cmp (od_eq ⟨rfl, rfl⟩ hr.units) (de_ix ⟨rfl, rfl⟩ (de_var (i := 2)) de_int) (de_var (i := 0)) (nomark _))))))))
theorem t_do_go_together (AX : AxT K mg base c_law_odd P_law_odd c_law P_law) : TF P w K mg base ⟨P, w, K, tw, tr, sca, ns, mg, (tabT P_law_odd P_law), sb⟩ 1 (Str.ofString "do_go_together") 3 M_do_go_together := by
  obtain ⟨f, fd, hm, F, G⟩ := o_do_go_together (P := P) (w := w) (base := base) (tw := tw) (tr := tr) (sca := sca) (ns := ns) (sb := sb) AX
  exact ⟨f, fd, _, hm, G, rfl, F.kp, F.binds (fun _ _ _ _ _ _ us hl => match us, hl with | [_, _, _], _ => rfl)⟩
theorem o_is_sign (AX : AxT K mg base c_law_odd P_law_odd c_law P_law) : ∃ f fd, mg (Str.ofString "is_sign") = some (.ref f) ∧ Fun K (Str.ofString "is_sign") (Str.ofString "is_sign") s_is_sign f fd ∧ FnOk P w K mg base (L2.CX P w) 4 f fd [(Str.ofString "value")] (spD ⟨P, w, K, tw, tr, sca, ns, mg, (tabT P_law_odd P_law), sb⟩ 1 M_is_sign) := by
  obtain ⟨f, fd, hm, F⟩ := AX.f_is_sign
  refine ⟨f, fd, hm, F, fnD (N := [(Str.ofString "value"), (Str.ofString "thing"), (Str.ofString "one")]) (ps := [(Str.ofString "value")]) (k := 3) (L := ⟨P, w, K, tw, tr, sca, ns, mg, (tabT P_law_odd P_law), sb⟩) (g := B_is_sign) F sc_is_sign fun cdv A outer s H E hr => ?_⟩
  have sc := sc_is_sign
  have hu := hu_of hr
  have hu65 := hu65_of hr
  have hx : PassX (cxOf (L2.CX P w) P w K mg base [(Str.ofString "value"), (Str.ofString "thing"), (Str.ofString "one")] (Str.ofString "is_sign") (defScope s_is_sign) f cdv A outer s H E) E := passes_call (takes_of rfl rfl rfl rfl) (fun _ _ _ _ h => h)
  have hp : PassesOwn (model P w) _ _ (cxOf (L2.CX P w) P w K mg base [(Str.ofString "value"), (Str.ofString "thing"), (Str.ofString "one")] (Str.ofString "is_sign") (defScope s_is_sign) f cdv A outer s H E).xe := passes_of rfl
  exact (dss_cons (ds_if [] (PW.pt (dw_or (dt_not (dt_tru ⟨rfl, rfl⟩ (de_isi ⟨rfl, rfl⟩ isi_tuple AX.b_isinstance AX.b_tuple (de_var (i := 0))))) (dw_or1 (dt_cmp (od_ne ⟨rfl, rfl⟩ hr.units) (de_len ⟨rfl, rfl⟩ AX.b_len (de_var (i := 0))) de_int (nomark _))))) (dss_one (ds_ret [] de_bl)) dss_nil)
      (dss_cons (ds_if [] (dt_not (dt_tru ⟨rfl, rfl⟩ (de_all ⟨rfl, rfl⟩ AX.b_all (de_fresh (df_lc (own := [((Str.ofString "thing"), 1), ((Str.ofString "one"), 2)]) sc.nd (blkOk_by (N := [(Str.ofString "value"), (Str.ofString "thing"), (Str.ofString "one")]) (sc := defScope s_is_sign) (own := [((Str.ofString "thing"), 1), ((Str.ofString "one"), 2)]) (by decide +kernel)) (di_enum ⟨rfl, rfl⟩ AX.b_enumerate (de_var (i := 0))) (fun _ _ _ _ _ => (dg_tp ⟨rfl, rfl⟩ (dgs_cons (dg_nm (i := 1) sc.nd) (dgs_cons (dg_nm (i := 2) sc.nd) dgs_nil)))) (fun _ _ _ _ _ => dts_nil) (fun _ _ _ _ _ => (de_call (t_is_entry AX) (hr.mono (by decide)) passL (da_cons (de_var (i := 1)) (da_cons (de_var (i := 2)) da_nil)))) (by simp [slots, slotss])))))) (dss_one (ds_ret [] de_bl)) dss_nil)
      (dss_one (ds_ret [] (de_call (t_do_go_together AX) (hr.mono (by decide)) hx (da_cons (de_ix ⟨rfl, rfl⟩ (de_var (i := 0)) de_int) (da_cons (de_ix ⟨rfl, rfl⟩ (de_var (i := 0)) de_int) (da_cons (de_ix ⟨rfl, rfl⟩ (de_var (i := 0)) de_int) da_nil))))))))
theorem t_is_sign (AX : AxT K mg base c_law_odd P_law_odd c_law P_law) : TF P w K mg base ⟨P, w, K, tw, tr, sca, ns, mg, (tabT P_law_odd P_law), sb⟩ 4 (Str.ofString "is_sign") 1 M_is_sign := by
  obtain ⟨f, fd, hm, F, G⟩ := o_is_sign (P := P) (w := w) (base := base) (tw := tw) (tr := tr) (sca := sca) (ns := ns) (sb := sb) AX
  exact ⟨f, fd, _, hm, G, rfl, F.kp, F.binds (fun _ _ _ _ _ _ us hl => match us, hl with | [_], _ => rfl)⟩
theorem tk_is_sign_0 (AX : AxT K mg base c_law_odd P_law_odd c_law P_law) : TK P w K mg base ⟨P, w, K, tw, tr, sca, ns, mg, (tabT P_law_odd P_law), sb⟩ 4 (Str.ofString "is_sign") 0 [(Str.ofString "value")] M_is_sign := by
  obtain ⟨f, fd, hm, F, G⟩ := o_is_sign (P := P) (w := w) (base := base) (tw := tw) (tr := tr) (sca := sca) (ns := ns) (sb := sb) AX
  exact ⟨f, fd, _, hm, G, rfl, F.kp, F.kbinds 0 [(Str.ofString "value")] (by decide) rfl (fun _ _ _ _ _ _ us ws h1 h2 => match us, ws, h1, h2 with | [], [_], _, _ => rfl)⟩
theorem o_check_sign (AX : AxT K mg base c_law_odd P_law_odd c_law P_law) : ∃ f fd, mg (Str.ofString "check_sign") = some (.ref f) ∧ Fun K (Str.ofString "check_sign") (Str.ofString "check_sign") s_check_sign f fd ∧ FnOk P w K mg base (L2.CX P w) 5 f fd [(Str.ofString "sign")] (spD ⟨P, w, K, tw, tr, sca, ns, mg, (tabT P_law_odd P_law), sb⟩ 1 M_check_sign) := by
  obtain ⟨f, fd, hm, F⟩ := AX.f_check_sign
  refine ⟨f, fd, hm, F, fnD (N := [(Str.ofString "sign")]) (ps := [(Str.ofString "sign")]) (k := 4) (L := ⟨P, w, K, tw, tr, sca, ns, mg, (tabT P_law_odd P_law), sb⟩) (g := B_check_sign) F sc_check_sign fun cdv A outer s H E hr => ?_⟩
  have sc := sc_check_sign
  have hu := hu_of hr
  have hu65 := hu65_of hr
  have hx : PassX (cxOf (L2.CX P w) P w K mg base [(Str.ofString "sign")] (Str.ofString "check_sign") (defScope s_check_sign) f cdv A outer s H E) E := passes_call (takes_of rfl rfl rfl rfl) (fun _ _ _ _ h => h)
  have tk : Takes (cxOf (L2.CX P w) P w K mg base [(Str.ofString "sign")] (Str.ofString "check_sign") (defScope s_check_sign) f cdv A outer s H E) (wE E) := takes_of rfl rfl rfl rfl
  have hp : PassesOwn (model P w) _ _ (cxOf (L2.CX P w) P w K mg base [(Str.ofString "sign")] (Str.ofString "check_sign") (defScope s_check_sign) f cdv A outer s H E).xe := passes_of rfl
  exact (dss_one (ds_if [] (dt_not (dt_tru ⟨rfl, rfl⟩ (de_call (t_is_sign AX) (hr.mono (by decide)) hx (da_cons (de_var (i := 0)) da_nil)))) (dss_one (ds_raise ⟨rfl, rfl⟩ tk AX.x_InvalidSign)) dss_nil))
theorem t_check_sign (AX : AxT K mg base c_law_odd P_law_odd c_law P_law) : TF P w K mg base ⟨P, w, K, tw, tr, sca, ns, mg, (tabT P_law_odd P_law), sb⟩ 5 (Str.ofString "check_sign") 1 M_check_sign := by
  obtain ⟨f, fd, hm, F, G⟩ := o_check_sign (P := P) (w := w) (base := base) (tw := tw) (tr := tr) (sca := sca) (ns := ns) (sb := sb) AX
  exact ⟨f, fd, _, hm, G, rfl, F.kp, F.binds (fun _ _ _ _ _ _ us hl => match us, hl with | [_], _ => rfl)⟩
theorem o_all_hands (AX : AxT K mg base c_law_odd P_law_odd c_law P_law) : ∃ f fd, mg (Str.ofString "all_hands") = some (.ref f) ∧ Fun K (Str.ofString "all_hands") (Str.ofString "all_hands") s_all_hands f fd ∧ FnOk P w K mg base (L2.CX P w) 1 f fd [] (spD ⟨P, w, K, tw, tr, sca, ns, mg, (tabT P_law_odd P_law), sb⟩ 0 M_all_hands) := by
  obtain ⟨f, fd, hm, F⟩ := AX.f_all_hands
  refine ⟨f, fd, hm, F, fnD (N := [(Str.ofString "found"), (Str.ofString "shape"), (Str.ofString "turn")]) (ps := []) (k := 0) (L := ⟨P, w, K, tw, tr, sca, ns, mg, (tabT P_law_odd P_law), sb⟩) (g := B_all_hands) F sc_all_hands fun cdv A outer s H E hr => ?_⟩
  have sc := sc_all_hands
  have hu := hu_of hr
  have hu65 := hu65_of hr
  have hx : PassX (cxOf (L2.CX P w) P w K mg base [(Str.ofString "found"), (Str.ofString "shape"), (Str.ofString "turn")] (Str.ofString "all_hands") (defScope s_all_hands) f cdv A outer s H E) E := passes_call (takes_of rfl rfl rfl rfl) (fun _ _ _ _ h => h)
  have hp : PassesOwn (model P w) _ _ (cxOf (L2.CX P w) P w K mg base [(Str.ofString "found"), (Str.ofString "shape"), (Str.ofString "turn")] (Str.ofString "all_hands") (defScope s_all_hands) f cdv A outer s H E).xe := passes_of rfl
  exact (dss_cons (ds_own (i := 0) [] sc.nd (df_lst da_nil))
      (dss_cons (ds_for [] (di_seq ⟨rfl, rfl⟩ (de_gstr AX.c_SHAPES.choose_spec)) (dg_nm (i := 1) sc.nd) (dss_one (ds_ext (i := 0) (de_fresh (df_lc (own := [((Str.ofString "turn"), 2)]) sc.nd (blkOk_by (N := [(Str.ofString "found"), (Str.ofString "shape"), (Str.ofString "turn")]) (sc := defScope s_all_hands) (own := [((Str.ofString "turn"), 2)]) (by decide +kernel)) (di_seq ⟨rfl, rfl⟩ (de_gstr AX.c_TURNS.choose_spec)) (fun _ _ _ _ _ => (dg_nm (i := 2) sc.nd)) (fun _ _ _ _ _ => dts_nil) (fun _ _ _ _ _ => (de_tup (da_cons (de_var (i := 1)) (da_cons (de_var (i := 2)) da_nil)))) (by simp [slots, slotss]))))) hp)
      (dss_one (ds_ret [0] (de_var (i := 0))))))
theorem t_all_hands (AX : AxT K mg base c_law_odd P_law_odd c_law P_law) : TF P w K mg base ⟨P, w, K, tw, tr, sca, ns, mg, (tabT P_law_odd P_law), sb⟩ 1 (Str.ofString "all_hands") 0 M_all_hands := by
  obtain ⟨f, fd, hm, F, G⟩ := o_all_hands (P := P) (w := w) (base := base) (tw := tw) (tr := tr) (sca := sca) (ns := ns) (sb := sb) AX
  exact ⟨f, fd, _, hm, G, rfl, F.kp, F.binds (fun _ _ _ _ _ _ us hl => match us, hl with | [], _ => rfl)⟩
theorem o_entries (AX : AxT K mg base c_law_odd P_law_odd c_law P_law) : ∃ f fd, mg (Str.ofString "entries") = some (.ref f) ∧ Fun K (Str.ofString "entries") (Str.ofString "entries") s_entries f fd ∧ FnOk P w K mg base (L2.CX P w) 2 f fd [(Str.ofString "thing")] (spD ⟨P, w, K, tw, tr, sca, ns, mg, (tabT P_law_odd P_law), sb⟩ 1 M_entries) := by
  obtain ⟨f, fd, hm, F⟩ := AX.f_entries
  refine ⟨f, fd, hm, F, fnD (N := [(Str.ofString "thing")]) (ps := [(Str.ofString "thing")]) (k := 1) (L := ⟨P, w, K, tw, tr, sca, ns, mg, (tabT P_law_odd P_law), sb⟩) (g := B_entries) F sc_entries fun cdv A outer s H E hr => ?_⟩
  have sc := sc_entries
  have hu := hu_of hr
  have hu65 := hu65_of hr
  have hx : PassX (cxOf (L2.CX P w) P w K mg base [(Str.ofString "thing")] (Str.ofString "entries") (defScope s_entries) f cdv A outer s H E) E := passes_call (takes_of rfl rfl rfl rfl) (fun _ _ _ _ h => h)
  have hp : PassesOwn (model P w) _ _ (cxOf (L2.CX P w) P w K mg base [(Str.ofString "thing")] (Str.ofString "entries") (defScope s_entries) f cdv A outer s H E).xe := passes_of rfl
  exact (dss_cons (ds_if [] (dt_cmp (od_eq ⟨rfl, rfl⟩ hr.units) (de_var (i := 0)) de_int (nomark _)) (dss_one (ds_ret [] (de_listRg rfl AX.b_list AX.b_range (de_gint AX.c_PLACES.choose_spec)))) dss_nil)
      (dss_cons (ds_if [] (dt_cmp (od_eq ⟨rfl, rfl⟩ hr.units) (de_var (i := 0)) de_int (nomark _)) (dss_one (ds_ret [] (de_bin (od_add ⟨rfl, rfl⟩) (de_fresh (df_lst (da_cons de_non (da_cons de_str da_nil)))) (de_call0 (t_all_hands AX) (hr.mono (by decide)) hx)))) dss_nil)
      (dss_one (ds_ret [] (de_listA ⟨rfl, rfl⟩ rfl AX.b_list (de_ix ⟨rfl, rfl⟩ (de_tup (da_cons (de_gstr AX.c_SHAPES.choose_spec) (da_cons (de_gstr AX.c_TURNS.choose_spec) (da_cons (de_gstr AX.c_MOVES.choose_spec) da_nil)))) (de_var (i := 0))))))))
theorem t_entries (AX : AxT K mg base c_law_odd P_law_odd c_law P_law) : TF P w K mg base ⟨P, w, K, tw, tr, sca, ns, mg, (tabT P_law_odd P_law), sb⟩ 2 (Str.ofString "entries") 1 M_entries := by
  obtain ⟨f, fd, hm, F, G⟩ := o_entries (P := P) (w := w) (base := base) (tw := tw) (tr := tr) (sca := sca) (ns := ns) (sb := sb) AX
  exact ⟨f, fd, _, hm, G, rfl, F.kp, F.binds (fun _ _ _ _ _ _ us hl => match us, hl with | [_], _ => rfl)⟩
theorem o_count_signs (AX : AxT K mg base c_law_odd P_law_odd c_law P_law) : ∃ f fd, mg (Str.ofString "count_signs") = some (.ref f) ∧ Fun K (Str.ofString "count_signs") (Str.ofString "count_signs") s_count_signs f fd ∧ FnOk P w K mg base (L2.CX P w) 3 f fd [] (spD ⟨P, w, K, tw, tr, sca, ns, mg, (tabT P_law_odd P_law), sb⟩ 0 M_count_signs) := by
  obtain ⟨f, fd, hm, F⟩ := AX.f_count_signs
  refine ⟨f, fd, hm, F, fnD (N := [(Str.ofString "found"), (Str.ofString "shape"), (Str.ofString "move"), (Str.ofString "second")]) (ps := []) (k := 2) (L := ⟨P, w, K, tw, tr, sca, ns, mg, (tabT P_law_odd P_law), sb⟩) (g := B_count_signs) F sc_count_signs fun cdv A outer s H E hr => ?_⟩
  have sc := sc_count_signs
  have hu := hu_of hr
  have hu65 := hu65_of hr
  have hx : PassX (cxOf (L2.CX P w) P w K mg base [(Str.ofString "found"), (Str.ofString "shape"), (Str.ofString "move"), (Str.ofString "second")] (Str.ofString "count_signs") (defScope s_count_signs) f cdv A outer s H E) E := passes_call (takes_of rfl rfl rfl rfl) (fun _ _ _ _ h => h)
  have hp : PassesOwn (model P w) _ _ (cxOf (L2.CX P w) P w K mg base [(Str.ofString "found"), (Str.ofString "shape"), (Str.ofString "move"), (Str.ofString "second")] (Str.ofString "count_signs") (defScope s_count_signs) f cdv A outer s H E).xe := passes_of rfl
  exact (dss_cons (ds_asg [] (dg_nm (i := 0) sc.nd) de_int)
      (dss_cons (ds_for [] (di_seq ⟨rfl, rfl⟩ (de_gstr AX.c_SHAPES.choose_spec)) (dg_nm (i := 1) sc.nd) (dss_one (ds_for [] (di_seq ⟨rfl, rfl⟩ (de_gstr AX.c_MOVES.choose_spec)) (dg_nm (i := 2) sc.nd) (dss_one (ds_aug (i := 0) sc.nd ip_addI (de_len ⟨rfl, rfl⟩ AX.b_len (de_fresh (df_lc (own := [((Str.ofString "second"), 3)]) sc.nd (blkOk_by (N := [(Str.ofString "found"), (Str.ofString "shape"), (Str.ofString "move"), (Str.ofString "second")]) (sc := defScope s_count_signs) (own := [((Str.ofString "second"), 3)]) (by decide +kernel)) (di_seq ⟨rfl, rfl⟩ (de_call (t_entries AX) (hr.mono (by decide)) hx (da_cons de_int da_nil))) (fun _ _ _ _ _ => (dg_nm (i := 3) sc.nd)) (fun _ _ _ _ _ => (dts_one (dt_tru ⟨rfl, rfl⟩ (de_call (t_do_go_together AX) (hr.mono (by decide)) passL (da_cons (de_var (i := 1)) (da_cons (de_var (i := 2)) (da_cons (de_var (i := 3)) da_nil))))))) (fun _ _ _ _ _ => de_int) (by simp [slots, slotss])))))) hp)) hp)
      (dss_one (ds_ret [] (de_bin od_mul (de_bin od_mul (de_var (i := 0)) (de_len ⟨rfl, rfl⟩ AX.b_len (de_gstr AX.c_TURNS.choose_spec))) (de_gint AX.c_PLACES.choose_spec))))))
theorem t_count_signs (AX : AxT K mg base c_law_odd P_law_odd c_law P_law) : TF P w K mg base ⟨P, w, K, tw, tr, sca, ns, mg, (tabT P_law_odd P_law), sb⟩ 3 (Str.ofString "count_signs") 0 M_count_signs := by
  obtain ⟨f, fd, hm, F, G⟩ := o_count_signs (P := P) (w := w) (base := base) (tw := tw) (tr := tr) (sca := sca) (ns := ns) (sb := sb) AX
  exact ⟨f, fd, _, hm, G, rfl, F.kp, F.binds (fun _ _ _ _ _ _ us hl => match us, hl with | [], _ => rfl)⟩
theorem o_can_hold (AX : AxT K mg base c_law_odd P_law_odd c_law P_law) : ∃ f fd, mg (Str.ofString "can_hold") = some (.ref f) ∧ Fun K (Str.ofString "can_hold") (Str.ofString "can_hold") s_can_hold f fd ∧ FnOk P w K mg base (L2.CX P w) 2 f fd [(Str.ofString "sign"), (Str.ofString "hand")] (spD ⟨P, w, K, tw, tr, sca, ns, mg, (tabT P_law_odd P_law), sb⟩ 2 M_can_hold) := by
  obtain ⟨f, fd, hm, F⟩ := AX.f_can_hold
  refine ⟨f, fd, hm, F, fnD (N := [(Str.ofString "sign"), (Str.ofString "hand")]) (ps := [(Str.ofString "sign"), (Str.ofString "hand")]) (k := 1) (L := ⟨P, w, K, tw, tr, sca, ns, mg, (tabT P_law_odd P_law), sb⟩) (g := B_can_hold) F sc_can_hold fun cdv A outer s H E hr => ?_⟩
  have sc := sc_can_hold
  have hu := hu_of hr
  have hu65 := hu65_of hr
  have hx : PassX (cxOf (L2.CX P w) P w K mg base [(Str.ofString "sign"), (Str.ofString "hand")] (Str.ofString "can_hold") (defScope s_can_hold) f cdv A outer s H E) E := passes_call (takes_of rfl rfl rfl rfl) (fun _ _ _ _ h => h)
  have hp : PassesOwn (model P w) _ _ (cxOf (L2.CX P w) P w K mg base [(Str.ofString "sign"), (Str.ofString "hand")] (Str.ofString "can_hold") (defScope s_can_hold) f cdv A outer s H E).xe := passes_of rfl
  exact (dss_one (ds_ret [] (de_call (t_do_go_together AX) (hr.mono (by decide)) hx (da_cons (de_ix ⟨rfl, rfl⟩ (de_var (i := 0)) de_int) (da_cons (de_ix ⟨rfl, rfl⟩ (de_var (i := 0)) de_int) (da_cons (de_var (i := 1)) da_nil))))))
theorem t_can_hold (AX : AxT K mg base c_law_odd P_law_odd c_law P_law) : TF P w K mg base ⟨P, w, K, tw, tr, sca, ns, mg, (tabT P_law_odd P_law), sb⟩ 2 (Str.ofString "can_hold") 2 M_can_hold := by
  obtain ⟨f, fd, hm, F, G⟩ := o_can_hold (P := P) (w := w) (base := base) (tw := tw) (tr := tr) (sca := sca) (ns := ns) (sb := sb) AX
  exact ⟨f, fd, _, hm, G, rfl, F.kp, F.binds (fun _ _ _ _ _ _ us hl => match us, hl with | [_, _], _ => rfl)⟩
theorem o_can_rest (AX : AxT K mg base c_law_odd P_law_odd c_law P_law) : ∃ f fd, mg (Str.ofString "can_rest") = some (.ref f) ∧ Fun K (Str.ofString "can_rest") (Str.ofString "can_rest") s_can_rest f fd ∧ FnOk P w K mg base (L2.CX P w) 6 f fd [(Str.ofString "sign"), (Str.ofString "hand")] (spD ⟨P, w, K, tw, tr, sca, ns, mg, (tabT P_law_odd P_law), sb⟩ 2 M_can_rest) := by
  obtain ⟨f, fd, hm, F⟩ := AX.f_can_rest
  refine ⟨f, fd, hm, F, fnD (N := [(Str.ofString "sign"), (Str.ofString "hand")]) (ps := [(Str.ofString "sign"), (Str.ofString "hand")]) (k := 5) (L := ⟨P, w, K, tw, tr, sca, ns, mg, (tabT P_law_odd P_law), sb⟩) (g := B_can_rest) F sc_can_rest fun cdv A outer s H E hr => ?_⟩
  have sc := sc_can_rest
  have hu := hu_of hr
  have hu65 := hu65_of hr
  have hx : PassX (cxOf (L2.CX P w) P w K mg base [(Str.ofString "sign"), (Str.ofString "hand")] (Str.ofString "can_rest") (defScope s_can_rest) f cdv A outer s H E) E := passes_call (takes_of rfl rfl rfl rfl) (fun _ _ _ _ h => h)
  have tk : Takes (cxOf (L2.CX P w) P w K mg base [(Str.ofString "sign"), (Str.ofString "hand")] (Str.ofString "can_rest") (defScope s_can_rest) f cdv A outer s H E) (wE E) := takes_of rfl rfl rfl rfl
  have hp : PassesOwn (model P w) _ _ (cxOf (L2.CX P w) P w K mg base [(Str.ofString "sign"), (Str.ofString "hand")] (Str.ofString "can_rest") (defScope s_can_rest) f cdv A outer s H E).xe := passes_of rfl
  exact (dss_cons (ds_expr [] (de_call (t_check_sign AX) (hr.mono (by decide)) hx (da_cons (de_var (i := 0)) da_nil)))
      (dss_cons (ds_if [] (dt_not (dt_tru ⟨rfl, rfl⟩ (de_call (t_is_hand AX) (hr.mono (by decide)) hx (da_cons (de_var (i := 1)) da_nil)))) (dss_one (ds_raise ⟨rfl, rfl⟩ tk AX.x_InvalidHand)) dss_nil)
      (dss_one (ds_ret [] (de_call (t_can_hold AX) (hr.mono (by decide)) hx (da_cons (de_var (i := 0)) (da_cons (de_var (i := 1)) da_nil)))))))
theorem t_can_rest (AX : AxT K mg base c_law_odd P_law_odd c_law P_law) : TF P w K mg base ⟨P, w, K, tw, tr, sca, ns, mg, (tabT P_law_odd P_law), sb⟩ 6 (Str.ofString "can_rest") 2 M_can_rest := by
  obtain ⟨f, fd, hm, F, G⟩ := o_can_rest (P := P) (w := w) (base := base) (tw := tw) (tr := tr) (sca := sca) (ns := ns) (sb := sb) AX
  exact ⟨f, fd, _, hm, G, rfl, F.kp, F.binds (fun _ _ _ _ _ _ us hl => match us, hl with | [_, _], _ => rfl)⟩
theorem tk_can_rest_0 (AX : AxT K mg base c_law_odd P_law_odd c_law P_law) : TK P w K mg base ⟨P, w, K, tw, tr, sca, ns, mg, (tabT P_law_odd P_law), sb⟩ 6 (Str.ofString "can_rest") 0 [(Str.ofString "sign"), (Str.ofString "hand")] M_can_rest := by
  obtain ⟨f, fd, hm, F, G⟩ := o_can_rest (P := P) (w := w) (base := base) (tw := tw) (tr := tr) (sca := sca) (ns := ns) (sb := sb) AX
  exact ⟨f, fd, _, hm, G, rfl, F.kp, F.kbinds 0 [(Str.ofString "sign"), (Str.ofString "hand")] (by decide) rfl (fun _ _ _ _ _ _ us ws h1 h2 => match us, ws, h1, h2 with | [], [_, _], _, _ => rfl)⟩
theorem o_check_two (AX : AxT K mg base c_law_odd P_law_odd c_law P_law) : ∃ f fd, mg (Str.ofString "check_two") = some (.ref f) ∧ Fun K (Str.ofString "check_two") (Str.ofString "check_two") s_check_two f fd ∧ FnOk P w K mg base (L2.CX P w) 6 f fd [(Str.ofString "one"), (Str.ofString "other")] (spD ⟨P, w, K, tw, tr, sca, ns, mg, (tabT P_law_odd P_law), sb⟩ 2 M_check_two) := by
  obtain ⟨f, fd, hm, F⟩ := AX.f_check_two
  refine ⟨f, fd, hm, F, fnD (N := [(Str.ofString "one"), (Str.ofString "other")]) (ps := [(Str.ofString "one"), (Str.ofString "other")]) (k := 5) (L := ⟨P, w, K, tw, tr, sca, ns, mg, (tabT P_law_odd P_law), sb⟩) (g := B_check_two) F sc_check_two fun cdv A outer s H E hr => ?_⟩
  have sc := sc_check_two
  have hu := hu_of hr
  have hu65 := hu65_of hr
  have hx : PassX (cxOf (L2.CX P w) P w K mg base [(Str.ofString "one"), (Str.ofString "other")] (Str.ofString "check_two") (defScope s_check_two) f cdv A outer s H E) E := passes_call (takes_of rfl rfl rfl rfl) (fun _ _ _ _ h => h)
  have hp : PassesOwn (model P w) _ _ (cxOf (L2.CX P w) P w K mg base [(Str.ofString "one"), (Str.ofString "other")] (Str.ofString "check_two") (defScope s_check_two) f cdv A outer s H E).xe := passes_of rfl
  exact (dss_cons (ds_expr [] (de_call (t_check_sign AX) (hr.mono (by decide)) hx (da_cons (de_var (i := 0)) da_nil)))
      (dss_one (ds_expr [] (de_call (t_check_sign AX) (hr.mono (by decide)) hx (da_cons (de_var (i := 1)) da_nil)))))
theorem t_check_two (AX : AxT K mg base c_law_odd P_law_odd c_law P_law) : TF P w K mg base ⟨P, w, K, tw, tr, sca, ns, mg, (tabT P_law_odd P_law), sb⟩ 6 (Str.ofString "check_two") 2 M_check_two := by
  obtain ⟨f, fd, hm, F, G⟩ := o_check_two (P := P) (w := w) (base := base) (tw := tw) (tr := tr) (sca := sca) (ns := ns) (sb := sb) AX
  exact ⟨f, fd, _, hm, G, rfl, F.kp, F.binds (fun _ _ _ _ _ _ us hl => match us, hl with | [_, _], _ => rfl)⟩
theorem o_unlike_in (AX : AxT K mg base c_law_odd P_law_odd c_law P_law) : ∃ f fd, mg (Str.ofString "unlike_in") = some (.ref f) ∧ Fun K (Str.ofString "unlike_in") (Str.ofString "unlike_in") s_unlike_in f fd ∧ FnOk P w K mg base (L2.CX P w) 1 f fd [(Str.ofString "one"), (Str.ofString "other")] (spD ⟨P, w, K, tw, tr, sca, ns, mg, (tabT P_law_odd P_law), sb⟩ 2 M_unlike_in) := by
  obtain ⟨f, fd, hm, F⟩ := AX.f_unlike_in
  refine ⟨f, fd, hm, F, fnD (N := [(Str.ofString "one"), (Str.ofString "other"), (Str.ofString "thing")]) (ps := [(Str.ofString "one"), (Str.ofString "other")]) (k := 0) (L := ⟨P, w, K, tw, tr, sca, ns, mg, (tabT P_law_odd P_law), sb⟩) (g := B_unlike_in) F sc_unlike_in fun cdv A outer s H E hr => ?_⟩
  have sc := sc_unlike_in
  have hu := hu_of hr
  have hu65 := hu65_of hr
  have hx : PassX (cxOf (L2.CX P w) P w K mg base [(Str.ofString "one"), (Str.ofString "other"), (Str.ofString "thing")] (Str.ofString "unlike_in") (defScope s_unlike_in) f cdv A outer s H E) E := passes_call (takes_of rfl rfl rfl rfl) (fun _ _ _ _ h => h)
  have hp : PassesOwn (model P w) _ _ (cxOf (L2.CX P w) P w K mg base [(Str.ofString "one"), (Str.ofString "other"), (Str.ofString "thing")] (Str.ofString "unlike_in") (defScope s_unlike_in) f cdv A outer s H E).xe := passes_of rfl
  exact (dss_one (ds_ret [] (de_fresh (df_lc (own := [((Str.ofString "thing"), 2)]) sc.nd (blkOk_by (N := [(Str.ofString "one"), (Str.ofString "other"), (Str.ofString "thing")]) (sc := defScope s_unlike_in) (own := [((Str.ofString "thing"), 2)]) (by decide +kernel)) (di_rng AX.b_range de_int) (fun _ _ _ _ _ => (dg_nm (i := 2) sc.nd)) (fun _ _ _ _ _ => (dts_one (dt_cmp (od_ne ⟨rfl, rfl⟩ hr.units) (de_ix ⟨rfl, rfl⟩ (de_var (i := 0)) (de_var (i := 2))) (de_ix ⟨rfl, rfl⟩ (de_var (i := 1)) (de_var (i := 2))) (nomark _)))) (fun _ _ _ _ _ => (de_var (i := 2))) (by simp [slots, slotss])))))
theorem t_unlike_in (AX : AxT K mg base c_law_odd P_law_odd c_law P_law) : TF P w K mg base ⟨P, w, K, tw, tr, sca, ns, mg, (tabT P_law_odd P_law), sb⟩ 1 (Str.ofString "unlike_in") 2 M_unlike_in := by
  obtain ⟨f, fd, hm, F, G⟩ := o_unlike_in (P := P) (w := w) (base := base) (tw := tw) (tr := tr) (sca := sca) (ns := ns) (sb := sb) AX
  exact ⟨f, fd, _, hm, G, rfl, F.kp, F.binds (fun _ _ _ _ _ _ us hl => match us, hl with | [_, _], _ => rfl)⟩
theorem o_differences (AX : AxT K mg base c_law_odd P_law_odd c_law P_law) : ∃ f fd, mg (Str.ofString "differences") = some (.ref f) ∧ Fun K (Str.ofString "differences") (Str.ofString "differences") s_differences f fd ∧ FnOk P w K mg base (L2.CX P w) 7 f fd [(Str.ofString "one"), (Str.ofString "other")] (spD ⟨P, w, K, tw, tr, sca, ns, mg, (tabT P_law_odd P_law), sb⟩ 2 M_differences) := by
  obtain ⟨f, fd, hm, F⟩ := AX.f_differences
  refine ⟨f, fd, hm, F, fnD (N := [(Str.ofString "one"), (Str.ofString "other")]) (ps := [(Str.ofString "one"), (Str.ofString "other")]) (k := 6) (L := ⟨P, w, K, tw, tr, sca, ns, mg, (tabT P_law_odd P_law), sb⟩) (g := B_differences) F sc_differences fun cdv A outer s H E hr => ?_⟩
  have sc := sc_differences
  have hu := hu_of hr
  have hu65 := hu65_of hr
  have hx : PassX (cxOf (L2.CX P w) P w K mg base [(Str.ofString "one"), (Str.ofString "other")] (Str.ofString "differences") (defScope s_differences) f cdv A outer s H E) E := passes_call (takes_of rfl rfl rfl rfl) (fun _ _ _ _ h => h)
  have hp : PassesOwn (model P w) _ _ (cxOf (L2.CX P w) P w K mg base [(Str.ofString "one"), (Str.ofString "other")] (Str.ofString "differences") (defScope s_differences) f cdv A outer s H E).xe := passes_of rfl
  exact (dss_cons (ds_expr [] (de_call (t_check_two AX) (hr.mono (by decide)) hx (da_cons (de_var (i := 0)) (da_cons (de_var (i := 1)) da_nil))))
      (dss_one (ds_ret [] (de_tuple ⟨rfl, rfl⟩ AX.b_tuple (de_call (t_unlike_in AX) (hr.mono (by decide)) hx (da_cons (de_var (i := 0)) (da_cons (de_var (i := 1)) da_nil)))))))
theorem t_differences (AX : AxT K mg base c_law_odd P_law_odd c_law P_law) : TF P w K mg base ⟨P, w, K, tw, tr, sca, ns, mg, (tabT P_law_odd P_law), sb⟩ 7 (Str.ofString "differences") 2 M_differences := by
  obtain ⟨f, fd, hm, F, G⟩ := o_differences (P := P) (w := w) (base := base) (tw := tw) (tr := tr) (sca := sca) (ns := ns) (sb := sb) AX
  exact ⟨f, fd, _, hm, G, rfl, F.kp, F.binds (fun _ _ _ _ _ _ us hl => match us, hl with | [_, _], _ => rfl)⟩
theorem o_swapped (AX : AxT K mg base c_law_odd P_law_odd c_law P_law) : ∃ f fd, mg (Str.ofString "swapped") = some (.ref f) ∧ Fun K (Str.ofString "swapped") (Str.ofString "swapped") s_swapped f fd ∧ FnOk P w K mg base (L2.CX P w) 1 f fd [(Str.ofString "letter")] (spD ⟨P, w, K, tw, tr, sca, ns, mg, (tabT P_law_odd P_law), sb⟩ 1 M_swapped) := by
  obtain ⟨f, fd, hm, F⟩ := AX.f_swapped
  refine ⟨f, fd, hm, F, fnD (N := [(Str.ofString "letter")]) (ps := [(Str.ofString "letter")]) (k := 0) (L := ⟨P, w, K, tw, tr, sca, ns, mg, (tabT P_law_odd P_law), sb⟩) (g := B_swapped) F sc_swapped fun cdv A outer s H E hr => ?_⟩
  have sc := sc_swapped
  have hu := hu_of hr
  have hu65 := hu65_of hr
  have hx : PassX (cxOf (L2.CX P w) P w K mg base [(Str.ofString "letter")] (Str.ofString "swapped") (defScope s_swapped) f cdv A outer s H E) E := passes_call (takes_of rfl rfl rfl rfl) (fun _ _ _ _ h => h)
  have hp : PassesOwn (model P w) _ _ (cxOf (L2.CX P w) P w K mg base [(Str.ofString "letter")] (Str.ofString "swapped") (defScope s_swapped) f cdv A outer s H E).xe := passes_of rfl
  exact (dss_one (ds_ret [] (de_get hu (de_dicS [((Str.ofString "l"), (Str.ofString "r")), ((Str.ofString "r"), (Str.ofString "l"))] (dps_cons (dps_cons dps_nil))) (de_var (i := 0)) (de_var (i := 0)) ⟨rfl, rfl, rfl, rfl⟩)))
theorem t_swapped (AX : AxT K mg base c_law_odd P_law_odd c_law P_law) : TF P w K mg base ⟨P, w, K, tw, tr, sca, ns, mg, (tabT P_law_odd P_law), sb⟩ 1 (Str.ofString "swapped") 1 M_swapped := by
  obtain ⟨f, fd, hm, F, G⟩ := o_swapped (P := P) (w := w) (base := base) (tw := tw) (tr := tr) (sca := sca) (ns := ns) (sb := sb) AX
  exact ⟨f, fd, _, hm, G, rfl, F.kp, F.binds (fun _ _ _ _ _ _ us hl => match us, hl with | [_], _ => rfl)⟩
theorem o_turned_over (AX : AxT K mg base c_law_odd P_law_odd c_law P_law) : ∃ f fd, mg (Str.ofString "turned_over") = some (.ref f) ∧ Fun K (Str.ofString "turned_over") (Str.ofString "turned_over") s_turned_over f fd ∧ FnOk P w K mg base (L2.CX P w) 2 f fd [(Str.ofString "sign")] (spD ⟨P, w, K, tw, tr, sca, ns, mg, (tabT P_law_odd P_law), sb⟩ 1 M_turned_over) := by
  obtain ⟨f, fd, hm, F⟩ := AX.f_turned_over
  refine ⟨f, fd, hm, F, fnD (N := [(Str.ofString "sign"), (Str.ofString "shape"), (Str.ofString "turn"), (Str.ofString "move"), (Str.ofString "place"), (Str.ofString "second")]) (ps := [(Str.ofString "sign")]) (k := 1) (L := ⟨P, w, K, tw, tr, sca, ns, mg, (tabT P_law_odd P_law), sb⟩) (g := B_turned_over) F sc_turned_over fun cdv A outer s H E hr => ?_⟩
  have sc := sc_turned_over
  have hu := hu_of hr
  have hu65 := hu65_of hr
  have hx : PassX (cxOf (L2.CX P w) P w K mg base [(Str.ofString "sign"), (Str.ofString "shape"), (Str.ofString "turn"), (Str.ofString "move"), (Str.ofString "place"), (Str.ofString "second")] (Str.ofString "turned_over") (defScope s_turned_over) f cdv A outer s H E) E := passes_call (takes_of rfl rfl rfl rfl) (fun _ _ _ _ h => h)
  have hp : PassesOwn (model P w) _ _ (cxOf (L2.CX P w) P w K mg base [(Str.ofString "sign"), (Str.ofString "shape"), (Str.ofString "turn"), (Str.ofString "move"), (Str.ofString "place"), (Str.ofString "second")] (Str.ofString "turned_over") (defScope s_turned_over) f cdv A outer s H E).xe := passes_of rfl
  exact (dss_cons (ds_asg [] (dg_tp ⟨rfl, rfl⟩ (dgs_cons (dg_nm (i := 1) sc.nd) (dgs_cons (dg_nm (i := 2) sc.nd) (dgs_cons (dg_nm (i := 3) sc.nd) (dgs_cons (dg_nm (i := 4) sc.nd) (dgs_cons (dg_nm (i := 5) sc.nd) dgs_nil)))))) (de_var (i := 0)))
      (dss_cons (ds_if [] (dt_tru ⟨rfl, rfl⟩ (de_isi ⟨rfl, rfl⟩ isi_tuple AX.b_isinstance AX.b_tuple (de_var (i := 5)))) (dss_one (ds_asg [] (dg_nm (i := 5) sc.nd) (de_tup (da_cons (de_ix ⟨rfl, rfl⟩ (de_var (i := 5)) de_int) (da_cons (de_call (t_swapped AX) (hr.mono (by decide)) hx (da_cons (de_ix ⟨rfl, rfl⟩ (de_var (i := 5)) de_int) da_nil)) da_nil))))) dss_nil)
      (dss_one (ds_ret [] (de_tup (da_cons (de_var (i := 1)) (da_cons (de_call (t_swapped AX) (hr.mono (by decide)) hx (da_cons (de_var (i := 2)) da_nil)) (da_cons (de_call (t_swapped AX) (hr.mono (by decide)) hx (da_cons (de_var (i := 3)) da_nil)) (da_cons (de_var (i := 4)) (da_cons (de_var (i := 5)) da_nil))))))))))
theorem t_turned_over (AX : AxT K mg base c_law_odd P_law_odd c_law P_law) : TF P w K mg base ⟨P, w, K, tw, tr, sca, ns, mg, (tabT P_law_odd P_law), sb⟩ 2 (Str.ofString "turned_over") 1 M_turned_over := by
  obtain ⟨f, fd, hm, F, G⟩ := o_turned_over (P := P) (w := w) (base := base) (tw := tw) (tr := tr) (sca := sca) (ns := ns) (sb := sb) AX
  exact ⟨f, fd, _, hm, G, rfl, F.kp, F.binds (fun _ _ _ _ _ _ us hl => match us, hl with | [_], _ => rfl)⟩
theorem o_mirrored (AX : AxT K mg base c_law_odd P_law_odd c_law P_law) : ∃ f fd, mg (Str.ofString "mirrored") = some (.ref f) ∧ Fun K (Str.ofString "mirrored") (Str.ofString "mirrored") s_mirrored f fd ∧ FnOk P w K mg base (L2.CX P w) 6 f fd [(Str.ofString "sign")] (spD ⟨P, w, K, tw, tr, sca, ns, mg, (tabT P_law_odd P_law), sb⟩ 1 M_mirrored) := by
  obtain ⟨f, fd, hm, F⟩ := AX.f_mirrored
  refine ⟨f, fd, hm, F, fnD (N := [(Str.ofString "sign")]) (ps := [(Str.ofString "sign")]) (k := 5) (L := ⟨P, w, K, tw, tr, sca, ns, mg, (tabT P_law_odd P_law), sb⟩) (g := B_mirrored) F sc_mirrored fun cdv A outer s H E hr => ?_⟩
  have sc := sc_mirrored
  have hu := hu_of hr
  have hu65 := hu65_of hr
  have hx : PassX (cxOf (L2.CX P w) P w K mg base [(Str.ofString "sign")] (Str.ofString "mirrored") (defScope s_mirrored) f cdv A outer s H E) E := passes_call (takes_of rfl rfl rfl rfl) (fun _ _ _ _ h => h)
  have hp : PassesOwn (model P w) _ _ (cxOf (L2.CX P w) P w K mg base [(Str.ofString "sign")] (Str.ofString "mirrored") (defScope s_mirrored) f cdv A outer s H E).xe := passes_of rfl
  exact (dss_cons (ds_expr [] (de_call (t_check_sign AX) (hr.mono (by decide)) hx (da_cons (de_var (i := 0)) da_nil)))
      (dss_one (ds_ret [] (de_call (t_turned_over AX) (hr.mono (by decide)) hx (da_cons (de_var (i := 0)) da_nil)))))
theorem t_mirrored (AX : AxT K mg base c_law_odd P_law_odd c_law P_law) : TF P w K mg base ⟨P, w, K, tw, tr, sca, ns, mg, (tabT P_law_odd P_law), sb⟩ 6 (Str.ofString "mirrored") 1 M_mirrored := by
  obtain ⟨f, fd, hm, F, G⟩ := o_mirrored (P := P) (w := w) (base := base) (tw := tw) (tr := tr) (sca := sca) (ns := ns) (sb := sb) AX
  exact ⟨f, fd, _, hm, G, rfl, F.kp, F.binds (fun _ _ _ _ _ _ us hl => match us, hl with | [_], _ => rfl)⟩
theorem g_result {X : Cx} (AX : AxT K mg base c_law_odd P_law_odd c_law P_law) (hK : X.K = K) (hM : X.mg = mg) {he c0 c1 c2 c3 c4 c5 c6 c7 c8 c9 c10 c11 : Addr} (hhe : mg (Str.ofString "HandError") = some (.ref he)) (hc0 : mg (Str.ofString "InvalidSign") = some (.ref c0)) (hc1 : mg (Str.ofString "InvalidHand") = some (.ref c1)) (hc2 : mg (Str.ofString "InvalidSigns") = some (.ref c2)) (hc3 : mg (Str.ofString "InvalidRow") = some (.ref c3)) (hc4 : mg (Str.ofString "InvalidStyle") = some (.ref c4)) (hc5 : mg (Str.ofString "InvalidView") = some (.ref c5)) (hc6 : mg (Str.ofString "InvalidGlances") = some (.ref c6)) (hc7 : mg (Str.ofString "InvalidPlace") = some (.ref c7)) (hc8 : mg (Str.ofString "InvalidNumber") = some (.ref c8)) (hc9 : mg (Str.ofString "InvalidText") = some (.ref c9)) (hc10 : mg (Str.ofString "TooLong") = some (.ref c10)) (hc11 : mg (Str.ofString "NothingToUndo") = some (.ref c11)) {k : Nat} (hr : Room (k + 2) X.A) {g : Addr} {cdv : Value} {q : Str} :
    LamX.GivesTo X nR (Str.ofString "_law_result") (defScope s_law_result) g cdv (defBody s_law_result) (Str.ofString "call") q (TRs X.K (.ref he) [.ref c0, .ref c1, .ref c2, .ref c3, .ref c4, .ref c5, .ref c6, .ref c7, .ref c8, .ref c9, .ref c10, .ref c11]) := by
  subst hK
  subst hM
  intro f c' s H Q tl act hc h
  have sc := sc_law_result
  have hr2 := hr.deeper (envOfC (Str.ofString "_law_result") (defScope s_law_result) s.heap.objs.size g cdv)
  have hu := hu_of hr2
  refine ⟨tRsAll X.K (.ref he) [.ref c0, .ref c1, .ref c2, .ref c3, .ref c4, .ref c5, .ref c6, .ref c7, .ref c8, .ref c9, .ref c10, .ref c11] f c' q tl, ?_, res_read rfl hc h⟩
  exact pss_cons (ps_r1 sc.nd)
    (pss_cons (ps_try_keep (i := 3) (j := 1) (tb := tBody f c' q tl) rfl rfl sc.nd rfl rfl rfl rfl ⟨rfl, by decide, .inl hhe⟩ rfl (by rfl) (by decide) (by decide) (fun W pn xe tk _ => ⟨fun pins s' σ H' D I ⟨Ex, hW, h1, h2, h3⟩ => (pss_one (ps_set (i := 2) sc.nd rfl (Or.inl rfl) (act W pn xe Ex _ _ tk hW))).run pins s' σ H' D I ⟨h1, h2, h3⟩⟩))
    (pss_cons (ps_r3 (i := 1) (j := 2))
    (pss_cons (ps_set (i := 4) sc.nd rfl (by first | exact Or.inl rfl | exact Or.inr rfl) (pe_disp2 (i := 1) (pe_isx AX.b_isinstance hc0) (pe_isx AX.b_isinstance hc1)))
    (pss_cons (ps_upd2 (i := 1) (m := 4) (pe_isx AX.b_isinstance hc2) (pe_isx AX.b_isinstance hc3))
    (pss_cons (ps_upd2 (i := 1) (m := 4) (pe_isx AX.b_isinstance hc4) (pe_isx AX.b_isinstance hc5))
    (pss_cons (ps_upd2 (i := 1) (m := 4) (pe_isx AX.b_isinstance hc6) (pe_isx AX.b_isinstance hc7))
    (pss_cons (ps_upd2 (i := 1) (m := 4) (pe_isx AX.b_isinstance hc8) (pe_isx AX.b_isinstance hc9))
    (pss_cons (ps_upd2 (i := 1) (m := 4) (pe_isx AX.b_isinstance hc10) (pe_isx AX.b_isinstance hc11))
    (pss_cons ((ps_lock (ps_setLc (i := 5) rfl sc.nd rfl rfl (sw_true rfl rfl rfl (by decide +kernel)) (pi_keys (pv 4)) (blkOk_by (N := nR) (sc := defScope s_law_result) (own := [((Str.ofString "name"), 6)]) (by decide +kernel)) (fun _ _ _ _ _ => pg_name (i := 6) sc.nd rfl (by first | exact Or.inl rfl | exact Or.inr rfl)) (fun _ _ _ _ _ => pts_one (pt_truth (pe_dget hu (pv 4) (pv 6) (fun _ _ => rfl)) (by intro _; rfl))) (fun _ _ _ _ _ => pv 6))).imp (nm_imp (by decide) (by decide)))
    (pss_one (ps_r7 (i := 1) (n := 5) (pe_isxV AX.b_isinstance AX.b_ValueError) AX.b_len)))))))))))
theorem o_law_is (AX : AxT K mg base c_law_odd P_law_odd c_law P_law) : ∃ f fd, mg (Str.ofString "_law_is") = some (.ref f) ∧ Fun K (Str.ofString "_law_is") (Str.ofString "_law_is") s_law_is f fd ∧ FnOk P w K mg base (L2.CX P w) 1 f fd [(Str.ofString "found"), (Str.ofString "expected")] (spD ⟨P, w, K, tw, tr, sca, ns, mg, (tabT P_law_odd P_law), sb⟩ 2 M_law_is) := by
  obtain ⟨f, fd, hm, F⟩ := AX.f_law_is
  refine ⟨f, fd, hm, F, fnD (N := [(Str.ofString "found"), (Str.ofString "expected")]) (ps := [(Str.ofString "found"), (Str.ofString "expected")]) (k := 0) (L := ⟨P, w, K, tw, tr, sca, ns, mg, (tabT P_law_odd P_law), sb⟩) (g := B_law_is) F sc_law_is fun cdv A outer s H E hr => ?_⟩
  have sc := sc_law_is
  have hu := hu_of hr
  have hu65 := hu65_of hr
  have hx : PassX (cxOf (L2.CX P w) P w K mg base [(Str.ofString "found"), (Str.ofString "expected")] (Str.ofString "_law_is") (defScope s_law_is) f cdv A outer s H E) E := passes_call (takes_of rfl rfl rfl rfl) (fun _ _ _ _ h => h)
  have hp : PassesOwn (model P w) _ _ (cxOf (L2.CX P w) P w K mg base [(Str.ofString "found"), (Str.ofString "expected")] (Str.ofString "_law_is") (defScope s_law_is) f cdv A outer s H E).xe := passes_of rfl
  exact (dss_one (ds_ret [] (de_and (de_isi ⟨rfl, rfl⟩ isi_bool AX.b_isinstance AX.b_bool (de_var (i := 0))) (de_one (de_cmp (od_eq ⟨rfl, rfl⟩ hr.units) (de_var (i := 0)) (de_var (i := 1)) (nomark _))))))
theorem t_law_is (AX : AxT K mg base c_law_odd P_law_odd c_law P_law) : TF P w K mg base ⟨P, w, K, tw, tr, sca, ns, mg, (tabT P_law_odd P_law), sb⟩ 1 (Str.ofString "_law_is") 2 M_law_is := by
  obtain ⟨f, fd, hm, F, G⟩ := o_law_is (P := P) (w := w) (base := base) (tw := tw) (tr := tr) (sca := sca) (ns := ns) (sb := sb) AX
  exact ⟨f, fd, _, hm, G, rfl, F.kp, F.binds (fun _ _ _ _ _ _ us hl => match us, hl with | [_, _], _ => rfl)⟩
theorem t_law_draw (AX : AxT K mg base c_law_odd P_law_odd c_law P_law) : TF P w K mg base ⟨P, w, K, tw, tr, sca, ns, mg, (tabT P_law_odd P_law), sb⟩ 1 (Str.ofString "_law_draw") 3 (M_law_draw ns) := by
  obtain ⟨f, fd, hm, F⟩ := AX.f_law_draw
  refine ⟨f, fd, [(Str.ofString "script"), (Str.ofString "town"), (Str.ofString "many")], hm, F.okX sc_law_draw (fun vs H Q E h => h.1) (fun cdv A outer s H vs Q E hr h => ⟨tDraw K, ?_, draw_read (L := ⟨P, w, K, tw, tr, sca, ns, mg, (tabT P_law_odd P_law), sb⟩) rfl h⟩), rfl, F.kp, F.binds (fun _ _ _ _ _ _ us hl => match us, hl with | [_, _, _], _ => rfl)⟩
  have hu := hu_of hr
  exact pss_cons (ps_dput hu (pv 1) pe_str (pe_op op_add (pe_dget hu (pv 1) pe_str (fun _ _ => rfl)) pe_int) rfl)
    (pss_cons (ps_set (i := 3) sc_law_draw.nd rfl (Or.inl rfl) (pe_ifExp (pt_truth (pv 0) (by intro _; rfl)) (pe_op op_mod (pe_dget hu (pv 1) pe_str (fun _ _ => rfl)) (pe_callB call_len_seq (by rfl) AX.b_len PySem.boot_len (pa_cons (pv 0) pa_nil))) pe_int))
    (pss_cons (ps_set (i := 4) sc_law_draw.nd rfl (Or.inl rfl) (pe_dget2 hu (pe_dget hu (pv 1) pe_str (fun _ _ => rfl)) (pv 3) (pe_ifExp (pt_truth (pv 0) (by intro _; rfl)) (pe_ix ix_list (pv 0) (pv 3) (fun _ _ => rfl)) pe_int) ⟨rfl, rfl, rfl, rfl⟩))
    (pss_cons (ps_if (pt_cmpR op_ge (pv 4) (pe_op op_pow pe_int pe_int) (nomark _)) (pss_cons (ps_dput hu (pe_dget hu (pv 1) pe_str (fun _ _ => rfl)) (pv 3) (pe_op op_fdiv (pv 4) (pv 2)) rfl) (pss_one (ps_ret (pe_op op_mod (pv 4) (pv 2))))) pss_nil)
    (pss_cons (ps_set (i := 5) sc_law_draw.nd rfl (Or.inl rfl) (pe_op op_mod (pe_op op_add (pv 4) (pe_op op_mul pe_int (pe_dget hu (pv 1) pe_str (fun _ _ => rfl)))) pe_int))
    (pss_cons (ps_set (i := 5) sc_law_draw.nd rfl (Or.inl rfl) (pe_op op_mod (pe_op op_pow (pv 5) pe_int) pe_int))
    (pss_one (ps_ret (pe_op op_mod (pe_op op_fdiv (pe_op op_mod (pe_op op_add (pe_op op_mul (pe_op op_fdiv (pv 5) pe_int) pe_int) (pv 5)) pe_int) pe_int) (pv 2)))))))))
theorem t_law_begun (AX : AxT K mg base c_law_odd P_law_odd c_law P_law) : ∃ f fd, mg (Str.ofString "_law_begun") = some (.ref f) ∧ FnOk P w K mg base (L2.CX P w) 1 f fd [] spBegun ∧ PySem.W.keepIn K (.ref f) = true ∧ Binds K fd [] [] := by
  obtain ⟨f, fd, hm, F⟩ := AX.f_law_begun
  refine ⟨f, fd, hm, F.okX sc_law_begun (fun vs H Q E h => by rw [h.1]; rfl) (fun cdv A outer s H vs Q E hr h => ⟨tBegun, ?_, begun_read h⟩), F.kp, F.binds (fun _ _ _ _ _ _ us hl => match us, hl with | [], _ => rfl)⟩
  exact pss_one (ps_ret (pe_disp (pps_cons pe_str pe_int (pps_cons pe_str pe_dnewK pps_nil)) (by rfl) (by rfl) (fun z => by cases z) (by decide)))
theorem o_law_sign (AX : AxT K mg base c_law_odd P_law_odd c_law P_law) : ∃ f fd, mg (Str.ofString "_law_sign") = some (.ref f) ∧ Fun K (Str.ofString "_law_sign") (Str.ofString "_law_sign") s_law_sign f fd ∧ FnOk P w K mg base (L2.CX P w) 2 f fd [(Str.ofString "script"), (Str.ofString "town")] (spD ⟨P, w, K, tw, tr, sca, ns, mg, (tabT P_law_odd P_law), sb⟩ 2 (M_law_sign ns)) := by
  obtain ⟨f, fd, hm, F⟩ := AX.f_law_sign
  refine ⟨f, fd, hm, F, fnD (N := [(Str.ofString "script"), (Str.ofString "town"), (Str.ofString "shape"), (Str.ofString "turn"), (Str.ofString "move"), (Str.ofString "spot"), (Str.ofString "way"), (Str.ofString "rest")]) (ps := [(Str.ofString "script"), (Str.ofString "town")]) (k := 1) (L := ⟨P, w, K, tw, tr, sca, ns, mg, (tabT P_law_odd P_law), sb⟩) (g := (B_law_sign ns)) F sc_law_sign fun cdv A outer s H E hr => ?_⟩
  have sc := sc_law_sign
  have hu := hu_of hr
  have hu65 := hu65_of hr
  have hx : PassX (cxOf (L2.CX P w) P w K mg base [(Str.ofString "script"), (Str.ofString "town"), (Str.ofString "shape"), (Str.ofString "turn"), (Str.ofString "move"), (Str.ofString "spot"), (Str.ofString "way"), (Str.ofString "rest")] (Str.ofString "_law_sign") (defScope s_law_sign) f cdv A outer s H E) E := passes_call (takes_of rfl rfl rfl rfl) (fun _ _ _ _ h => h)
  have hp : PassesOwn (model P w) _ _ (cxOf (L2.CX P w) P w K mg base [(Str.ofString "script"), (Str.ofString "town"), (Str.ofString "shape"), (Str.ofString "turn"), (Str.ofString "move"), (Str.ofString "spot"), (Str.ofString "way"), (Str.ofString "rest")] (Str.ofString "_law_sign") (defScope s_law_sign) f cdv A outer s H E).xe := passes_of rfl
  exact (dss_cons (ds_asg [] (dg_nm (i := 2) sc.nd) (de_ix ⟨rfl, rfl⟩ de_str (de_call (t_law_draw AX) (hr.mono (by decide)) hx (da_cons (de_var (i := 0)) (da_cons (de_var (i := 1)) (da_cons de_int da_nil))))))
      (dss_cons (ds_asg [] (dg_nm (i := 3) sc.nd) (de_ix ⟨rfl, rfl⟩ de_str (de_call (t_law_draw AX) (hr.mono (by decide)) hx (da_cons (de_var (i := 0)) (da_cons (de_var (i := 1)) (da_cons de_int da_nil))))))
      (dss_cons (ds_asg [] (dg_nm (i := 4) sc.nd) (de_ix ⟨rfl, rfl⟩ de_str (de_call (t_law_draw AX) (hr.mono (by decide)) hx (da_cons (de_var (i := 0)) (da_cons (de_var (i := 1)) (da_cons de_int da_nil))))))
      (dss_cons (ds_asg [] (dg_nm (i := 5) sc.nd) (de_call (t_law_draw AX) (hr.mono (by decide)) hx (da_cons (de_var (i := 0)) (da_cons (de_var (i := 1)) (da_cons de_int da_nil)))))
      (dss_cons (ds_asg [] (dg_nm (i := 6) sc.nd) (de_call (t_law_draw AX) (hr.mono (by decide)) hx (da_cons (de_var (i := 0)) (da_cons (de_var (i := 1)) (da_cons de_int da_nil)))))
      (dss_cons (ds_if [] (PW.pt (dw_and (dt_cmp (od_eq ⟨rfl, rfl⟩ hr.units) (de_var (i := 6)) de_int (nomark _)) (dw_and1 (dt_cmp (od_ne ⟨rfl, rfl⟩ hr.units) (de_var (i := 4)) de_str (nomark _))))) (dss_one (ds_ret [] (de_tup (da_cons (de_var (i := 2)) (da_cons (de_var (i := 3)) (da_cons (de_var (i := 4)) (da_cons (de_var (i := 5)) (da_cons de_str da_nil)))))))) dss_nil)
      (dss_cons (ds_if [] (dt_cmp od_lt (de_var (i := 6)) de_int (nomark _)) (dss_one (ds_ret [] (de_tup (da_cons (de_var (i := 2)) (da_cons (de_var (i := 3)) (da_cons (de_var (i := 4)) (da_cons (de_var (i := 5)) (da_cons de_non da_nil)))))))) dss_nil)
      (dss_cons (ds_asg [] (dg_nm (i := 7) sc.nd) (de_ix ⟨rfl, rfl⟩ (de_tup (da_cons de_str (da_cons de_str (da_cons (de_var (i := 2)) da_nil)))) (de_call (t_law_draw AX) (hr.mono (by decide)) hx (da_cons (de_var (i := 0)) (da_cons (de_var (i := 1)) (da_cons de_int da_nil))))))
      (dss_one (ds_ret [] (de_tup (da_cons (de_var (i := 2)) (da_cons (de_var (i := 3)) (da_cons (de_var (i := 4)) (da_cons (de_var (i := 5)) (da_cons (de_tup (da_cons (de_var (i := 7)) (da_cons (de_ix ⟨rfl, rfl⟩ de_str (de_call (t_law_draw AX) (hr.mono (by decide)) hx (da_cons (de_var (i := 0)) (da_cons (de_var (i := 1)) (da_cons de_int da_nil))))) da_nil))) da_nil))))))))))))))))
theorem t_law_sign (AX : AxT K mg base c_law_odd P_law_odd c_law P_law) : TF P w K mg base ⟨P, w, K, tw, tr, sca, ns, mg, (tabT P_law_odd P_law), sb⟩ 2 (Str.ofString "_law_sign") 2 (M_law_sign ns) := by
  obtain ⟨f, fd, hm, F, G⟩ := o_law_sign (P := P) (w := w) (base := base) (tw := tw) (tr := tr) (sca := sca) (ns := ns) (sb := sb) AX
  exact ⟨f, fd, _, hm, G, rfl, F.kp, F.binds (fun _ _ _ _ _ _ us hl => match us, hl with | [_, _], _ => rfl)⟩
theorem o_law_good (AX : AxT K mg base c_law_odd P_law_odd c_law P_law) : ∃ f fd, mg (Str.ofString "_law_good") = some (.ref f) ∧ Fun K (Str.ofString "_law_good") (Str.ofString "_law_good") s_law_good f fd ∧ FnOk P w K mg base (L2.CX P w) 1 f fd [(Str.ofString "one")] (spD ⟨P, w, K, tw, tr, sca, ns, mg, (tabT P_law_odd P_law), sb⟩ 1 M_law_good) := by
  obtain ⟨f, fd, hm, F⟩ := AX.f_law_good
  refine ⟨f, fd, hm, F, fnD (N := [(Str.ofString "one")]) (ps := [(Str.ofString "one")]) (k := 0) (L := ⟨P, w, K, tw, tr, sca, ns, mg, (tabT P_law_odd P_law), sb⟩) (g := B_law_good) F sc_law_good fun cdv A outer s H E hr => ?_⟩
  have sc := sc_law_good
  have hu := hu_of hr
  have hu65 := hu65_of hr
  have hx : PassX (cxOf (L2.CX P w) P w K mg base [(Str.ofString "one")] (Str.ofString "_law_good") (defScope s_law_good) f cdv A outer s H E) E := passes_call (takes_of rfl rfl rfl rfl) (fun _ _ _ _ h => h)
  have hp : PassesOwn (model P w) _ _ (cxOf (L2.CX P w) P w K mg base [(Str.ofString "one")] (Str.ofString "_law_good") (defScope s_law_good) f cdv A outer s H E).xe := passes_of rfl
  exact (dss_cons (ds_if [] (dt_isN (de_ix ⟨rfl, rfl⟩ (de_var (i := 0)) de_int)) (dss_one (ds_ret [] de_bl)) dss_nil)
      (dss_cons (ds_if [] (dt_cmp (od_eq ⟨rfl, rfl⟩ hr.units) (de_ix ⟨rfl, rfl⟩ (de_var (i := 0)) de_int) de_str (nomark _)) (dss_one (ds_ret [] (de_cmp (od_ne ⟨rfl, rfl⟩ hr.units) (de_ix ⟨rfl, rfl⟩ (de_var (i := 0)) de_int) de_str (nomark _)))) dss_nil)
      (dss_one (ds_ret [] (de_or (de_cmp (od_in ⟨rfl, rfl⟩ hu65) (de_ix ⟨rfl, rfl⟩ (de_ix ⟨rfl, rfl⟩ (de_var (i := 0)) de_int) de_int) (de_tup (da_cons de_str (da_cons de_str da_nil))) (by rfl)) (de_one (de_cmp (od_eq ⟨rfl, rfl⟩ hr.units) (de_ix ⟨rfl, rfl⟩ (de_ix ⟨rfl, rfl⟩ (de_var (i := 0)) de_int) de_int) (de_ix ⟨rfl, rfl⟩ (de_var (i := 0)) de_int) (nomark _))))))))
theorem t_law_good (AX : AxT K mg base c_law_odd P_law_odd c_law P_law) : TF P w K mg base ⟨P, w, K, tw, tr, sca, ns, mg, (tabT P_law_odd P_law), sb⟩ 1 (Str.ofString "_law_good") 1 M_law_good := by
  obtain ⟨f, fd, hm, F, G⟩ := o_law_good (P := P) (w := w) (base := base) (tw := tw) (tr := tr) (sca := sca) (ns := ns) (sb := sb) AX
  exact ⟨f, fd, _, hm, G, rfl, F.kp, F.binds (fun _ _ _ _ _ _ us hl => match us, hl with | [_], _ => rfl)⟩
theorem o_law_odd (AX : AxT K mg base c_law_odd P_law_odd c_law P_law) : ∃ f fd, mg (Str.ofString "_law_odd") = some (.ref f) ∧ Fun K (Str.ofString "_law_odd") (Str.ofString "_law_odd") s_law_odd f fd ∧ FnOk P w K mg base (L2.CX P w) 9 f fd [] (spD ⟨P, w, K, tw, tr, sca, ns, mg, (tabT P_law_odd P_law), sb⟩ 0 M_law_odd) := by
  obtain ⟨he, c0, c1, c2, c3, c4, c5, c6, c7, c8, c9, c10, c11, hhe, hc0, hc1, hc2, hc3, hc4, hc5, hc6, hc7, hc8, hc9, hc10, hc11, hE⟩ := AX.err
  obtain ⟨gR, fdR, hmR, FR⟩ := AX.f_law_result
  have hbR := FR.binds (ps := [(Str.ofString "call")]) (fun _ _ _ _ _ _ us hl => match us, hl with | [_], _ => rfl)
  obtain ⟨f, fd, hm, F⟩ := AX.f_law_odd
  refine ⟨f, fd, hm, F.fun_, fnDC (N := [(Str.ofString "odds"), (Str.ofString "odd")]) (ps := []) (k := 8) (L := ⟨P, w, K, tw, tr, sca, ns, mg, (tabT P_law_odd P_law), sb⟩) (g := B_law_odd) F sc_law_odd fun A outer s H E hr => ?_⟩
  have sc := sc_law_odd
  have hu := hu_of hr
  have hu65 := hu65_of hr
  have hx : PassX (cxOf (L2.CX P w) P w K mg base [(Str.ofString "odds"), (Str.ofString "odd")] (Str.ofString "_law_odd") (defScope s_law_odd) f (.ref c_law_odd) A outer s H E) E := passes_call (takes_of rfl rfl rfl rfl) (fun _ _ _ _ h => h)
  have hp : PassesOwn (model P w) _ _ (cxOf (L2.CX P w) P w K mg base [(Str.ofString "odds"), (Str.ofString "odd")] (Str.ofString "_law_odd") (defScope s_law_odd) f (.ref c_law_odd) A outer s H E).xe := passes_of rfl
  exact (dss_cons (ds_own (i := 0) [] sc.nd (df_lst (da_cons (de_tup (da_cons de_str (da_cons de_str (da_cons de_str (da_cons de_int (da_cons de_non da_nil)))))) (da_cons (de_tup (da_cons de_str (da_cons de_str (da_cons de_str (da_cons de_int (da_cons de_non da_nil)))))) (da_cons (de_tup (da_cons de_str (da_cons de_str (da_cons de_str (da_cons de_int (da_cons de_non da_nil)))))) (da_cons (de_tup (da_cons de_str (da_cons de_str (da_cons de_str (da_cons de_int (da_cons de_non da_nil)))))) da_nil))))))
      (dss_cons (ds_own (i := 0) [0] sc.nd (df_cat (de_var (i := 0)) (de_fresh (df_lst (da_cons (de_tup (da_cons de_str (da_cons de_str (da_cons de_str (da_cons (de_neg de_int) (da_cons de_non da_nil)))))) (da_cons (de_tup (da_cons de_str (da_cons de_str (da_cons de_str (da_cons de_bl (da_cons de_non da_nil)))))) (da_cons (de_tup (da_cons de_str (da_cons de_str (da_cons de_str (da_cons de_int (da_cons de_str da_nil)))))) da_nil)))))))
      (dss_cons (ds_app (i := 0) (de_tup (da_cons de_str (da_cons de_str (da_cons de_str (da_cons de_int (da_cons de_str da_nil)))))))
      (dss_cons (ds_own (i := 0) [0] sc.nd (df_cat (de_var (i := 0)) (de_fresh (df_lst (da_cons (de_tup (da_cons de_str (da_cons de_str (da_cons de_str (da_cons de_int (da_cons (de_tup (da_cons de_str (da_cons de_str da_nil))) da_nil)))))) (da_cons (de_tup (da_cons de_str (da_cons de_str (da_cons de_str (da_cons de_int (da_cons (de_tup (da_cons de_str (da_cons de_str da_nil))) da_nil)))))) (da_cons de_non (da_cons (de_tup da_nil) da_nil))))))))
      (dss_cons (ds_app (i := 0) (de_tup (da_cons de_str (da_cons de_str (da_cons de_str (da_cons de_int (da_cons (de_tup (da_cons de_str (da_cons de_str da_nil))) da_nil)))))))
      (dss_cons (ds_own (i := 0) [0] sc.nd (df_cat (de_var (i := 0)) (de_fresh (df_lst (da_cons (de_tup (da_cons de_str (da_cons de_str (da_cons de_str (da_cons de_int da_nil))))) (da_cons (de_fresh (df_lst (da_cons de_str (da_cons de_str (da_cons de_str (da_cons de_int (da_cons de_non da_nil))))))) (da_cons (de_tup (da_cons de_str (da_cons de_str (da_cons de_str (da_cons de_int (da_cons de_non da_nil)))))) da_nil)))))))
      (dss_cons (ds_app (i := 0) (de_tup (da_cons de_str (da_cons de_str (da_cons de_str (da_cons de_int (da_cons (de_fresh (df_lst (da_cons de_str (da_cons de_str da_nil)))) da_nil)))))))
      (dss_cons (ds_own (i := 0) [0] sc.nd (df_cat (de_var (i := 0)) (de_fresh (df_lst (da_cons (de_tup (da_cons de_str (da_cons de_str (da_cons de_str (da_cons de_int (da_cons de_non da_nil)))))) (da_cons (de_tup (da_cons de_str (da_cons de_str (da_cons de_str (da_cons de_str (da_cons de_non da_nil)))))) (da_cons (de_tup (da_cons de_str (da_cons de_str (da_cons de_str (da_cons de_int (da_cons (de_tup (da_cons de_str da_nil)) da_nil)))))) (da_cons de_str (da_cons de_int da_nil)))))))))
      (dss_cons (ds_for [0] (di_seq ⟨rfl, rfl⟩ (de_var (i := 0))) (dg_nm (i := 1) sc.nd) (dss_one (ds_if [] (PW.pt (dw_or (dt_not (dt_tru ⟨rfl, rfl⟩ (de_call (t_law_is AX) (hr.mono (by decide)) hx (da_cons (de_call (t_is_sign AX) (hr.mono (by decide)) hx (da_cons (de_var (i := 1)) da_nil)) (da_cons de_bl da_nil))))) (dw_or1 (dt_cmp (od_ne ⟨rfl, rfl⟩ hr.units) (de_res (k := 6) (a := (Str.ofString "call")) (Ng := nR) ⟨rfl, rfl⟩ hE hmR FR hbR sc_law_result rfl (by first | exact Or.inl rfl | exact Or.inr (Or.inl rfl)) (fun cdv => g_result AX rfl rfl hhe hc0 hc1 hc2 hc3 hc4 hc5 hc6 hc7 hc8 hc9 hc10 hc11 (hr.mono (by decide) : Room 8 _)) AX.tb_law_odd rfl (.head _) (tabU_law_odd AX.ne_law_odd_law) (hr.mono (by decide)) (LamX.lamS_by (show LamX.lamSB (defScope s_law_odd) _ = true by decide +kernel)) rfl (fun _ _ _ _ _ => rfl) (fun _ _ _ _ _ _ _ hr => by
        have hu := hu_of hr
        have hu65 := hu65_of hr
        exact (de_call (t_mirrored AX) (hr.mono (by decide)) lamPass (da_cons (de_var (i := 1)) da_nil)))) (de_tup (da_cons de_str da_nil)) (nomark _))))) (dss_one (ds_ret [] de_bl)) dss_nil)) hp)
      (dss_one (ds_ret [] (de_and (de_call (t_law_is AX) (hr.mono (by decide)) hx (da_cons (de_call (t_is_sign AX) (hr.mono (by decide)) hx (da_cons (de_tup (da_cons de_str (da_cons de_str (da_cons de_str (da_cons de_int (da_cons (de_tup (da_cons de_str (da_cons de_str da_nil))) da_nil)))))) da_nil)) (da_cons de_bl da_nil))) (de_one (de_call (t_law_is AX) (hr.mono (by decide)) hx (da_cons (de_call (t_is_sign AX) (hr.mono (by decide)) hx (da_cons (de_tup (da_cons de_str (da_cons de_str (da_cons de_str (da_cons de_int (da_cons de_str da_nil)))))) da_nil)) (da_cons de_bl da_nil))))))))))))))))
theorem t_law_odd (AX : AxT K mg base c_law_odd P_law_odd c_law P_law) : TF P w K mg base ⟨P, w, K, tw, tr, sca, ns, mg, (tabT P_law_odd P_law), sb⟩ 9 (Str.ofString "_law_odd") 0 M_law_odd := by
  obtain ⟨f, fd, hm, F, G⟩ := o_law_odd (P := P) (w := w) (base := base) (tw := tw) (tr := tr) (sca := sca) (ns := ns) (sb := sb) AX
  exact ⟨f, fd, _, hm, G, rfl, F.kp, F.binds (fun _ _ _ _ _ _ us hl => match us, hl with | [], _ => rfl)⟩
theorem o_law_many (AX : AxT K mg base c_law_odd P_law_odd c_law P_law) : ∃ f fd, mg (Str.ofString "_law_many") = some (.ref f) ∧ Fun K (Str.ofString "_law_many") (Str.ofString "_law_many") s_law_many f fd ∧ FnOk P w K mg base (L2.CX P w) 1 f fd [] (spD ⟨P, w, K, tw, tr, sca, ns, mg, (tabT P_law_odd P_law), sb⟩ 0 M_law_many) := by
  obtain ⟨f, fd, hm, F⟩ := AX.f_law_many
  refine ⟨f, fd, hm, F, fnD (N := [(Str.ofString "found"), (Str.ofString "shape"), (Str.ofString "move"), (Str.ofString "rest")]) (ps := []) (k := 0) (L := ⟨P, w, K, tw, tr, sca, ns, mg, (tabT P_law_odd P_law), sb⟩) (g := B_law_many) F sc_law_many fun cdv A outer s H E hr => ?_⟩
  have sc := sc_law_many
  have hu := hu_of hr
  have hu65 := hu65_of hr
  have hx : PassX (cxOf (L2.CX P w) P w K mg base [(Str.ofString "found"), (Str.ofString "shape"), (Str.ofString "move"), (Str.ofString "rest")] (Str.ofString "_law_many") (defScope s_law_many) f cdv A outer s H E) E := passes_call (takes_of rfl rfl rfl rfl) (fun _ _ _ _ h => h)
  have hp : PassesOwn (model P w) _ _ (cxOf (L2.CX P w) P w K mg base [(Str.ofString "found"), (Str.ofString "shape"), (Str.ofString "move"), (Str.ofString "rest")] (Str.ofString "_law_many") (defScope s_law_many) f cdv A outer s H E).xe := passes_of rfl
  exact (dss_cons (ds_asg [] (dg_nm (i := 0) sc.nd) de_int)
      (dss_cons (ds_for [] (di_seq ⟨rfl, rfl⟩ de_str) (dg_nm (i := 1) sc.nd) (dss_one (ds_for [] (di_seq ⟨rfl, rfl⟩ de_str) (dg_nm (i := 2) sc.nd) (dss_cons (ds_asg [] (dg_nm (i := 0) sc.nd) (de_bin (od_add ⟨rfl, rfl⟩) (de_bin (od_add ⟨rfl, rfl⟩) (de_var (i := 0)) de_int) (de_if (dt_cmp (od_ne ⟨rfl, rfl⟩ hr.units) (de_var (i := 2)) de_str (nomark _)) de_int de_int)))
      (dss_one (ds_asg [] (dg_nm (i := 0) sc.nd) (de_bin (od_add ⟨rfl, rfl⟩) (de_var (i := 0)) (de_bin od_mul de_int (de_len ⟨rfl, rfl⟩ AX.b_len (de_fresh (df_lc (own := [((Str.ofString "rest"), 3)]) sc.nd (blkOk_by (N := [(Str.ofString "found"), (Str.ofString "shape"), (Str.ofString "move"), (Str.ofString "rest")]) (sc := defScope s_law_many) (own := [((Str.ofString "rest"), 3)]) (by decide +kernel)) (di_seq ⟨rfl, rfl⟩ de_str) (fun _ _ _ _ _ => (dg_nm (i := 3) sc.nd)) (fun _ _ _ _ _ => (dts_one (dt_cmp (od_in ⟨rfl, rfl⟩ hu65) (de_var (i := 3)) (de_tup (da_cons de_str (da_cons de_str (da_cons (de_var (i := 1)) da_nil)))) (by rfl)))) (fun _ _ _ _ _ => de_int) (by simp [slots, slotss]))))))))) hp)) hp)
      (dss_one (ds_ret [] (de_bin od_mul (de_bin od_mul (de_var (i := 0)) de_int) de_int)))))
theorem t_law_many (AX : AxT K mg base c_law_odd P_law_odd c_law P_law) : TF P w K mg base ⟨P, w, K, tw, tr, sca, ns, mg, (tabT P_law_odd P_law), sb⟩ 1 (Str.ofString "_law_many") 0 M_law_many := by
  obtain ⟨f, fd, hm, F, G⟩ := o_law_many (P := P) (w := w) (base := base) (tw := tw) (tr := tr) (sca := sca) (ns := ns) (sb := sb) AX
  exact ⟨f, fd, _, hm, G, rfl, F.kp, F.binds (fun _ _ _ _ _ _ us hl => match us, hl with | [], _ => rfl)⟩
theorem t_law (AX : AxT K mg base c_law_odd P_law_odd c_law P_law) (hg : ∀ ns : List Int, ns.length ≤ 63 → ∃ τ', B_law ns (.v dScr :: .v dTown :: List.replicate 9 .no) ⟨0, []⟩ = .ok (.rt (.bool true)) τ') {f : Addr} {fd : FuncData} (F : FunC K "law" "law" s_law f fd c_law) : FnOk P w K mg base (L2.CX P w) 10 f fd ["script"] (spLaw K (tabT P_law_odd P_law)) := by
  obtain ⟨he, c0, c1, c2, c3, c4, c5, c6, c7, c8, c9, c10, c11, hhe, hc0, hc1, hc2, hc3, hc4, hc5, hc6, hc7, hc8, hc9, hc10, hc11, hE⟩ := AX.err
  obtain ⟨gR, fdR, hmR, FR⟩ := AX.f_law_result
  have hbR := FR.binds (ps := [(Str.ofString "call")]) (fun _ _ _ _ _ _ us hl => match us, hl with | [_], _ => rfl)
  obtain ⟨f0, fd0, hm0, G0, k0, b0⟩ := t_law_begun (P := P) (w := w) (base := base) AX
  refine F.okX sc_law (fun vs H Q E h => by obtain ⟨a, ns, rfl, _⟩ := h; rfl) (fun A outer s H vs Q E hr h => ?_)
  obtain ⟨a, ns, rfl, hS, hT, hn, q⟩ := h
  have sc := sc_law
  have hu := hu_of hr
  have hu65 := hu65_of hr
  have hx : PassX (cxOf (L2.CX P w) P w K mg base [(Str.ofString "script"), (Str.ofString "town"), (Str.ofString "k"), (Str.ofString "sign_here"), (Str.ofString "other"), (Str.ofString "thing"), (Str.ofString "there"), (Str.ofString "hand_here"), (Str.ofString "due"), (Str.ofString "odd"), (Str.ofString "answers")] (Str.ofString "law") (defScope s_law) f (.ref c_law) A outer s H E) E := passes_call (takes_of rfl rfl rfl rfl) (fun _ _ _ _ h => h)
  have hp : PassesOwn (model P w) _ _ (cxOf (L2.CX P w) P w K mg base [(Str.ofString "script"), (Str.ofString "town"), (Str.ofString "k"), (Str.ofString "sign_here"), (Str.ofString "other"), (Str.ofString "thing"), (Str.ofString "there"), (Str.ofString "hand_here"), (Str.ofString "due"), (Str.ofString "odd"), (Str.ofString "answers")] (Str.ofString "law") (defScope s_law) f (.ref c_law) A outer s H E).xe := passes_of rfl
  refine ⟨_, pss_cons (ps_set (i := 1) sc.nd rfl (Or.inl rfl) (pe_call0 G0 (hr.mono (by decide)) (by rfl) hm0 k0 b0 .nil hx)) (pss_ex (t := fun i : Addr × Addr × Bool => tS ⟨P, w, K, i.1, i.2.1, a, ns, mg, (tabT P_law_odd P_law), i.2.2⟩ (B_law ns) E) fun i => ?_), law_read rfl hS hT hn q (hg ns hn)⟩
  obtain ⟨tw, tr, sb⟩ := i
  exact (dss_cons (ds_for [] (di_rng AX.b_range de_int) (dg_nm (i := 2) sc.nd) (dss_cons (ds_asg [] (dg_tp ⟨rfl, rfl⟩ (dgs_cons (dg_nm (i := 3) sc.nd) (dgs_cons (dg_nm (i := 4) sc.nd) dgs_nil))) (de_tup (da_cons (de_call (t_law_sign AX) (hr.mono (by decide)) hx (da_cons (de_var (i := 0)) (da_cons (de_var (i := 1)) da_nil))) (da_cons (de_call (t_law_sign AX) (hr.mono (by decide)) hx (da_cons (de_var (i := 0)) (da_cons (de_var (i := 1)) da_nil))) da_nil))))
      (dss_cons (ds_if [] (PW.pt (dw_or (dt_not (dt_tru ⟨rfl, rfl⟩ (de_call (t_law_is AX) (hr.mono (by decide)) hx (da_cons (de_callK0 (tk_is_sign_0 AX) (hr.mono (by decide)) hx (dk_cons (de_var (i := 3)) dk_nil)) (da_cons de_bl da_nil))))) (dw_or1 (dt_not (dt_tru ⟨rfl, rfl⟩ (de_call (t_law_is AX) (hr.mono (by decide)) hx (da_cons (de_call (t_is_sign AX) (hr.mono (by decide)) hx (da_cons (de_listA ⟨rfl, rfl⟩ rfl AX.b_list (de_var (i := 3))) da_nil)) (da_cons de_bl da_nil)))))))) (dss_one (ds_ret [] de_bl)) dss_nil)
      (dss_cons (ds_for [] (di_rng AX.b_range de_int) (dg_nm (i := 5) sc.nd) (dss_cons (ds_asg [] (dg_nm (i := 6) sc.nd) (de_bin (od_add ⟨rfl, rfl⟩) (de_bin (od_add ⟨rfl, rfl⟩) (de_sl ⟨rfl, rfl⟩ (de_var (i := 3)) do_none (do_some (de_var (i := 5)))) (de_tup (da_cons (de_ix ⟨rfl, rfl⟩ (de_var (i := 4)) (de_var (i := 5))) da_nil))) (de_sl ⟨rfl, rfl⟩ (de_var (i := 3)) (do_some (de_bin (od_add ⟨rfl, rfl⟩) (de_var (i := 5)) de_int)) do_none)))
      (dss_one (ds_if [] (dt_not (dt_tru ⟨rfl, rfl⟩ (de_call (t_law_is AX) (hr.mono (by decide)) hx (da_cons (de_call (t_is_sign AX) (hr.mono (by decide)) hx (da_cons (de_var (i := 6)) da_nil)) (da_cons (de_call (t_law_good AX) (hr.mono (by decide)) hx (da_cons (de_var (i := 6)) da_nil)) da_nil))))) (dss_one (ds_ret [] de_bl)) dss_nil))) hp)
      (dss_cons (ds_asg [] (dg_nm (i := 7) sc.nd) (de_tup (da_cons (de_ix ⟨rfl, rfl⟩ de_str (de_call (t_law_draw AX) (hr.mono (by decide)) hx (da_cons (de_var (i := 0)) (da_cons (de_var (i := 1)) (da_cons de_int da_nil))))) (da_cons (de_ix ⟨rfl, rfl⟩ de_str (de_call (t_law_draw AX) (hr.mono (by decide)) hx (da_cons (de_var (i := 0)) (da_cons (de_var (i := 1)) (da_cons de_int da_nil))))) da_nil))))
      (dss_cons (ds_asg [] (dg_nm (i := 8) sc.nd) (de_call (t_law_good AX) (hr.mono (by decide)) hx (da_cons (de_bin (od_add ⟨rfl, rfl⟩) (de_sl ⟨rfl, rfl⟩ (de_var (i := 3)) do_none (do_some de_int)) (de_tup (da_cons (de_var (i := 7)) da_nil))) da_nil)))
      (dss_cons (ds_if [] (dt_not (dt_tru ⟨rfl, rfl⟩ (de_call (t_law_is AX) (hr.mono (by decide)) hx (da_cons (de_callK0 (tk_can_rest_0 AX) (hr.mono (by decide)) hx (dk_cons (de_var (i := 3)) (dk_cons (de_var (i := 7)) dk_nil))) (da_cons (de_var (i := 8)) da_nil))))) (dss_one (ds_ret [] de_bl)) dss_nil)
      (dss_cons (ds_for [] (di_seq ⟨rfl, rfl⟩ (de_tup (da_cons de_non (da_cons de_str (da_cons (de_tup (da_cons de_str da_nil)) (da_cons (de_tup (da_cons de_str (da_cons de_str da_nil))) (da_cons (de_tup (da_cons de_str (da_cons de_str da_nil))) (da_cons (de_fresh (df_lst (da_cons de_str (da_cons de_str da_nil)))) (da_cons (de_tup (da_cons de_str (da_cons de_str (da_cons de_str da_nil)))) (da_cons (de_tup (da_cons de_str (da_cons de_str da_nil))) da_nil)))))))))) (dg_nm (i := 9) sc.nd) (dss_one (ds_if [] (dt_cmp (od_ne ⟨rfl, rfl⟩ hr.units) (de_res (k := 6) (a := (Str.ofString "call")) (Ng := nR) ⟨rfl, rfl⟩ hE hmR FR hbR sc_law_result rfl (by first | exact Or.inl rfl | exact Or.inr (Or.inl rfl)) (fun cdv => g_result AX rfl rfl hhe hc0 hc1 hc2 hc3 hc4 hc5 hc6 hc7 hc8 hc9 hc10 hc11 (hr.mono (by decide) : Room 8 _)) AX.tb_law rfl (.tail _ (.head _)) (tabU_law AX.ne_law_odd_law) (hr.mono (by decide)) (LamX.lamS_by (show LamX.lamSB (defScope s_law) _ = true by decide +kernel)) rfl (fun _ _ _ _ _ => rfl) (fun _ _ _ _ _ _ _ hr => by
        have hu := hu_of hr
        have hu65 := hu65_of hr
        exact (de_call (t_can_rest AX) (hr.mono (by decide)) lamPass (da_cons (de_var (i := 3)) (da_cons (de_var (i := 9)) da_nil))))) (de_tup (da_cons de_str da_nil)) (nomark _)) (dss_one (ds_ret [] de_bl)) dss_nil)) hp)
      (dss_cons (ds_own (i := 10) [] sc.nd (df_lst (da_cons (de_res (k := 6) (a := (Str.ofString "call")) (Ng := nR) ⟨rfl, rfl⟩ hE hmR FR hbR sc_law_result rfl (by first | exact Or.inl rfl | exact Or.inr (Or.inl rfl)) (fun cdv => g_result AX rfl rfl hhe hc0 hc1 hc2 hc3 hc4 hc5 hc6 hc7 hc8 hc9 hc10 hc11 (hr.mono (by decide) : Room 8 _)) AX.tb_law rfl (.tail _ (.head _)) (tabU_law AX.ne_law_odd_law) (hr.mono (by decide)) (LamX.lamS_by (show LamX.lamSB (defScope s_law) _ = true by decide +kernel)) rfl (fun _ _ _ _ _ => rfl) (fun _ _ _ _ _ _ _ hr => by
        have hu := hu_of hr
        have hu65 := hu65_of hr
        exact (de_call (t_can_rest AX) (hr.mono (by decide)) lamPass (da_cons de_non (da_cons de_non da_nil))))) da_nil)))
      (dss_cons (ds_app (i := 10) (de_res (k := 7) (a := (Str.ofString "call")) (Ng := nR) ⟨rfl, rfl⟩ hE hmR FR hbR sc_law_result rfl (by first | exact Or.inl rfl | exact Or.inr (Or.inl rfl)) (fun cdv => g_result AX rfl rfl hhe hc0 hc1 hc2 hc3 hc4 hc5 hc6 hc7 hc8 hc9 hc10 hc11 (hr.mono (by decide) : Room 9 _)) AX.tb_law rfl (.tail _ (.head _)) (tabU_law AX.ne_law_odd_law) (hr.mono (by decide)) (LamX.lamS_by (show LamX.lamSB (defScope s_law) _ = true by decide +kernel)) rfl (fun _ _ _ _ _ => rfl) (fun _ _ _ _ _ _ _ hr => by
        have hu := hu_of hr
        have hu65 := hu65_of hr
        exact (de_call (t_differences AX) (hr.mono (by decide)) lamPass (da_cons de_non (da_cons (de_var (i := 3)) da_nil))))))
      (dss_one (ds_if [10] (dt_cmp (od_ne ⟨rfl, rfl⟩ hr.units) (de_bin (od_add ⟨rfl, rfl⟩) (de_var (i := 10)) (de_fresh (df_lst (da_cons (de_res (k := 7) (a := (Str.ofString "call")) (Ng := nR) ⟨rfl, rfl⟩ hE hmR FR hbR sc_law_result rfl (by first | exact Or.inl rfl | exact Or.inr (Or.inl rfl)) (fun cdv => g_result AX rfl rfl hhe hc0 hc1 hc2 hc3 hc4 hc5 hc6 hc7 hc8 hc9 hc10 hc11 (hr.mono (by decide) : Room 9 _)) AX.tb_law rfl (.tail _ (.head _)) (tabU_law AX.ne_law_odd_law) (hr.mono (by decide)) (LamX.lamS_by (show LamX.lamSB (defScope s_law) _ = true by decide +kernel)) rfl (fun _ _ _ _ _ => rfl) (fun _ _ _ _ _ _ _ hr => by
        have hu := hu_of hr
        have hu65 := hu65_of hr
        exact (de_call (t_differences AX) (hr.mono (by decide)) lamPass (da_cons (de_var (i := 3)) (da_cons (de_sl ⟨rfl, rfl⟩ (de_var (i := 3)) do_none (do_some de_int)) da_nil))))) da_nil)))) (de_bin (od_rep ⟨rfl, rfl⟩) (de_fresh (df_lst (da_cons (de_tup (da_cons de_str da_nil)) da_nil))) de_int) (nomark _)) (dss_one (ds_ret [] de_bl)) dss_nil))))))))))) hp)
      (dss_one (ds_ret [] (de_and (de_cmp (od_eq ⟨rfl, rfl⟩ hr.units) (de_call0 (t_count_signs AX) (hr.mono (by decide)) hx) (de_call0 (t_law_many AX) (hr.mono (by decide)) hx) (nomark _)) (de_one (de_call0 (t_law_odd AX) (hr.mono (by decide)) hx))))))
end
end SG

namespace SG
open PySem PySem.Spec PyProof.Rows L2
/-! ### signs -/
inductive Sec where
  | no
  | m
  | h (s t : Fin 4)
  deriving DecidableEq
structure Sg where
  sh : Fin 4
  tn : Fin 4
  mv : Fin 5
  pl : Fin 3
  se : Sec
  deriving DecidableEq
def shS (i : Fin 4) : Str := match i with | 0 => "a" | 1 => "b" | 2 => "c" | 3 => "d"
def tnS (i : Fin 4) : Str := match i with | 0 => "i" | 1 => "o" | 2 => "l" | 3 => "r"
def mvS (i : Fin 5) : Str := match i with | 0 => "n" | 1 => "u" | 2 => "w" | 3 => "l" | 4 => "r"
def plD (i : Fin 3) : D := .int (i.val : Int)
def secD : Sec → D
  | .no => .none
  | .m => .str "m"
  | .h s t => .tuple [.str (shS s), .str (tnS t)]
def sd (s : Sg) : D := .tuple [.str (shS s.sh), .str (tnS s.tn), .str (mvS s.mv), plD s.pl, secD s.se]
def goodB (sh : Fin 4) (mv : Fin 5) : Sec → Bool
  | .no => true
  | .m => mv != 0
  | .h s _ => decide (s.val < 2) || s == sh
def Sg.good (s : Sg) : Bool := goodB s.sh s.mv s.se
theorem entry0 (i : Fin 4) (τ : S) : M_is_entry [.int 0, .str (shS i)] τ = .ok (.bool true) τ := by
  match i with | 0 => kernel_rfl | 1 => kernel_rfl | 2 => kernel_rfl | 3 => kernel_rfl
theorem entry1 (i : Fin 4) (τ : S) : M_is_entry [.int 1, .str (tnS i)] τ = .ok (.bool true) τ := by
  match i with | 0 => kernel_rfl | 1 => kernel_rfl | 2 => kernel_rfl | 3 => kernel_rfl
theorem entry2 (i : Fin 5) (τ : S) : M_is_entry [.int 2, .str (mvS i)] τ = .ok (.bool true) τ := by
  match i with | 0 => kernel_rfl | 1 => kernel_rfl | 2 => kernel_rfl | 3 => kernel_rfl | 4 => kernel_rfl
theorem entry3 (i : Fin 3) (τ : S) : M_is_entry [.int 3, plD i] τ = .ok (.bool true) τ := by
  match i with | 0 => kernel_rfl | 1 => kernel_rfl | 2 => kernel_rfl
theorem entry4 (s : Sec) (τ : S) : M_is_entry [.int 4, secD s] τ = .ok (.bool true) τ := by
  have h : ∀ s t : Fin 4, M_is_entry [.int 4, secD (.h s t)] τ = .ok (.bool true) τ := by
    intro s t
    match s, t with
    | 0, 0 => kernel_rfl | 0, 1 => kernel_rfl | 0, 2 => kernel_rfl | 0, 3 => kernel_rfl
    | 1, 0 => kernel_rfl | 1, 1 => kernel_rfl | 1, 2 => kernel_rfl | 1, 3 => kernel_rfl
    | 2, 0 => kernel_rfl | 2, 1 => kernel_rfl | 2, 2 => kernel_rfl | 2, 3 => kernel_rfl
    | 3, 0 => kernel_rfl | 3, 1 => kernel_rfl | 3, 2 => kernel_rfl | 3, 3 => kernel_rfl
  match s with
  | .no => kernel_rfl
  | .m => kernel_rfl
  | .h s t => exact h s t
theorem tog (sh : Fin 4) (mv : Fin 5) (se : Sec) (τ : S) : M_do_go_together [.str (shS sh), .str (mvS mv), secD se] τ = .ok (.bool (goodB sh mv se)) τ := by
  have h : ∀ s t : Fin 4, M_do_go_together [.str (shS sh), .str (mvS mv), secD (.h s t)] τ = .ok (.bool (goodB sh mv (.h s t))) τ := by
    intro s t
    match s, t with
    | 0, 0 => kernel_rfl
    | 0, 1 => kernel_rfl
    | 0, 2 => kernel_rfl
    | 0, 3 => kernel_rfl
    | 1, 0 => kernel_rfl
    | 1, 1 => kernel_rfl
    | 1, 2 => kernel_rfl
    | 1, 3 => kernel_rfl
    | 2, 0 => match sh with | 0 => kernel_rfl | 1 => kernel_rfl | 2 => kernel_rfl | 3 => kernel_rfl
    | 2, 1 => match sh with | 0 => kernel_rfl | 1 => kernel_rfl | 2 => kernel_rfl | 3 => kernel_rfl
    | 2, 2 => match sh with | 0 => kernel_rfl | 1 => kernel_rfl | 2 => kernel_rfl | 3 => kernel_rfl
    | 2, 3 => match sh with | 0 => kernel_rfl | 1 => kernel_rfl | 2 => kernel_rfl | 3 => kernel_rfl
    | 3, 0 => match sh with | 0 => kernel_rfl | 1 => kernel_rfl | 2 => kernel_rfl | 3 => kernel_rfl
    | 3, 1 => match sh with | 0 => kernel_rfl | 1 => kernel_rfl | 2 => kernel_rfl | 3 => kernel_rfl
    | 3, 2 => match sh with | 0 => kernel_rfl | 1 => kernel_rfl | 2 => kernel_rfl | 3 => kernel_rfl
    | 3, 3 => match sh with | 0 => kernel_rfl | 1 => kernel_rfl | 2 => kernel_rfl | 3 => kernel_rfl
  match se with
  | .no => kernel_rfl
  | .m => match mv with | 0 => kernel_rfl | 1 => kernel_rfl | 2 => kernel_rfl | 3 => kernel_rfl | 4 => kernel_rfl
  | .h s t => exact h s t
theorem is_sign_ok (s : Sg) (τ : S) : M_is_sign [sd s] τ = .ok (.bool s.good) τ := by
  unfold M_is_sign B_is_sign sd
  simp only [v_k_ret, v_iteT, v_iteF, v_k_if, v_k_expr, v_k_asg, v_k_par, v_k_own, v_k_app, v_k_1, v_k_2b, v_k_2, v_k_consb, v_k_cons, v_k_tup, v_k_lst, v_k_asB, v_k_ofB, v_k_tru, v_k_and, v_k_or, v_k_not, v_k_bAnd, v_k_bOr, v_k_bNot, v_k_eIf, v_k_chb, v_k_ch, v_k_oSome, v_k_slc, v_k_slb, v_k_sl, v_k_call, v_k_iSeq, v_k_iRng, v_k_iEnum, v_k_iZipb, v_k_iZip, v_k_comp, v_k_compc, v_iteCT, v_iteCF, v_k_compb, v_k_for, v_bind_ok, v_bind_ex, v_opt, v_seq, v_seqK_nx, v_seqK_rt, v_seqK_bk, v_seqK_ct, v_next, v_brk, v_cont, v_ret, v_retN, v_if, v_expr, v_nxO, v_asg, v_asgN, v_asgT, v_asgs0, v_asgsN, v_par, v_setAll0, v_setAllN, v_own, v_app, v_appO, v_var, v_varO, v_C, v_1, v_2, v_nil, v_cons, v_tup, v_lst, v_F, v_asB, v_ofB, v_tru, v_and, v_or, v_andO, v_orO, v_not, v_bAnd, v_bOr, v_bNot, v_eIf, v_chain, v_chO, v_oNone, v_oSome, v_sl, v_call, v_iSeq, v_iRng, v_iEnum, v_iZip, v_yes, v_comp, v_comp0, v_compO, v_noex, v_noOwn0, v_noOwnV, v_noOwnN, v_noOwnL, v_wp0, v_wpN, v_fz0, v_fzN, v_fz1, v_fzO_ol, v_fzO_v, v_fzO_no, v_for, v_run, v_fin_nx, v_fin_rt, v_loop0, v_lpO, v_lpK_nx, v_lpK_ct, v_lpK_bk, v_lpK_rt, v_iteAnd, v_iteOr, v_iteAndB, v_iteOrB, v_dB, v_dTru, v_omap, v_obind, v_dInt, v_lenT, v_lenL, v_isN0, v_isNs, v_isNt, v_isNl, v_isNi, v_notN0, v_notNs, v_notNt, v_notNl, v_notNi, v_isiTT, v_isiTL, v_isiTN, v_isiTS, v_isiTI, v_isiLT, v_isiLL, v_add, v_sub, v_lt, v_le, v_gt, v_ge, v_eqI, v_neI, v_all, v_dBs0, v_dBsN, v_tupL, v_tupT, v_listL, v_listT, v_itemsL, v_itemsT, v_rng5, v_rng0, v_rng1, v_rng2, v_rng3, v_rng4, v_rng6, v_rng7, v_rng8, v_rng9, v_rng10, v_rng11, v_rng12, v_rng5l, v_enum5, v_ixT0, v_ixT1, v_ixT2, v_ixT3, v_ixT4, v_ext, v_extO, v_k_ext, v_olD, v_olV, v_ixO, v_ixOO, v_lenO, v_lenOO, v_neg, v_lwT, v_lwF, v_lwK_nx, v_lwK_ct, v_lwK_bk, v_lwK_rt, v_while, v_par3, v_k_par3b, v_k_par3c, v_aug, v_augO, v_k_aug, v_augN, v_addI, v_cat, v_k_cat, v_k_catb, v_catO, v_ownD, v_odD, v_inD, v_inDO, v_k_inD, v_getD, v_getDO, v_k_getD, v_putD, v_putDO, v_k_putD, v_k_putDb, v_res, v_resOk, v_resEx, v_resN, v_raise, List.map_cons, List.map_nil, List.cons_append, List.nil_append, List.length_cons, List.length_nil, List.getElem?_cons_zero, List.getElem?_cons_succ, List.set_cons_zero, List.set_cons_succ, List.replicate_succ, List.replicate_zero, Nat.reduceAdd, Nat.reduceSub, ↓reduceIte, Bool.not_true, Bool.not_false, Bool.false_eq_true, Nat.zero_add, reduceCtorEq, LIM, Int.cast_ofNat_Int, Int.reduceEq, Int.reduceLT, Int.reduceLE, decide_true, decide_false, Nat.reduceLeDiff, List.all_cons, List.all_nil, id_eq, Bool.and_self, Bool.and_true, Bool.true_and, Bool.false_and, Bool.and_false, Bool.true_or, Bool.or_true, Bool.false_or, Bool.or_false, Bool.or_self, Nat.reduceLT, v_compN, v_enum5, entry0, entry1, entry2, entry3, entry4, tog]
  rfl
theorem check_sign_ok (s : Sg) (h : s.good = true) (τ : S) : M_check_sign [sd s] τ = .ok .none τ := by
  unfold M_check_sign B_check_sign
  simp only [v_k_ret, v_iteT, v_iteF, v_k_if, v_k_expr, v_k_asg, v_k_par, v_k_own, v_k_app, v_k_1, v_k_2b, v_k_2, v_k_consb, v_k_cons, v_k_tup, v_k_lst, v_k_asB, v_k_ofB, v_k_tru, v_k_and, v_k_or, v_k_not, v_k_bAnd, v_k_bOr, v_k_bNot, v_k_eIf, v_k_chb, v_k_ch, v_k_oSome, v_k_slc, v_k_slb, v_k_sl, v_k_call, v_k_iSeq, v_k_iRng, v_k_iEnum, v_k_iZipb, v_k_iZip, v_k_comp, v_k_compc, v_iteCT, v_iteCF, v_k_compb, v_k_for, v_bind_ok, v_bind_ex, v_opt, v_seq, v_seqK_nx, v_seqK_rt, v_seqK_bk, v_seqK_ct, v_next, v_brk, v_cont, v_ret, v_retN, v_if, v_expr, v_nxO, v_asg, v_asgN, v_asgT, v_asgs0, v_asgsN, v_par, v_setAll0, v_setAllN, v_own, v_app, v_appO, v_var, v_varO, v_C, v_1, v_2, v_nil, v_cons, v_tup, v_lst, v_F, v_asB, v_ofB, v_tru, v_and, v_or, v_andO, v_orO, v_not, v_bAnd, v_bOr, v_bNot, v_eIf, v_chain, v_chO, v_oNone, v_oSome, v_sl, v_call, v_iSeq, v_iRng, v_iEnum, v_iZip, v_yes, v_comp, v_comp0, v_compO, v_noex, v_noOwn0, v_noOwnV, v_noOwnN, v_noOwnL, v_wp0, v_wpN, v_fz0, v_fzN, v_fz1, v_fzO_ol, v_fzO_v, v_fzO_no, v_for, v_run, v_fin_nx, v_fin_rt, v_loop0, v_lpO, v_lpK_nx, v_lpK_ct, v_lpK_bk, v_lpK_rt, v_iteAnd, v_iteOr, v_iteAndB, v_iteOrB, v_dB, v_dTru, v_omap, v_obind, v_dInt, v_lenT, v_lenL, v_isN0, v_isNs, v_isNt, v_isNl, v_isNi, v_notN0, v_notNs, v_notNt, v_notNl, v_notNi, v_isiTT, v_isiTL, v_isiTN, v_isiTS, v_isiTI, v_isiLT, v_isiLL, v_add, v_sub, v_lt, v_le, v_gt, v_ge, v_eqI, v_neI, v_all, v_dBs0, v_dBsN, v_tupL, v_tupT, v_listL, v_listT, v_itemsL, v_itemsT, v_rng5, v_rng0, v_rng1, v_rng2, v_rng3, v_rng4, v_rng6, v_rng7, v_rng8, v_rng9, v_rng10, v_rng11, v_rng12, v_rng5l, v_enum5, v_ixT0, v_ixT1, v_ixT2, v_ixT3, v_ixT4, v_ext, v_extO, v_k_ext, v_olD, v_olV, v_ixO, v_ixOO, v_lenO, v_lenOO, v_neg, v_lwT, v_lwF, v_lwK_nx, v_lwK_ct, v_lwK_bk, v_lwK_rt, v_while, v_par3, v_k_par3b, v_k_par3c, v_aug, v_augO, v_k_aug, v_augN, v_addI, v_cat, v_k_cat, v_k_catb, v_catO, v_ownD, v_odD, v_inD, v_inDO, v_k_inD, v_getD, v_getDO, v_k_getD, v_putD, v_putDO, v_k_putD, v_k_putDb, v_res, v_resOk, v_resEx, v_resN, v_raise, List.map_cons, List.map_nil, List.cons_append, List.nil_append, List.length_cons, List.length_nil, List.getElem?_cons_zero, List.getElem?_cons_succ, List.set_cons_zero, List.set_cons_succ, List.replicate_succ, List.replicate_zero, Nat.reduceAdd, Nat.reduceSub, ↓reduceIte, Bool.not_true, Bool.not_false, Bool.false_eq_true, Nat.zero_add, reduceCtorEq, LIM, Int.cast_ofNat_Int, Int.reduceEq, Int.reduceLT, Int.reduceLE, decide_true, decide_false, Nat.reduceLeDiff, List.all_cons, List.all_nil, id_eq, Bool.and_self, Bool.and_true, Bool.true_and, Bool.false_and, Bool.and_false, Bool.true_or, Bool.or_true, Bool.false_or, Bool.or_false, Bool.or_self, Nat.reduceLT, is_sign_ok, h]
theorem sh_shS (i : Fin 4) : sh (.str (shS i)) = true := by match i with | 0 => kernel_rfl | 1 => kernel_rfl | 2 => kernel_rfl | 3 => kernel_rfl
theorem sh_tnS (i : Fin 4) : sh (.str (tnS i)) = true := by match i with | 0 => kernel_rfl | 1 => kernel_rfl | 2 => kernel_rfl | 3 => kernel_rfl
theorem sh_mvS (i : Fin 5) : sh (.str (mvS i)) = true := by match i with | 0 => kernel_rfl | 1 => kernel_rfl | 2 => kernel_rfl | 3 => kernel_rfl | 4 => kernel_rfl
theorem sh_plD (i : Fin 3) : sh (plD i) = true := rfl
theorem can_of_sh {d : D} (h : sh d = true) : PyData.canLay0 d = true := PySem.SeqAt.canLay_of_shaped h
theorem sh_mk {d : D} (h : PyData.canLay0 d = true) (h' : decide (PyData.depth d ≤ 64) = true) : sh d = true := by
  unfold sh SeqAt.shaped; rw [h, h']; rfl
theorem canT {ds : List D} : PyData.canLay0 (.tuple ds) = PyData.canLayAll0 ds := by rw [PyData.canLay0]
theorem canL {ds : List D} : PyData.canLay0 (.list ds) = PyData.canLayAll0 ds := by rw [PyData.canLay0]
theorem canN {d : D} {ds : List D} : PyData.canLayAll0 (d :: ds) = (PyData.canLay0 d && PyData.canLayAll0 ds) := by rw [PyData.canLayAll0]
theorem can0 : PyData.canLayAll0 [] = true := by rw [PyData.canLayAll0]
theorem sh_sec (s : Sec) : sh (secD s) = true := by
  match s with
  | .no => kernel_rfl
  | .m => kernel_rfl
  | .h s t =>
    refine sh_mk ?_ (by kernel_rfl)
    simp only [secD, canT, canN, can0, can_of_sh (sh_shS s), can_of_sh (sh_tnS t), Bool.and_self]
theorem sh_sd (s : Sg) : sh (sd s) = true := by
  refine sh_mk ?_ ?_
  · simp only [sd, canT, canN, can0, can_of_sh (sh_shS _), can_of_sh (sh_tnS _), can_of_sh (sh_mvS _), can_of_sh (sh_plD _), can_of_sh (sh_sec _), Bool.and_self]
  · obtain ⟨a, b, c, d, e⟩ := s
    match e with
    | .no => kernel_rfl
    | .m => kernel_rfl
    | .h _ _ => kernel_rfl
/-- the parts -/
def part (s : Sg) (i : Nat) : D := match i with | 0 => .str (shS s.sh) | 1 => .str (tnS s.tn) | 2 => .str (mvS s.mv) | 3 => plD s.pl | _ => secD s.se
theorem sh_part (s : Sg) (i : Nat) : sh (part s i) = true := by
  match i with
  | 0 => exact sh_shS _
  | 1 => exact sh_tnS _
  | 2 => exact sh_mvS _
  | 3 => exact sh_plD _
  | _ + 4 => exact sh_sec _
theorem ix_sd (s : Sg) (i : Nat) (h : i < 5) : dIx (sd s) (.int (i : Int)) = some (part s i) := by
  rw [sd, v_ixT]
  match i with
  | 0 => rfl
  | 1 => rfl
  | 2 => rfl
  | 3 => rfl
  | 4 => rfl
theorem ix_sd0 (s : Sg) : dIx (sd s) (.int 0) = some (.str (shS s.sh)) := ix_sd s 0 (by omega)
theorem ix_sd1 (s : Sg) : dIx (sd s) (.int 1) = some (.str (tnS s.tn)) := ix_sd s 1 (by omega)
theorem ix_sd2 (s : Sg) : dIx (sd s) (.int 2) = some (.str (mvS s.mv)) := ix_sd s 2 (by omega)
theorem ix_sd3 (s : Sg) : dIx (sd s) (.int 3) = some (plD s.pl) := ix_sd s 3 (by omega)
theorem ix_sd4 (s : Sg) : dIx (sd s) (.int 4) = some (secD s.se) := ix_sd s 4 (by omega)
/-- the places at which two signs differ -/
def neAt (s t : Sg) (d : D) : Bool := match d with | .int i => !PyData.eqv (part s i.toNat) (part t i.toNat) | _ => false
theorem rng5_mem {d : D} (h : d ∈ rng5) : ∃ i : Nat, i < 5 ∧ d = .int (i : Int) := by
  simp only [rng5, List.mem_cons, List.not_mem_nil, or_false] at h
  rcases h with rfl | rfl | rfl | rfl | rfl
  · exact ⟨0, by omega, rfl⟩
  · exact ⟨1, by omega, rfl⟩
  · exact ⟨2, by omega, rfl⟩
  · exact ⟨3, by omega, rfl⟩
  · exact ⟨4, by omega, rfl⟩
theorem unlike_ok (s t : Sg) (τ : S) : M_unlike_in [sd s, sd t] τ = .ok (.list (rng5.filter (neAt s t))) τ := by
  unfold M_unlike_in B_unlike_in
  simp only [v_k_ret, v_iteT, v_iteF, v_k_if, v_k_expr, v_k_asg, v_k_par, v_k_own, v_k_app, v_k_1, v_k_2b, v_k_2, v_k_consb, v_k_cons, v_k_tup, v_k_lst, v_k_asB, v_k_ofB, v_k_tru, v_k_and, v_k_or, v_k_not, v_k_bAnd, v_k_bOr, v_k_bNot, v_k_eIf, v_k_chb, v_k_ch, v_k_oSome, v_k_slc, v_k_slb, v_k_sl, v_k_call, v_k_iSeq, v_k_iRng, v_k_iEnum, v_k_iZipb, v_k_iZip, v_k_comp, v_k_compc, v_iteCT, v_iteCF, v_k_compb, v_k_for, v_bind_ok, v_bind_ex, v_opt, v_seq, v_seqK_nx, v_seqK_rt, v_seqK_bk, v_seqK_ct, v_next, v_brk, v_cont, v_ret, v_retN, v_if, v_expr, v_nxO, v_asg, v_asgN, v_asgT, v_asgs0, v_asgsN, v_par, v_setAll0, v_setAllN, v_own, v_app, v_appO, v_var, v_varO, v_C, v_1, v_2, v_nil, v_cons, v_tup, v_lst, v_F, v_asB, v_ofB, v_tru, v_and, v_or, v_andO, v_orO, v_not, v_bAnd, v_bOr, v_bNot, v_eIf, v_chain, v_chO, v_oNone, v_oSome, v_sl, v_call, v_iSeq, v_iRng, v_iEnum, v_iZip, v_yes, v_comp, v_comp0, v_compO, v_noex, v_noOwn0, v_noOwnV, v_noOwnN, v_noOwnL, v_wp0, v_wpN, v_fz0, v_fzN, v_fz1, v_fzO_ol, v_fzO_v, v_fzO_no, v_for, v_run, v_fin_nx, v_fin_rt, v_loop0, v_lpO, v_lpK_nx, v_lpK_ct, v_lpK_bk, v_lpK_rt, v_iteAnd, v_iteOr, v_iteAndB, v_iteOrB, v_dB, v_dTru, v_omap, v_obind, v_dInt, v_lenT, v_lenL, v_isN0, v_isNs, v_isNt, v_isNl, v_isNi, v_notN0, v_notNs, v_notNt, v_notNl, v_notNi, v_isiTT, v_isiTL, v_isiTN, v_isiTS, v_isiTI, v_isiLT, v_isiLL, v_add, v_sub, v_lt, v_le, v_gt, v_ge, v_eqI, v_neI, v_all, v_dBs0, v_dBsN, v_tupL, v_tupT, v_listL, v_listT, v_itemsL, v_itemsT, v_rng5, v_rng0, v_rng1, v_rng2, v_rng3, v_rng4, v_rng6, v_rng7, v_rng8, v_rng9, v_rng10, v_rng11, v_rng12, v_rng5l, v_enum5, v_ixT0, v_ixT1, v_ixT2, v_ixT3, v_ixT4, v_ext, v_extO, v_k_ext, v_olD, v_olV, v_ixO, v_ixOO, v_lenO, v_lenOO, v_neg, v_lwT, v_lwF, v_lwK_nx, v_lwK_ct, v_lwK_bk, v_lwK_rt, v_while, v_par3, v_k_par3b, v_k_par3c, v_aug, v_augO, v_k_aug, v_augN, v_addI, v_cat, v_k_cat, v_k_catb, v_catO, v_ownD, v_odD, v_inD, v_inDO, v_k_inD, v_getD, v_getDO, v_k_getD, v_putD, v_putDO, v_k_putD, v_k_putDb, v_res, v_resOk, v_resEx, v_resN, v_raise, List.map_cons, List.map_nil, List.cons_append, List.nil_append, List.length_cons, List.length_nil, List.getElem?_cons_zero, List.getElem?_cons_succ, List.set_cons_zero, List.set_cons_succ, List.replicate_succ, List.replicate_zero, Nat.reduceAdd, Nat.reduceSub, ↓reduceIte, Bool.not_true, Bool.not_false, Bool.false_eq_true, Nat.zero_add, reduceCtorEq, LIM, Int.cast_ofNat_Int, Int.reduceEq, Int.reduceLT, Int.reduceLE, decide_true, decide_false, Nat.reduceLeDiff, List.all_cons, List.all_nil, id_eq, Bool.and_self, Bool.and_true, Bool.true_and, Bool.false_and, Bool.and_false, Bool.true_or, Bool.or_true, Bool.false_or, Bool.or_false, Bool.or_self, Nat.reduceLT]
  rw [v_comp_filter (ds := rng5) (p := neAt s t) (F := id)]
  · simp only [v_k_ret, v_iteT, v_iteF, v_k_if, v_k_expr, v_k_asg, v_k_par, v_k_own, v_k_app, v_k_1, v_k_2b, v_k_2, v_k_consb, v_k_cons, v_k_tup, v_k_lst, v_k_asB, v_k_ofB, v_k_tru, v_k_and, v_k_or, v_k_not, v_k_bAnd, v_k_bOr, v_k_bNot, v_k_eIf, v_k_chb, v_k_ch, v_k_oSome, v_k_slc, v_k_slb, v_k_sl, v_k_call, v_k_iSeq, v_k_iRng, v_k_iEnum, v_k_iZipb, v_k_iZip, v_k_comp, v_k_compc, v_iteCT, v_iteCF, v_k_compb, v_k_for, v_bind_ok, v_bind_ex, v_opt, v_seq, v_seqK_nx, v_seqK_rt, v_seqK_bk, v_seqK_ct, v_next, v_brk, v_cont, v_ret, v_retN, v_if, v_expr, v_nxO, v_asg, v_asgN, v_asgT, v_asgs0, v_asgsN, v_par, v_setAll0, v_setAllN, v_own, v_app, v_appO, v_var, v_varO, v_C, v_1, v_2, v_nil, v_cons, v_tup, v_lst, v_F, v_asB, v_ofB, v_tru, v_and, v_or, v_andO, v_orO, v_not, v_bAnd, v_bOr, v_bNot, v_eIf, v_chain, v_chO, v_oNone, v_oSome, v_sl, v_call, v_iSeq, v_iRng, v_iEnum, v_iZip, v_yes, v_comp, v_comp0, v_compO, v_noex, v_noOwn0, v_noOwnV, v_noOwnN, v_noOwnL, v_wp0, v_wpN, v_fz0, v_fzN, v_fz1, v_fzO_ol, v_fzO_v, v_fzO_no, v_for, v_run, v_fin_nx, v_fin_rt, v_loop0, v_lpO, v_lpK_nx, v_lpK_ct, v_lpK_bk, v_lpK_rt, v_iteAnd, v_iteOr, v_iteAndB, v_iteOrB, v_dB, v_dTru, v_omap, v_obind, v_dInt, v_lenT, v_lenL, v_isN0, v_isNs, v_isNt, v_isNl, v_isNi, v_notN0, v_notNs, v_notNt, v_notNl, v_notNi, v_isiTT, v_isiTL, v_isiTN, v_isiTS, v_isiTI, v_isiLT, v_isiLL, v_add, v_sub, v_lt, v_le, v_gt, v_ge, v_eqI, v_neI, v_all, v_dBs0, v_dBsN, v_tupL, v_tupT, v_listL, v_listT, v_itemsL, v_itemsT, v_rng5, v_rng0, v_rng1, v_rng2, v_rng3, v_rng4, v_rng6, v_rng7, v_rng8, v_rng9, v_rng10, v_rng11, v_rng12, v_rng5l, v_enum5, v_ixT0, v_ixT1, v_ixT2, v_ixT3, v_ixT4, v_ext, v_extO, v_k_ext, v_olD, v_olV, v_ixO, v_ixOO, v_lenO, v_lenOO, v_neg, v_lwT, v_lwF, v_lwK_nx, v_lwK_ct, v_lwK_bk, v_lwK_rt, v_while, v_par3, v_k_par3b, v_k_par3c, v_aug, v_augO, v_k_aug, v_augN, v_addI, v_cat, v_k_cat, v_k_catb, v_catO, v_ownD, v_odD, v_inD, v_inDO, v_k_inD, v_getD, v_getDO, v_k_getD, v_putD, v_putDO, v_k_putD, v_k_putDb, v_res, v_resOk, v_resEx, v_resN, v_raise, List.map_cons, List.map_nil, List.cons_append, List.nil_append, List.length_cons, List.length_nil, List.getElem?_cons_zero, List.getElem?_cons_succ, List.set_cons_zero, List.set_cons_succ, List.replicate_succ, List.replicate_zero, Nat.reduceAdd, Nat.reduceSub, ↓reduceIte, Bool.not_true, Bool.not_false, Bool.false_eq_true, Nat.zero_add, reduceCtorEq, LIM, Int.cast_ofNat_Int, Int.reduceEq, Int.reduceLT, Int.reduceLE, decide_true, decide_false, Nat.reduceLeDiff, List.all_cons, List.all_nil, id_eq, Bool.and_self, Bool.and_true, Bool.true_and, Bool.false_and, Bool.and_false, Bool.true_or, Bool.or_true, Bool.false_or, Bool.or_false, Bool.or_self, Nat.reduceLT, List.map_id]
  · intro d hd
    obtain ⟨i, hi, rfl⟩ := rng5_mem hd
    refine ⟨_, rfl, ?_, fun _ => ?_⟩
    · simp only [v_k_ret, v_iteT, v_iteF, v_k_if, v_k_expr, v_k_asg, v_k_par, v_k_own, v_k_app, v_k_1, v_k_2b, v_k_2, v_k_consb, v_k_cons, v_k_tup, v_k_lst, v_k_asB, v_k_ofB, v_k_tru, v_k_and, v_k_or, v_k_not, v_k_bAnd, v_k_bOr, v_k_bNot, v_k_eIf, v_k_chb, v_k_ch, v_k_oSome, v_k_slc, v_k_slb, v_k_sl, v_k_call, v_k_iSeq, v_k_iRng, v_k_iEnum, v_k_iZipb, v_k_iZip, v_k_comp, v_k_compc, v_iteCT, v_iteCF, v_k_compb, v_k_for, v_bind_ok, v_bind_ex, v_opt, v_seq, v_seqK_nx, v_seqK_rt, v_seqK_bk, v_seqK_ct, v_next, v_brk, v_cont, v_ret, v_retN, v_if, v_expr, v_nxO, v_asg, v_asgN, v_asgT, v_asgs0, v_asgsN, v_par, v_setAll0, v_setAllN, v_own, v_app, v_appO, v_var, v_varO, v_C, v_1, v_2, v_nil, v_cons, v_tup, v_lst, v_F, v_asB, v_ofB, v_tru, v_and, v_or, v_andO, v_orO, v_not, v_bAnd, v_bOr, v_bNot, v_eIf, v_chain, v_chO, v_oNone, v_oSome, v_sl, v_call, v_iSeq, v_iRng, v_iEnum, v_iZip, v_yes, v_comp, v_comp0, v_compO, v_noex, v_noOwn0, v_noOwnV, v_noOwnN, v_noOwnL, v_wp0, v_wpN, v_fz0, v_fzN, v_fz1, v_fzO_ol, v_fzO_v, v_fzO_no, v_for, v_run, v_fin_nx, v_fin_rt, v_loop0, v_lpO, v_lpK_nx, v_lpK_ct, v_lpK_bk, v_lpK_rt, v_iteAnd, v_iteOr, v_iteAndB, v_iteOrB, v_dB, v_dTru, v_omap, v_obind, v_dInt, v_lenT, v_lenL, v_isN0, v_isNs, v_isNt, v_isNl, v_isNi, v_notN0, v_notNs, v_notNt, v_notNl, v_notNi, v_isiTT, v_isiTL, v_isiTN, v_isiTS, v_isiTI, v_isiLT, v_isiLL, v_add, v_sub, v_lt, v_le, v_gt, v_ge, v_eqI, v_neI, v_all, v_dBs0, v_dBsN, v_tupL, v_tupT, v_listL, v_listT, v_itemsL, v_itemsT, v_rng5, v_rng0, v_rng1, v_rng2, v_rng3, v_rng4, v_rng6, v_rng7, v_rng8, v_rng9, v_rng10, v_rng11, v_rng12, v_rng5l, v_enum5, v_ixT0, v_ixT1, v_ixT2, v_ixT3, v_ixT4, v_ext, v_extO, v_k_ext, v_olD, v_olV, v_ixO, v_ixOO, v_lenO, v_lenOO, v_neg, v_lwT, v_lwF, v_lwK_nx, v_lwK_ct, v_lwK_bk, v_lwK_rt, v_while, v_par3, v_k_par3b, v_k_par3c, v_aug, v_augO, v_k_aug, v_augN, v_addI, v_cat, v_k_cat, v_k_catb, v_catO, v_ownD, v_odD, v_inD, v_inDO, v_k_inD, v_getD, v_getDO, v_k_getD, v_putD, v_putDO, v_k_putD, v_k_putDb, v_res, v_resOk, v_resEx, v_resN, v_raise, List.map_cons, List.map_nil, List.cons_append, List.nil_append, List.length_cons, List.length_nil, List.getElem?_cons_zero, List.getElem?_cons_succ, List.set_cons_zero, List.set_cons_succ, List.replicate_succ, List.replicate_zero, Nat.reduceAdd, Nat.reduceSub, ↓reduceIte, Bool.not_true, Bool.not_false, Bool.false_eq_true, Nat.zero_add, reduceCtorEq, LIM, Int.cast_ofNat_Int, Int.reduceEq, Int.reduceLT, Int.reduceLE, decide_true, decide_false, Nat.reduceLeDiff, List.all_cons, List.all_nil, id_eq, Bool.and_self, Bool.and_true, Bool.true_and, Bool.false_and, Bool.and_false, Bool.true_or, Bool.or_true, Bool.false_or, Bool.or_false, Bool.or_self, Nat.reduceLT, ix_sd _ _ hi, ne_of_sh (sh_part _ _) (sh_part _ _)]
      rfl
    · simp only [v_k_ret, v_iteT, v_iteF, v_k_if, v_k_expr, v_k_asg, v_k_par, v_k_own, v_k_app, v_k_1, v_k_2b, v_k_2, v_k_consb, v_k_cons, v_k_tup, v_k_lst, v_k_asB, v_k_ofB, v_k_tru, v_k_and, v_k_or, v_k_not, v_k_bAnd, v_k_bOr, v_k_bNot, v_k_eIf, v_k_chb, v_k_ch, v_k_oSome, v_k_slc, v_k_slb, v_k_sl, v_k_call, v_k_iSeq, v_k_iRng, v_k_iEnum, v_k_iZipb, v_k_iZip, v_k_comp, v_k_compc, v_iteCT, v_iteCF, v_k_compb, v_k_for, v_bind_ok, v_bind_ex, v_opt, v_seq, v_seqK_nx, v_seqK_rt, v_seqK_bk, v_seqK_ct, v_next, v_brk, v_cont, v_ret, v_retN, v_if, v_expr, v_nxO, v_asg, v_asgN, v_asgT, v_asgs0, v_asgsN, v_par, v_setAll0, v_setAllN, v_own, v_app, v_appO, v_var, v_varO, v_C, v_1, v_2, v_nil, v_cons, v_tup, v_lst, v_F, v_asB, v_ofB, v_tru, v_and, v_or, v_andO, v_orO, v_not, v_bAnd, v_bOr, v_bNot, v_eIf, v_chain, v_chO, v_oNone, v_oSome, v_sl, v_call, v_iSeq, v_iRng, v_iEnum, v_iZip, v_yes, v_comp, v_comp0, v_compO, v_noex, v_noOwn0, v_noOwnV, v_noOwnN, v_noOwnL, v_wp0, v_wpN, v_fz0, v_fzN, v_fz1, v_fzO_ol, v_fzO_v, v_fzO_no, v_for, v_run, v_fin_nx, v_fin_rt, v_loop0, v_lpO, v_lpK_nx, v_lpK_ct, v_lpK_bk, v_lpK_rt, v_iteAnd, v_iteOr, v_iteAndB, v_iteOrB, v_dB, v_dTru, v_omap, v_obind, v_dInt, v_lenT, v_lenL, v_isN0, v_isNs, v_isNt, v_isNl, v_isNi, v_notN0, v_notNs, v_notNt, v_notNl, v_notNi, v_isiTT, v_isiTL, v_isiTN, v_isiTS, v_isiTI, v_isiLT, v_isiLL, v_add, v_sub, v_lt, v_le, v_gt, v_ge, v_eqI, v_neI, v_all, v_dBs0, v_dBsN, v_tupL, v_tupT, v_listL, v_listT, v_itemsL, v_itemsT, v_rng5, v_rng0, v_rng1, v_rng2, v_rng3, v_rng4, v_rng6, v_rng7, v_rng8, v_rng9, v_rng10, v_rng11, v_rng12, v_rng5l, v_enum5, v_ixT0, v_ixT1, v_ixT2, v_ixT3, v_ixT4, v_ext, v_extO, v_k_ext, v_olD, v_olV, v_ixO, v_ixOO, v_lenO, v_lenOO, v_neg, v_lwT, v_lwF, v_lwK_nx, v_lwK_ct, v_lwK_bk, v_lwK_rt, v_while, v_par3, v_k_par3b, v_k_par3c, v_aug, v_augO, v_k_aug, v_augN, v_addI, v_cat, v_k_cat, v_k_catb, v_catO, v_ownD, v_odD, v_inD, v_inDO, v_k_inD, v_getD, v_getDO, v_k_getD, v_putD, v_putDO, v_k_putD, v_k_putDb, v_res, v_resOk, v_resEx, v_resN, v_raise, List.map_cons, List.map_nil, List.cons_append, List.nil_append, List.length_cons, List.length_nil, List.getElem?_cons_zero, List.getElem?_cons_succ, List.set_cons_zero, List.set_cons_succ, List.replicate_succ, List.replicate_zero, Nat.reduceAdd, Nat.reduceSub, ↓reduceIte, Bool.not_true, Bool.not_false, Bool.false_eq_true, Nat.zero_add, reduceCtorEq, LIM, Int.cast_ofNat_Int, Int.reduceEq, Int.reduceLT, Int.reduceLE, decide_true, decide_false, Nat.reduceLeDiff, List.all_cons, List.all_nil, id_eq, Bool.and_self, Bool.and_true, Bool.true_and, Bool.false_and, Bool.and_false, Bool.true_or, Bool.or_true, Bool.false_or, Bool.or_false, Bool.or_self, Nat.reduceLT]
theorem differences_ok (s t : Sg) (hs : s.good = true) (ht : t.good = true) (τ : S) : M_differences [sd s, sd t] τ = .ok (.tuple (rng5.filter (neAt s t))) τ := by
  unfold M_differences B_differences M_check_two B_check_two
  simp only [v_k_ret, v_iteT, v_iteF, v_k_if, v_k_expr, v_k_asg, v_k_par, v_k_own, v_k_app, v_k_1, v_k_2b, v_k_2, v_k_consb, v_k_cons, v_k_tup, v_k_lst, v_k_asB, v_k_ofB, v_k_tru, v_k_and, v_k_or, v_k_not, v_k_bAnd, v_k_bOr, v_k_bNot, v_k_eIf, v_k_chb, v_k_ch, v_k_oSome, v_k_slc, v_k_slb, v_k_sl, v_k_call, v_k_iSeq, v_k_iRng, v_k_iEnum, v_k_iZipb, v_k_iZip, v_k_comp, v_k_compc, v_iteCT, v_iteCF, v_k_compb, v_k_for, v_bind_ok, v_bind_ex, v_opt, v_seq, v_seqK_nx, v_seqK_rt, v_seqK_bk, v_seqK_ct, v_next, v_brk, v_cont, v_ret, v_retN, v_if, v_expr, v_nxO, v_asg, v_asgN, v_asgT, v_asgs0, v_asgsN, v_par, v_setAll0, v_setAllN, v_own, v_app, v_appO, v_var, v_varO, v_C, v_1, v_2, v_nil, v_cons, v_tup, v_lst, v_F, v_asB, v_ofB, v_tru, v_and, v_or, v_andO, v_orO, v_not, v_bAnd, v_bOr, v_bNot, v_eIf, v_chain, v_chO, v_oNone, v_oSome, v_sl, v_call, v_iSeq, v_iRng, v_iEnum, v_iZip, v_yes, v_comp, v_comp0, v_compO, v_noex, v_noOwn0, v_noOwnV, v_noOwnN, v_noOwnL, v_wp0, v_wpN, v_fz0, v_fzN, v_fz1, v_fzO_ol, v_fzO_v, v_fzO_no, v_for, v_run, v_fin_nx, v_fin_rt, v_loop0, v_lpO, v_lpK_nx, v_lpK_ct, v_lpK_bk, v_lpK_rt, v_iteAnd, v_iteOr, v_iteAndB, v_iteOrB, v_dB, v_dTru, v_omap, v_obind, v_dInt, v_lenT, v_lenL, v_isN0, v_isNs, v_isNt, v_isNl, v_isNi, v_notN0, v_notNs, v_notNt, v_notNl, v_notNi, v_isiTT, v_isiTL, v_isiTN, v_isiTS, v_isiTI, v_isiLT, v_isiLL, v_add, v_sub, v_lt, v_le, v_gt, v_ge, v_eqI, v_neI, v_all, v_dBs0, v_dBsN, v_tupL, v_tupT, v_listL, v_listT, v_itemsL, v_itemsT, v_rng5, v_rng0, v_rng1, v_rng2, v_rng3, v_rng4, v_rng6, v_rng7, v_rng8, v_rng9, v_rng10, v_rng11, v_rng12, v_rng5l, v_enum5, v_ixT0, v_ixT1, v_ixT2, v_ixT3, v_ixT4, v_ext, v_extO, v_k_ext, v_olD, v_olV, v_ixO, v_ixOO, v_lenO, v_lenOO, v_neg, v_lwT, v_lwF, v_lwK_nx, v_lwK_ct, v_lwK_bk, v_lwK_rt, v_while, v_par3, v_k_par3b, v_k_par3c, v_aug, v_augO, v_k_aug, v_augN, v_addI, v_cat, v_k_cat, v_k_catb, v_catO, v_ownD, v_odD, v_inD, v_inDO, v_k_inD, v_getD, v_getDO, v_k_getD, v_putD, v_putDO, v_k_putD, v_k_putDb, v_res, v_resOk, v_resEx, v_resN, v_raise, List.map_cons, List.map_nil, List.cons_append, List.nil_append, List.length_cons, List.length_nil, List.getElem?_cons_zero, List.getElem?_cons_succ, List.set_cons_zero, List.set_cons_succ, List.replicate_succ, List.replicate_zero, Nat.reduceAdd, Nat.reduceSub, ↓reduceIte, Bool.not_true, Bool.not_false, Bool.false_eq_true, Nat.zero_add, reduceCtorEq, LIM, Int.cast_ofNat_Int, Int.reduceEq, Int.reduceLT, Int.reduceLE, decide_true, decide_false, Nat.reduceLeDiff, List.all_cons, List.all_nil, id_eq, Bool.and_self, Bool.and_true, Bool.true_and, Bool.false_and, Bool.and_false, Bool.true_or, Bool.or_true, Bool.false_or, Bool.or_false, Bool.or_self, Nat.reduceLT, check_sign_ok s hs, check_sign_ok t ht, unlike_ok]
def sw4 (i : Fin 4) : Fin 4 := match i with | 0 => 0 | 1 => 1 | 2 => 3 | 3 => 2
def sw5 (i : Fin 5) : Fin 5 := match i with | 0 => 0 | 1 => 1 | 2 => 2 | 3 => 4 | 4 => 3
def swS : Sec → Sec
  | .no => .no
  | .m => .m
  | .h s t => .h s (sw4 t)
def mir (s : Sg) : Sg := ⟨s.sh, sw4 s.tn, sw5 s.mv, s.pl, swS s.se⟩
theorem swapped4 (i : Fin 4) (τ : S) : M_swapped [.str (tnS i)] τ = .ok (.str (tnS (sw4 i))) τ := by
  match i with | 0 => kernel_rfl | 1 => kernel_rfl | 2 => kernel_rfl | 3 => kernel_rfl
theorem swapped5 (i : Fin 5) (τ : S) : M_swapped [.str (mvS i)] τ = .ok (.str (mvS (sw5 i))) τ := by
  match i with | 0 => kernel_rfl | 1 => kernel_rfl | 2 => kernel_rfl | 3 => kernel_rfl | 4 => kernel_rfl
theorem turned_ok (s : Sg) (τ : S) : M_turned_over [sd s] τ = .ok (sd (mir s)) τ := by
  unfold M_turned_over B_turned_over sd
  obtain ⟨a, b, c, d, e⟩ := s
  cases e <;> simp only [v_k_ret, v_iteT, v_iteF, v_k_if, v_k_expr, v_k_asg, v_k_par, v_k_own, v_k_app, v_k_1, v_k_2b, v_k_2, v_k_consb, v_k_cons, v_k_tup, v_k_lst, v_k_asB, v_k_ofB, v_k_tru, v_k_and, v_k_or, v_k_not, v_k_bAnd, v_k_bOr, v_k_bNot, v_k_eIf, v_k_chb, v_k_ch, v_k_oSome, v_k_slc, v_k_slb, v_k_sl, v_k_call, v_k_iSeq, v_k_iRng, v_k_iEnum, v_k_iZipb, v_k_iZip, v_k_comp, v_k_compc, v_iteCT, v_iteCF, v_k_compb, v_k_for, v_bind_ok, v_bind_ex, v_opt, v_seq, v_seqK_nx, v_seqK_rt, v_seqK_bk, v_seqK_ct, v_next, v_brk, v_cont, v_ret, v_retN, v_if, v_expr, v_nxO, v_asg, v_asgN, v_asgT, v_asgs0, v_asgsN, v_par, v_setAll0, v_setAllN, v_own, v_app, v_appO, v_var, v_varO, v_C, v_1, v_2, v_nil, v_cons, v_tup, v_lst, v_F, v_asB, v_ofB, v_tru, v_and, v_or, v_andO, v_orO, v_not, v_bAnd, v_bOr, v_bNot, v_eIf, v_chain, v_chO, v_oNone, v_oSome, v_sl, v_call, v_iSeq, v_iRng, v_iEnum, v_iZip, v_yes, v_comp, v_comp0, v_compO, v_noex, v_noOwn0, v_noOwnV, v_noOwnN, v_noOwnL, v_wp0, v_wpN, v_fz0, v_fzN, v_fz1, v_fzO_ol, v_fzO_v, v_fzO_no, v_for, v_run, v_fin_nx, v_fin_rt, v_loop0, v_lpO, v_lpK_nx, v_lpK_ct, v_lpK_bk, v_lpK_rt, v_iteAnd, v_iteOr, v_iteAndB, v_iteOrB, v_dB, v_dTru, v_omap, v_obind, v_dInt, v_lenT, v_lenL, v_isN0, v_isNs, v_isNt, v_isNl, v_isNi, v_notN0, v_notNs, v_notNt, v_notNl, v_notNi, v_isiTT, v_isiTL, v_isiTN, v_isiTS, v_isiTI, v_isiLT, v_isiLL, v_add, v_sub, v_lt, v_le, v_gt, v_ge, v_eqI, v_neI, v_all, v_dBs0, v_dBsN, v_tupL, v_tupT, v_listL, v_listT, v_itemsL, v_itemsT, v_rng5, v_rng0, v_rng1, v_rng2, v_rng3, v_rng4, v_rng6, v_rng7, v_rng8, v_rng9, v_rng10, v_rng11, v_rng12, v_rng5l, v_enum5, v_ixT0, v_ixT1, v_ixT2, v_ixT3, v_ixT4, v_ext, v_extO, v_k_ext, v_olD, v_olV, v_ixO, v_ixOO, v_lenO, v_lenOO, v_neg, v_lwT, v_lwF, v_lwK_nx, v_lwK_ct, v_lwK_bk, v_lwK_rt, v_while, v_par3, v_k_par3b, v_k_par3c, v_aug, v_augO, v_k_aug, v_augN, v_addI, v_cat, v_k_cat, v_k_catb, v_catO, v_ownD, v_odD, v_inD, v_inDO, v_k_inD, v_getD, v_getDO, v_k_getD, v_putD, v_putDO, v_k_putD, v_k_putDb, v_res, v_resOk, v_resEx, v_resN, v_raise, List.map_cons, List.map_nil, List.cons_append, List.nil_append, List.length_cons, List.length_nil, List.getElem?_cons_zero, List.getElem?_cons_succ, List.set_cons_zero, List.set_cons_succ, List.replicate_succ, List.replicate_zero, Nat.reduceAdd, Nat.reduceSub, ↓reduceIte, Bool.not_true, Bool.not_false, Bool.false_eq_true, Nat.zero_add, reduceCtorEq, LIM, Int.cast_ofNat_Int, Int.reduceEq, Int.reduceLT, Int.reduceLE, decide_true, decide_false, Nat.reduceLeDiff, List.all_cons, List.all_nil, id_eq, Bool.and_self, Bool.and_true, Bool.true_and, Bool.false_and, Bool.and_false, Bool.true_or, Bool.or_true, Bool.false_or, Bool.or_false, Bool.or_self, Nat.reduceLT, secD, swapped4, swapped5, mir, swS]
theorem mirrored_ok (s : Sg) (hs : s.good = true) (τ : S) : M_mirrored [sd s] τ = .ok (sd (mir s)) τ := by
  unfold M_mirrored B_mirrored
  simp only [v_k_ret, v_iteT, v_iteF, v_k_if, v_k_expr, v_k_asg, v_k_par, v_k_own, v_k_app, v_k_1, v_k_2b, v_k_2, v_k_consb, v_k_cons, v_k_tup, v_k_lst, v_k_asB, v_k_ofB, v_k_tru, v_k_and, v_k_or, v_k_not, v_k_bAnd, v_k_bOr, v_k_bNot, v_k_eIf, v_k_chb, v_k_ch, v_k_oSome, v_k_slc, v_k_slb, v_k_sl, v_k_call, v_k_iSeq, v_k_iRng, v_k_iEnum, v_k_iZipb, v_k_iZip, v_k_comp, v_k_compc, v_iteCT, v_iteCF, v_k_compb, v_k_for, v_bind_ok, v_bind_ex, v_opt, v_seq, v_seqK_nx, v_seqK_rt, v_seqK_bk, v_seqK_ct, v_next, v_brk, v_cont, v_ret, v_retN, v_if, v_expr, v_nxO, v_asg, v_asgN, v_asgT, v_asgs0, v_asgsN, v_par, v_setAll0, v_setAllN, v_own, v_app, v_appO, v_var, v_varO, v_C, v_1, v_2, v_nil, v_cons, v_tup, v_lst, v_F, v_asB, v_ofB, v_tru, v_and, v_or, v_andO, v_orO, v_not, v_bAnd, v_bOr, v_bNot, v_eIf, v_chain, v_chO, v_oNone, v_oSome, v_sl, v_call, v_iSeq, v_iRng, v_iEnum, v_iZip, v_yes, v_comp, v_comp0, v_compO, v_noex, v_noOwn0, v_noOwnV, v_noOwnN, v_noOwnL, v_wp0, v_wpN, v_fz0, v_fzN, v_fz1, v_fzO_ol, v_fzO_v, v_fzO_no, v_for, v_run, v_fin_nx, v_fin_rt, v_loop0, v_lpO, v_lpK_nx, v_lpK_ct, v_lpK_bk, v_lpK_rt, v_iteAnd, v_iteOr, v_iteAndB, v_iteOrB, v_dB, v_dTru, v_omap, v_obind, v_dInt, v_lenT, v_lenL, v_isN0, v_isNs, v_isNt, v_isNl, v_isNi, v_notN0, v_notNs, v_notNt, v_notNl, v_notNi, v_isiTT, v_isiTL, v_isiTN, v_isiTS, v_isiTI, v_isiLT, v_isiLL, v_add, v_sub, v_lt, v_le, v_gt, v_ge, v_eqI, v_neI, v_all, v_dBs0, v_dBsN, v_tupL, v_tupT, v_listL, v_listT, v_itemsL, v_itemsT, v_rng5, v_rng0, v_rng1, v_rng2, v_rng3, v_rng4, v_rng6, v_rng7, v_rng8, v_rng9, v_rng10, v_rng11, v_rng12, v_rng5l, v_enum5, v_ixT0, v_ixT1, v_ixT2, v_ixT3, v_ixT4, v_ext, v_extO, v_k_ext, v_olD, v_olV, v_ixO, v_ixOO, v_lenO, v_lenOO, v_neg, v_lwT, v_lwF, v_lwK_nx, v_lwK_ct, v_lwK_bk, v_lwK_rt, v_while, v_par3, v_k_par3b, v_k_par3c, v_aug, v_augO, v_k_aug, v_augN, v_addI, v_cat, v_k_cat, v_k_catb, v_catO, v_ownD, v_odD, v_inD, v_inDO, v_k_inD, v_getD, v_getDO, v_k_getD, v_putD, v_putDO, v_k_putD, v_k_putDb, v_res, v_resOk, v_resEx, v_resN, v_raise, List.map_cons, List.map_nil, List.cons_append, List.nil_append, List.length_cons, List.length_nil, List.getElem?_cons_zero, List.getElem?_cons_succ, List.set_cons_zero, List.set_cons_succ, List.replicate_succ, List.replicate_zero, Nat.reduceAdd, Nat.reduceSub, ↓reduceIte, Bool.not_true, Bool.not_false, Bool.false_eq_true, Nat.zero_add, reduceCtorEq, LIM, Int.cast_ofNat_Int, Int.reduceEq, Int.reduceLT, Int.reduceLE, decide_true, decide_false, Nat.reduceLeDiff, List.all_cons, List.all_nil, id_eq, Bool.and_self, Bool.and_true, Bool.true_and, Bool.false_and, Bool.and_false, Bool.true_or, Bool.or_true, Bool.false_or, Bool.or_false, Bool.or_self, Nat.reduceLT, check_sign_ok s hs, turned_ok]
theorem ix_abcd (i : Fin 4) : dIx (.str (Str.ofString "abcd")) (.int ((i.val : Nat) : Int)) = some (.str (shS i)) := by
  match i with | 0 => kernel_rfl | 1 => kernel_rfl | 2 => kernel_rfl | 3 => kernel_rfl
theorem ix_iolr (i : Fin 4) : dIx (.str (Str.ofString "iolr")) (.int ((i.val : Nat) : Int)) = some (.str (tnS i)) := by
  match i with | 0 => kernel_rfl | 1 => kernel_rfl | 2 => kernel_rfl | 3 => kernel_rfl
theorem ix_nuwlr (i : Fin 5) : dIx (.str (Str.ofString "nuwlr")) (.int ((i.val : Nat) : Int)) = some (.str (mvS i)) := by
  match i with | 0 => kernel_rfl | 1 => kernel_rfl | 2 => kernel_rfl | 3 => kernel_rfl | 4 => kernel_rfl
theorem ne_n (i : Fin 5) : dNe (.str (mvS i)) (.str (Str.ofString "n")) = some (.bool (i != 0)) := by
  match i with | 0 => kernel_rfl | 1 => kernel_rfl | 2 => kernel_rfl | 3 => kernel_rfl | 4 => kernel_rfl
def rsI (i : Fin 3) (sh : Fin 4) : Fin 4 := match i with | 0 => 0 | 1 => 1 | 2 => sh
theorem ix_ab (i : Fin 3) (sh : Fin 4) : dIx (.tuple [.str (Str.ofString "a"), .str (Str.ofString "b"), .str (shS sh)]) (.int ((i.val : Nat) : Int)) = some (.str (shS (rsI i sh))) := by
  match i with | 0 => kernel_rfl | 1 => kernel_rfl | 2 => kernel_rfl
theorem good_rs (i : Fin 3) (sh : Fin 4) (mv : Fin 5) (t : Fin 4) : goodB sh mv (.h (rsI i sh) t) = true := by
  match i with | 0 => rfl | 1 => rfl | 2 => simp [goodB, rsI]
theorem law_sign_ok (ns : List Int) (τ : S) : ∃ s τ', Sg.good s = true ∧ M_law_sign ns [dScr, dTown] τ = .ok (sd s) τ' := by
  obtain ⟨i1, τ1, h1⟩ := draw4 ns τ
  obtain ⟨i2, τ2, h2⟩ := draw4 ns τ1
  obtain ⟨i3, τ3, h3⟩ := draw5 ns τ2
  obtain ⟨i4, τ4, h4⟩ := draw3 ns τ3
  obtain ⟨i5, τ5, h5⟩ := draw4 ns τ4
  obtain ⟨i6, τ6, h6⟩ := draw3 ns τ5
  obtain ⟨i7, τ7, h7⟩ := draw4 ns τ6
  unfold M_law_sign B_law_sign
  simp only [v_k_ret, v_iteT, v_iteF, v_k_if, v_k_expr, v_k_asg, v_k_par, v_k_own, v_k_app, v_k_1, v_k_2b, v_k_2, v_k_consb, v_k_cons, v_k_tup, v_k_lst, v_k_asB, v_k_ofB, v_k_tru, v_k_and, v_k_or, v_k_not, v_k_bAnd, v_k_bOr, v_k_bNot, v_k_eIf, v_k_chb, v_k_ch, v_k_oSome, v_k_slc, v_k_slb, v_k_sl, v_k_call, v_k_iSeq, v_k_iRng, v_k_iEnum, v_k_iZipb, v_k_iZip, v_k_comp, v_k_compc, v_iteCT, v_iteCF, v_k_compb, v_k_for, v_bind_ok, v_bind_ex, v_opt, v_seq, v_seqK_nx, v_seqK_rt, v_seqK_bk, v_seqK_ct, v_next, v_brk, v_cont, v_ret, v_retN, v_if, v_expr, v_nxO, v_asg, v_asgN, v_asgT, v_asgs0, v_asgsN, v_par, v_setAll0, v_setAllN, v_own, v_app, v_appO, v_var, v_varO, v_C, v_1, v_2, v_nil, v_cons, v_tup, v_lst, v_F, v_asB, v_ofB, v_tru, v_and, v_or, v_andO, v_orO, v_not, v_bAnd, v_bOr, v_bNot, v_eIf, v_chain, v_chO, v_oNone, v_oSome, v_sl, v_call, v_iSeq, v_iRng, v_iEnum, v_iZip, v_yes, v_comp, v_comp0, v_compO, v_noex, v_noOwn0, v_noOwnV, v_noOwnN, v_noOwnL, v_wp0, v_wpN, v_fz0, v_fzN, v_fz1, v_fzO_ol, v_fzO_v, v_fzO_no, v_for, v_run, v_fin_nx, v_fin_rt, v_loop0, v_lpO, v_lpK_nx, v_lpK_ct, v_lpK_bk, v_lpK_rt, v_iteAnd, v_iteOr, v_iteAndB, v_iteOrB, v_dB, v_dTru, v_omap, v_obind, v_dInt, v_lenT, v_lenL, v_isN0, v_isNs, v_isNt, v_isNl, v_isNi, v_notN0, v_notNs, v_notNt, v_notNl, v_notNi, v_isiTT, v_isiTL, v_isiTN, v_isiTS, v_isiTI, v_isiLT, v_isiLL, v_add, v_sub, v_lt, v_le, v_gt, v_ge, v_eqI, v_neI, v_all, v_dBs0, v_dBsN, v_tupL, v_tupT, v_listL, v_listT, v_itemsL, v_itemsT, v_rng5, v_rng0, v_rng1, v_rng2, v_rng3, v_rng4, v_rng6, v_rng7, v_rng8, v_rng9, v_rng10, v_rng11, v_rng12, v_rng5l, v_enum5, v_ixT0, v_ixT1, v_ixT2, v_ixT3, v_ixT4, v_ext, v_extO, v_k_ext, v_olD, v_olV, v_ixO, v_ixOO, v_lenO, v_lenOO, v_neg, v_lwT, v_lwF, v_lwK_nx, v_lwK_ct, v_lwK_bk, v_lwK_rt, v_while, v_par3, v_k_par3b, v_k_par3c, v_aug, v_augO, v_k_aug, v_augN, v_addI, v_cat, v_k_cat, v_k_catb, v_catO, v_ownD, v_odD, v_inD, v_inDO, v_k_inD, v_getD, v_getDO, v_k_getD, v_putD, v_putDO, v_k_putD, v_k_putDb, v_res, v_resOk, v_resEx, v_resN, v_raise, List.map_cons, List.map_nil, List.cons_append, List.nil_append, List.length_cons, List.length_nil, List.getElem?_cons_zero, List.getElem?_cons_succ, List.set_cons_zero, List.set_cons_succ, List.replicate_succ, List.replicate_zero, Nat.reduceAdd, Nat.reduceSub, ↓reduceIte, Bool.not_true, Bool.not_false, Bool.false_eq_true, Nat.zero_add, reduceCtorEq, LIM, Int.cast_ofNat_Int, Int.reduceEq, Int.reduceLT, Int.reduceLE, decide_true, decide_false, Nat.reduceLeDiff, List.all_cons, List.all_nil, id_eq, Bool.and_self, Bool.and_true, Bool.true_and, Bool.false_and, Bool.and_false, Bool.true_or, Bool.or_true, Bool.false_or, Bool.or_false, Bool.or_self, Nat.reduceLT, M_law_draw, h1, h2, h3, h4, h5, ix_abcd, ix_iolr, ix_nuwlr, ne_n]
  by_cases c1 : ((i5.val : Nat) : Int) = 0
  · by_cases c2 : i3 = 0
    · refine ⟨⟨i1, i2, i3, i4, .no⟩, τ5, rfl, ?_⟩
      simp only [v_k_ret, v_iteT, v_iteF, v_k_if, v_k_expr, v_k_asg, v_k_par, v_k_own, v_k_app, v_k_1, v_k_2b, v_k_2, v_k_consb, v_k_cons, v_k_tup, v_k_lst, v_k_asB, v_k_ofB, v_k_tru, v_k_and, v_k_or, v_k_not, v_k_bAnd, v_k_bOr, v_k_bNot, v_k_eIf, v_k_chb, v_k_ch, v_k_oSome, v_k_slc, v_k_slb, v_k_sl, v_k_call, v_k_iSeq, v_k_iRng, v_k_iEnum, v_k_iZipb, v_k_iZip, v_k_comp, v_k_compc, v_iteCT, v_iteCF, v_k_compb, v_k_for, v_bind_ok, v_bind_ex, v_opt, v_seq, v_seqK_nx, v_seqK_rt, v_seqK_bk, v_seqK_ct, v_next, v_brk, v_cont, v_ret, v_retN, v_if, v_expr, v_nxO, v_asg, v_asgN, v_asgT, v_asgs0, v_asgsN, v_par, v_setAll0, v_setAllN, v_own, v_app, v_appO, v_var, v_varO, v_C, v_1, v_2, v_nil, v_cons, v_tup, v_lst, v_F, v_asB, v_ofB, v_tru, v_and, v_or, v_andO, v_orO, v_not, v_bAnd, v_bOr, v_bNot, v_eIf, v_chain, v_chO, v_oNone, v_oSome, v_sl, v_call, v_iSeq, v_iRng, v_iEnum, v_iZip, v_yes, v_comp, v_comp0, v_compO, v_noex, v_noOwn0, v_noOwnV, v_noOwnN, v_noOwnL, v_wp0, v_wpN, v_fz0, v_fzN, v_fz1, v_fzO_ol, v_fzO_v, v_fzO_no, v_for, v_run, v_fin_nx, v_fin_rt, v_loop0, v_lpO, v_lpK_nx, v_lpK_ct, v_lpK_bk, v_lpK_rt, v_iteAnd, v_iteOr, v_iteAndB, v_iteOrB, v_dB, v_dTru, v_omap, v_obind, v_dInt, v_lenT, v_lenL, v_isN0, v_isNs, v_isNt, v_isNl, v_isNi, v_notN0, v_notNs, v_notNt, v_notNl, v_notNi, v_isiTT, v_isiTL, v_isiTN, v_isiTS, v_isiTI, v_isiLT, v_isiLL, v_add, v_sub, v_lt, v_le, v_gt, v_ge, v_eqI, v_neI, v_all, v_dBs0, v_dBsN, v_tupL, v_tupT, v_listL, v_listT, v_itemsL, v_itemsT, v_rng5, v_rng0, v_rng1, v_rng2, v_rng3, v_rng4, v_rng6, v_rng7, v_rng8, v_rng9, v_rng10, v_rng11, v_rng12, v_rng5l, v_enum5, v_ixT0, v_ixT1, v_ixT2, v_ixT3, v_ixT4, v_ext, v_extO, v_k_ext, v_olD, v_olV, v_ixO, v_ixOO, v_lenO, v_lenOO, v_neg, v_lwT, v_lwF, v_lwK_nx, v_lwK_ct, v_lwK_bk, v_lwK_rt, v_while, v_par3, v_k_par3b, v_k_par3c, v_aug, v_augO, v_k_aug, v_augN, v_addI, v_cat, v_k_cat, v_k_catb, v_catO, v_ownD, v_odD, v_inD, v_inDO, v_k_inD, v_getD, v_getDO, v_k_getD, v_putD, v_putDO, v_k_putD, v_k_putDb, v_res, v_resOk, v_resEx, v_resN, v_raise, List.map_cons, List.map_nil, List.cons_append, List.nil_append, List.length_cons, List.length_nil, List.getElem?_cons_zero, List.getElem?_cons_succ, List.set_cons_zero, List.set_cons_succ, List.replicate_succ, List.replicate_zero, Nat.reduceAdd, Nat.reduceSub, ↓reduceIte, Bool.not_true, Bool.not_false, Bool.false_eq_true, Nat.zero_add, reduceCtorEq, LIM, Int.cast_ofNat_Int, Int.reduceEq, Int.reduceLT, Int.reduceLE, decide_true, decide_false, Nat.reduceLeDiff, List.all_cons, List.all_nil, id_eq, Bool.and_self, Bool.and_true, Bool.true_and, Bool.false_and, Bool.and_false, Bool.true_or, Bool.or_true, Bool.false_or, Bool.or_false, Bool.or_self, Nat.reduceLT, c1, c2, bne_self_eq_false]
      rfl
    · refine ⟨⟨i1, i2, i3, i4, .m⟩, τ5, ?_, ?_⟩
      · simp [Sg.good, goodB, c2]
      · have c3 : (i3 != 0) = true := by simp [c2]
        simp only [v_k_ret, v_iteT, v_iteF, v_k_if, v_k_expr, v_k_asg, v_k_par, v_k_own, v_k_app, v_k_1, v_k_2b, v_k_2, v_k_consb, v_k_cons, v_k_tup, v_k_lst, v_k_asB, v_k_ofB, v_k_tru, v_k_and, v_k_or, v_k_not, v_k_bAnd, v_k_bOr, v_k_bNot, v_k_eIf, v_k_chb, v_k_ch, v_k_oSome, v_k_slc, v_k_slb, v_k_sl, v_k_call, v_k_iSeq, v_k_iRng, v_k_iEnum, v_k_iZipb, v_k_iZip, v_k_comp, v_k_compc, v_iteCT, v_iteCF, v_k_compb, v_k_for, v_bind_ok, v_bind_ex, v_opt, v_seq, v_seqK_nx, v_seqK_rt, v_seqK_bk, v_seqK_ct, v_next, v_brk, v_cont, v_ret, v_retN, v_if, v_expr, v_nxO, v_asg, v_asgN, v_asgT, v_asgs0, v_asgsN, v_par, v_setAll0, v_setAllN, v_own, v_app, v_appO, v_var, v_varO, v_C, v_1, v_2, v_nil, v_cons, v_tup, v_lst, v_F, v_asB, v_ofB, v_tru, v_and, v_or, v_andO, v_orO, v_not, v_bAnd, v_bOr, v_bNot, v_eIf, v_chain, v_chO, v_oNone, v_oSome, v_sl, v_call, v_iSeq, v_iRng, v_iEnum, v_iZip, v_yes, v_comp, v_comp0, v_compO, v_noex, v_noOwn0, v_noOwnV, v_noOwnN, v_noOwnL, v_wp0, v_wpN, v_fz0, v_fzN, v_fz1, v_fzO_ol, v_fzO_v, v_fzO_no, v_for, v_run, v_fin_nx, v_fin_rt, v_loop0, v_lpO, v_lpK_nx, v_lpK_ct, v_lpK_bk, v_lpK_rt, v_iteAnd, v_iteOr, v_iteAndB, v_iteOrB, v_dB, v_dTru, v_omap, v_obind, v_dInt, v_lenT, v_lenL, v_isN0, v_isNs, v_isNt, v_isNl, v_isNi, v_notN0, v_notNs, v_notNt, v_notNl, v_notNi, v_isiTT, v_isiTL, v_isiTN, v_isiTS, v_isiTI, v_isiLT, v_isiLL, v_add, v_sub, v_lt, v_le, v_gt, v_ge, v_eqI, v_neI, v_all, v_dBs0, v_dBsN, v_tupL, v_tupT, v_listL, v_listT, v_itemsL, v_itemsT, v_rng5, v_rng0, v_rng1, v_rng2, v_rng3, v_rng4, v_rng6, v_rng7, v_rng8, v_rng9, v_rng10, v_rng11, v_rng12, v_rng5l, v_enum5, v_ixT0, v_ixT1, v_ixT2, v_ixT3, v_ixT4, v_ext, v_extO, v_k_ext, v_olD, v_olV, v_ixO, v_ixOO, v_lenO, v_lenOO, v_neg, v_lwT, v_lwF, v_lwK_nx, v_lwK_ct, v_lwK_bk, v_lwK_rt, v_while, v_par3, v_k_par3b, v_k_par3c, v_aug, v_augO, v_k_aug, v_augN, v_addI, v_cat, v_k_cat, v_k_catb, v_catO, v_ownD, v_odD, v_inD, v_inDO, v_k_inD, v_getD, v_getDO, v_k_getD, v_putD, v_putDO, v_k_putD, v_k_putDb, v_res, v_resOk, v_resEx, v_resN, v_raise, List.map_cons, List.map_nil, List.cons_append, List.nil_append, List.length_cons, List.length_nil, List.getElem?_cons_zero, List.getElem?_cons_succ, List.set_cons_zero, List.set_cons_succ, List.replicate_succ, List.replicate_zero, Nat.reduceAdd, Nat.reduceSub, ↓reduceIte, Bool.not_true, Bool.not_false, Bool.false_eq_true, Nat.zero_add, reduceCtorEq, LIM, Int.cast_ofNat_Int, Int.reduceEq, Int.reduceLT, Int.reduceLE, decide_true, decide_false, Nat.reduceLeDiff, List.all_cons, List.all_nil, id_eq, Bool.and_self, Bool.and_true, Bool.true_and, Bool.false_and, Bool.and_false, Bool.true_or, Bool.or_true, Bool.false_or, Bool.or_false, Bool.or_self, Nat.reduceLT, c1, c3]
        rfl
  · by_cases c2 : ((i5.val : Nat) : Int) < 2
    · refine ⟨⟨i1, i2, i3, i4, .no⟩, τ5, rfl, ?_⟩
      simp only [v_k_ret, v_iteT, v_iteF, v_k_if, v_k_expr, v_k_asg, v_k_par, v_k_own, v_k_app, v_k_1, v_k_2b, v_k_2, v_k_consb, v_k_cons, v_k_tup, v_k_lst, v_k_asB, v_k_ofB, v_k_tru, v_k_and, v_k_or, v_k_not, v_k_bAnd, v_k_bOr, v_k_bNot, v_k_eIf, v_k_chb, v_k_ch, v_k_oSome, v_k_slc, v_k_slb, v_k_sl, v_k_call, v_k_iSeq, v_k_iRng, v_k_iEnum, v_k_iZipb, v_k_iZip, v_k_comp, v_k_compc, v_iteCT, v_iteCF, v_k_compb, v_k_for, v_bind_ok, v_bind_ex, v_opt, v_seq, v_seqK_nx, v_seqK_rt, v_seqK_bk, v_seqK_ct, v_next, v_brk, v_cont, v_ret, v_retN, v_if, v_expr, v_nxO, v_asg, v_asgN, v_asgT, v_asgs0, v_asgsN, v_par, v_setAll0, v_setAllN, v_own, v_app, v_appO, v_var, v_varO, v_C, v_1, v_2, v_nil, v_cons, v_tup, v_lst, v_F, v_asB, v_ofB, v_tru, v_and, v_or, v_andO, v_orO, v_not, v_bAnd, v_bOr, v_bNot, v_eIf, v_chain, v_chO, v_oNone, v_oSome, v_sl, v_call, v_iSeq, v_iRng, v_iEnum, v_iZip, v_yes, v_comp, v_comp0, v_compO, v_noex, v_noOwn0, v_noOwnV, v_noOwnN, v_noOwnL, v_wp0, v_wpN, v_fz0, v_fzN, v_fz1, v_fzO_ol, v_fzO_v, v_fzO_no, v_for, v_run, v_fin_nx, v_fin_rt, v_loop0, v_lpO, v_lpK_nx, v_lpK_ct, v_lpK_bk, v_lpK_rt, v_iteAnd, v_iteOr, v_iteAndB, v_iteOrB, v_dB, v_dTru, v_omap, v_obind, v_dInt, v_lenT, v_lenL, v_isN0, v_isNs, v_isNt, v_isNl, v_isNi, v_notN0, v_notNs, v_notNt, v_notNl, v_notNi, v_isiTT, v_isiTL, v_isiTN, v_isiTS, v_isiTI, v_isiLT, v_isiLL, v_add, v_sub, v_lt, v_le, v_gt, v_ge, v_eqI, v_neI, v_all, v_dBs0, v_dBsN, v_tupL, v_tupT, v_listL, v_listT, v_itemsL, v_itemsT, v_rng5, v_rng0, v_rng1, v_rng2, v_rng3, v_rng4, v_rng6, v_rng7, v_rng8, v_rng9, v_rng10, v_rng11, v_rng12, v_rng5l, v_enum5, v_ixT0, v_ixT1, v_ixT2, v_ixT3, v_ixT4, v_ext, v_extO, v_k_ext, v_olD, v_olV, v_ixO, v_ixOO, v_lenO, v_lenOO, v_neg, v_lwT, v_lwF, v_lwK_nx, v_lwK_ct, v_lwK_bk, v_lwK_rt, v_while, v_par3, v_k_par3b, v_k_par3c, v_aug, v_augO, v_k_aug, v_augN, v_addI, v_cat, v_k_cat, v_k_catb, v_catO, v_ownD, v_odD, v_inD, v_inDO, v_k_inD, v_getD, v_getDO, v_k_getD, v_putD, v_putDO, v_k_putD, v_k_putDb, v_res, v_resOk, v_resEx, v_resN, v_raise, List.map_cons, List.map_nil, List.cons_append, List.nil_append, List.length_cons, List.length_nil, List.getElem?_cons_zero, List.getElem?_cons_succ, List.set_cons_zero, List.set_cons_succ, List.replicate_succ, List.replicate_zero, Nat.reduceAdd, Nat.reduceSub, ↓reduceIte, Bool.not_true, Bool.not_false, Bool.false_eq_true, Nat.zero_add, reduceCtorEq, LIM, Int.cast_ofNat_Int, Int.reduceEq, Int.reduceLT, Int.reduceLE, decide_true, decide_false, Nat.reduceLeDiff, List.all_cons, List.all_nil, id_eq, Bool.and_self, Bool.and_true, Bool.true_and, Bool.false_and, Bool.and_false, Bool.true_or, Bool.or_true, Bool.false_or, Bool.or_false, Bool.or_self, Nat.reduceLT, c1, c2]
      rfl
    · refine ⟨⟨i1, i2, i3, i4, .h (rsI i6 i1) i7⟩, τ7, good_rs .., ?_⟩
      simp only [v_k_ret, v_iteT, v_iteF, v_k_if, v_k_expr, v_k_asg, v_k_par, v_k_own, v_k_app, v_k_1, v_k_2b, v_k_2, v_k_consb, v_k_cons, v_k_tup, v_k_lst, v_k_asB, v_k_ofB, v_k_tru, v_k_and, v_k_or, v_k_not, v_k_bAnd, v_k_bOr, v_k_bNot, v_k_eIf, v_k_chb, v_k_ch, v_k_oSome, v_k_slc, v_k_slb, v_k_sl, v_k_call, v_k_iSeq, v_k_iRng, v_k_iEnum, v_k_iZipb, v_k_iZip, v_k_comp, v_k_compc, v_iteCT, v_iteCF, v_k_compb, v_k_for, v_bind_ok, v_bind_ex, v_opt, v_seq, v_seqK_nx, v_seqK_rt, v_seqK_bk, v_seqK_ct, v_next, v_brk, v_cont, v_ret, v_retN, v_if, v_expr, v_nxO, v_asg, v_asgN, v_asgT, v_asgs0, v_asgsN, v_par, v_setAll0, v_setAllN, v_own, v_app, v_appO, v_var, v_varO, v_C, v_1, v_2, v_nil, v_cons, v_tup, v_lst, v_F, v_asB, v_ofB, v_tru, v_and, v_or, v_andO, v_orO, v_not, v_bAnd, v_bOr, v_bNot, v_eIf, v_chain, v_chO, v_oNone, v_oSome, v_sl, v_call, v_iSeq, v_iRng, v_iEnum, v_iZip, v_yes, v_comp, v_comp0, v_compO, v_noex, v_noOwn0, v_noOwnV, v_noOwnN, v_noOwnL, v_wp0, v_wpN, v_fz0, v_fzN, v_fz1, v_fzO_ol, v_fzO_v, v_fzO_no, v_for, v_run, v_fin_nx, v_fin_rt, v_loop0, v_lpO, v_lpK_nx, v_lpK_ct, v_lpK_bk, v_lpK_rt, v_iteAnd, v_iteOr, v_iteAndB, v_iteOrB, v_dB, v_dTru, v_omap, v_obind, v_dInt, v_lenT, v_lenL, v_isN0, v_isNs, v_isNt, v_isNl, v_isNi, v_notN0, v_notNs, v_notNt, v_notNl, v_notNi, v_isiTT, v_isiTL, v_isiTN, v_isiTS, v_isiTI, v_isiLT, v_isiLL, v_add, v_sub, v_lt, v_le, v_gt, v_ge, v_eqI, v_neI, v_all, v_dBs0, v_dBsN, v_tupL, v_tupT, v_listL, v_listT, v_itemsL, v_itemsT, v_rng5, v_rng0, v_rng1, v_rng2, v_rng3, v_rng4, v_rng6, v_rng7, v_rng8, v_rng9, v_rng10, v_rng11, v_rng12, v_rng5l, v_enum5, v_ixT0, v_ixT1, v_ixT2, v_ixT3, v_ixT4, v_ext, v_extO, v_k_ext, v_olD, v_olV, v_ixO, v_ixOO, v_lenO, v_lenOO, v_neg, v_lwT, v_lwF, v_lwK_nx, v_lwK_ct, v_lwK_bk, v_lwK_rt, v_while, v_par3, v_k_par3b, v_k_par3c, v_aug, v_augO, v_k_aug, v_augN, v_addI, v_cat, v_k_cat, v_k_catb, v_catO, v_ownD, v_odD, v_inD, v_inDO, v_k_inD, v_getD, v_getDO, v_k_getD, v_putD, v_putDO, v_k_putD, v_k_putDb, v_res, v_resOk, v_resEx, v_resN, v_raise, List.map_cons, List.map_nil, List.cons_append, List.nil_append, List.length_cons, List.length_nil, List.getElem?_cons_zero, List.getElem?_cons_succ, List.set_cons_zero, List.set_cons_succ, List.replicate_succ, List.replicate_zero, Nat.reduceAdd, Nat.reduceSub, ↓reduceIte, Bool.not_true, Bool.not_false, Bool.false_eq_true, Nat.zero_add, reduceCtorEq, LIM, Int.cast_ofNat_Int, Int.reduceEq, Int.reduceLT, Int.reduceLE, decide_true, decide_false, Nat.reduceLeDiff, List.all_cons, List.all_nil, id_eq, Bool.and_self, Bool.and_true, Bool.true_and, Bool.false_and, Bool.and_false, Bool.true_or, Bool.or_true, Bool.false_or, Bool.or_false, Bool.or_self, Nat.reduceLT, c1, c2, h6, h7, ix_ab, ix_iolr, M_law_draw]
      rfl
theorem in_ab (i : Fin 4) : dIn (.str (shS i)) (.tuple [.str (Str.ofString "a"), .str (Str.ofString "b")]) = some (.bool (decide (i.val < 2))) := by
  match i with | 0 => kernel_rfl | 1 => kernel_rfl | 2 => kernel_rfl | 3 => kernel_rfl
theorem eq_shS (i j : Fin 4) : dEq (.str (shS i)) (.str (shS j)) = some (.bool (i == j)) := by
  match i, j with
  | 0, 0 => kernel_rfl
  | 0, 1 => kernel_rfl
  | 0, 2 => kernel_rfl
  | 0, 3 => kernel_rfl
  | 1, 0 => kernel_rfl
  | 1, 1 => kernel_rfl
  | 1, 2 => kernel_rfl
  | 1, 3 => kernel_rfl
  | 2, 0 => kernel_rfl
  | 2, 1 => kernel_rfl
  | 2, 2 => kernel_rfl
  | 2, 3 => kernel_rfl
  | 3, 0 => kernel_rfl
  | 3, 1 => kernel_rfl
  | 3, 2 => kernel_rfl
  | 3, 3 => kernel_rfl
theorem eq_hm (s t : Fin 4) : dEq (secD (.h s t)) (.str (Str.ofString "m")) = some (.bool false) := by
  rw [eq_of_sh (sh_sec _) (by kernel_rfl)]; rfl
theorem eq_mm : dEq (secD .m) (.str (Str.ofString "m")) = some (.bool true) := by kernel_rfl
theorem isN_no : dIsN (secD .no) = some (.bool true) := rfl
theorem isN_m : dIsN (secD .m) = some (.bool false) := rfl
theorem isN_h (s t : Fin 4) : dIsN (secD (.h s t)) = some (.bool false) := rfl
theorem ix_h0 (s t : Fin 4) : dIx (secD (.h s t)) (.int 0) = some (.str (shS s)) := rfl
theorem ix_h1 (s t : Fin 4) : dIx (secD (.h s t)) (.int 1) = some (.str (tnS t)) := rfl
theorem isT_no : dIsi "tuple" (secD .no) = some (.bool false) := rfl
theorem isT_m : dIsi "tuple" (secD .m) = some (.bool false) := rfl
theorem isT_h (s t : Fin 4) : dIsi "tuple" (secD (.h s t)) = some (.bool true) := rfl
theorem law_good_ok (s : Sg) (τ : S) : M_law_good [sd s] τ = .ok (.bool s.good) τ := by
  obtain ⟨sh, tn, mv, pl, se⟩ := s
  unfold M_law_good B_law_good Sg.good
  cases se with
  | no => simp only [v_k_ret, v_iteT, v_iteF, v_k_if, v_k_expr, v_k_asg, v_k_par, v_k_own, v_k_app, v_k_1, v_k_2b, v_k_2, v_k_consb, v_k_cons, v_k_tup, v_k_lst, v_k_asB, v_k_ofB, v_k_tru, v_k_and, v_k_or, v_k_not, v_k_bAnd, v_k_bOr, v_k_bNot, v_k_eIf, v_k_chb, v_k_ch, v_k_oSome, v_k_slc, v_k_slb, v_k_sl, v_k_call, v_k_iSeq, v_k_iRng, v_k_iEnum, v_k_iZipb, v_k_iZip, v_k_comp, v_k_compc, v_iteCT, v_iteCF, v_k_compb, v_k_for, v_bind_ok, v_bind_ex, v_opt, v_seq, v_seqK_nx, v_seqK_rt, v_seqK_bk, v_seqK_ct, v_next, v_brk, v_cont, v_ret, v_retN, v_if, v_expr, v_nxO, v_asg, v_asgN, v_asgT, v_asgs0, v_asgsN, v_par, v_setAll0, v_setAllN, v_own, v_app, v_appO, v_var, v_varO, v_C, v_1, v_2, v_nil, v_cons, v_tup, v_lst, v_F, v_asB, v_ofB, v_tru, v_and, v_or, v_andO, v_orO, v_not, v_bAnd, v_bOr, v_bNot, v_eIf, v_chain, v_chO, v_oNone, v_oSome, v_sl, v_call, v_iSeq, v_iRng, v_iEnum, v_iZip, v_yes, v_comp, v_comp0, v_compO, v_noex, v_noOwn0, v_noOwnV, v_noOwnN, v_noOwnL, v_wp0, v_wpN, v_fz0, v_fzN, v_fz1, v_fzO_ol, v_fzO_v, v_fzO_no, v_for, v_run, v_fin_nx, v_fin_rt, v_loop0, v_lpO, v_lpK_nx, v_lpK_ct, v_lpK_bk, v_lpK_rt, v_iteAnd, v_iteOr, v_iteAndB, v_iteOrB, v_dB, v_dTru, v_omap, v_obind, v_dInt, v_lenT, v_lenL, v_isN0, v_isNs, v_isNt, v_isNl, v_isNi, v_notN0, v_notNs, v_notNt, v_notNl, v_notNi, v_isiTT, v_isiTL, v_isiTN, v_isiTS, v_isiTI, v_isiLT, v_isiLL, v_add, v_sub, v_lt, v_le, v_gt, v_ge, v_eqI, v_neI, v_all, v_dBs0, v_dBsN, v_tupL, v_tupT, v_listL, v_listT, v_itemsL, v_itemsT, v_rng5, v_rng0, v_rng1, v_rng2, v_rng3, v_rng4, v_rng6, v_rng7, v_rng8, v_rng9, v_rng10, v_rng11, v_rng12, v_rng5l, v_enum5, v_ixT0, v_ixT1, v_ixT2, v_ixT3, v_ixT4, v_ext, v_extO, v_k_ext, v_olD, v_olV, v_ixO, v_ixOO, v_lenO, v_lenOO, v_neg, v_lwT, v_lwF, v_lwK_nx, v_lwK_ct, v_lwK_bk, v_lwK_rt, v_while, v_par3, v_k_par3b, v_k_par3c, v_aug, v_augO, v_k_aug, v_augN, v_addI, v_cat, v_k_cat, v_k_catb, v_catO, v_ownD, v_odD, v_inD, v_inDO, v_k_inD, v_getD, v_getDO, v_k_getD, v_putD, v_putDO, v_k_putD, v_k_putDb, v_res, v_resOk, v_resEx, v_resN, v_raise, List.map_cons, List.map_nil, List.cons_append, List.nil_append, List.length_cons, List.length_nil, List.getElem?_cons_zero, List.getElem?_cons_succ, List.set_cons_zero, List.set_cons_succ, List.replicate_succ, List.replicate_zero, Nat.reduceAdd, Nat.reduceSub, ↓reduceIte, Bool.not_true, Bool.not_false, Bool.false_eq_true, Nat.zero_add, reduceCtorEq, LIM, Int.cast_ofNat_Int, Int.reduceEq, Int.reduceLT, Int.reduceLE, decide_true, decide_false, Nat.reduceLeDiff, List.all_cons, List.all_nil, id_eq, Bool.and_self, Bool.and_true, Bool.true_and, Bool.false_and, Bool.and_false, Bool.true_or, Bool.or_true, Bool.false_or, Bool.or_false, Bool.or_self, Nat.reduceLT, ix_sd4, isN_no, goodB]
  | m => simp only [v_k_ret, v_iteT, v_iteF, v_k_if, v_k_expr, v_k_asg, v_k_par, v_k_own, v_k_app, v_k_1, v_k_2b, v_k_2, v_k_consb, v_k_cons, v_k_tup, v_k_lst, v_k_asB, v_k_ofB, v_k_tru, v_k_and, v_k_or, v_k_not, v_k_bAnd, v_k_bOr, v_k_bNot, v_k_eIf, v_k_chb, v_k_ch, v_k_oSome, v_k_slc, v_k_slb, v_k_sl, v_k_call, v_k_iSeq, v_k_iRng, v_k_iEnum, v_k_iZipb, v_k_iZip, v_k_comp, v_k_compc, v_iteCT, v_iteCF, v_k_compb, v_k_for, v_bind_ok, v_bind_ex, v_opt, v_seq, v_seqK_nx, v_seqK_rt, v_seqK_bk, v_seqK_ct, v_next, v_brk, v_cont, v_ret, v_retN, v_if, v_expr, v_nxO, v_asg, v_asgN, v_asgT, v_asgs0, v_asgsN, v_par, v_setAll0, v_setAllN, v_own, v_app, v_appO, v_var, v_varO, v_C, v_1, v_2, v_nil, v_cons, v_tup, v_lst, v_F, v_asB, v_ofB, v_tru, v_and, v_or, v_andO, v_orO, v_not, v_bAnd, v_bOr, v_bNot, v_eIf, v_chain, v_chO, v_oNone, v_oSome, v_sl, v_call, v_iSeq, v_iRng, v_iEnum, v_iZip, v_yes, v_comp, v_comp0, v_compO, v_noex, v_noOwn0, v_noOwnV, v_noOwnN, v_noOwnL, v_wp0, v_wpN, v_fz0, v_fzN, v_fz1, v_fzO_ol, v_fzO_v, v_fzO_no, v_for, v_run, v_fin_nx, v_fin_rt, v_loop0, v_lpO, v_lpK_nx, v_lpK_ct, v_lpK_bk, v_lpK_rt, v_iteAnd, v_iteOr, v_iteAndB, v_iteOrB, v_dB, v_dTru, v_omap, v_obind, v_dInt, v_lenT, v_lenL, v_isN0, v_isNs, v_isNt, v_isNl, v_isNi, v_notN0, v_notNs, v_notNt, v_notNl, v_notNi, v_isiTT, v_isiTL, v_isiTN, v_isiTS, v_isiTI, v_isiLT, v_isiLL, v_add, v_sub, v_lt, v_le, v_gt, v_ge, v_eqI, v_neI, v_all, v_dBs0, v_dBsN, v_tupL, v_tupT, v_listL, v_listT, v_itemsL, v_itemsT, v_rng5, v_rng0, v_rng1, v_rng2, v_rng3, v_rng4, v_rng6, v_rng7, v_rng8, v_rng9, v_rng10, v_rng11, v_rng12, v_rng5l, v_enum5, v_ixT0, v_ixT1, v_ixT2, v_ixT3, v_ixT4, v_ext, v_extO, v_k_ext, v_olD, v_olV, v_ixO, v_ixOO, v_lenO, v_lenOO, v_neg, v_lwT, v_lwF, v_lwK_nx, v_lwK_ct, v_lwK_bk, v_lwK_rt, v_while, v_par3, v_k_par3b, v_k_par3c, v_aug, v_augO, v_k_aug, v_augN, v_addI, v_cat, v_k_cat, v_k_catb, v_catO, v_ownD, v_odD, v_inD, v_inDO, v_k_inD, v_getD, v_getDO, v_k_getD, v_putD, v_putDO, v_k_putD, v_k_putDb, v_res, v_resOk, v_resEx, v_resN, v_raise, List.map_cons, List.map_nil, List.cons_append, List.nil_append, List.length_cons, List.length_nil, List.getElem?_cons_zero, List.getElem?_cons_succ, List.set_cons_zero, List.set_cons_succ, List.replicate_succ, List.replicate_zero, Nat.reduceAdd, Nat.reduceSub, ↓reduceIte, Bool.not_true, Bool.not_false, Bool.false_eq_true, Nat.zero_add, reduceCtorEq, LIM, Int.cast_ofNat_Int, Int.reduceEq, Int.reduceLT, Int.reduceLE, decide_true, decide_false, Nat.reduceLeDiff, List.all_cons, List.all_nil, id_eq, Bool.and_self, Bool.and_true, Bool.true_and, Bool.false_and, Bool.and_false, Bool.true_or, Bool.or_true, Bool.false_or, Bool.or_false, Bool.or_self, Nat.reduceLT, ix_sd4, ix_sd2, isN_m, eq_mm, ne_n, goodB]
  | h a b =>
    simp only [v_k_ret, v_iteT, v_iteF, v_k_if, v_k_expr, v_k_asg, v_k_par, v_k_own, v_k_app, v_k_1, v_k_2b, v_k_2, v_k_consb, v_k_cons, v_k_tup, v_k_lst, v_k_asB, v_k_ofB, v_k_tru, v_k_and, v_k_or, v_k_not, v_k_bAnd, v_k_bOr, v_k_bNot, v_k_eIf, v_k_chb, v_k_ch, v_k_oSome, v_k_slc, v_k_slb, v_k_sl, v_k_call, v_k_iSeq, v_k_iRng, v_k_iEnum, v_k_iZipb, v_k_iZip, v_k_comp, v_k_compc, v_iteCT, v_iteCF, v_k_compb, v_k_for, v_bind_ok, v_bind_ex, v_opt, v_seq, v_seqK_nx, v_seqK_rt, v_seqK_bk, v_seqK_ct, v_next, v_brk, v_cont, v_ret, v_retN, v_if, v_expr, v_nxO, v_asg, v_asgN, v_asgT, v_asgs0, v_asgsN, v_par, v_setAll0, v_setAllN, v_own, v_app, v_appO, v_var, v_varO, v_C, v_1, v_2, v_nil, v_cons, v_tup, v_lst, v_F, v_asB, v_ofB, v_tru, v_and, v_or, v_andO, v_orO, v_not, v_bAnd, v_bOr, v_bNot, v_eIf, v_chain, v_chO, v_oNone, v_oSome, v_sl, v_call, v_iSeq, v_iRng, v_iEnum, v_iZip, v_yes, v_comp, v_comp0, v_compO, v_noex, v_noOwn0, v_noOwnV, v_noOwnN, v_noOwnL, v_wp0, v_wpN, v_fz0, v_fzN, v_fz1, v_fzO_ol, v_fzO_v, v_fzO_no, v_for, v_run, v_fin_nx, v_fin_rt, v_loop0, v_lpO, v_lpK_nx, v_lpK_ct, v_lpK_bk, v_lpK_rt, v_iteAnd, v_iteOr, v_iteAndB, v_iteOrB, v_dB, v_dTru, v_omap, v_obind, v_dInt, v_lenT, v_lenL, v_isN0, v_isNs, v_isNt, v_isNl, v_isNi, v_notN0, v_notNs, v_notNt, v_notNl, v_notNi, v_isiTT, v_isiTL, v_isiTN, v_isiTS, v_isiTI, v_isiLT, v_isiLL, v_add, v_sub, v_lt, v_le, v_gt, v_ge, v_eqI, v_neI, v_all, v_dBs0, v_dBsN, v_tupL, v_tupT, v_listL, v_listT, v_itemsL, v_itemsT, v_rng5, v_rng0, v_rng1, v_rng2, v_rng3, v_rng4, v_rng6, v_rng7, v_rng8, v_rng9, v_rng10, v_rng11, v_rng12, v_rng5l, v_enum5, v_ixT0, v_ixT1, v_ixT2, v_ixT3, v_ixT4, v_ext, v_extO, v_k_ext, v_olD, v_olV, v_ixO, v_ixOO, v_lenO, v_lenOO, v_neg, v_lwT, v_lwF, v_lwK_nx, v_lwK_ct, v_lwK_bk, v_lwK_rt, v_while, v_par3, v_k_par3b, v_k_par3c, v_aug, v_augO, v_k_aug, v_augN, v_addI, v_cat, v_k_cat, v_k_catb, v_catO, v_ownD, v_odD, v_inD, v_inDO, v_k_inD, v_getD, v_getDO, v_k_getD, v_putD, v_putDO, v_k_putD, v_k_putDb, v_res, v_resOk, v_resEx, v_resN, v_raise, List.map_cons, List.map_nil, List.cons_append, List.nil_append, List.length_cons, List.length_nil, List.getElem?_cons_zero, List.getElem?_cons_succ, List.set_cons_zero, List.set_cons_succ, List.replicate_succ, List.replicate_zero, Nat.reduceAdd, Nat.reduceSub, ↓reduceIte, Bool.not_true, Bool.not_false, Bool.false_eq_true, Nat.zero_add, reduceCtorEq, LIM, Int.cast_ofNat_Int, Int.reduceEq, Int.reduceLT, Int.reduceLE, decide_true, decide_false, Nat.reduceLeDiff, List.all_cons, List.all_nil, id_eq, Bool.and_self, Bool.and_true, Bool.true_and, Bool.false_and, Bool.and_false, Bool.true_or, Bool.or_true, Bool.false_or, Bool.or_false, Bool.or_self, Nat.reduceLT, ix_sd4, ix_sd0, isN_h, eq_hm, ix_h0, in_ab, eq_shS, goodB]
def put (s t : Sg) (i : Fin 6) : Sg := match i with
  | 0 => { s with sh := t.sh }
  | 1 => { s with tn := t.tn }
  | 2 => { s with mv := t.mv }
  | 3 => { s with pl := t.pl }
  | 4 => { s with se := t.se }
  | 5 => { s with se := .no }
theorem sh_dif (s t : Sg) : sh (.tuple (rng5.filter (neAt s t))) = true := by
  unfold rng5
  simp only [List.filter_cons, List.filter_nil]
  cases neAt s t (.int 0) <;> cases neAt s t (.int 1) <;> cases neAt s t (.int 2) <;> cases neAt s t (.int 3) <;> cases neAt s t (.int 4) <;> rfl
theorem due_ok {ρ : Rho} (s t : Sg) (τ : S) {i j k : Nat} (hi : ρ[i]? = some (.v (sd s))) (hj : ρ[j]? = some (.v (sd t))) (hk : k < ρ.length) (ki : k ≠ i) (kj : k ≠ j) :
    compL (.nm k) (asB (e2 dNe (e2 dIx (eVar i) (eVar k)) (e2 dIx (eVar j) (eVar k)))) (eVar k) ρ rng5 [] τ = .ok (rng5.filter (neAt s t)) τ := by
  rw [v_comp_filter (ds := rng5) (p := neAt s t) (F := id)]
  · simp only [v_k_ret, v_iteT, v_iteF, v_k_if, v_k_expr, v_k_asg, v_k_par, v_k_own, v_k_app, v_k_1, v_k_2b, v_k_2, v_k_consb, v_k_cons, v_k_tup, v_k_lst, v_k_asB, v_k_ofB, v_k_tru, v_k_and, v_k_or, v_k_not, v_k_bAnd, v_k_bOr, v_k_bNot, v_k_eIf, v_k_chb, v_k_ch, v_k_oSome, v_k_slc, v_k_slb, v_k_sl, v_k_call, v_k_iSeq, v_k_iRng, v_k_iEnum, v_k_iZipb, v_k_iZip, v_k_comp, v_k_compc, v_iteCT, v_iteCF, v_k_compb, v_k_for, v_bind_ok, v_bind_ex, v_opt, v_seq, v_seqK_nx, v_seqK_rt, v_seqK_bk, v_seqK_ct, v_next, v_brk, v_cont, v_ret, v_retN, v_if, v_expr, v_nxO, v_asg, v_asgN, v_asgT, v_asgs0, v_asgsN, v_par, v_setAll0, v_setAllN, v_own, v_app, v_appO, v_var, v_varO, v_C, v_1, v_2, v_nil, v_cons, v_tup, v_lst, v_F, v_asB, v_ofB, v_tru, v_and, v_or, v_andO, v_orO, v_not, v_bAnd, v_bOr, v_bNot, v_eIf, v_chain, v_chO, v_oNone, v_oSome, v_sl, v_call, v_iSeq, v_iRng, v_iEnum, v_iZip, v_yes, v_comp, v_comp0, v_compO, v_noex, v_noOwn0, v_noOwnV, v_noOwnN, v_noOwnL, v_wp0, v_wpN, v_fz0, v_fzN, v_fz1, v_fzO_ol, v_fzO_v, v_fzO_no, v_for, v_run, v_fin_nx, v_fin_rt, v_loop0, v_lpO, v_lpK_nx, v_lpK_ct, v_lpK_bk, v_lpK_rt, v_iteAnd, v_iteOr, v_iteAndB, v_iteOrB, v_dB, v_dTru, v_omap, v_obind, v_dInt, v_lenT, v_lenL, v_isN0, v_isNs, v_isNt, v_isNl, v_isNi, v_notN0, v_notNs, v_notNt, v_notNl, v_notNi, v_isiTT, v_isiTL, v_isiTN, v_isiTS, v_isiTI, v_isiLT, v_isiLL, v_add, v_sub, v_lt, v_le, v_gt, v_ge, v_eqI, v_neI, v_all, v_dBs0, v_dBsN, v_tupL, v_tupT, v_listL, v_listT, v_itemsL, v_itemsT, v_rng5, v_rng0, v_rng1, v_rng2, v_rng3, v_rng4, v_rng6, v_rng7, v_rng8, v_rng9, v_rng10, v_rng11, v_rng12, v_rng5l, v_enum5, v_ixT0, v_ixT1, v_ixT2, v_ixT3, v_ixT4, v_ext, v_extO, v_k_ext, v_olD, v_olV, v_ixO, v_ixOO, v_lenO, v_lenOO, v_neg, v_lwT, v_lwF, v_lwK_nx, v_lwK_ct, v_lwK_bk, v_lwK_rt, v_while, v_par3, v_k_par3b, v_k_par3c, v_aug, v_augO, v_k_aug, v_augN, v_addI, v_cat, v_k_cat, v_k_catb, v_catO, v_ownD, v_odD, v_inD, v_inDO, v_k_inD, v_getD, v_getDO, v_k_getD, v_putD, v_putDO, v_k_putD, v_k_putDb, v_res, v_resOk, v_resEx, v_resN, v_raise, List.map_cons, List.map_nil, List.cons_append, List.nil_append, List.length_cons, List.length_nil, List.getElem?_cons_zero, List.getElem?_cons_succ, List.set_cons_zero, List.set_cons_succ, List.replicate_succ, List.replicate_zero, Nat.reduceAdd, Nat.reduceSub, ↓reduceIte, Bool.not_true, Bool.not_false, Bool.false_eq_true, Nat.zero_add, reduceCtorEq, LIM, Int.cast_ofNat_Int, Int.reduceEq, Int.reduceLT, Int.reduceLE, decide_true, decide_false, Nat.reduceLeDiff, List.all_cons, List.all_nil, id_eq, Bool.and_self, Bool.and_true, Bool.true_and, Bool.false_and, Bool.and_false, Bool.true_or, Bool.or_true, Bool.false_or, Bool.or_false, Bool.or_self, Nat.reduceLT, List.map_id]
  · intro d hd
    obtain ⟨n, hn, rfl⟩ := rng5_mem hd
    refine ⟨_, rfl, ?_, fun _ => ?_⟩
    · simp only [v_k_ret, v_iteT, v_iteF, v_k_if, v_k_expr, v_k_asg, v_k_par, v_k_own, v_k_app, v_k_1, v_k_2b, v_k_2, v_k_consb, v_k_cons, v_k_tup, v_k_lst, v_k_asB, v_k_ofB, v_k_tru, v_k_and, v_k_or, v_k_not, v_k_bAnd, v_k_bOr, v_k_bNot, v_k_eIf, v_k_chb, v_k_ch, v_k_oSome, v_k_slc, v_k_slb, v_k_sl, v_k_call, v_k_iSeq, v_k_iRng, v_k_iEnum, v_k_iZipb, v_k_iZip, v_k_comp, v_k_compc, v_iteCT, v_iteCF, v_k_compb, v_k_for, v_bind_ok, v_bind_ex, v_opt, v_seq, v_seqK_nx, v_seqK_rt, v_seqK_bk, v_seqK_ct, v_next, v_brk, v_cont, v_ret, v_retN, v_if, v_expr, v_nxO, v_asg, v_asgN, v_asgT, v_asgs0, v_asgsN, v_par, v_setAll0, v_setAllN, v_own, v_app, v_appO, v_var, v_varO, v_C, v_1, v_2, v_nil, v_cons, v_tup, v_lst, v_F, v_asB, v_ofB, v_tru, v_and, v_or, v_andO, v_orO, v_not, v_bAnd, v_bOr, v_bNot, v_eIf, v_chain, v_chO, v_oNone, v_oSome, v_sl, v_call, v_iSeq, v_iRng, v_iEnum, v_iZip, v_yes, v_comp, v_comp0, v_compO, v_noex, v_noOwn0, v_noOwnV, v_noOwnN, v_noOwnL, v_wp0, v_wpN, v_fz0, v_fzN, v_fz1, v_fzO_ol, v_fzO_v, v_fzO_no, v_for, v_run, v_fin_nx, v_fin_rt, v_loop0, v_lpO, v_lpK_nx, v_lpK_ct, v_lpK_bk, v_lpK_rt, v_iteAnd, v_iteOr, v_iteAndB, v_iteOrB, v_dB, v_dTru, v_omap, v_obind, v_dInt, v_lenT, v_lenL, v_isN0, v_isNs, v_isNt, v_isNl, v_isNi, v_notN0, v_notNs, v_notNt, v_notNl, v_notNi, v_isiTT, v_isiTL, v_isiTN, v_isiTS, v_isiTI, v_isiLT, v_isiLL, v_add, v_sub, v_lt, v_le, v_gt, v_ge, v_eqI, v_neI, v_all, v_dBs0, v_dBsN, v_tupL, v_tupT, v_listL, v_listT, v_itemsL, v_itemsT, v_rng5, v_rng0, v_rng1, v_rng2, v_rng3, v_rng4, v_rng6, v_rng7, v_rng8, v_rng9, v_rng10, v_rng11, v_rng12, v_rng5l, v_enum5, v_ixT0, v_ixT1, v_ixT2, v_ixT3, v_ixT4, v_ext, v_extO, v_k_ext, v_olD, v_olV, v_ixO, v_ixOO, v_lenO, v_lenOO, v_neg, v_lwT, v_lwF, v_lwK_nx, v_lwK_ct, v_lwK_bk, v_lwK_rt, v_while, v_par3, v_k_par3b, v_k_par3c, v_aug, v_augO, v_k_aug, v_augN, v_addI, v_cat, v_k_cat, v_k_catb, v_catO, v_ownD, v_odD, v_inD, v_inDO, v_k_inD, v_getD, v_getDO, v_k_getD, v_putD, v_putDO, v_k_putD, v_k_putDb, v_res, v_resOk, v_resEx, v_resN, v_raise, List.map_cons, List.map_nil, List.cons_append, List.nil_append, List.length_cons, List.length_nil, List.getElem?_cons_zero, List.getElem?_cons_succ, List.set_cons_zero, List.set_cons_succ, List.replicate_succ, List.replicate_zero, Nat.reduceAdd, Nat.reduceSub, ↓reduceIte, Bool.not_true, Bool.not_false, Bool.false_eq_true, Nat.zero_add, reduceCtorEq, LIM, Int.cast_ofNat_Int, Int.reduceEq, Int.reduceLT, Int.reduceLE, decide_true, decide_false, Nat.reduceLeDiff, List.all_cons, List.all_nil, id_eq, Bool.and_self, Bool.and_true, Bool.true_and, Bool.false_and, Bool.and_false, Bool.true_or, Bool.or_true, Bool.false_or, Bool.or_false, Bool.or_self, Nat.reduceLT, List.getElem?_set_ne ki, List.getElem?_set_ne kj, List.getElem?_set_self hk, hi, hj, ix_sd _ _ hn, ne_of_sh (sh_part _ _) (sh_part _ _)]
      rfl
    · simp only [v_k_ret, v_iteT, v_iteF, v_k_if, v_k_expr, v_k_asg, v_k_par, v_k_own, v_k_app, v_k_1, v_k_2b, v_k_2, v_k_consb, v_k_cons, v_k_tup, v_k_lst, v_k_asB, v_k_ofB, v_k_tru, v_k_and, v_k_or, v_k_not, v_k_bAnd, v_k_bOr, v_k_bNot, v_k_eIf, v_k_chb, v_k_ch, v_k_oSome, v_k_slc, v_k_slb, v_k_sl, v_k_call, v_k_iSeq, v_k_iRng, v_k_iEnum, v_k_iZipb, v_k_iZip, v_k_comp, v_k_compc, v_iteCT, v_iteCF, v_k_compb, v_k_for, v_bind_ok, v_bind_ex, v_opt, v_seq, v_seqK_nx, v_seqK_rt, v_seqK_bk, v_seqK_ct, v_next, v_brk, v_cont, v_ret, v_retN, v_if, v_expr, v_nxO, v_asg, v_asgN, v_asgT, v_asgs0, v_asgsN, v_par, v_setAll0, v_setAllN, v_own, v_app, v_appO, v_var, v_varO, v_C, v_1, v_2, v_nil, v_cons, v_tup, v_lst, v_F, v_asB, v_ofB, v_tru, v_and, v_or, v_andO, v_orO, v_not, v_bAnd, v_bOr, v_bNot, v_eIf, v_chain, v_chO, v_oNone, v_oSome, v_sl, v_call, v_iSeq, v_iRng, v_iEnum, v_iZip, v_yes, v_comp, v_comp0, v_compO, v_noex, v_noOwn0, v_noOwnV, v_noOwnN, v_noOwnL, v_wp0, v_wpN, v_fz0, v_fzN, v_fz1, v_fzO_ol, v_fzO_v, v_fzO_no, v_for, v_run, v_fin_nx, v_fin_rt, v_loop0, v_lpO, v_lpK_nx, v_lpK_ct, v_lpK_bk, v_lpK_rt, v_iteAnd, v_iteOr, v_iteAndB, v_iteOrB, v_dB, v_dTru, v_omap, v_obind, v_dInt, v_lenT, v_lenL, v_isN0, v_isNs, v_isNt, v_isNl, v_isNi, v_notN0, v_notNs, v_notNt, v_notNl, v_notNi, v_isiTT, v_isiTL, v_isiTN, v_isiTS, v_isiTI, v_isiLT, v_isiLL, v_add, v_sub, v_lt, v_le, v_gt, v_ge, v_eqI, v_neI, v_all, v_dBs0, v_dBsN, v_tupL, v_tupT, v_listL, v_listT, v_itemsL, v_itemsT, v_rng5, v_rng0, v_rng1, v_rng2, v_rng3, v_rng4, v_rng6, v_rng7, v_rng8, v_rng9, v_rng10, v_rng11, v_rng12, v_rng5l, v_enum5, v_ixT0, v_ixT1, v_ixT2, v_ixT3, v_ixT4, v_ext, v_extO, v_k_ext, v_olD, v_olV, v_ixO, v_ixOO, v_lenO, v_lenOO, v_neg, v_lwT, v_lwF, v_lwK_nx, v_lwK_ct, v_lwK_bk, v_lwK_rt, v_while, v_par3, v_k_par3b, v_k_par3c, v_aug, v_augO, v_k_aug, v_augN, v_addI, v_cat, v_k_cat, v_k_catb, v_catO, v_ownD, v_odD, v_inD, v_inDO, v_k_inD, v_getD, v_getDO, v_k_getD, v_putD, v_putDO, v_k_putD, v_k_putDb, v_res, v_resOk, v_resEx, v_resN, v_raise, List.map_cons, List.map_nil, List.cons_append, List.nil_append, List.length_cons, List.length_nil, List.getElem?_cons_zero, List.getElem?_cons_succ, List.set_cons_zero, List.set_cons_succ, List.replicate_succ, List.replicate_zero, Nat.reduceAdd, Nat.reduceSub, ↓reduceIte, Bool.not_true, Bool.not_false, Bool.false_eq_true, Nat.zero_add, reduceCtorEq, LIM, Int.cast_ofNat_Int, Int.reduceEq, Int.reduceLT, Int.reduceLE, decide_true, decide_false, Nat.reduceLeDiff, List.all_cons, List.all_nil, id_eq, Bool.and_self, Bool.and_true, Bool.true_and, Bool.false_and, Bool.and_false, Bool.true_or, Bool.or_true, Bool.false_or, Bool.or_false, Bool.or_self, Nat.reduceLT, List.getElem?_set_self hk]
theorem v_neB (a b : Bool) : dNe (.bool a) (.bool b) = some (.bool (a != b)) := by cases a <;> cases b <;> kernel_rfl
theorem v_eqB (a b : Bool) : dEq (.bool a) (.bool b) = some (.bool (a == b)) := by cases a <;> cases b <;> kernel_rfl
theorem eqv_sh (i j : Fin 4) : PyData.eqv (.str (shS i)) (.str (shS j)) = (i == j) := by
  match i, j with
  | 0, 0 => kernel_rfl
  | 0, 1 => kernel_rfl
  | 0, 2 => kernel_rfl
  | 0, 3 => kernel_rfl
  | 1, 0 => kernel_rfl
  | 1, 1 => kernel_rfl
  | 1, 2 => kernel_rfl
  | 1, 3 => kernel_rfl
  | 2, 0 => kernel_rfl
  | 2, 1 => kernel_rfl
  | 2, 2 => kernel_rfl
  | 2, 3 => kernel_rfl
  | 3, 0 => kernel_rfl
  | 3, 1 => kernel_rfl
  | 3, 2 => kernel_rfl
  | 3, 3 => kernel_rfl
theorem eqv_tn (i j : Fin 4) : PyData.eqv (.str (tnS i)) (.str (tnS j)) = (i == j) := by
  match i, j with
  | 0, 0 => kernel_rfl
  | 0, 1 => kernel_rfl
  | 0, 2 => kernel_rfl
  | 0, 3 => kernel_rfl
  | 1, 0 => kernel_rfl
  | 1, 1 => kernel_rfl
  | 1, 2 => kernel_rfl
  | 1, 3 => kernel_rfl
  | 2, 0 => kernel_rfl
  | 2, 1 => kernel_rfl
  | 2, 2 => kernel_rfl
  | 2, 3 => kernel_rfl
  | 3, 0 => kernel_rfl
  | 3, 1 => kernel_rfl
  | 3, 2 => kernel_rfl
  | 3, 3 => kernel_rfl
theorem all_fin5 {p : Fin 5 → Fin 5 → Prop} (h : ∀ i j : Fin 5, p i j) : ∀ i j, p i j := h
theorem mvS_inj (i j : Fin 5) (h : mvS i = mvS j) : i = j := by
  match i, j, h with
  | 0, 0, _ => rfl
  | 1, 1, _ => rfl
  | 2, 2, _ => rfl
  | 3, 3, _ => rfl
  | 4, 4, _ => rfl
  | 0, 1, h => exact absurd h (by decide +kernel)
  | 0, 2, h => exact absurd h (by decide +kernel)
  | 0, 3, h => exact absurd h (by decide +kernel)
  | 0, 4, h => exact absurd h (by decide +kernel)
  | 1, 0, h => exact absurd h (by decide +kernel)
  | 1, 2, h => exact absurd h (by decide +kernel)
  | 1, 3, h => exact absurd h (by decide +kernel)
  | 1, 4, h => exact absurd h (by decide +kernel)
  | 2, 0, h => exact absurd h (by decide +kernel)
  | 2, 1, h => exact absurd h (by decide +kernel)
  | 2, 3, h => exact absurd h (by decide +kernel)
  | 2, 4, h => exact absurd h (by decide +kernel)
  | 3, 0, h => exact absurd h (by decide +kernel)
  | 3, 1, h => exact absurd h (by decide +kernel)
  | 3, 2, h => exact absurd h (by decide +kernel)
  | 3, 4, h => exact absurd h (by decide +kernel)
  | 4, 0, h => exact absurd h (by decide +kernel)
  | 4, 1, h => exact absurd h (by decide +kernel)
  | 4, 2, h => exact absurd h (by decide +kernel)
  | 4, 3, h => exact absurd h (by decide +kernel)
theorem eqv_mv (i j : Fin 5) : PyData.eqv (.str (mvS i)) (.str (mvS j)) = (i == j) := by
  rw [eqv_s, beq_dec]
  exact decide_eq_decide.mpr ⟨mvS_inj i j, fun h => by rw [h]⟩
theorem eqv_pl (i j : Fin 3) : PyData.eqv (plD i) (plD j) = (i == j) := by
  unfold plD
  rw [eqv_i, beq_dec]
  exact decide_eq_decide.mpr ⟨fun h => Fin.ext (by omega), fun h => by rw [h]⟩
theorem eqv_sec (a b : Sec) : PyData.eqv (secD a) (secD b) = decide (a = b) := by
  match a, b with
  | .no, .no => kernel_rfl
  | .no, .m => kernel_rfl
  | .no, .h _ _ => kernel_rfl
  | .m, .no => kernel_rfl
  | .m, .m => kernel_rfl
  | .m, .h _ _ => kernel_rfl
  | .h _ _, .no => kernel_rfl
  | .h _ _, .m => kernel_rfl
  | .h a b, .h c d =>
    rw [secD, secD, eqv_t, eqvA_cons, eqvA_cons, eqvA_nil, eqv_sh, eqv_tn, Bool.and_true, beq_dec, beq_dec, ← Bool.decide_and]
    exact decide_eq_decide.mpr ⟨fun h => by rw [h.1, h.2], fun h => by cases h; exact ⟨rfl, rfl⟩⟩
theorem eqv_sd (s t : Sg) : PyData.eqv (sd s) (sd t) = decide (s = t) := by
  obtain ⟨a, b, c, d, e⟩ := s
  obtain ⟨a', b', c', d', e'⟩ := t
  rw [sd, sd, eqv_t, eqvA_cons, eqvA_cons, eqvA_cons, eqvA_cons, eqvA_cons, eqvA_nil, eqv_sh, eqv_tn, eqv_mv, eqv_pl, eqv_sec, Bool.and_true, beq_dec, beq_dec, beq_dec, beq_dec, ← Bool.decide_and, ← Bool.decide_and, ← Bool.decide_and, ← Bool.decide_and]
  exact decide_eq_decide.mpr ⟨fun ⟨h1, h2, h3, h4, h5⟩ => by simp only at h1 h2 h3 h4 h5; subst h1 h2 h3 h4 h5; rfl, fun h => by cases h; exact ⟨rfl, rfl, rfl, rfl, rfl⟩⟩
theorem dEq_sd (s t : Sg) : dEq (sd s) (sd t) = some (.bool (decide (s = t))) := by rw [eq_of_sh (sh_sd s) (sh_sd t), eqv_sd]
theorem dNe_sd (s t : Sg) : dNe (sd s) (sd t) = some (.bool (!decide (s = t))) := by rw [ne_of_sh (sh_sd s) (sh_sd t), eqv_sd]
/-- the places at which two signs differ, in plain words -/
def nea (s t : Sg) (i : Nat) : Bool := match i with | 0 => !(s.sh == t.sh) | 1 => !(s.tn == t.tn) | 2 => !(s.mv == t.mv) | 3 => !(s.pl == t.pl) | _ => !decide (s.se = t.se)
theorem neAt_nea (s t : Sg) (i : Nat) : neAt s t (.int (i : Int)) = nea s t i := by
  show (!PyData.eqv (part s ((i : Int)).toNat) (part t ((i : Int)).toNat)) = _
  rw [show ((i : Int)).toNat = i by omega]
  match i with
  | 0 => rw [part, part, eqv_sh]; rfl
  | 1 => rw [part, part, eqv_tn]; rfl
  | 2 => rw [part, part, eqv_mv]; rfl
  | 3 => rw [part, part, eqv_pl]; rfl
  | n + 4 => show (!PyData.eqv (secD s.se) (secD t.se)) = _; rw [eqv_sec]; rfl
theorem dif_congr (s t s' t' : Sg) (h : ∀ i, nea s t i = nea s' t' i) : rng5.filter (neAt s t) = rng5.filter (neAt s' t') := by
  apply List.filter_congr
  intro d hd
  obtain ⟨i, hi, rfl⟩ := rng5_mem hd
  rw [neAt_nea, neAt_nea, h]
theorem dif_nil (s t : Sg) : decide (rng5.filter (neAt s t) = []) = decide (s = t) := by
  refine decide_eq_decide.mpr ?_
  rw [List.filter_eq_nil_iff]
  constructor
  · intro h
    have g : ∀ i : Nat, i < 5 → nea s t i = false := fun i hi => by
      have := h (.int (i : Int)) (by match i, hi with | 0, _ => exact .head _ | 1, _ => exact .tail _ (.head _) | 2, _ => exact .tail _ (.tail _ (.head _)) | 3, _ => exact .tail _ (.tail _ (.tail _ (.head _))) | 4, _ => exact .tail _ (.tail _ (.tail _ (.tail _ (.head _)))))
      rw [neAt_nea] at this
      exact Bool.eq_false_iff.mpr this
    obtain ⟨a, b, c, d, e⟩ := s
    obtain ⟨a', b', c', d', e'⟩ := t
    have h0 := g 0 (by omega)
    have h1 := g 1 (by omega)
    have h2 := g 2 (by omega)
    have h3 := g 3 (by omega)
    have h4 := g 4 (by omega)
    simp only [nea, Bool.not_eq_false', beq_iff_eq, decide_eq_true_eq] at h0 h1 h2 h3 h4
    subst h0 h1 h2 h3 h4
    rfl
  · rintro rfl d hd
    obtain ⟨i, hi, rfl⟩ := rng5_mem hd
    rw [neAt_nea]
    match i with
    | 0 => simp [nea]
    | 1 => simp [nea]
    | 2 => simp [nea]
    | 3 => simp [nea]
    | n + 4 => simp [nea]
theorem nea_comm (s t : Sg) (i : Nat) : nea s t i = nea t s i := by
  match i with
  | 0 => simp only [nea, Bool.beq_comm]
  | 1 => simp only [nea, Bool.beq_comm]
  | 2 => simp only [nea, Bool.beq_comm]
  | 3 => simp only [nea, Bool.beq_comm]
  | n + 4 => simp only [nea, eq_comm]
theorem sw4_sw4 (i : Fin 4) : sw4 (sw4 i) = i := by revert i; decide
theorem sw5_sw5 (i : Fin 5) : sw5 (sw5 i) = i := by revert i; decide
theorem sw4_beq (i j : Fin 4) : (sw4 i == sw4 j) = (i == j) := by revert i j; decide
theorem sw5_beq (i j : Fin 5) : (sw5 i == sw5 j) = (i == j) := by revert i j; decide
theorem swS_swS (a : Sec) : swS (swS a) = a := by cases a <;> simp only [swS, sw4_sw4]
theorem mir_mir (s : Sg) : mir (mir s) = s := by simp only [mir, sw4_sw4, sw5_sw5, swS_swS]
theorem goodB_sw (sh : Fin 4) (mv : Fin 5) (se : Sec) : goodB sh (sw5 mv) (swS se) = goodB sh mv se := by
  cases se with
  | no => rfl
  | m => show (sw5 mv != 0) = (mv != 0); revert mv; decide
  | h s t => rfl
theorem mir_good (s : Sg) : (mir s).good = s.good := goodB_sw ..
theorem swS_inj (a b : Sec) : decide (swS a = swS b) = decide (a = b) := decide_eq_decide.mpr ⟨fun h => by rw [← swS_swS a, h, swS_swS], fun h => by rw [h]⟩
theorem nea_mir (s t : Sg) (i : Nat) : nea (mir s) (mir t) i = nea s t i := by
  match i with
  | 0 => rfl
  | 1 => simp only [nea, mir, sw4_beq]
  | 2 => simp only [nea, mir, sw5_beq]
  | 3 => rfl
  | n + 4 => exact congrArg (fun b => !b) (swS_inj s.se t.se)
theorem dNe_dif (s t s' t' : Sg) (h : ∀ i, nea s t i = nea s' t' i) : dNe (.tuple (rng5.filter (neAt s t))) (.tuple (rng5.filter (neAt s' t'))) = some (.bool false) := by
  rw [dif_congr s t s' t' h]; exact dNe_self (sh_dif _ _)
theorem dEq_dif (s t : Sg) : dEq (.tuple (rng5.filter (neAt s t))) (.tuple []) = some (.bool (decide (s = t))) := by
  rw [eq_of_sh (sh_dif s t) (by kernel_rfl), ← dif_nil, eqv_t]
  cases rng5.filter (neAt s t) with
  | nil => simp only [eqvA_nil, decide_true]
  | cons a l => simp [PyData.eqvAll]
/-- what can rest -/
def restB (a : Fin 4) (s : Sg) : Bool := decide (a.val < 2) || a == s.sh
theorem is_hand_ok (a b : Fin 4) (τ : S) : M_is_hand [.tuple [.str (shS a), .str (tnS b)]] τ = .ok (.bool true) τ := by
  match a, b with
  | 0, 0 => kernel_rfl
  | 0, 1 => kernel_rfl
  | 0, 2 => kernel_rfl
  | 0, 3 => kernel_rfl
  | 1, 0 => kernel_rfl
  | 1, 1 => kernel_rfl
  | 1, 2 => kernel_rfl
  | 1, 3 => kernel_rfl
  | 2, 0 => kernel_rfl
  | 2, 1 => kernel_rfl
  | 2, 2 => kernel_rfl
  | 2, 3 => kernel_rfl
  | 3, 0 => kernel_rfl
  | 3, 1 => kernel_rfl
  | 3, 2 => kernel_rfl
  | 3, 3 => kernel_rfl
theorem tog_h (sh : Fin 4) (mv : Fin 5) (a b : Fin 4) (τ : S) : M_do_go_together [.str (shS sh), .str (mvS mv), .tuple [.str (shS a), .str (tnS b)]] τ = .ok (.bool (decide (a.val < 2) || a == sh)) τ := tog sh mv (.h a b) τ
theorem can_rest_ok (s : Sg) (a b : Fin 4) (hs : s.good = true) (τ : S) : M_can_rest [sd s, .tuple [.str (shS a), .str (tnS b)]] τ = .ok (.bool (restB a s)) τ := by
  unfold M_can_rest B_can_rest M_can_hold B_can_hold
  simp only [v_k_ret, v_iteT, v_iteF, v_k_if, v_k_expr, v_k_asg, v_k_par, v_k_own, v_k_app, v_k_1, v_k_2b, v_k_2, v_k_consb, v_k_cons, v_k_tup, v_k_lst, v_k_asB, v_k_ofB, v_k_tru, v_k_and, v_k_or, v_k_not, v_k_bAnd, v_k_bOr, v_k_bNot, v_k_eIf, v_k_chb, v_k_ch, v_k_oSome, v_k_slc, v_k_slb, v_k_sl, v_k_call, v_k_iSeq, v_k_iRng, v_k_iEnum, v_k_iZipb, v_k_iZip, v_k_comp, v_k_compc, v_iteCT, v_iteCF, v_k_compb, v_k_for, v_bind_ok, v_bind_ex, v_opt, v_seq, v_seqK_nx, v_seqK_rt, v_seqK_bk, v_seqK_ct, v_next, v_brk, v_cont, v_ret, v_retN, v_if, v_expr, v_nxO, v_asg, v_asgN, v_asgT, v_asgs0, v_asgsN, v_par, v_setAll0, v_setAllN, v_own, v_app, v_appO, v_var, v_varO, v_C, v_1, v_2, v_nil, v_cons, v_tup, v_lst, v_F, v_asB, v_ofB, v_tru, v_and, v_or, v_andO, v_orO, v_not, v_bAnd, v_bOr, v_bNot, v_eIf, v_chain, v_chO, v_oNone, v_oSome, v_sl, v_call, v_iSeq, v_iRng, v_iEnum, v_iZip, v_yes, v_comp, v_comp0, v_compO, v_noex, v_noOwn0, v_noOwnV, v_noOwnN, v_noOwnL, v_wp0, v_wpN, v_fz0, v_fzN, v_fz1, v_fzO_ol, v_fzO_v, v_fzO_no, v_for, v_run, v_fin_nx, v_fin_rt, v_loop0, v_lpO, v_lpK_nx, v_lpK_ct, v_lpK_bk, v_lpK_rt, v_iteAnd, v_iteOr, v_iteAndB, v_iteOrB, v_dB, v_dTru, v_omap, v_obind, v_dInt, v_lenT, v_lenL, v_isN0, v_isNs, v_isNt, v_isNl, v_isNi, v_notN0, v_notNs, v_notNt, v_notNl, v_notNi, v_isiTT, v_isiTL, v_isiTN, v_isiTS, v_isiTI, v_isiLT, v_isiLL, v_add, v_sub, v_lt, v_le, v_gt, v_ge, v_eqI, v_neI, v_all, v_dBs0, v_dBsN, v_tupL, v_tupT, v_listL, v_listT, v_itemsL, v_itemsT, v_rng5, v_rng0, v_rng1, v_rng2, v_rng3, v_rng4, v_rng6, v_rng7, v_rng8, v_rng9, v_rng10, v_rng11, v_rng12, v_rng5l, v_enum5, v_ixT0, v_ixT1, v_ixT2, v_ixT3, v_ixT4, v_ext, v_extO, v_k_ext, v_olD, v_olV, v_ixO, v_ixOO, v_lenO, v_lenOO, v_neg, v_lwT, v_lwF, v_lwK_nx, v_lwK_ct, v_lwK_bk, v_lwK_rt, v_while, v_par3, v_k_par3b, v_k_par3c, v_aug, v_augO, v_k_aug, v_augN, v_addI, v_cat, v_k_cat, v_k_catb, v_catO, v_ownD, v_odD, v_inD, v_inDO, v_k_inD, v_getD, v_getDO, v_k_getD, v_putD, v_putDO, v_k_putD, v_k_putDb, v_res, v_resOk, v_resEx, v_resN, v_raise, List.map_cons, List.map_nil, List.cons_append, List.nil_append, List.length_cons, List.length_nil, List.getElem?_cons_zero, List.getElem?_cons_succ, List.set_cons_zero, List.set_cons_succ, List.replicate_succ, List.replicate_zero, Nat.reduceAdd, Nat.reduceSub, ↓reduceIte, Bool.not_true, Bool.not_false, Bool.false_eq_true, Nat.zero_add, reduceCtorEq, LIM, Int.cast_ofNat_Int, Int.reduceEq, Int.reduceLT, Int.reduceLE, decide_true, decide_false, Nat.reduceLeDiff, List.all_cons, List.all_nil, id_eq, Bool.and_self, Bool.and_true, Bool.true_and, Bool.false_and, Bool.and_false, Bool.true_or, Bool.or_true, Bool.false_or, Bool.or_false, Bool.or_self, Nat.reduceLT, check_sign_ok, hs, is_hand_ok, ix_sd0, ix_sd2, tog_h, restB]
/-! ### texts of signs -/
theorem all4 {P : Fin 4 → Prop} (h0 : P 0) (h1 : P 1) (h2 : P 2) (h3 : P 3) : ∀ i, P i := fun i => match i with | 0 => h0 | 1 => h1 | 2 => h2 | 3 => h3
theorem all5 {P : Fin 5 → Prop} (h0 : P 0) (h1 : P 1) (h2 : P 2) (h3 : P 3) (h4 : P 4) : ∀ i, P i := fun i => match i with | 0 => h0 | 1 => h1 | 2 => h2 | 3 => h3 | 4 => h4
theorem all3 {P : Fin 3 → Prop} (h0 : P 0) (h1 : P 1) (h2 : P 2) : ∀ i, P i := fun i => match i with | 0 => h0 | 1 => h1 | 2 => h2
def shC (i : Fin 4) : Nat := 97 + i.val
def tnC (i : Fin 4) : Nat := match i with | 0 => 105 | 1 => 111 | 2 => 108 | 3 => 114
def mvC (i : Fin 5) : Nat := match i with | 0 => 110 | 1 => 117 | 2 => 119 | 3 => 108 | 4 => 114
def f4 (a b : Fin 4) (c : Fin 5) (d : Fin 3) : Str := ⟨#[shC a, tnC b, mvC c, 48 + d.val]⟩
def rsS : Sec → Str
  | .no => ⟨#[45]⟩
  | .m => ⟨#[43, 109]⟩
  | .h a b => ⟨#[43, shC a, tnC b]⟩
def txt (s : Sg) : Str := f4 s.sh s.tn s.mv s.pl ++ rsS s.se
theorem fstr4 (x : Sl) (r : Rho) (τ : S) : ∀ (a b : Fin 4) (c : Fin 5) (d : Fin 3), fStr [eVar 1, eVar 2, eVar 3, eVar 4] Str.empty (x :: .v (.str (shS a)) :: .v (.str (tnS b)) :: .v (.str (mvS c)) :: .v (plD d) :: r) τ = .ok (.str (f4 a b c d)) τ := by
  refine all4 ?_ ?_ ?_ ?_ <;> refine all4 ?_ ?_ ?_ ?_ <;> refine all5 ?_ ?_ ?_ ?_ ?_ <;> refine all3 ?_ ?_ ?_ <;> kernel_rfl
theorem join_h : ∀ (a b : Fin 4), dJoin (.str (Str.ofString "")) (.tuple [.str (shS a), .str (tnS b)]) = some (.str ⟨#[shC a, tnC b]⟩) := by
  refine all4 ?_ ?_ ?_ ?_ <;> refine all4 ?_ ?_ ?_ ?_ <;> kernel_rfl
theorem join_m : dJoin (.str (Str.ofString "")) (.str (Str.ofString "m")) = some (.str ⟨#[109]⟩) := by kernel_rfl
theorem dAdd_s {x y : Str} (hx : x.length ≤ LIM) (hy : y.length ≤ LIM) : dAdd (.str x) (.str y) = some (.str (x ++ y)) := if_pos ⟨hx, hy⟩
theorem f4_len (a b : Fin 4) (c : Fin 5) (d : Fin 3) : (f4 a b c d).length ≤ LIM := by show 4 ≤ 1000000; omega
theorem rsS_len (e : Sec) : (rsS e).length ≤ LIM := by
  cases e with
  | no => show 1 ≤ 1000000; omega
  | m => show 2 ≤ 1000000; omega
  | h a b => show 3 ≤ 1000000; omega
theorem plus_h (a b : Fin 4) : dAdd (.str (Str.ofString "+")) (.str ⟨#[shC a, tnC b]⟩) = some (.str (rsS (.h a b))) := by
  rw [dAdd_s (by decide) (by show 2 ≤ 1000000; omega)]; rfl
theorem plus_m : dAdd (.str (Str.ofString "+")) (.str ⟨#[109]⟩) = some (.str (rsS .m)) := by kernel_rfl
theorem minus_n : (Str.ofString "-") = rsS .no := by kernel_rfl
theorem secm : secD .m = .str (Str.ofString "m") := by kernel_rfl
theorem shC_inj {a b : Fin 4} (h : shC a = shC b) : a = b := Fin.ext (by unfold shC at h; omega)
theorem tnC_inj {a b : Fin 4} (h : tnC a = tnC b) : a = b := by revert a b; decide
theorem mvC_inj {a b : Fin 5} (h : mvC a = mvC b) : a = b := by revert a b; decide
theorem rsS_inj {a b : Sec} (h : (rsS a).cps.toList = (rsS b).cps.toList) : a = b := by
  cases a <;> cases b <;> simp [rsS] at h
  · rfl
  · rfl
  · rw [shC_inj h.1, tnC_inj h.2]
theorem txt_list (s : Sg) : (txt s).cps.toList = shC s.sh :: tnC s.tn :: mvC s.mv :: (48 + s.pl.val) :: (rsS s.se).cps.toList := by
  show (#[shC s.sh, tnC s.tn, mvC s.mv, 48 + s.pl.val] ++ (rsS s.se).cps).toList = _
  rw [Array.toList_append]
  rfl
theorem txt_inj {s t : Sg} (h : txt s = txt t) : s = t := by
  have h' := congrArg (fun x => x.cps.toList) h
  simp only [txt_list, List.cons.injEq] at h'
  obtain ⟨h1, h2, h3, h4, h5⟩ := h'
  obtain ⟨a, b, c, d, e⟩ := s
  obtain ⟨a', b', c', d', e'⟩ := t
  simp only at h1 h2 h3 h4 h5
  rw [shC_inj h1, tnC_inj h2, mvC_inj h3, rsS_inj h5, show d = d' from Fin.ext (by omega)]
/-! ### signs in the order of their texts -/
def insG (x : Sg) : List Sg → List Sg
  | [] => [x]
  | y :: l => if leS (txt x) (txt y) then x :: y :: l else y :: insG x l
def srtG : List Sg → List Sg
  | [] => []
  | x :: l => insG x (srtG l)
theorem insG_map (x : Sg) (l : List Sg) : (insG x l).map txt = insS (txt x) (l.map txt) := by
  induction l with
  | nil => rfl
  | cons y l ih =>
    unfold insG
    rw [List.map_cons, insS]
    split
    · rfl
    · rw [List.map_cons, ih]
theorem srtG_map (l : List Sg) : (srtG l).map txt = sortS (l.map txt) := by
  induction l with
  | nil => rfl
  | cons x l ih => rw [srtG, insG_map, ih]; rfl
theorem insG_perm (x : Sg) (l : List Sg) : (insG x l).Perm (x :: l) := by
  induction l with
  | nil => exact .refl _
  | cons y l ih =>
    unfold insG
    split
    · exact .refl _
    · exact (ih.cons y).trans (.swap ..)
theorem srtG_perm (l : List Sg) : (srtG l).Perm l := by
  induction l with
  | nil => exact .refl _
  | cons x l ih => exact (insG_perm x (srtG l)).trans (ih.cons x)
/-- each one once, where it stands first -/
def ddG (l : List Sg) : List Sg := l.foldl (fun acc x => if x ∈ acc then acc else acc ++ [x]) []
theorem dd_aux (l : List Sg) : ∀ acc : List Sg, mergeD (acc.map fun x => (txt x, sd x)) (l.map fun x => (txt x, sd x)) = (l.foldl (fun acc x => if x ∈ acc then acc else acc ++ [x]) acc).map fun x => (txt x, sd x) := by
  induction l with
  | nil => intro acc; rfl
  | cons x l ih =>
    intro acc
    have e : putD (acc.map fun x => (txt x, sd x)) (txt x) (sd x) = ((if x ∈ acc then acc else acc ++ [x]) : List Sg).map fun x => (txt x, sd x) := by
      unfold putD
      have ha : ((acc.map fun x => (txt x, sd x)).any fun kv => decide (kv.1 = txt x)) = decide (x ∈ acc) := by
        rw [List.any_map, Bool.eq_iff_iff, List.any_eq_true, decide_eq_true_eq]
        constructor
        · rintro ⟨y, hy, h⟩
          have := txt_inj (of_decide_eq_true h)
          subst this
          exact hy
        · intro h
          exact ⟨x, h, by simp⟩
      rw [ha]
      by_cases hx : x ∈ acc
      · rw [if_pos (by simpa using hx), if_pos hx]
        rw [List.map_map]
        apply List.map_congr_left
        intro y _
        show (if txt y = txt x then (txt y, sd x) else (txt y, sd y)) = (txt y, sd y)
        split
        · rename_i h
          rw [txt_inj h]
        · rfl
      · rw [if_neg (by simpa using hx), if_neg hx, List.map_append]
        rfl
    show mergeD (putD (acc.map fun x => (txt x, sd x)) (txt x) (sd x)) (l.map fun x => (txt x, sd x)) = _
    rw [e, ih]
    rfl
theorem dd_ok (l : List Sg) : mergeD [] (l.map fun x => (txt x, sd x)) = (ddG l).map fun x => (txt x, sd x) := dd_aux l []
theorem dd_mem_aux (l : List Sg) : ∀ (acc : List Sg) (x : Sg), x ∈ l.foldl (fun acc x => if x ∈ acc then acc else acc ++ [x]) acc ↔ x ∈ acc ∨ x ∈ l := by
  induction l with
  | nil => intro acc x; simp
  | cons y l ih =>
    intro acc x
    rw [List.foldl_cons, ih]
    by_cases hy : y ∈ acc
    · rw [if_pos hy, List.mem_cons]
      constructor
      · rintro (h | h)
        · exact .inl h
        · exact .inr (.inr h)
      · rintro (h | rfl | h)
        · exact .inl h
        · exact .inl hy
        · exact .inr h
    · rw [if_neg hy, List.mem_append, List.mem_singleton, List.mem_cons, or_assoc]
theorem dd_mem (l : List Sg) (x : Sg) : x ∈ ddG l ↔ x ∈ l := by
  unfold ddG
  rw [dd_mem_aux]
  simp
theorem dd_len_aux (l : List Sg) : ∀ acc : List Sg, (l.foldl (fun acc x => if x ∈ acc then acc else acc ++ [x]) acc).length ≤ acc.length + l.length := by
  induction l with
  | nil => intro acc; simp
  | cons y l ih =>
    intro acc
    rw [List.foldl_cons]
    refine Nat.le_trans (ih _) ?_
    split
    · rw [List.length_cons]; omega
    · rw [List.length_append, List.length_cons, List.length_cons, List.length_nil]; omega
theorem dd_len (l : List Sg) : (ddG l).length ≤ l.length := by
  have := dd_len_aux l []
  simpa [ddG] using this
def srt (l : List Sg) : List Sg := srtG (ddG l)
theorem srt_mem (l : List Sg) (x : Sg) : x ∈ srt l ↔ x ∈ l := by unfold srt; rw [(srtG_perm _).mem_iff, dd_mem]
theorem srt_len (l : List Sg) : (srt l).length ≤ l.length := by unfold srt; rw [(srtG_perm _).length_eq]; exact dd_len l
theorem dPairs_map (l : List Sg) : dPairs (l.map fun x => .tuple [.str (txt x), sd x]) = some (l.map fun x => (txt x, sd x)) := by
  induction l with
  | nil => rfl
  | cons x l ih =>
    show (dPairs (l.map fun x => .tuple [.str (txt x), sd x])).map (fun r => (txt x, sd x) :: r) = _
    rw [ih]
    rfl
theorem look_txt (l : List Sg) (x : Sg) (h : x ∈ l) : dLook (l.map fun x => (txt x, sd x)) (txt x) = some (sd x) := by
  unfold dLook
  induction l with
  | nil => cases h
  | cons y l ih =>
    rw [List.map_cons, List.find?_cons]
    by_cases e : txt y = txt x
    · have := txt_inj e
      subst this
      simp
    · simp only [e, decide_false]
      exact ih (by rcases List.mem_cons.mp h with rfl | h; exact absurd rfl e; exact h)
theorem dDict_ok (l : List Sg) : dDict (.list (l.map fun x => .tuple [.str (txt x), sd x])) = some (dDic ((ddG l).map fun x => (txt x, sd x))) := by
  show (dPairs (l.map fun x => .tuple [.str (txt x), sd x])).map (fun l => dDic (mergeD [] l)) = _
  rw [dPairs_map]
  show some (dDic (mergeD [] (l.map fun x => (txt x, sd x)))) = _
  rw [dd_ok]
theorem dSorted_ok (l : List Sg) (h : l.length < 64) : dSorted (dDic (l.map fun x => (txt x, sd x))) = some (.list ((srtG l).map fun x => .str (txt x))) := by
  have e : dSorted (dDic (l.map fun x => (txt x, sd x))) = (match unDic (dDic (l.map fun x => (txt x, sd x))) with | some kvs => if kvs.length < 64 then some (PyData.list ((sortS (kvs.map (·.1))).map .str)) else none | none => none) := rfl
  rw [e, unDic_dDic]
  show (if (l.map fun x => (txt x, sd x)).length < 64 then some (PyData.list ((sortS ((l.map fun x => (txt x, sd x)).map (·.1))).map .str)) else none) = _
  rw [List.length_map, if_pos h, List.map_map]
  have e2 : ((fun x : Str × D => x.1) ∘ fun x : Sg => (txt x, sd x)) = txt := rfl
  rw [e2, ← srtG_map, List.map_map]
  rfl
theorem dDix_ok (l : List Sg) (x : Sg) (h : x ∈ l) : dDix (dDic (l.map fun x => (txt x, sd x))) (.str (txt x)) = some (sd x) := by
  unfold dDix
  rw [unDic_dDic]
  exact look_txt l x h
def l4 : List (Fin 4) := [0, 1, 2, 3]
def l5 : List (Fin 5) := [0, 1, 2, 3, 4]
def l3 : List (Fin 3) := [0, 1, 2]
def lSec : List Sec := .no :: .m :: (l4.flatMap fun a => l4.map fun b => .h a b)
theorem entries0 (τ : S) : M_entries [.int 0] τ = .ok (.list (l4.map fun a => .str (shS a))) τ := by kernel_rfl
theorem entries1 (τ : S) : M_entries [.int 1] τ = .ok (.list (l4.map fun a => .str (tnS a))) τ := by kernel_rfl
theorem entries2 (τ : S) : M_entries [.int 2] τ = .ok (.list (l5.map fun a => .str (mvS a))) τ := by kernel_rfl
theorem entries3 (τ : S) : M_entries [.int 3] τ = .ok (.list (l3.map plD)) τ := by kernel_rfl
theorem entries4 (τ : S) : M_entries [.int 4] τ = .ok (.list (lSec.map secD)) τ := by kernel_rfl
theorem l4_mem (a : Fin 4) : a ∈ l4 := by revert a; decide
theorem l5_mem (a : Fin 5) : a ∈ l5 := by revert a; decide
theorem l3_mem (a : Fin 3) : a ∈ l3 := by revert a; decide
theorem lSec_mem (a : Sec) : a ∈ lSec := by
  cases a with
  | no => exact .head _
  | m => exact .tail _ (.head _)
  | h x y => exact .tail _ (.tail _ (List.mem_flatMap.mpr ⟨x, l4_mem x, List.mem_map.mpr ⟨y, l4_mem y, rfl⟩⟩))
/-- the signs that differ in one thing, in their order -/
def cand (s : Sg) (i : Nat) : List Sg := match i with
  | 0 => (l4.filter fun a => !(a == s.sh)).map fun a => { s with sh := a }
  | 1 => (l4.filter fun a => !(a == s.tn)).map fun a => { s with tn := a }
  | 2 => (l5.filter fun a => !(a == s.mv)).map fun a => { s with mv := a }
  | 3 => (l3.filter fun a => !(a == s.pl)).map fun a => { s with pl := a }
  | _ => (lSec.filter fun a => !decide (a = s.se)).map fun a => { s with se := a }
theorem ne_shS (i j : Fin 4) : dNe (.str (shS i)) (.str (shS j)) = some (.bool (!(i == j))) := by rw [ne_of_sh (sh_shS i) (sh_shS j), eqv_sh]
theorem ne_tnS (i j : Fin 4) : dNe (.str (tnS i)) (.str (tnS j)) = some (.bool (!(i == j))) := by rw [ne_of_sh (sh_tnS i) (sh_tnS j), eqv_tn]
theorem ne_mvS (i j : Fin 5) : dNe (.str (mvS i)) (.str (mvS j)) = some (.bool (!(i == j))) := by rw [ne_of_sh (sh_mvS i) (sh_mvS j), eqv_mv]
theorem ne_plD (i j : Fin 3) : dNe (plD i) (plD j) = some (.bool (!(i == j))) := by rw [ne_of_sh (sh_plD i) (sh_plD j), eqv_pl]
theorem ne_sec (i j : Sec) : dNe (secD i) (secD j) = some (.bool (!decide (i = j))) := by rw [ne_of_sh (sh_sec i) (sh_sec j), eqv_sec]
theorem near_good {ρ : Rho} (l : List Sg) (τ : S) (hρ : 5 < ρ.length) : compL (.nm 5) (tru (eCall M_is_sign (aCons (eVar 5) aNil))) (eVar 5) ρ (l.map sd) [] τ = .ok ((l.filter Sg.good).map sd) τ := by
  rw [comp_filterS (p := Sg.good) (F := sd)]
  · rfl
  · intro x _
    refine ⟨_, rfl, ?_, fun _ => ?_⟩
    · simp only [v_k_ret, v_iteT, v_iteF, v_k_if, v_k_expr, v_k_asg, v_k_par, v_k_own, v_k_app, v_k_1, v_k_2b, v_k_2, v_k_consb, v_k_cons, v_k_tup, v_k_lst, v_k_asB, v_k_ofB, v_k_tru, v_k_and, v_k_or, v_k_not, v_k_bAnd, v_k_bOr, v_k_bNot, v_k_eIf, v_k_chb, v_k_ch, v_k_oSome, v_k_slc, v_k_slb, v_k_sl, v_k_call, v_k_iSeq, v_k_iRng, v_k_iEnum, v_k_iZipb, v_k_iZip, v_k_comp, v_k_compc, v_iteCT, v_iteCF, v_k_compb, v_k_for, v_bind_ok, v_bind_ex, v_opt, v_seq, v_seqK_nx, v_seqK_rt, v_seqK_bk, v_seqK_ct, v_next, v_brk, v_cont, v_ret, v_retN, v_if, v_expr, v_nxO, v_asg, v_asgN, v_asgT, v_asgs0, v_asgsN, v_par, v_setAll0, v_setAllN, v_own, v_app, v_appO, v_var, v_varO, v_C, v_1, v_2, v_nil, v_cons, v_tup, v_lst, v_F, v_asB, v_ofB, v_tru, v_and, v_or, v_andO, v_orO, v_not, v_bAnd, v_bOr, v_bNot, v_eIf, v_chain, v_chO, v_oNone, v_oSome, v_sl, v_call, v_iSeq, v_iRng, v_iEnum, v_iZip, v_yes, v_comp, v_comp0, v_compO, v_noex, v_noOwn0, v_noOwnV, v_noOwnN, v_noOwnL, v_wp0, v_wpN, v_fz0, v_fzN, v_fz1, v_fzO_ol, v_fzO_v, v_fzO_no, v_for, v_run, v_fin_nx, v_fin_rt, v_loop0, v_lpO, v_lpK_nx, v_lpK_ct, v_lpK_bk, v_lpK_rt, v_iteAnd, v_iteOr, v_iteAndB, v_iteOrB, v_dB, v_dTru, v_omap, v_obind, v_dInt, v_lenT, v_lenL, v_isN0, v_isNs, v_isNt, v_isNl, v_isNi, v_notN0, v_notNs, v_notNt, v_notNl, v_notNi, v_isiTT, v_isiTL, v_isiTN, v_isiTS, v_isiTI, v_isiLT, v_isiLL, v_add, v_sub, v_lt, v_le, v_gt, v_ge, v_eqI, v_neI, v_all, v_dBs0, v_dBsN, v_tupL, v_tupT, v_listL, v_listT, v_itemsL, v_itemsT, v_rng5, v_rng0, v_rng1, v_rng2, v_rng3, v_rng4, v_rng6, v_rng7, v_rng8, v_rng9, v_rng10, v_rng11, v_rng12, v_rng5l, v_enum5, v_ixT0, v_ixT1, v_ixT2, v_ixT3, v_ixT4, v_ext, v_extO, v_k_ext, v_olD, v_olV, v_ixO, v_ixOO, v_lenO, v_lenOO, v_neg, v_lwT, v_lwF, v_lwK_nx, v_lwK_ct, v_lwK_bk, v_lwK_rt, v_while, v_par3, v_k_par3b, v_k_par3c, v_aug, v_augO, v_k_aug, v_augN, v_addI, v_cat, v_k_cat, v_k_catb, v_catO, v_ownD, v_odD, v_inD, v_inDO, v_k_inD, v_getD, v_getDO, v_k_getD, v_putD, v_putDO, v_k_putD, v_k_putDb, v_res, v_resOk, v_resEx, v_resN, v_raise, List.map_cons, List.map_nil, List.cons_append, List.nil_append, List.length_cons, List.length_nil, List.getElem?_cons_zero, List.getElem?_cons_succ, List.set_cons_zero, List.set_cons_succ, List.replicate_succ, List.replicate_zero, Nat.reduceAdd, Nat.reduceSub, ↓reduceIte, Bool.not_true, Bool.not_false, Bool.false_eq_true, Nat.zero_add, reduceCtorEq, LIM, Int.cast_ofNat_Int, Int.reduceEq, Int.reduceLT, Int.reduceLE, decide_true, decide_false, Nat.reduceLeDiff, List.all_cons, List.all_nil, id_eq, Bool.and_self, Bool.and_true, Bool.true_and, Bool.false_and, Bool.and_false, Bool.true_or, Bool.or_true, Bool.false_or, Bool.or_false, Bool.or_self, Nat.reduceLT, List.getElem?_set_self hρ, is_sign_ok]
    · simp only [v_k_ret, v_iteT, v_iteF, v_k_if, v_k_expr, v_k_asg, v_k_par, v_k_own, v_k_app, v_k_1, v_k_2b, v_k_2, v_k_consb, v_k_cons, v_k_tup, v_k_lst, v_k_asB, v_k_ofB, v_k_tru, v_k_and, v_k_or, v_k_not, v_k_bAnd, v_k_bOr, v_k_bNot, v_k_eIf, v_k_chb, v_k_ch, v_k_oSome, v_k_slc, v_k_slb, v_k_sl, v_k_call, v_k_iSeq, v_k_iRng, v_k_iEnum, v_k_iZipb, v_k_iZip, v_k_comp, v_k_compc, v_iteCT, v_iteCF, v_k_compb, v_k_for, v_bind_ok, v_bind_ex, v_opt, v_seq, v_seqK_nx, v_seqK_rt, v_seqK_bk, v_seqK_ct, v_next, v_brk, v_cont, v_ret, v_retN, v_if, v_expr, v_nxO, v_asg, v_asgN, v_asgT, v_asgs0, v_asgsN, v_par, v_setAll0, v_setAllN, v_own, v_app, v_appO, v_var, v_varO, v_C, v_1, v_2, v_nil, v_cons, v_tup, v_lst, v_F, v_asB, v_ofB, v_tru, v_and, v_or, v_andO, v_orO, v_not, v_bAnd, v_bOr, v_bNot, v_eIf, v_chain, v_chO, v_oNone, v_oSome, v_sl, v_call, v_iSeq, v_iRng, v_iEnum, v_iZip, v_yes, v_comp, v_comp0, v_compO, v_noex, v_noOwn0, v_noOwnV, v_noOwnN, v_noOwnL, v_wp0, v_wpN, v_fz0, v_fzN, v_fz1, v_fzO_ol, v_fzO_v, v_fzO_no, v_for, v_run, v_fin_nx, v_fin_rt, v_loop0, v_lpO, v_lpK_nx, v_lpK_ct, v_lpK_bk, v_lpK_rt, v_iteAnd, v_iteOr, v_iteAndB, v_iteOrB, v_dB, v_dTru, v_omap, v_obind, v_dInt, v_lenT, v_lenL, v_isN0, v_isNs, v_isNt, v_isNl, v_isNi, v_notN0, v_notNs, v_notNt, v_notNl, v_notNi, v_isiTT, v_isiTL, v_isiTN, v_isiTS, v_isiTI, v_isiLT, v_isiLL, v_add, v_sub, v_lt, v_le, v_gt, v_ge, v_eqI, v_neI, v_all, v_dBs0, v_dBsN, v_tupL, v_tupT, v_listL, v_listT, v_itemsL, v_itemsT, v_rng5, v_rng0, v_rng1, v_rng2, v_rng3, v_rng4, v_rng6, v_rng7, v_rng8, v_rng9, v_rng10, v_rng11, v_rng12, v_rng5l, v_enum5, v_ixT0, v_ixT1, v_ixT2, v_ixT3, v_ixT4, v_ext, v_extO, v_k_ext, v_olD, v_olV, v_ixO, v_ixOO, v_lenO, v_lenOO, v_neg, v_lwT, v_lwF, v_lwK_nx, v_lwK_ct, v_lwK_bk, v_lwK_rt, v_while, v_par3, v_k_par3b, v_k_par3c, v_aug, v_augO, v_k_aug, v_augN, v_addI, v_cat, v_k_cat, v_k_catb, v_catO, v_ownD, v_odD, v_inD, v_inDO, v_k_inD, v_getD, v_getDO, v_k_getD, v_putD, v_putDO, v_k_putD, v_k_putDb, v_res, v_resOk, v_resEx, v_resN, v_raise, List.map_cons, List.map_nil, List.cons_append, List.nil_append, List.length_cons, List.length_nil, List.getElem?_cons_zero, List.getElem?_cons_succ, List.set_cons_zero, List.set_cons_succ, List.replicate_succ, List.replicate_zero, Nat.reduceAdd, Nat.reduceSub, ↓reduceIte, Bool.not_true, Bool.not_false, Bool.false_eq_true, Nat.zero_add, reduceCtorEq, LIM, Int.cast_ofNat_Int, Int.reduceEq, Int.reduceLT, Int.reduceLE, decide_true, decide_false, Nat.reduceLeDiff, List.all_cons, List.all_nil, id_eq, Bool.and_self, Bool.and_true, Bool.true_and, Bool.false_and, Bool.and_false, Bool.true_or, Bool.or_true, Bool.false_or, Bool.or_false, Bool.or_self, Nat.reduceLT, List.getElem?_set_self hρ]
theorem cand_len (s : Sg) (i : Nat) : (cand s i).length ≤ 18 := by
  have key : ∀ {α : Type} (l : List α) (p : α → Bool), l.length ≤ 18 → (l.filter p).length ≤ 18 := fun l p h => Nat.le_trans (List.length_filter_le _ _) h
  unfold cand
  split <;> rw [List.length_map] <;> apply key <;> decide
/-! ### how many things differ -/
def cnt (s t : Sg) : Nat := (nea s t 0).toNat + (nea s t 1).toNat + (nea s t 2).toNat + (nea s t 3).toNat + (nea s t 4).toNat
def dl (s t : Sg) : List Nat := [0, 1, 2, 3, 4].filter (nea s t)
theorem rng5_eq : rng5 = [0, 1, 2, 3, 4].map fun i : Nat => PyData.int (i : Int) := rfl
theorem dl_ok (s t : Sg) : rng5.filter (neAt s t) = (dl s t).map fun i : Nat => PyData.int (i : Int) := by
  rw [rng5_eq, List.filter_map]
  unfold dl
  congr 1
  apply List.filter_congr
  intro i _
  exact neAt_nea s t i
theorem dl_len (s t : Sg) : (dl s t).length = cnt s t := by
  unfold dl cnt
  simp only [List.filter_cons, List.filter_nil]
  cases nea s t 0 <;> cases nea s t 1 <;> cases nea s t 2 <;> cases nea s t 3 <;> cases nea s t 4 <;> rfl
theorem cnt_len (s t : Sg) : (rng5.filter (neAt s t)).length = cnt s t := by rw [dl_ok, List.length_map, dl_len]
theorem cnt_comm (s t : Sg) : cnt s t = cnt t s := by unfold cnt; simp only [nea_comm s t]
theorem cnt_mir (s t : Sg) : cnt (mir s) (mir t) = cnt s t := by unfold cnt; simp only [nea_mir]
theorem nea_self (s : Sg) (i : Nat) : nea s s i = false := by
  match i with
  | 0 => simp [nea]
  | 1 => simp [nea]
  | 2 => simp [nea]
  | 3 => simp [nea]
  | n + 4 => simp [nea]
theorem cnt_self (s : Sg) : cnt s s = 0 := by unfold cnt; simp only [nea_self]; rfl
theorem sg_ext {s t : Sg} (h0 : nea s t 0 = false) (h1 : nea s t 1 = false) (h2 : nea s t 2 = false) (h3 : nea s t 3 = false) (h4 : nea s t 4 = false) : s = t := by
  obtain ⟨a, b, c, d, e⟩ := s
  obtain ⟨a', b', c', d', e'⟩ := t
  simp only [nea, Bool.not_eq_false', beq_iff_eq, decide_eq_true_eq] at h0 h1 h2 h3 h4
  subst h0 h1 h2 h3 h4
  rfl
theorem cnt_zero {s t : Sg} : cnt s t = 0 ↔ s = t := by
  constructor
  · intro h
    unfold cnt at h
    refine sg_ext ?_ ?_ ?_ ?_ ?_ <;> (cases h0 : nea s t 0 <;> cases h1 : nea s t 1 <;> cases h2 : nea s t 2 <;> cases h3 : nea s t 3 <;> cases h4 : nea s t 4 <;> simp_all)
  · rintro rfl; exact cnt_self s
/-- the neighbors -/
def nb (s : Sg) : List Sg := srt ((cand s 0).filter Sg.good ++ (cand s 1).filter Sg.good ++ (cand s 2).filter Sg.good ++ (cand s 3).filter Sg.good ++ (cand s 4).filter Sg.good)
theorem nb_len (s : Sg) : (nb s).length ≤ 100 := by
  have hc : ∀ i, ((cand s i).filter Sg.good).length ≤ 18 := fun i => Nat.le_trans (List.length_filter_le _ _) (cand_len s i)
  have h0 := hc 0
  have h1 := hc 1
  have h2 := hc 2
  have h3 := hc 3
  have h4 := hc 4
  refine Nat.le_trans (srt_len _) ?_
  simp only [List.length_append]
  omega
theorem cand_cnt {s t : Sg} {i : Nat} (h : t ∈ cand s i) : cnt s t = 1 := by
  obtain ⟨a, b, c, d, e⟩ := s
  unfold cand at h
  split at h <;> simp only [List.mem_map, List.mem_filter, Bool.not_eq_true', beq_eq_false_iff_ne, decide_eq_false_iff_not] at h <;> obtain ⟨x, ⟨_, hx⟩, rfl⟩ := h
  · simp [cnt, nea, Ne.symm hx]
  · simp [cnt, nea, Ne.symm hx]
  · simp [cnt, nea, Ne.symm hx]
  · simp [cnt, nea, Ne.symm hx]
  · have hx' : ¬ e = x := fun z => hx z.symm
    simp [cnt, nea, hx']
theorem cnt_cand {s t : Sg} (h : cnt s t = 1) : ∃ i, i < 5 ∧ t ∈ cand s i := by
  obtain ⟨a, b, c, d, e⟩ := s
  obtain ⟨a', b', c', d', e'⟩ := t
  have key : ∀ x0 x1 x2 x3 x4 : Bool, (!x0).toNat + (!x1).toNat + (!x2).toNat + (!x3).toNat + (!x4).toNat = 1 → (x0 = false ∧ x1 = true ∧ x2 = true ∧ x3 = true ∧ x4 = true) ∨ (x0 = true ∧ x1 = false ∧ x2 = true ∧ x3 = true ∧ x4 = true) ∨ (x0 = true ∧ x1 = true ∧ x2 = false ∧ x3 = true ∧ x4 = true) ∨ (x0 = true ∧ x1 = true ∧ x2 = true ∧ x3 = false ∧ x4 = true) ∨ (x0 = true ∧ x1 = true ∧ x2 = true ∧ x3 = true ∧ x4 = false) := by
    intro x0 x1 x2 x3 x4
    cases x0 <;> cases x1 <;> cases x2 <;> cases x3 <;> cases x4 <;> simp
  rcases key _ _ _ _ _ h with ⟨h0, h1, h2, h3, h4⟩ | ⟨h0, h1, h2, h3, h4⟩ | ⟨h0, h1, h2, h3, h4⟩ | ⟨h0, h1, h2, h3, h4⟩ | ⟨h0, h1, h2, h3, h4⟩ <;> simp only [beq_iff_eq, beq_eq_false_iff_ne, decide_eq_true_eq, decide_eq_false_iff_not] at h0 h1 h2 h3 h4
  · subst h1 h2 h3 h4
    exact ⟨0, by omega, List.mem_map.mpr ⟨a', List.mem_filter.mpr ⟨l4_mem a', by simpa using Ne.symm h0⟩, rfl⟩⟩
  · subst h0 h2 h3 h4
    exact ⟨1, by omega, List.mem_map.mpr ⟨b', List.mem_filter.mpr ⟨l4_mem b', by simpa using Ne.symm h1⟩, rfl⟩⟩
  · subst h0 h1 h3 h4
    exact ⟨2, by omega, List.mem_map.mpr ⟨c', List.mem_filter.mpr ⟨l5_mem c', by simpa using Ne.symm h2⟩, rfl⟩⟩
  · subst h0 h1 h2 h4
    exact ⟨3, by omega, List.mem_map.mpr ⟨d', List.mem_filter.mpr ⟨l3_mem d', by simpa using Ne.symm h3⟩, rfl⟩⟩
  · subst h0 h1 h2 h3
    exact ⟨4, by omega, List.mem_map.mpr ⟨e', List.mem_filter.mpr ⟨lSec_mem e', by simpa using fun z => h4 (Eq.symm z)⟩, rfl⟩⟩
theorem nb_mem (s t : Sg) : t ∈ nb s ↔ t.good = true ∧ cnt s t = 1 := by
  unfold nb
  rw [srt_mem]
  simp only [List.mem_append, List.mem_filter]
  constructor
  · rintro ((((⟨h, g⟩ | ⟨h, g⟩) | ⟨h, g⟩) | ⟨h, g⟩) | ⟨h, g⟩) <;> exact ⟨g, cand_cnt h⟩
  · rintro ⟨g, h⟩
    obtain ⟨i, hi, hm⟩ := cnt_cand h
    match i, hi with
    | 0, _ => exact .inl (.inl (.inl (.inl ⟨hm, g⟩)))
    | 1, _ => exact .inl (.inl (.inl (.inr ⟨hm, g⟩)))
    | 2, _ => exact .inl (.inl (.inr ⟨hm, g⟩))
    | 3, _ => exact .inl (.inr ⟨hm, g⟩)
    | 4, _ => exact .inr ⟨hm, g⟩
/-! ### steps -/
/-- s with the thing i of t -/
def pt (s t : Sg) (i : Nat) : Sg := match i with
  | 0 => { s with sh := t.sh }
  | 1 => { s with tn := t.tn }
  | 2 => { s with mv := t.mv }
  | 3 => { s with pl := t.pl }
  | _ => { s with se := t.se }
def lkB (s t : Sg) : Bool := match s.se, t.se with
  | .h _ _, .h _ _ => !(s.sh == t.sh) && (!(pt s t 0).good && !(pt s t 4).good)
  | _, _ => false
def dist (s t : Sg) : Nat := cnt s t + (lkB s t).toNat
/-- held fast: both second hands have the shapes c and d of their own signs, unlike ones -/
theorem lk_iff {s t : Sg} (hs : s.good = true) (ht : t.good = true) : lkB s t = true ↔ s.sh ≠ t.sh ∧ (∃ y, s.se = .h s.sh y) ∧ (∃ y, t.se = .h t.sh y) ∧ 2 ≤ s.sh.val ∧ 2 ≤ t.sh.val := by
  obtain ⟨a, b, c, d, e⟩ := s
  obtain ⟨a', b', c', d', e'⟩ := t
  cases e with
  | no => simp [lkB]
  | m => simp [lkB]
  | h x y =>
    cases e' with
    | no => simp [lkB]
    | m => simp [lkB]
    | h x' y' =>
      simp only [Sg.good, goodB, Bool.or_eq_true, decide_eq_true_eq, beq_iff_eq] at hs ht
      simp only [lkB, pt, Sg.good, goodB, Bool.and_eq_true, Bool.not_eq_true', beq_eq_false_iff_ne, Bool.or_eq_false_iff, decide_eq_false_iff_not, ne_eq, Sec.h.injEq, exists_and_left, exists_eq', and_true]
      constructor
      · rintro ⟨h1, ⟨h2, h3⟩, h4, h5⟩
        have e1 : x = a := by rcases hs with h | h; exact absurd h h2; exact h
        have e2 : x' = a' := by rcases ht with h | h; exact absurd h h4; exact h
        subst e1 e2
        exact ⟨h1, rfl, rfl, by omega, by omega⟩
      · rintro ⟨h1, rfl, rfl, h4, h5⟩
        exact ⟨h1, ⟨by omega, h1⟩, by omega, fun z => h1 z.symm⟩
theorem lk_comm {s t : Sg} (hs : s.good = true) (ht : t.good = true) : lkB s t = lkB t s := by
  rw [Bool.eq_iff_iff, lk_iff hs ht, lk_iff ht hs]
  constructor
  · rintro ⟨h1, h2, h3, h4, h5⟩; exact ⟨fun z => h1 z.symm, h3, h2, h5, h4⟩
  · rintro ⟨h1, h2, h3, h4, h5⟩; exact ⟨fun z => h1 z.symm, h3, h2, h5, h4⟩
theorem dist_comm {s t : Sg} (hs : s.good = true) (ht : t.good = true) : dist s t = dist t s := by unfold dist; rw [cnt_comm, lk_comm hs ht]
theorem lk_mir {s t : Sg} : lkB (mir s) (mir t) = lkB s t := by
  have e : ∀ i, pt (mir s) (mir t) i = mir (pt s t i) := fun i => by unfold pt; split <;> rfl
  obtain ⟨a, b, c, d, e1⟩ := s
  obtain ⟨a', b', c', d', e2⟩ := t
  cases e1 with
  | no => rfl
  | m => rfl
  | h x y =>
    cases e2 with
    | no => rfl
    | m => rfl
    | h x' y' =>
      show (!(a == a') && (!(pt (mir _) (mir _) 0).good && !(pt (mir _) (mir _) 4).good)) = _
      rw [e, e, mir_good, mir_good]
      rfl
theorem dist_mir (s t : Sg) : dist (mir s) (mir t) = dist s t := by unfold dist; rw [cnt_mir, lk_mir]
theorem lk_cnt {s t : Sg} (hs : s.good = true) (ht : t.good = true) (h : lkB s t = true) : nea s t 0 = true ∧ nea s t 4 = true := by
  obtain ⟨h1, ⟨y, h2⟩, ⟨y', h3⟩, _⟩ := (lk_iff hs ht).mp h
  refine ⟨by simpa [nea] using h1, ?_⟩
  simp only [nea, h2, h3, Sec.h.injEq, Bool.not_eq_true', decide_eq_false_iff_not]
  exact fun z => h1 z.1
theorem dist_zero {s t : Sg} (hs : s.good = true) (ht : t.good = true) : dist s t = 0 ↔ s = t := by
  unfold dist
  constructor
  · intro h; exact cnt_zero.mp (by omega)
  · rintro rfl
    rw [cnt_self]
    cases h : lkB s s with
    | false => rfl
    | true => exact absurd rfl ((lk_iff hs hs).mp h).1
theorem dist_one {s t : Sg} (hs : s.good = true) (ht : t.good = true) : dist s t = 1 ↔ cnt s t = 1 := by
  unfold dist
  cases h : lkB s t with
  | false => simp
  | true =>
    obtain ⟨h0, h4⟩ := lk_cnt hs ht h
    have : 2 ≤ cnt s t := by unfold cnt; rw [h0, h4]; simp; omega
    simp; omega
theorem nea_tri (s u t : Sg) (i : Nat) : (nea s t i).toNat ≤ (nea s u i).toNat + (nea u t i).toNat := by
  have key : ∀ {α : Type} [DecidableEq α] (x y z : α), (!decide (x = z)).toNat ≤ (!decide (x = y)).toNat + (!decide (y = z)).toNat := fun x y z => by
    by_cases h1 : x = y
    · subst h1; simp
    · rw [decide_eq_false h1]
      cases decide (x = z) <;> simp
  match i with
  | 0 => simp only [nea, beq_dec]; exact key _ _ _
  | 1 => simp only [nea, beq_dec]; exact key _ _ _
  | 2 => simp only [nea, beq_dec]; exact key _ _ _
  | 3 => simp only [nea, beq_dec]; exact key _ _ _
  | n + 4 => simp only [nea]; exact key _ _ _
theorem dist_tri {s u t : Sg} (hs : s.good = true) (hu : u.good = true) (ht : t.good = true) : dist s t ≤ dist s u + dist u t := by
  have t0 := nea_tri s u t 0
  have t1 := nea_tri s u t 1
  have t2 := nea_tri s u t 2
  have t3 := nea_tri s u t 3
  have t4 := nea_tri s u t 4
  have hc : cnt s t ≤ cnt s u + cnt u t := by unfold cnt; omega
  unfold dist
  cases h : lkB s t with
  | false => simp; omega
  | true =>
    obtain ⟨h1, ⟨y, h2⟩, ⟨y', h3⟩, h4, h5⟩ := (lk_iff hs ht).mp h
    by_cases q1 : lkB s u = true
    · rw [q1]; simp; omega
    by_cases q2 : lkB u t = true
    · rw [q2]; simp; omega
    -- one of shape and second hand is gone through twice
    suffices hx : (nea s t 0).toNat + 1 ≤ (nea s u 0).toNat + (nea u t 0).toNat ∨ (nea s t 4).toNat + 1 ≤ (nea s u 4).toNat + (nea u t 4).toNat by
      have : cnt s t + 1 ≤ cnt s u + cnt u t := by unfold cnt; omega
      simp; omega
    by_cases e1 : s.sh = u.sh
    · -- u has the shape of s: its second hand is neither
      right
      have n1 : nea s u 4 = true := by
        simp only [nea, h2, Bool.not_eq_true', decide_eq_false_iff_not]
        intro z
        exact q2 ((lk_iff hu ht).mpr ⟨by rw [← e1]; exact h1, ⟨y, by rw [← z, e1]⟩, ⟨y', h3⟩, by rw [← e1]; exact h4, h5⟩)
      have n2 : nea u t 4 = true := by
        simp only [nea, h3, Bool.not_eq_true', decide_eq_false_iff_not]
        intro z
        have g := hu
        simp only [Sg.good, z, goodB, Bool.or_eq_true, decide_eq_true_eq, beq_iff_eq] at g
        rcases g with g | g
        · omega
        · exact h1 (by rw [e1, g])
      rw [n1, n2]
      cases nea s t 4 <;> simp
    · by_cases e2 : u.sh = t.sh
      · right
        have n1 : nea u t 4 = true := by
          simp only [nea, h3, Bool.not_eq_true', decide_eq_false_iff_not]
          intro z
          exact q1 ((lk_iff hs hu).mpr ⟨by rw [e2]; exact h1, ⟨y, h2⟩, ⟨y', by rw [z, e2]⟩, h4, by rw [e2]; exact h5⟩)
        have n2 : nea s u 4 = true := by
          simp only [nea, h2, Bool.not_eq_true', decide_eq_false_iff_not]
          intro z
          have g := hu
          simp only [Sg.good, ← z, goodB, Bool.or_eq_true, decide_eq_true_eq, beq_iff_eq] at g
          rcases g with g | g
          · omega
          · exact e1 g
        rw [n1, n2]
        cases nea s t 4 <;> simp
      · left
        have n1 : nea s u 0 = true := by simpa [nea] using e1
        have n2 : nea u t 0 = true := by simpa [nea] using e2
        rw [n1, n2]
        cases nea s t 0 <;> simp
/-! ### the next step -/
def nxl (s t : Sg) : List Sg := ((dl s t).map (pt s t)).filter Sg.good
def nx (s t : Sg) : Sg := if lkB s t then { s with se := .no } else (nxl s t).headD s
theorem pt_nea_other (s t : Sg) {i j : Nat} (hi : i < 5) (hj : j < 5) (h : i ≠ j) : nea (pt s t i) t j = nea s t j := by
  match i, j, hi, hj, h with
  | 0, 1, _, _, _ | 0, 2, _, _, _ | 0, 3, _, _, _ | 0, 4, _, _, _ => rfl
  | 1, 0, _, _, _ | 1, 2, _, _, _ | 1, 3, _, _, _ | 1, 4, _, _, _ => rfl
  | 2, 0, _, _, _ | 2, 1, _, _, _ | 2, 3, _, _, _ | 2, 4, _, _, _ => rfl
  | 3, 0, _, _, _ | 3, 1, _, _, _ | 3, 2, _, _, _ | 3, 4, _, _, _ => rfl
  | 4, 0, _, _, _ | 4, 1, _, _, _ | 4, 2, _, _, _ | 4, 3, _, _, _ => rfl
  | 4, n + 4, _, hj, h => exact (by omega : False).elim
theorem pt_nea_same (s t : Sg) {i : Nat} (hi : i < 5) : nea (pt s t i) t i = false := by
  match i, hi with
  | 0, _ => simp [nea, pt]
  | 1, _ => simp [nea, pt]
  | 2, _ => simp [nea, pt]
  | 3, _ => simp [nea, pt]
  | 4, _ => simp [nea, pt]
theorem pt_nea_back (s t : Sg) {i j : Nat} (hi : i < 5) (hj : j < 5) (h : i ≠ j) : nea s (pt s t i) j = false := by
  match i, j, hi, hj, h with
  | 0, 1, _, _, _ | 0, 2, _, _, _ | 0, 3, _, _, _ | 0, 4, _, _, _ => simp [nea, pt]
  | 1, 0, _, _, _ | 1, 2, _, _, _ | 1, 3, _, _, _ | 1, 4, _, _, _ => simp [nea, pt]
  | 2, 0, _, _, _ | 2, 1, _, _, _ | 2, 3, _, _, _ | 2, 4, _, _, _ => simp [nea, pt]
  | 3, 0, _, _, _ | 3, 1, _, _, _ | 3, 2, _, _, _ | 3, 4, _, _, _ => simp [nea, pt]
  | 4, 0, _, _, _ | 4, 1, _, _, _ | 4, 2, _, _, _ | 4, 3, _, _, _ => simp [nea, pt]
  | 4, n + 4, _, hj, h => exact (by omega : False).elim
theorem pt_nea_to (s t : Sg) {i : Nat} (hi : i < 5) : nea s (pt s t i) i = nea s t i := by
  match i, hi with
  | 0, _ => rfl
  | 1, _ => rfl
  | 2, _ => rfl
  | 3, _ => rfl
  | 4, _ => rfl
theorem cnt_pt (s t : Sg) {i : Nat} (hi : i < 5) (h : nea s t i = true) : cnt (pt s t i) t + 1 = cnt s t := by
  have same := pt_nea_same s t hi
  have oth := fun j hj hij => pt_nea_other s t (i := i) (j := j) hi hj hij
  unfold cnt
  match i, hi with
  | 0, _ => rw [same, h, oth 1 (by omega) (by omega), oth 2 (by omega) (by omega), oth 3 (by omega) (by omega), oth 4 (by omega) (by omega)]; simp; omega
  | 1, _ => rw [same, h, oth 0 (by omega) (by omega), oth 2 (by omega) (by omega), oth 3 (by omega) (by omega), oth 4 (by omega) (by omega)]; simp; omega
  | 2, _ => rw [same, h, oth 0 (by omega) (by omega), oth 1 (by omega) (by omega), oth 3 (by omega) (by omega), oth 4 (by omega) (by omega)]; simp; omega
  | 3, _ => rw [same, h, oth 0 (by omega) (by omega), oth 1 (by omega) (by omega), oth 2 (by omega) (by omega), oth 4 (by omega) (by omega)]; simp; omega
  | 4, _ => rw [same, h, oth 0 (by omega) (by omega), oth 1 (by omega) (by omega), oth 2 (by omega) (by omega), oth 3 (by omega) (by omega)]; simp
theorem cnt_step (s t : Sg) {i : Nat} (hi : i < 5) (h : nea s t i = true) : cnt s (pt s t i) = 1 := by
  have to := pt_nea_to s t hi
  have oth := fun j hj hij => pt_nea_back s t (i := i) (j := j) hi hj hij
  unfold cnt
  match i, hi with
  | 0, _ => rw [to, h, oth 1 (by omega) (by omega), oth 2 (by omega) (by omega), oth 3 (by omega) (by omega), oth 4 (by omega) (by omega)]; rfl
  | 1, _ => rw [to, h, oth 0 (by omega) (by omega), oth 2 (by omega) (by omega), oth 3 (by omega) (by omega), oth 4 (by omega) (by omega)]; rfl
  | 2, _ => rw [to, h, oth 0 (by omega) (by omega), oth 1 (by omega) (by omega), oth 3 (by omega) (by omega), oth 4 (by omega) (by omega)]; rfl
  | 3, _ => rw [to, h, oth 0 (by omega) (by omega), oth 1 (by omega) (by omega), oth 2 (by omega) (by omega), oth 4 (by omega) (by omega)]; rfl
  | 4, _ => rw [to, h, oth 0 (by omega) (by omega), oth 1 (by omega) (by omega), oth 2 (by omega) (by omega), oth 3 (by omega) (by omega)]; rfl
theorem lk_pt {s t : Sg} (ht : t.good = true) {i : Nat} (hi : i < 5) (hg : (pt s t i).good = true) (hs : s.good = true) (h : lkB s t = false) : lkB (pt s t i) t = false := by
  rw [← Bool.not_eq_true, lk_iff hg ht]
  rw [← Bool.not_eq_true, lk_iff hs ht] at h
  match i, hi with
  | 0, _ => rintro ⟨h1, _⟩; exact h1 rfl
  | 1, _ => exact h
  | 2, _ => exact h
  | 3, _ => exact h
  | 4, _ =>
    rintro ⟨h1, ⟨y, h2⟩, ⟨y', h3⟩, _⟩
    have h2 : t.se = .h s.sh y := h2
    rw [h3] at h2
    exact h1 (Sec.h.inj h2).1.symm
theorem exists_good {s t : Sg} (hs : s.good = true) (ht : t.good = true) (hne : s ≠ t) (h : lkB s t = false) : ∃ i, i < 5 ∧ nea s t i = true ∧ (pt s t i).good = true := by
  rw [← Bool.not_eq_true, lk_iff hs ht] at h
  by_cases n1 : nea s t 1 = true
  · exact ⟨1, by omega, n1, hs⟩
  by_cases n3 : nea s t 3 = true
  · exact ⟨3, by omega, n3, hs⟩
  by_cases n0 : nea s t 0 = true ∧ (pt s t 0).good = true
  · exact ⟨0, by omega, n0⟩
  by_cases n2 : nea s t 2 = true ∧ (pt s t 2).good = true
  · exact ⟨2, by omega, n2⟩
  by_cases n4 : nea s t 4 = true ∧ (pt s t 4).good = true
  · exact ⟨4, by omega, n4⟩
  exfalso
  obtain ⟨a, b, c, d, e⟩ := s
  obtain ⟨a', b', c', d', e'⟩ := t
  simp only [nea, Bool.not_eq_true', Bool.not_eq_false, beq_eq_false_iff_ne, ne_eq, Decidable.not_not, decide_eq_false_iff_not, pt, Sg.good] at n0 n1 n2 n3 n4 hs ht h
  subst n1 n3
  cases e with
  | no =>
    -- shape and move are free
    by_cases e0 : a = a'
    · by_cases e2 : c = c'
      · subst e0 e2
        by_cases e4 : (Sec.no : Sec) = e'
        · subst e4; exact hne rfl
        · exact n4 ⟨e4, ht⟩
      · exact n2 ⟨e2, rfl⟩
    · exact n0 ⟨e0, rfl⟩
  | m =>
    by_cases e0 : a = a'
    · subst e0
      by_cases e4 : (Sec.m : Sec) = e'
      · subst e4
        by_cases e2 : c = c'
        · subst e2; exact hne rfl
        · exact n2 ⟨e2, ht⟩
      · cases e' with
        | no => exact n4 ⟨e4, rfl⟩
        | m => exact e4 rfl
        | h x y => exact n4 ⟨e4, ht⟩
    · exact n0 ⟨e0, hs⟩
  | h x y =>
    by_cases e2 : c = c'
    · subst e2
      by_cases e0 : a = a'
      · subst e0
        by_cases e4 : Sec.h x y = e'
        · subst e4; exact hne rfl
        · exact n4 ⟨e4, ht⟩
      · by_cases e4 : Sec.h x y = e'
        · subst e4
          exact n0 ⟨e0, ht⟩
        · cases e' with
          | no => exact n4 ⟨e4, rfl⟩
          | m => exact n4 ⟨e4, ht⟩
          | h x' y' =>
            have g0 : goodB a' c (.h x y) ≠ true := fun z => n0 ⟨e0, z⟩
            have g4 : goodB a c (.h x' y') ≠ true := fun z => n4 ⟨e4, z⟩
            simp only [goodB, Bool.or_eq_true, decide_eq_true_eq, beq_iff_eq, ne_eq, not_or] at hs ht g0 g4
            have ex : x = a := by rcases hs with q | q; exact absurd q g0.1; exact q
            have ex' : x' = a' := by rcases ht with q | q; exact absurd q g4.1; exact q
            subst ex ex'
            exact h ⟨e0, ⟨y, rfl⟩, ⟨y', rfl⟩, by omega, by omega⟩
    · exact n2 ⟨e2, hs⟩
theorem nx_ok {s t : Sg} (hs : s.good = true) (ht : t.good = true) (hne : s ≠ t) : (nx s t).good = true ∧ dist (nx s t) t + 1 = dist s t ∧ cnt s (nx s t) = 1 := by
  unfold nx
  cases h : lkB s t with
  | true =>
    rw [if_pos rfl]
    obtain ⟨h0, h4⟩ := lk_cnt hs ht h
    obtain ⟨_, ⟨y, h2⟩, ⟨y', h3⟩, _⟩ := (lk_iff hs ht).mp h
    refine ⟨rfl, ?_, ?_⟩
    · have e4 : nea { s with se := .no } t 4 = true := by simp [nea, h3]
      have ec : cnt { s with se := .no } t = cnt s t := by
        unfold cnt
        rw [e4, h4]
        rfl
      have el : lkB { s with se := .no } t = false := rfl
      unfold dist
      rw [ec, el, h]
      rfl
    · have e4 : nea s { s with se := .no } 4 = true := by simp [nea, h2]
      unfold cnt
      rw [e4]
      simp [nea]
  | false =>
    rw [if_neg (by simp)]
    obtain ⟨i, hi, h1, h2⟩ := exists_good hs ht hne h
    have hm : ∀ x ∈ nxl s t, x.good = true ∧ dist x t + 1 = dist s t ∧ cnt s x = 1 := by
      intro x hx
      unfold nxl at hx
      rw [List.mem_filter, List.mem_map] at hx
      obtain ⟨⟨j, hj, rfl⟩, hg⟩ := hx
      unfold dl at hj
      rw [List.mem_filter] at hj
      have hj5 : j < 5 := by
        have := hj.1
        simp at this
        omega
      refine ⟨hg, ?_, cnt_step s t hj5 hj.2⟩
      unfold dist
      rw [lk_pt ht hj5 hg hs h, h, ← cnt_pt s t hj5 hj.2]
      simp
    have hex : pt s t i ∈ nxl s t := by
      unfold nxl dl
      refine List.mem_filter.mpr ⟨List.mem_map.mpr ⟨i, List.mem_filter.mpr ⟨?_, h1⟩, rfl⟩, h2⟩
      simp
      omega
    cases hl : nxl s t with
    | nil => rw [hl] at hex; cases hex
    | cons x l => exact hm x (by rw [hl]; exact .head _)
/-! ### the way -/
def way : Nat → Sg → Sg → List Sg
  | 0, s, _ => [s]
  | n + 1, s, t => if s = t then [s] else s :: way n (nx s t) t
theorem way_ne (n : Nat) (s t : Sg) : way n s t ≠ [] := by
  cases n with
  | zero => simp [way]
  | succ n => unfold way; split <;> simp
theorem way_head (n : Nat) (s t : Sg) : (way n s t).head? = some s := by
  cases n with
  | zero => rfl
  | succ n => unfold way; split <;> rfl
theorem way_ok {t : Sg} (ht : t.good = true) : ∀ (n : Nat) (s : Sg), s.good = true → dist s t = n → (way n s t).length = n + 1 ∧ (way n s t).getLast? = some t ∧ (∀ x ∈ way n s t, x.good = true)
  | 0, s, hs, h => by
    have := (dist_zero hs ht).mp h
    subst this
    exact ⟨rfl, rfl, fun x hx => by rw [List.mem_singleton.mp hx]; exact hs⟩
  | n + 1, s, hs, h => by
    have hne : s ≠ t := fun z => by rw [(dist_zero hs ht).mpr z] at h; omega
    obtain ⟨g, hd, _⟩ := nx_ok hs ht hne
    obtain ⟨i1, i2, i3⟩ := way_ok ht n (nx s t) g (by omega)
    unfold way
    rw [if_neg hne]
    refine ⟨by rw [List.length_cons, i1], ?_, fun x hx => ?_⟩
    · rw [List.getLast?_cons]
      rw [i2]
      rfl
    · rcases List.mem_cons.mp hx with rfl | hx
      · exact hs
      · exact i3 x hx
/-- of two that stand next to each other: one thing differs, and the way left goes down -/
theorem way_pairs {t : Sg} (ht : t.good = true) : ∀ (n : Nat) (s : Sg), s.good = true → dist s t = n → ∀ p ∈ (way n s t).zip ((way n s t).drop 1), cnt p.1 p.2 = 1 ∧ dist p.2 t < dist p.1 t ∧ p.1.good = true ∧ p.2.good = true
  | 0, s, hs, h, p, hp => by cases hp
  | n + 1, s, hs, h, p, hp => by
    have hne : s ≠ t := fun z => by rw [(dist_zero hs ht).mpr z] at h; omega
    obtain ⟨g, hd, hc⟩ := nx_ok hs ht hne
    unfold way at hp
    rw [if_neg hne] at hp
    have ih := way_pairs ht n (nx s t) g (by omega)
    have hh := way_head n (nx s t) t
    cases hw : way n (nx s t) t with
    | nil => exact absurd hw (way_ne _ _ _)
    | cons x l =>
      rw [hw] at hp ih hh
      cases hh
      have hp : p ∈ (s, nx s t) :: ((nx s t) :: l).zip l := hp
      rcases List.mem_cons.mp hp with rfl | hp
      · exact ⟨hc, by show dist (nx s t) t < dist s t; omega, hs, g⟩
      · exact ih p hp
/-! ### led, chain, is_chain -/
theorem atI_last {α : Type} (l : List α) (x : α) : L2.atI (l ++ [x]) (-1) = some x := by
  unfold L2.atI ixN
  have h1 : ¬ (0 ≤ (-1 : Int)) := by omega
  rw [if_neg h1, List.length_append, List.length_singleton, if_pos (by omega)]
  show (l ++ [x])[((-1 : Int) + ((l.length + 1 : Nat) : Int)).toNat]? = some x
  rw [show ((-1 : Int) + ((l.length + 1 : Nat) : Int)).toNat = l.length by omega]
  simp
theorem ix_lastL (l : List D) (x : D) : dIx (.list (l ++ [x])) (.int (-1)) = some x := atI_last l x
theorem good_comp {ρ : Rho} {k : Nat} (l : List Sg) (τ : S) (hρ : k < ρ.length) : compL (.nm k) (tru (eCall M_is_sign (aCons (eVar k) aNil))) (eVar k) ρ (l.map sd) [] τ = .ok ((l.filter Sg.good).map sd) τ := by
  rw [comp_filterS (p := Sg.good) (F := sd)]
  · rfl
  · intro x _
    refine ⟨_, rfl, ?_, fun _ => ?_⟩
    · simp only [v_k_ret, v_iteT, v_iteF, v_k_if, v_k_expr, v_k_asg, v_k_par, v_k_own, v_k_app, v_k_1, v_k_2b, v_k_2, v_k_consb, v_k_cons, v_k_tup, v_k_lst, v_k_asB, v_k_ofB, v_k_tru, v_k_and, v_k_or, v_k_not, v_k_bAnd, v_k_bOr, v_k_bNot, v_k_eIf, v_k_chb, v_k_ch, v_k_oSome, v_k_slc, v_k_slb, v_k_sl, v_k_call, v_k_iSeq, v_k_iRng, v_k_iEnum, v_k_iZipb, v_k_iZip, v_k_comp, v_k_compc, v_iteCT, v_iteCF, v_k_compb, v_k_for, v_bind_ok, v_bind_ex, v_opt, v_seq, v_seqK_nx, v_seqK_rt, v_seqK_bk, v_seqK_ct, v_next, v_brk, v_cont, v_ret, v_retN, v_if, v_expr, v_nxO, v_asg, v_asgN, v_asgT, v_asgs0, v_asgsN, v_par, v_setAll0, v_setAllN, v_own, v_app, v_appO, v_var, v_varO, v_C, v_1, v_2, v_nil, v_cons, v_tup, v_lst, v_F, v_asB, v_ofB, v_tru, v_and, v_or, v_andO, v_orO, v_not, v_bAnd, v_bOr, v_bNot, v_eIf, v_chain, v_chO, v_oNone, v_oSome, v_sl, v_call, v_iSeq, v_iRng, v_iEnum, v_iZip, v_yes, v_comp, v_comp0, v_compO, v_noex, v_noOwn0, v_noOwnV, v_noOwnN, v_noOwnL, v_wp0, v_wpN, v_fz0, v_fzN, v_fz1, v_fzO_ol, v_fzO_v, v_fzO_no, v_for, v_run, v_fin_nx, v_fin_rt, v_loop0, v_lpO, v_lpK_nx, v_lpK_ct, v_lpK_bk, v_lpK_rt, v_iteAnd, v_iteOr, v_iteAndB, v_iteOrB, v_dB, v_dTru, v_omap, v_obind, v_dInt, v_lenT, v_lenL, v_isN0, v_isNs, v_isNt, v_isNl, v_isNi, v_notN0, v_notNs, v_notNt, v_notNl, v_notNi, v_isiTT, v_isiTL, v_isiTN, v_isiTS, v_isiTI, v_isiLT, v_isiLL, v_add, v_sub, v_lt, v_le, v_gt, v_ge, v_eqI, v_neI, v_all, v_dBs0, v_dBsN, v_tupL, v_tupT, v_listL, v_listT, v_itemsL, v_itemsT, v_rng5, v_rng0, v_rng1, v_rng2, v_rng3, v_rng4, v_rng6, v_rng7, v_rng8, v_rng9, v_rng10, v_rng11, v_rng12, v_rng5l, v_enum5, v_ixT0, v_ixT1, v_ixT2, v_ixT3, v_ixT4, v_ext, v_extO, v_k_ext, v_olD, v_olV, v_ixO, v_ixOO, v_lenO, v_lenOO, v_neg, v_lwT, v_lwF, v_lwK_nx, v_lwK_ct, v_lwK_bk, v_lwK_rt, v_while, v_par3, v_k_par3b, v_k_par3c, v_aug, v_augO, v_k_aug, v_augN, v_addI, v_cat, v_k_cat, v_k_catb, v_catO, v_ownD, v_odD, v_inD, v_inDO, v_k_inD, v_getD, v_getDO, v_k_getD, v_putD, v_putDO, v_k_putD, v_k_putDb, v_res, v_resOk, v_resEx, v_resN, v_raise, List.map_cons, List.map_nil, List.cons_append, List.nil_append, List.length_cons, List.length_nil, List.getElem?_cons_zero, List.getElem?_cons_succ, List.set_cons_zero, List.set_cons_succ, List.replicate_succ, List.replicate_zero, Nat.reduceAdd, Nat.reduceSub, ↓reduceIte, Bool.not_true, Bool.not_false, Bool.false_eq_true, Nat.zero_add, reduceCtorEq, LIM, Int.cast_ofNat_Int, Int.reduceEq, Int.reduceLT, Int.reduceLE, decide_true, decide_false, Nat.reduceLeDiff, List.all_cons, List.all_nil, id_eq, Bool.and_self, Bool.and_true, Bool.true_and, Bool.false_and, Bool.and_false, Bool.true_or, Bool.or_true, Bool.false_or, Bool.or_false, Bool.or_self, Nat.reduceLT, List.getElem?_set_self hρ, is_sign_ok]
    · simp only [v_k_ret, v_iteT, v_iteF, v_k_if, v_k_expr, v_k_asg, v_k_par, v_k_own, v_k_app, v_k_1, v_k_2b, v_k_2, v_k_consb, v_k_cons, v_k_tup, v_k_lst, v_k_asB, v_k_ofB, v_k_tru, v_k_and, v_k_or, v_k_not, v_k_bAnd, v_k_bOr, v_k_bNot, v_k_eIf, v_k_chb, v_k_ch, v_k_oSome, v_k_slc, v_k_slb, v_k_sl, v_k_call, v_k_iSeq, v_k_iRng, v_k_iEnum, v_k_iZipb, v_k_iZip, v_k_comp, v_k_compc, v_iteCT, v_iteCF, v_k_compb, v_k_for, v_bind_ok, v_bind_ex, v_opt, v_seq, v_seqK_nx, v_seqK_rt, v_seqK_bk, v_seqK_ct, v_next, v_brk, v_cont, v_ret, v_retN, v_if, v_expr, v_nxO, v_asg, v_asgN, v_asgT, v_asgs0, v_asgsN, v_par, v_setAll0, v_setAllN, v_own, v_app, v_appO, v_var, v_varO, v_C, v_1, v_2, v_nil, v_cons, v_tup, v_lst, v_F, v_asB, v_ofB, v_tru, v_and, v_or, v_andO, v_orO, v_not, v_bAnd, v_bOr, v_bNot, v_eIf, v_chain, v_chO, v_oNone, v_oSome, v_sl, v_call, v_iSeq, v_iRng, v_iEnum, v_iZip, v_yes, v_comp, v_comp0, v_compO, v_noex, v_noOwn0, v_noOwnV, v_noOwnN, v_noOwnL, v_wp0, v_wpN, v_fz0, v_fzN, v_fz1, v_fzO_ol, v_fzO_v, v_fzO_no, v_for, v_run, v_fin_nx, v_fin_rt, v_loop0, v_lpO, v_lpK_nx, v_lpK_ct, v_lpK_bk, v_lpK_rt, v_iteAnd, v_iteOr, v_iteAndB, v_iteOrB, v_dB, v_dTru, v_omap, v_obind, v_dInt, v_lenT, v_lenL, v_isN0, v_isNs, v_isNt, v_isNl, v_isNi, v_notN0, v_notNs, v_notNt, v_notNl, v_notNi, v_isiTT, v_isiTL, v_isiTN, v_isiTS, v_isiTI, v_isiLT, v_isiLL, v_add, v_sub, v_lt, v_le, v_gt, v_ge, v_eqI, v_neI, v_all, v_dBs0, v_dBsN, v_tupL, v_tupT, v_listL, v_listT, v_itemsL, v_itemsT, v_rng5, v_rng0, v_rng1, v_rng2, v_rng3, v_rng4, v_rng6, v_rng7, v_rng8, v_rng9, v_rng10, v_rng11, v_rng12, v_rng5l, v_enum5, v_ixT0, v_ixT1, v_ixT2, v_ixT3, v_ixT4, v_ext, v_extO, v_k_ext, v_olD, v_olV, v_ixO, v_ixOO, v_lenO, v_lenOO, v_neg, v_lwT, v_lwF, v_lwK_nx, v_lwK_ct, v_lwK_bk, v_lwK_rt, v_while, v_par3, v_k_par3b, v_k_par3c, v_aug, v_augO, v_k_aug, v_augN, v_addI, v_cat, v_k_cat, v_k_catb, v_catO, v_ownD, v_odD, v_inD, v_inDO, v_k_inD, v_getD, v_getDO, v_k_getD, v_putD, v_putDO, v_k_putD, v_k_putDb, v_res, v_resOk, v_resEx, v_resN, v_raise, List.map_cons, List.map_nil, List.cons_append, List.nil_append, List.length_cons, List.length_nil, List.getElem?_cons_zero, List.getElem?_cons_succ, List.set_cons_zero, List.set_cons_succ, List.replicate_succ, List.replicate_zero, Nat.reduceAdd, Nat.reduceSub, ↓reduceIte, Bool.not_true, Bool.not_false, Bool.false_eq_true, Nat.zero_add, reduceCtorEq, LIM, Int.cast_ofNat_Int, Int.reduceEq, Int.reduceLT, Int.reduceLE, decide_true, decide_false, Nat.reduceLeDiff, List.all_cons, List.all_nil, id_eq, Bool.and_self, Bool.and_true, Bool.true_and, Bool.false_and, Bool.and_false, Bool.true_or, Bool.or_true, Bool.false_or, Bool.or_false, Bool.or_self, Nat.reduceLT, List.getElem?_set_self hρ]
theorem dl_lt {s t : Sg} {i : Nat} (h : i ∈ dl s t) : i < 5 := by
  unfold dl at h
  have := (List.mem_filter.mp h).1
  simp at this
  omega
theorem dl_le (s t : Sg) : (dl s t).length ≤ 5 := List.length_filter_le _ _
def ledC : M Bool := asB (e2 dNe (eIxO 2 (e1 dNeg (eC (.int 1)))) (eVar 1))
theorem ledC_ok (s t : Sg) (acc : List D) (d0 : D) (a3 a4 a5 a6 a7 : Sl) (τ : S) : ledC [.v d0, .v (sd t), .ol (acc ++ [sd s]), a3, a4, a5, a6, a7] τ = .ok (!decide (s = t)) τ := by
  unfold ledC
  simp only [v_k_ret, v_iteT, v_iteF, v_k_if, v_k_expr, v_k_asg, v_k_par, v_k_own, v_k_app, v_k_1, v_k_2b, v_k_2, v_k_consb, v_k_cons, v_k_tup, v_k_lst, v_k_asB, v_k_ofB, v_k_tru, v_k_and, v_k_or, v_k_not, v_k_bAnd, v_k_bOr, v_k_bNot, v_k_eIf, v_k_chb, v_k_ch, v_k_oSome, v_k_slc, v_k_slb, v_k_sl, v_k_call, v_k_iSeq, v_k_iRng, v_k_iEnum, v_k_iZipb, v_k_iZip, v_k_comp, v_k_compc, v_iteCT, v_iteCF, v_k_compb, v_k_for, v_bind_ok, v_bind_ex, v_opt, v_seq, v_seqK_nx, v_seqK_rt, v_seqK_bk, v_seqK_ct, v_next, v_brk, v_cont, v_ret, v_retN, v_if, v_expr, v_nxO, v_asg, v_asgN, v_asgT, v_asgs0, v_asgsN, v_par, v_setAll0, v_setAllN, v_own, v_app, v_appO, v_var, v_varO, v_C, v_1, v_2, v_nil, v_cons, v_tup, v_lst, v_F, v_asB, v_ofB, v_tru, v_and, v_or, v_andO, v_orO, v_not, v_bAnd, v_bOr, v_bNot, v_eIf, v_chain, v_chO, v_oNone, v_oSome, v_sl, v_call, v_iSeq, v_iRng, v_iEnum, v_iZip, v_yes, v_comp, v_comp0, v_compO, v_noex, v_noOwn0, v_noOwnV, v_noOwnN, v_noOwnL, v_wp0, v_wpN, v_fz0, v_fzN, v_fz1, v_fzO_ol, v_fzO_v, v_fzO_no, v_for, v_run, v_fin_nx, v_fin_rt, v_loop0, v_lpO, v_lpK_nx, v_lpK_ct, v_lpK_bk, v_lpK_rt, v_iteAnd, v_iteOr, v_iteAndB, v_iteOrB, v_dB, v_dTru, v_omap, v_obind, v_dInt, v_lenT, v_lenL, v_isN0, v_isNs, v_isNt, v_isNl, v_isNi, v_notN0, v_notNs, v_notNt, v_notNl, v_notNi, v_isiTT, v_isiTL, v_isiTN, v_isiTS, v_isiTI, v_isiLT, v_isiLL, v_add, v_sub, v_lt, v_le, v_gt, v_ge, v_eqI, v_neI, v_all, v_dBs0, v_dBsN, v_tupL, v_tupT, v_listL, v_listT, v_itemsL, v_itemsT, v_rng5, v_rng0, v_rng1, v_rng2, v_rng3, v_rng4, v_rng6, v_rng7, v_rng8, v_rng9, v_rng10, v_rng11, v_rng12, v_rng5l, v_enum5, v_ixT0, v_ixT1, v_ixT2, v_ixT3, v_ixT4, v_ext, v_extO, v_k_ext, v_olD, v_olV, v_ixO, v_ixOO, v_lenO, v_lenOO, v_neg, v_lwT, v_lwF, v_lwK_nx, v_lwK_ct, v_lwK_bk, v_lwK_rt, v_while, v_par3, v_k_par3b, v_k_par3c, v_aug, v_augO, v_k_aug, v_augN, v_addI, v_cat, v_k_cat, v_k_catb, v_catO, v_ownD, v_odD, v_inD, v_inDO, v_k_inD, v_getD, v_getDO, v_k_getD, v_putD, v_putDO, v_k_putD, v_k_putDb, v_res, v_resOk, v_resEx, v_resN, v_raise, List.map_cons, List.map_nil, List.cons_append, List.nil_append, List.length_cons, List.length_nil, List.getElem?_cons_zero, List.getElem?_cons_succ, List.set_cons_zero, List.set_cons_succ, List.replicate_succ, List.replicate_zero, Nat.reduceAdd, Nat.reduceSub, ↓reduceIte, Bool.not_true, Bool.not_false, Bool.false_eq_true, Nat.zero_add, reduceCtorEq, LIM, Int.cast_ofNat_Int, Int.reduceEq, Int.reduceLT, Int.reduceLE, decide_true, decide_false, Nat.reduceLeDiff, List.all_cons, List.all_nil, id_eq, Bool.and_self, Bool.and_true, Bool.true_and, Bool.false_and, Bool.and_false, Bool.true_or, Bool.or_true, Bool.false_or, Bool.or_false, Bool.or_self, Nat.reduceLT, Int.reduceNeg, ix_lastL, dNe_sd]
theorem cnt_le (s t : Sg) : cnt s t ≤ 5 := by rw [← dl_len]; exact dl_le s t
theorem dist_le (s t : Sg) : dist s t ≤ 6 := by
  unfold dist
  have := cnt_le s t
  cases lkB s t <;> simp <;> omega
def row (s t : Sg) : List Sg := way (dist s t) s t
/-! ### rows of signs as data -/
theorem depth_sd (s : Sg) : PyData.depth (sd s) ≤ 2 := by
  obtain ⟨a, b, c, d, e⟩ := s
  cases e with
  | no => exact Nat.le_of_ble_eq_true (by kernel_rfl)
  | m => exact Nat.le_of_ble_eq_true (by kernel_rfl)
  | h x y => exact Nat.le_of_ble_eq_true (by kernel_rfl)
theorem depthA_map {α : Type} {g : α → D} {n : Nat} (h : ∀ x, PyData.depth (g x) ≤ n) (l : List α) : PyData.depthAll (l.map g) ≤ n := by
  induction l with
  | nil => exact Nat.zero_le _
  | cons x l ih => rw [List.map_cons, PyData.depthAll]; exact Nat.max_le.mpr ⟨h x, ih⟩
theorem canA_map {α : Type} {g : α → D} (h : ∀ x, PyData.canLay0 (g x) = true) (l : List α) : PyData.canLayAll0 (l.map g) = true := by
  induction l with
  | nil => exact can0
  | cons x l ih => rw [List.map_cons, canN, h x, ih]; rfl
theorem depthT (ds : List D) : PyData.depth (.tuple ds) = PyData.depthAll ds + 1 := by rw [PyData.depth]
theorem depthL (ds : List D) : PyData.depth (.list ds) = PyData.depthAll ds + 1 := by rw [PyData.depth]
theorem sh_tmap {α : Type} {g : α → D} {n : Nat} (hn : n ≤ 60) (hd : ∀ x, PyData.depth (g x) ≤ n) (h : ∀ x, sh (g x) = true) (l : List α) : sh (.tuple (l.map g)) = true := by
  refine sh_mk (by rw [canT]; exact canA_map (fun x => can_of_sh (h x)) l) ?_
  rw [depthT]
  have := depthA_map hd l
  exact decide_eq_true (by omega)
theorem sh_lmap {α : Type} {g : α → D} {n : Nat} (hn : n ≤ 60) (hd : ∀ x, PyData.depth (g x) ≤ n) (h : ∀ x, sh (g x) = true) (l : List α) : sh (.list (l.map g)) = true := by
  refine sh_mk (by rw [canL]; exact canA_map (fun x => can_of_sh (h x)) l) ?_
  rw [depthL]
  have := depthA_map hd l
  exact decide_eq_true (by omega)
theorem sh_sds (l : List Sg) : sh (.tuple (l.map sd)) = true := sh_tmap (n := 2) (by omega) depth_sd sh_sd l
theorem sh_sdsL (l : List Sg) : sh (.list (l.map sd)) = true := sh_lmap (n := 2) (by omega) depth_sd sh_sd l
theorem dBs_map {α : Type} (l : List α) (p : α → Bool) : dBs (l.map fun x => .bool (p x)) = some (l.map p) := by
  induction l with
  | nil => rfl
  | cons x l ih =>
    show (dBs (l.map fun x => .bool (p x))).map (fun r => p x :: r) = _
    rw [ih]
    rfl
theorem all_map_id {α : Type} (l : List α) (p : α → Bool) : (l.map p).all id = l.all p := by rw [List.all_map]; rfl
theorem sl_tail (xs : List D) : dSl (.tuple xs) (some 1) none = some (.tuple (xs.drop 1)) := by
  show some (PyData.tuple (cutD xs (some 1) none)) = _
  congr 2
  unfold cutD
  have h1 : HT.sIx xs.length 0 (some 1) = min 1 xs.length := rfl
  have h2 : HT.sIx xs.length xs.length none = xs.length := rfl
  rw [h1, h2]
  cases xs with
  | nil => rfl
  | cons x l =>
    have : min 1 (x :: l).length = 1 := by rw [List.length_cons]; omega
    rw [this]
    show (l).take (l.length + 1 - 1) = l
    simp
theorem zip_pairs (l m : List Sg) : dZip (.tuple (l.map sd)) (.tuple (m.map sd)) = some ((l.zip m).map fun p => .tuple [sd p.1, sd p.2]) := by
  show some (pairsD (l.map sd) (m.map sd)) = _
  unfold pairsD
  rw [List.zip_map, List.map_map]
  rfl
theorem ix_lastT (l : List D) (x : D) : dIx (.tuple (l ++ [x])) (.int (-1)) = some x := atI_last l x
theorem ix_end (l : List Sg) {t : Sg} (h : l.getLast? = some t) : dIx (.tuple (l.map sd)) (.int (-1)) = some (sd t) := by
  obtain ⟨m, rfl⟩ := List.getLast?_eq_some_iff.mp h
  rw [List.map_append]
  exact ix_lastT _ _
theorem ix_begin (l : List Sg) {t : Sg} (h : l.head? = some t) : dIx (.tuple (l.map sd)) (.int 0) = some (sd t) := by
  cases l with
  | nil => cases h
  | cons x l => cases h; exact v_ixT (n := 0)
theorem eqv_empty (l : List Sg) : PyData.eqv (.tuple (l.map sd)) (.tuple []) = l.isEmpty := by
  rw [eqv_t]
  cases l with
  | nil => simp [PyData.eqvAll]
  | cons x l => simp [PyData.eqvAll]
theorem sh_e : sh (.tuple []) = true := by kernel_rfl
theorem k1_count (τ : S) : M_count_signs [] τ = .ok (.int 2832) τ := by kernel_rfl
theorem k1_many (τ : S) : M_law_many [] τ = .ok (.int 2832) τ := by kernel_rfl
theorem k1_odd (τ : S) : M_law_odd [] τ = .ok (.bool true) τ := by kernel_rfl
theorem k1_is (b : Bool) (τ : S) : M_law_is [.bool b, .bool b] τ = .ok (.bool true) τ := by cases b <;> kernel_rfl
theorem k1_ht (a b : Fin 4) (τ : S) (s : Sg) : M_law_good [.tuple [.str (shS s.sh), .str (tnS s.tn), .str (mvS s.mv), plD s.pl, .tuple [.str (shS a), .str (tnS b)]]] τ = .ok (.bool (restB a s)) τ := law_good_ok ⟨s.sh, s.tn, s.mv, s.pl, .h a b⟩ τ
def k1T : MS := (sSeq (sAsg (.nm 6) [] (e2 dAdd (e2 dAdd (eSl (eVar 3) oNone (oSome (eVar 5))) (eTup (aCons (e2 dIx (eVar 4) (eVar 5)) aNil))) (eSl (eVar 3) (oSome (e2 dAdd (eVar 5) (eC (.int 1)))) oNone)))
      (sIf [] (bNot (tru (eCall M_law_is (aCons (eCall M_is_sign (aCons (eVar 6) aNil)) (aCons (eCall M_law_good (aCons (eVar 6) aNil)) aNil))))) (sRet [] (eC (.bool false))) sNext))
def k1P (s t : Sg) (i : Fin 5) : Sg := match i with
  | 0 => { s with sh := t.sh }
  | 1 => { s with tn := t.tn }
  | 2 => { s with mv := t.mv }
  | 3 => { s with pl := t.pl }
  | 4 => { s with se := t.se }
theorem k1T_put (s t : Sg) (i : Fin 5) (a2 a6 a7 a8 a9 a10 : Sl) (τ : S) : (sAsg (.nm 6) [] (e2 dAdd (e2 dAdd (eSl (eVar 3) oNone (oSome (eVar 5))) (eTup (aCons (e2 dIx (eVar 4) (eVar 5)) aNil))) (eSl (eVar 3) (oSome (e2 dAdd (eVar 5) (eC (.int 1)))) oNone))) [.v dScr, .v dTown, a2, .v (sd s), .v (sd t), .v (.int (i.val : Int)), a6, a7, a8, a9, a10] τ = .ok (.nx [.v dScr, .v dTown, a2, .v (sd s), .v (sd t), .v (.int (i.val : Int)), .v (sd (k1P s t i)), a7, a8, a9, a10]) τ := by
  match i with | 0 => kernel_rfl | 1 => kernel_rfl | 2 => kernel_rfl | 3 => kernel_rfl | 4 => kernel_rfl
theorem k1T_ok (s t : Sg) (i : Fin 5) (a2 a6 a7 a8 a9 a10 : Sl) (τ : S) : k1T [.v dScr, .v dTown, a2, .v (sd s), .v (sd t), .v (.int (i.val : Int)), a6, a7, a8, a9, a10] τ = .ok (.nx [.v dScr, .v dTown, a2, .v (sd s), .v (sd t), .v (.int (i.val : Int)), .v (sd (k1P s t i)), a7, a8, a9, a10]) τ := by
  unfold k1T
  rw [v_seq, k1T_put]
  simp only [v_k_ret, v_iteT, v_iteF, v_k_if, v_k_expr, v_k_asg, v_k_par, v_k_own, v_k_app, v_k_1, v_k_2b, v_k_2, v_k_consb, v_k_cons, v_k_tup, v_k_lst, v_k_asB, v_k_ofB, v_k_tru, v_k_and, v_k_or, v_k_not, v_k_bAnd, v_k_bOr, v_k_bNot, v_k_eIf, v_k_chb, v_k_ch, v_k_oSome, v_k_slc, v_k_slb, v_k_sl, v_k_call, v_k_iSeq, v_k_iRng, v_k_iEnum, v_k_iZipb, v_k_iZip, v_k_comp, v_k_compc, v_iteCT, v_iteCF, v_k_compb, v_k_for, v_bind_ok, v_bind_ex, v_opt, v_seq, v_seqK_nx, v_seqK_rt, v_seqK_bk, v_seqK_ct, v_next, v_brk, v_cont, v_ret, v_retN, v_if, v_expr, v_nxO, v_asg, v_asgN, v_asgT, v_asgs0, v_asgsN, v_par, v_setAll0, v_setAllN, v_own, v_app, v_appO, v_var, v_varO, v_C, v_1, v_2, v_nil, v_cons, v_tup, v_lst, v_F, v_asB, v_ofB, v_tru, v_and, v_or, v_andO, v_orO, v_not, v_bAnd, v_bOr, v_bNot, v_eIf, v_chain, v_chO, v_oNone, v_oSome, v_sl, v_call, v_iSeq, v_iRng, v_iEnum, v_iZip, v_yes, v_comp, v_comp0, v_compO, v_noex, v_noOwn0, v_noOwnV, v_noOwnN, v_noOwnL, v_wp0, v_wpN, v_fz0, v_fzN, v_fz1, v_fzO_ol, v_fzO_v, v_fzO_no, v_for, v_run, v_fin_nx, v_fin_rt, v_loop0, v_lpO, v_lpK_nx, v_lpK_ct, v_lpK_bk, v_lpK_rt, v_iteAnd, v_iteOr, v_iteAndB, v_iteOrB, v_dB, v_dTru, v_omap, v_obind, v_dInt, v_lenT, v_lenL, v_isN0, v_isNs, v_isNt, v_isNl, v_isNi, v_notN0, v_notNs, v_notNt, v_notNl, v_notNi, v_isiTT, v_isiTL, v_isiTN, v_isiTS, v_isiTI, v_isiLT, v_isiLL, v_add, v_sub, v_lt, v_le, v_gt, v_ge, v_eqI, v_neI, v_all, v_dBs0, v_dBsN, v_tupL, v_tupT, v_listL, v_listT, v_itemsL, v_itemsT, v_rng5, v_rng0, v_rng1, v_rng2, v_rng3, v_rng4, v_rng6, v_rng7, v_rng8, v_rng9, v_rng10, v_rng11, v_rng12, v_rng5l, v_enum5, v_ixT0, v_ixT1, v_ixT2, v_ixT3, v_ixT4, v_ext, v_extO, v_k_ext, v_olD, v_olV, v_ixO, v_ixOO, v_lenO, v_lenOO, v_neg, v_lwT, v_lwF, v_lwK_nx, v_lwK_ct, v_lwK_bk, v_lwK_rt, v_while, v_par3, v_k_par3b, v_k_par3c, v_aug, v_augO, v_k_aug, v_augN, v_addI, v_cat, v_k_cat, v_k_catb, v_catO, v_ownD, v_odD, v_inD, v_inDO, v_k_inD, v_getD, v_getDO, v_k_getD, v_putD, v_putDO, v_k_putD, v_k_putDb, v_res, v_resOk, v_resEx, v_resN, v_raise, List.map_cons, List.map_nil, List.cons_append, List.nil_append, List.length_cons, List.length_nil, List.getElem?_cons_zero, List.getElem?_cons_succ, List.set_cons_zero, List.set_cons_succ, List.replicate_succ, List.replicate_zero, Nat.reduceAdd, Nat.reduceSub, ↓reduceIte, Bool.not_true, Bool.not_false, Bool.false_eq_true, Nat.zero_add, reduceCtorEq, LIM, Int.cast_ofNat_Int, Int.reduceEq, Int.reduceLT, Int.reduceLE, decide_true, decide_false, Nat.reduceLeDiff, List.all_cons, List.all_nil, id_eq, Bool.and_self, Bool.and_true, Bool.true_and, Bool.false_and, Bool.and_false, Bool.true_or, Bool.or_true, Bool.false_or, Bool.or_false, Bool.or_self, Nat.reduceLT, is_sign_ok, law_good_ok, k1_is]
theorem k1_loop (s t : Sg) (a2 a5 a6 a7 a8 a9 a10 : Sl) (τ : S) : loopS (.nm 5) k1T rng5 [.v dScr, .v dTown, a2, .v (sd s), .v (sd t), a5, a6, a7, a8, a9, a10] τ = .ok (.nx [.v dScr, .v dTown, a2, .v (sd s), .v (sd t), .v (.int 4), .v (sd (k1P s t 4)), a7, a8, a9, a10]) τ := by
  have h0 := fun a6 => k1T_ok s t 0 a2 a6 a7 a8 a9 a10 τ
  have h1 := fun a6 => k1T_ok s t 1 a2 a6 a7 a8 a9 a10 τ
  have h2 := fun a6 => k1T_ok s t 2 a2 a6 a7 a8 a9 a10 τ
  have h3 := fun a6 => k1T_ok s t 3 a2 a6 a7 a8 a9 a10 τ
  have h4 := fun a6 => k1T_ok s t 4 a2 a6 a7 a8 a9 a10 τ
  have e0 : (((0 : Fin 5).val : Nat) : Int) = 0 := rfl
  have e1 : (((1 : Fin 5).val : Nat) : Int) = 1 := rfl
  have e2 : (((2 : Fin 5).val : Nat) : Int) = 2 := rfl
  have e3 : (((3 : Fin 5).val : Nat) : Int) = 3 := rfl
  have e4 : (((4 : Fin 5).val : Nat) : Int) = 4 := rfl
  rw [e0] at h0
  rw [e1] at h1
  rw [e2] at h2
  rw [e3] at h3
  rw [e4] at h4
  unfold rng5
  simp only [v_k_ret, v_iteT, v_iteF, v_k_if, v_k_expr, v_k_asg, v_k_par, v_k_own, v_k_app, v_k_1, v_k_2b, v_k_2, v_k_consb, v_k_cons, v_k_tup, v_k_lst, v_k_asB, v_k_ofB, v_k_tru, v_k_and, v_k_or, v_k_not, v_k_bAnd, v_k_bOr, v_k_bNot, v_k_eIf, v_k_chb, v_k_ch, v_k_oSome, v_k_slc, v_k_slb, v_k_sl, v_k_call, v_k_iSeq, v_k_iRng, v_k_iEnum, v_k_iZipb, v_k_iZip, v_k_comp, v_k_compc, v_iteCT, v_iteCF, v_k_compb, v_k_for, v_bind_ok, v_bind_ex, v_opt, v_seq, v_seqK_nx, v_seqK_rt, v_seqK_bk, v_seqK_ct, v_next, v_brk, v_cont, v_ret, v_retN, v_if, v_expr, v_nxO, v_asg, v_asgN, v_asgT, v_asgs0, v_asgsN, v_par, v_setAll0, v_setAllN, v_own, v_app, v_appO, v_var, v_varO, v_C, v_1, v_2, v_nil, v_cons, v_tup, v_lst, v_F, v_asB, v_ofB, v_tru, v_and, v_or, v_andO, v_orO, v_not, v_bAnd, v_bOr, v_bNot, v_eIf, v_chain, v_chO, v_oNone, v_oSome, v_sl, v_call, v_iSeq, v_iRng, v_iEnum, v_iZip, v_yes, v_comp, v_comp0, v_compO, v_noex, v_noOwn0, v_noOwnV, v_noOwnN, v_noOwnL, v_wp0, v_wpN, v_fz0, v_fzN, v_fz1, v_fzO_ol, v_fzO_v, v_fzO_no, v_for, v_run, v_fin_nx, v_fin_rt, v_loop0, v_lpO, v_lpK_nx, v_lpK_ct, v_lpK_bk, v_lpK_rt, v_iteAnd, v_iteOr, v_iteAndB, v_iteOrB, v_dB, v_dTru, v_omap, v_obind, v_dInt, v_lenT, v_lenL, v_isN0, v_isNs, v_isNt, v_isNl, v_isNi, v_notN0, v_notNs, v_notNt, v_notNl, v_notNi, v_isiTT, v_isiTL, v_isiTN, v_isiTS, v_isiTI, v_isiLT, v_isiLL, v_add, v_sub, v_lt, v_le, v_gt, v_ge, v_eqI, v_neI, v_all, v_dBs0, v_dBsN, v_tupL, v_tupT, v_listL, v_listT, v_itemsL, v_itemsT, v_rng5, v_rng0, v_rng1, v_rng2, v_rng3, v_rng4, v_rng6, v_rng7, v_rng8, v_rng9, v_rng10, v_rng11, v_rng12, v_rng5l, v_enum5, v_ixT0, v_ixT1, v_ixT2, v_ixT3, v_ixT4, v_ext, v_extO, v_k_ext, v_olD, v_olV, v_ixO, v_ixOO, v_lenO, v_lenOO, v_neg, v_lwT, v_lwF, v_lwK_nx, v_lwK_ct, v_lwK_bk, v_lwK_rt, v_while, v_par3, v_k_par3b, v_k_par3c, v_aug, v_augO, v_k_aug, v_augN, v_addI, v_cat, v_k_cat, v_k_catb, v_catO, v_ownD, v_odD, v_inD, v_inDO, v_k_inD, v_getD, v_getDO, v_k_getD, v_putD, v_putDO, v_k_putD, v_k_putDb, v_res, v_resOk, v_resEx, v_resN, v_raise, List.map_cons, List.map_nil, List.cons_append, List.nil_append, List.length_cons, List.length_nil, List.getElem?_cons_zero, List.getElem?_cons_succ, List.set_cons_zero, List.set_cons_succ, List.replicate_succ, List.replicate_zero, Nat.reduceAdd, Nat.reduceSub, ↓reduceIte, Bool.not_true, Bool.not_false, Bool.false_eq_true, Nat.zero_add, reduceCtorEq, LIM, Int.cast_ofNat_Int, Int.reduceEq, Int.reduceLT, Int.reduceLE, decide_true, decide_false, Nat.reduceLeDiff, List.all_cons, List.all_nil, id_eq, Bool.and_self, Bool.and_true, Bool.true_and, Bool.false_and, Bool.and_false, Bool.true_or, Bool.or_true, Bool.false_or, Bool.or_false, Bool.or_self, Nat.reduceLT, v_loopN, h0, h1, h2, h3, h4]
theorem k1_list (s : Sg) (τ : S) : M_is_sign [.list [.str (shS s.sh), .str (tnS s.tn), .str (mvS s.mv), plD s.pl, secD s.se]] τ = .ok (.bool false) τ := by kernel_rfl
theorem k1_cut (s : Sg) (τ : S) : M_check_sign [.tuple [.str (shS s.sh), .str (tnS s.tn), .str (mvS s.mv), plD s.pl]] τ = .ex "InvalidSign" τ := by kernel_rfl
theorem k1_none (τ : S) : M_check_sign [.none] τ = .ex "InvalidSign" τ := by kernel_rfl
theorem k1_e1 : enOf errL "InvalidSign" = some (Str.ofString "one") := by kernel_rfl
theorem k1_e2 : enOf errL "InvalidHand" = some (Str.ofString "hand") := by kernel_rfl
def k1O : List D := [.none, .str (Str.ofString "m"), .tuple [.str (Str.ofString "a")], .tuple [.str (Str.ofString "e"), .str (Str.ofString "i")], .tuple [.str (Str.ofString "a"), .str (Str.ofString "u")], .list [.str (Str.ofString "a"), .str (Str.ofString "i")], .tuple [.str (Str.ofString "a"), .str (Str.ofString "i"), .str (Str.ofString "i")], .tuple [.str (Str.ofString ""), .str (Str.ofString "i")]]
theorem k1O_bad {d : D} (h : d ∈ k1O) (τ : S) : M_is_hand [d] τ = .ok (.bool false) τ := by
  simp only [k1O, List.mem_cons, List.not_mem_nil, or_false] at h
  rcases h with rfl | rfl | rfl | rfl | rfl | rfl | rfl | rfl <;> kernel_rfl
theorem k1_rest {s : Sg} (hs : s.good = true) {d : D} (h : d ∈ k1O) (τ : S) : M_can_rest [sd s, d] τ = .ex "InvalidHand" τ := by
  unfold M_can_rest B_can_rest
  simp only [v_k_ret, v_iteT, v_iteF, v_k_if, v_k_expr, v_k_asg, v_k_par, v_k_own, v_k_app, v_k_1, v_k_2b, v_k_2, v_k_consb, v_k_cons, v_k_tup, v_k_lst, v_k_asB, v_k_ofB, v_k_tru, v_k_and, v_k_or, v_k_not, v_k_bAnd, v_k_bOr, v_k_bNot, v_k_eIf, v_k_chb, v_k_ch, v_k_oSome, v_k_slc, v_k_slb, v_k_sl, v_k_call, v_k_iSeq, v_k_iRng, v_k_iEnum, v_k_iZipb, v_k_iZip, v_k_comp, v_k_compc, v_iteCT, v_iteCF, v_k_compb, v_k_for, v_bind_ok, v_bind_ex, v_opt, v_seq, v_seqK_nx, v_seqK_rt, v_seqK_bk, v_seqK_ct, v_next, v_brk, v_cont, v_ret, v_retN, v_if, v_expr, v_nxO, v_asg, v_asgN, v_asgT, v_asgs0, v_asgsN, v_par, v_setAll0, v_setAllN, v_own, v_app, v_appO, v_var, v_varO, v_C, v_1, v_2, v_nil, v_cons, v_tup, v_lst, v_F, v_asB, v_ofB, v_tru, v_and, v_or, v_andO, v_orO, v_not, v_bAnd, v_bOr, v_bNot, v_eIf, v_chain, v_chO, v_oNone, v_oSome, v_sl, v_call, v_iSeq, v_iRng, v_iEnum, v_iZip, v_yes, v_comp, v_comp0, v_compO, v_noex, v_noOwn0, v_noOwnV, v_noOwnN, v_noOwnL, v_wp0, v_wpN, v_fz0, v_fzN, v_fz1, v_fzO_ol, v_fzO_v, v_fzO_no, v_for, v_run, v_fin_nx, v_fin_rt, v_loop0, v_lpO, v_lpK_nx, v_lpK_ct, v_lpK_bk, v_lpK_rt, v_iteAnd, v_iteOr, v_iteAndB, v_iteOrB, v_dB, v_dTru, v_omap, v_obind, v_dInt, v_lenT, v_lenL, v_isN0, v_isNs, v_isNt, v_isNl, v_isNi, v_notN0, v_notNs, v_notNt, v_notNl, v_notNi, v_isiTT, v_isiTL, v_isiTN, v_isiTS, v_isiTI, v_isiLT, v_isiLL, v_add, v_sub, v_lt, v_le, v_gt, v_ge, v_eqI, v_neI, v_all, v_dBs0, v_dBsN, v_tupL, v_tupT, v_listL, v_listT, v_itemsL, v_itemsT, v_rng5, v_rng0, v_rng1, v_rng2, v_rng3, v_rng4, v_rng6, v_rng7, v_rng8, v_rng9, v_rng10, v_rng11, v_rng12, v_rng5l, v_enum5, v_ixT0, v_ixT1, v_ixT2, v_ixT3, v_ixT4, v_ext, v_extO, v_k_ext, v_olD, v_olV, v_ixO, v_ixOO, v_lenO, v_lenOO, v_neg, v_lwT, v_lwF, v_lwK_nx, v_lwK_ct, v_lwK_bk, v_lwK_rt, v_while, v_par3, v_k_par3b, v_k_par3c, v_aug, v_augO, v_k_aug, v_augN, v_addI, v_cat, v_k_cat, v_k_catb, v_catO, v_ownD, v_odD, v_inD, v_inDO, v_k_inD, v_getD, v_getDO, v_k_getD, v_putD, v_putDO, v_k_putD, v_k_putDb, v_res, v_resOk, v_resEx, v_resN, v_raise, List.map_cons, List.map_nil, List.cons_append, List.nil_append, List.length_cons, List.length_nil, List.getElem?_cons_zero, List.getElem?_cons_succ, List.set_cons_zero, List.set_cons_succ, List.replicate_succ, List.replicate_zero, Nat.reduceAdd, Nat.reduceSub, ↓reduceIte, Bool.not_true, Bool.not_false, Bool.false_eq_true, Nat.zero_add, reduceCtorEq, LIM, Int.cast_ofNat_Int, Int.reduceEq, Int.reduceLT, Int.reduceLE, decide_true, decide_false, Nat.reduceLeDiff, List.all_cons, List.all_nil, id_eq, Bool.and_self, Bool.and_true, Bool.true_and, Bool.false_and, Bool.and_false, Bool.true_or, Bool.or_true, Bool.false_or, Bool.or_false, Bool.or_self, Nat.reduceLT, check_sign_ok, hs, k1O_bad h]
def k1OB : MS := (sIf [] (asB (e2 dNe (eRes errL (eCall M_can_rest (aCons (eVar 3) (aCons (eVar 9) aNil)))) (eTup (aCons (eC (.str (Str.ofString "hand"))) aNil)))) (sRet [] (eC (.bool false))) sNext)
theorem k1_nh : dNe (.tuple [.str (Str.ofString "hand")]) (.tuple [.str (Str.ofString "hand")]) = some (.bool false) := by kernel_rfl
theorem k1_n1 : dNe (.list [.tuple [.str (Str.ofString "one")], .tuple [.str (Str.ofString "one")], .tuple [.str (Str.ofString "one")]]) (.list [.tuple [.str (Str.ofString "one")], .tuple [.str (Str.ofString "one")], .tuple [.str (Str.ofString "one")]]) = some (.bool false) := by kernel_rfl
theorem k1_m1 : dRep (.list [.tuple [.str (Str.ofString "one")]]) (.int 3) = some (.list [.tuple [.str (Str.ofString "one")], .tuple [.str (Str.ofString "one")], .tuple [.str (Str.ofString "one")]]) := by kernel_rfl
theorem k1_oloop {s : Sg} (hs : s.good = true) (a2 a4 a5 a6 a7 a8 a9 a10 : Sl) (τ : S) : loopS (.nm 9) k1OB k1O [.v dScr, .v dTown, a2, .v (sd s), a4, a5, a6, a7, a8, a9, a10] τ = .ok (.nx [.v dScr, .v dTown, a2, .v (sd s), a4, a5, a6, a7, a8, .v (.tuple [.str (Str.ofString ""), .str (Str.ofString "i")]), a10]) τ := by
  have key : ∀ d, d ∈ k1O → ∀ τ, k1OB [.v dScr, .v dTown, a2, .v (sd s), a4, a5, a6, a7, a8, .v d, a10] τ = .ok (.nx [.v dScr, .v dTown, a2, .v (sd s), a4, a5, a6, a7, a8, .v d, a10]) τ := by
    intro d hd τ
    unfold k1OB
    simp only [v_k_ret, v_iteT, v_iteF, v_k_if, v_k_expr, v_k_asg, v_k_par, v_k_own, v_k_app, v_k_1, v_k_2b, v_k_2, v_k_consb, v_k_cons, v_k_tup, v_k_lst, v_k_asB, v_k_ofB, v_k_tru, v_k_and, v_k_or, v_k_not, v_k_bAnd, v_k_bOr, v_k_bNot, v_k_eIf, v_k_chb, v_k_ch, v_k_oSome, v_k_slc, v_k_slb, v_k_sl, v_k_call, v_k_iSeq, v_k_iRng, v_k_iEnum, v_k_iZipb, v_k_iZip, v_k_comp, v_k_compc, v_iteCT, v_iteCF, v_k_compb, v_k_for, v_bind_ok, v_bind_ex, v_opt, v_seq, v_seqK_nx, v_seqK_rt, v_seqK_bk, v_seqK_ct, v_next, v_brk, v_cont, v_ret, v_retN, v_if, v_expr, v_nxO, v_asg, v_asgN, v_asgT, v_asgs0, v_asgsN, v_par, v_setAll0, v_setAllN, v_own, v_app, v_appO, v_var, v_varO, v_C, v_1, v_2, v_nil, v_cons, v_tup, v_lst, v_F, v_asB, v_ofB, v_tru, v_and, v_or, v_andO, v_orO, v_not, v_bAnd, v_bOr, v_bNot, v_eIf, v_chain, v_chO, v_oNone, v_oSome, v_sl, v_call, v_iSeq, v_iRng, v_iEnum, v_iZip, v_yes, v_comp, v_comp0, v_compO, v_noex, v_noOwn0, v_noOwnV, v_noOwnN, v_noOwnL, v_wp0, v_wpN, v_fz0, v_fzN, v_fz1, v_fzO_ol, v_fzO_v, v_fzO_no, v_for, v_run, v_fin_nx, v_fin_rt, v_loop0, v_lpO, v_lpK_nx, v_lpK_ct, v_lpK_bk, v_lpK_rt, v_iteAnd, v_iteOr, v_iteAndB, v_iteOrB, v_dB, v_dTru, v_omap, v_obind, v_dInt, v_lenT, v_lenL, v_isN0, v_isNs, v_isNt, v_isNl, v_isNi, v_notN0, v_notNs, v_notNt, v_notNl, v_notNi, v_isiTT, v_isiTL, v_isiTN, v_isiTS, v_isiTI, v_isiLT, v_isiLL, v_add, v_sub, v_lt, v_le, v_gt, v_ge, v_eqI, v_neI, v_all, v_dBs0, v_dBsN, v_tupL, v_tupT, v_listL, v_listT, v_itemsL, v_itemsT, v_rng5, v_rng0, v_rng1, v_rng2, v_rng3, v_rng4, v_rng6, v_rng7, v_rng8, v_rng9, v_rng10, v_rng11, v_rng12, v_rng5l, v_enum5, v_ixT0, v_ixT1, v_ixT2, v_ixT3, v_ixT4, v_ext, v_extO, v_k_ext, v_olD, v_olV, v_ixO, v_ixOO, v_lenO, v_lenOO, v_neg, v_lwT, v_lwF, v_lwK_nx, v_lwK_ct, v_lwK_bk, v_lwK_rt, v_while, v_par3, v_k_par3b, v_k_par3c, v_aug, v_augO, v_k_aug, v_augN, v_addI, v_cat, v_k_cat, v_k_catb, v_catO, v_ownD, v_odD, v_inD, v_inDO, v_k_inD, v_getD, v_getDO, v_k_getD, v_putD, v_putDO, v_k_putD, v_k_putDb, v_res, v_resOk, v_resEx, v_resN, v_raise, List.map_cons, List.map_nil, List.cons_append, List.nil_append, List.length_cons, List.length_nil, List.getElem?_cons_zero, List.getElem?_cons_succ, List.set_cons_zero, List.set_cons_succ, List.replicate_succ, List.replicate_zero, Nat.reduceAdd, Nat.reduceSub, ↓reduceIte, Bool.not_true, Bool.not_false, Bool.false_eq_true, Nat.zero_add, reduceCtorEq, LIM, Int.cast_ofNat_Int, Int.reduceEq, Int.reduceLT, Int.reduceLE, decide_true, decide_false, Nat.reduceLeDiff, List.all_cons, List.all_nil, id_eq, Bool.and_self, Bool.and_true, Bool.true_and, Bool.false_and, Bool.and_false, Bool.true_or, Bool.or_true, Bool.false_or, Bool.or_false, Bool.or_self, Nat.reduceLT, k1_rest hs hd, k1_e2, k1_nh]
  have k0 := key (.none) (by simp [k1O])
  have k1 := key (.str (Str.ofString "m")) (by simp [k1O])
  have k2 := key (.tuple [.str (Str.ofString "a")]) (by simp [k1O])
  have k3 := key (.tuple [.str (Str.ofString "e"), .str (Str.ofString "i")]) (by simp [k1O])
  have k4 := key (.tuple [.str (Str.ofString "a"), .str (Str.ofString "u")]) (by simp [k1O])
  have k5 := key (.list [.str (Str.ofString "a"), .str (Str.ofString "i")]) (by simp [k1O])
  have k6 := key (.tuple [.str (Str.ofString "a"), .str (Str.ofString "i"), .str (Str.ofString "i")]) (by simp [k1O])
  have k7 := key (.tuple [.str (Str.ofString ""), .str (Str.ofString "i")]) (by simp [k1O])
  simp only [v_k_ret, v_iteT, v_iteF, v_k_if, v_k_expr, v_k_asg, v_k_par, v_k_own, v_k_app, v_k_1, v_k_2b, v_k_2, v_k_consb, v_k_cons, v_k_tup, v_k_lst, v_k_asB, v_k_ofB, v_k_tru, v_k_and, v_k_or, v_k_not, v_k_bAnd, v_k_bOr, v_k_bNot, v_k_eIf, v_k_chb, v_k_ch, v_k_oSome, v_k_slc, v_k_slb, v_k_sl, v_k_call, v_k_iSeq, v_k_iRng, v_k_iEnum, v_k_iZipb, v_k_iZip, v_k_comp, v_k_compc, v_iteCT, v_iteCF, v_k_compb, v_k_for, v_bind_ok, v_bind_ex, v_opt, v_seq, v_seqK_nx, v_seqK_rt, v_seqK_bk, v_seqK_ct, v_next, v_brk, v_cont, v_ret, v_retN, v_if, v_expr, v_nxO, v_asg, v_asgN, v_asgT, v_asgs0, v_asgsN, v_par, v_setAll0, v_setAllN, v_own, v_app, v_appO, v_var, v_varO, v_C, v_1, v_2, v_nil, v_cons, v_tup, v_lst, v_F, v_asB, v_ofB, v_tru, v_and, v_or, v_andO, v_orO, v_not, v_bAnd, v_bOr, v_bNot, v_eIf, v_chain, v_chO, v_oNone, v_oSome, v_sl, v_call, v_iSeq, v_iRng, v_iEnum, v_iZip, v_yes, v_comp, v_comp0, v_compO, v_noex, v_noOwn0, v_noOwnV, v_noOwnN, v_noOwnL, v_wp0, v_wpN, v_fz0, v_fzN, v_fz1, v_fzO_ol, v_fzO_v, v_fzO_no, v_for, v_run, v_fin_nx, v_fin_rt, v_loop0, v_lpO, v_lpK_nx, v_lpK_ct, v_lpK_bk, v_lpK_rt, v_iteAnd, v_iteOr, v_iteAndB, v_iteOrB, v_dB, v_dTru, v_omap, v_obind, v_dInt, v_lenT, v_lenL, v_isN0, v_isNs, v_isNt, v_isNl, v_isNi, v_notN0, v_notNs, v_notNt, v_notNl, v_notNi, v_isiTT, v_isiTL, v_isiTN, v_isiTS, v_isiTI, v_isiLT, v_isiLL, v_add, v_sub, v_lt, v_le, v_gt, v_ge, v_eqI, v_neI, v_all, v_dBs0, v_dBsN, v_tupL, v_tupT, v_listL, v_listT, v_itemsL, v_itemsT, v_rng5, v_rng0, v_rng1, v_rng2, v_rng3, v_rng4, v_rng6, v_rng7, v_rng8, v_rng9, v_rng10, v_rng11, v_rng12, v_rng5l, v_enum5, v_ixT0, v_ixT1, v_ixT2, v_ixT3, v_ixT4, v_ext, v_extO, v_k_ext, v_olD, v_olV, v_ixO, v_ixOO, v_lenO, v_lenOO, v_neg, v_lwT, v_lwF, v_lwK_nx, v_lwK_ct, v_lwK_bk, v_lwK_rt, v_while, v_par3, v_k_par3b, v_k_par3c, v_aug, v_augO, v_k_aug, v_augN, v_addI, v_cat, v_k_cat, v_k_catb, v_catO, v_ownD, v_odD, v_inD, v_inDO, v_k_inD, v_getD, v_getDO, v_k_getD, v_putD, v_putDO, v_k_putD, v_k_putDb, v_res, v_resOk, v_resEx, v_resN, v_raise, List.map_cons, List.map_nil, List.cons_append, List.nil_append, List.length_cons, List.length_nil, List.getElem?_cons_zero, List.getElem?_cons_succ, List.set_cons_zero, List.set_cons_succ, List.replicate_succ, List.replicate_zero, Nat.reduceAdd, Nat.reduceSub, ↓reduceIte, Bool.not_true, Bool.not_false, Bool.false_eq_true, Nat.zero_add, reduceCtorEq, LIM, Int.cast_ofNat_Int, Int.reduceEq, Int.reduceLT, Int.reduceLE, decide_true, decide_false, Nat.reduceLeDiff, List.all_cons, List.all_nil, id_eq, Bool.and_self, Bool.and_true, Bool.true_and, Bool.false_and, Bool.and_false, Bool.true_or, Bool.or_true, Bool.false_or, Bool.or_false, Bool.or_self, Nat.reduceLT, v_loopN, k1O, k0, k1, k2, k3, k4, k5, k6, k7]
theorem k1_rest0 (τ : S) : M_can_rest [.none, .none] τ = .ex "InvalidSign" τ := by kernel_rfl
theorem k1_dif0 (s : Sg) (τ : S) : M_differences [.none, sd s] τ = .ex "InvalidSign" τ := by kernel_rfl
theorem k1_dif1 {s : Sg} (hs : s.good = true) (τ : S) : M_differences [sd s, .tuple [.str (shS s.sh), .str (tnS s.tn), .str (mvS s.mv), plD s.pl]] τ = .ex "InvalidSign" τ := by
  unfold M_differences B_differences M_check_two B_check_two
  simp only [v_k_ret, v_iteT, v_iteF, v_k_if, v_k_expr, v_k_asg, v_k_par, v_k_own, v_k_app, v_k_1, v_k_2b, v_k_2, v_k_consb, v_k_cons, v_k_tup, v_k_lst, v_k_asB, v_k_ofB, v_k_tru, v_k_and, v_k_or, v_k_not, v_k_bAnd, v_k_bOr, v_k_bNot, v_k_eIf, v_k_chb, v_k_ch, v_k_oSome, v_k_slc, v_k_slb, v_k_sl, v_k_call, v_k_iSeq, v_k_iRng, v_k_iEnum, v_k_iZipb, v_k_iZip, v_k_comp, v_k_compc, v_iteCT, v_iteCF, v_k_compb, v_k_for, v_bind_ok, v_bind_ex, v_opt, v_seq, v_seqK_nx, v_seqK_rt, v_seqK_bk, v_seqK_ct, v_next, v_brk, v_cont, v_ret, v_retN, v_if, v_expr, v_nxO, v_asg, v_asgN, v_asgT, v_asgs0, v_asgsN, v_par, v_setAll0, v_setAllN, v_own, v_app, v_appO, v_var, v_varO, v_C, v_1, v_2, v_nil, v_cons, v_tup, v_lst, v_F, v_asB, v_ofB, v_tru, v_and, v_or, v_andO, v_orO, v_not, v_bAnd, v_bOr, v_bNot, v_eIf, v_chain, v_chO, v_oNone, v_oSome, v_sl, v_call, v_iSeq, v_iRng, v_iEnum, v_iZip, v_yes, v_comp, v_comp0, v_compO, v_noex, v_noOwn0, v_noOwnV, v_noOwnN, v_noOwnL, v_wp0, v_wpN, v_fz0, v_fzN, v_fz1, v_fzO_ol, v_fzO_v, v_fzO_no, v_for, v_run, v_fin_nx, v_fin_rt, v_loop0, v_lpO, v_lpK_nx, v_lpK_ct, v_lpK_bk, v_lpK_rt, v_iteAnd, v_iteOr, v_iteAndB, v_iteOrB, v_dB, v_dTru, v_omap, v_obind, v_dInt, v_lenT, v_lenL, v_isN0, v_isNs, v_isNt, v_isNl, v_isNi, v_notN0, v_notNs, v_notNt, v_notNl, v_notNi, v_isiTT, v_isiTL, v_isiTN, v_isiTS, v_isiTI, v_isiLT, v_isiLL, v_add, v_sub, v_lt, v_le, v_gt, v_ge, v_eqI, v_neI, v_all, v_dBs0, v_dBsN, v_tupL, v_tupT, v_listL, v_listT, v_itemsL, v_itemsT, v_rng5, v_rng0, v_rng1, v_rng2, v_rng3, v_rng4, v_rng6, v_rng7, v_rng8, v_rng9, v_rng10, v_rng11, v_rng12, v_rng5l, v_enum5, v_ixT0, v_ixT1, v_ixT2, v_ixT3, v_ixT4, v_ext, v_extO, v_k_ext, v_olD, v_olV, v_ixO, v_ixOO, v_lenO, v_lenOO, v_neg, v_lwT, v_lwF, v_lwK_nx, v_lwK_ct, v_lwK_bk, v_lwK_rt, v_while, v_par3, v_k_par3b, v_k_par3c, v_aug, v_augO, v_k_aug, v_augN, v_addI, v_cat, v_k_cat, v_k_catb, v_catO, v_ownD, v_odD, v_inD, v_inDO, v_k_inD, v_getD, v_getDO, v_k_getD, v_putD, v_putDO, v_k_putD, v_k_putDb, v_res, v_resOk, v_resEx, v_resN, v_raise, List.map_cons, List.map_nil, List.cons_append, List.nil_append, List.length_cons, List.length_nil, List.getElem?_cons_zero, List.getElem?_cons_succ, List.set_cons_zero, List.set_cons_succ, List.replicate_succ, List.replicate_zero, Nat.reduceAdd, Nat.reduceSub, ↓reduceIte, Bool.not_true, Bool.not_false, Bool.false_eq_true, Nat.zero_add, reduceCtorEq, LIM, Int.cast_ofNat_Int, Int.reduceEq, Int.reduceLT, Int.reduceLE, decide_true, decide_false, Nat.reduceLeDiff, List.all_cons, List.all_nil, id_eq, Bool.and_self, Bool.and_true, Bool.true_and, Bool.false_and, Bool.and_false, Bool.true_or, Bool.or_true, Bool.false_or, Bool.or_false, Bool.or_self, Nat.reduceLT, check_sign_ok s hs, k1_cut]
theorem k1_lst (s : Sg) : dListA (sd s) = some (.list [.str (shS s.sh), .str (tnS s.tn), .str (mvS s.mv), plD s.pl, secD s.se]) := by kernel_rfl
theorem k1_sl4 (s : Sg) : dSl (sd s) none (some 4) = some (.tuple [.str (shS s.sh), .str (tnS s.tn), .str (mvS s.mv), plD s.pl]) := by kernel_rfl
theorem k1_add (a b c d e : D) : dAdd (.tuple [a, b, c, d]) (.tuple [e]) = some (.tuple [a, b, c, d, e]) := by kernel_rfl
theorem k1_addL (a b c : D) : dAdd (.list [a, b]) (.list [c]) = some (.list [a, b, c]) := by kernel_rfl
theorem pure_law (ns : List Int) (_ : ns.length ≤ 63) : ∃ τ', B_law ns (.v dScr :: .v dTown :: List.replicate 9 .no) ⟨0, []⟩ = .ok (.rt (.bool true)) τ' := by
  unfold B_law
  simp only [v_k_ret, v_iteT, v_iteF, v_k_if, v_k_expr, v_k_asg, v_k_par, v_k_own, v_k_app, v_k_1, v_k_2b, v_k_2, v_k_consb, v_k_cons, v_k_tup, v_k_lst, v_k_asB, v_k_ofB, v_k_tru, v_k_and, v_k_or, v_k_not, v_k_bAnd, v_k_bOr, v_k_bNot, v_k_eIf, v_k_chb, v_k_ch, v_k_oSome, v_k_slc, v_k_slb, v_k_sl, v_k_call, v_k_iSeq, v_k_iRng, v_k_iEnum, v_k_iZipb, v_k_iZip, v_k_comp, v_k_compc, v_iteCT, v_iteCF, v_k_compb, v_k_for, v_bind_ok, v_bind_ex, v_opt, v_seq, v_seqK_nx, v_seqK_rt, v_seqK_bk, v_seqK_ct, v_next, v_brk, v_cont, v_ret, v_retN, v_if, v_expr, v_nxO, v_asg, v_asgN, v_asgT, v_asgs0, v_asgsN, v_par, v_setAll0, v_setAllN, v_own, v_app, v_appO, v_var, v_varO, v_C, v_1, v_2, v_nil, v_cons, v_tup, v_lst, v_F, v_asB, v_ofB, v_tru, v_and, v_or, v_andO, v_orO, v_not, v_bAnd, v_bOr, v_bNot, v_eIf, v_chain, v_chO, v_oNone, v_oSome, v_sl, v_call, v_iSeq, v_iRng, v_iEnum, v_iZip, v_yes, v_comp, v_comp0, v_compO, v_noex, v_noOwn0, v_noOwnV, v_noOwnN, v_noOwnL, v_wp0, v_wpN, v_fz0, v_fzN, v_fz1, v_fzO_ol, v_fzO_v, v_fzO_no, v_for, v_run, v_fin_nx, v_fin_rt, v_loop0, v_lpO, v_lpK_nx, v_lpK_ct, v_lpK_bk, v_lpK_rt, v_iteAnd, v_iteOr, v_iteAndB, v_iteOrB, v_dB, v_dTru, v_omap, v_obind, v_dInt, v_lenT, v_lenL, v_isN0, v_isNs, v_isNt, v_isNl, v_isNi, v_notN0, v_notNs, v_notNt, v_notNl, v_notNi, v_isiTT, v_isiTL, v_isiTN, v_isiTS, v_isiTI, v_isiLT, v_isiLL, v_add, v_sub, v_lt, v_le, v_gt, v_ge, v_eqI, v_neI, v_all, v_dBs0, v_dBsN, v_tupL, v_tupT, v_listL, v_listT, v_itemsL, v_itemsT, v_rng5, v_rng0, v_rng1, v_rng2, v_rng3, v_rng4, v_rng6, v_rng7, v_rng8, v_rng9, v_rng10, v_rng11, v_rng12, v_rng5l, v_enum5, v_ixT0, v_ixT1, v_ixT2, v_ixT3, v_ixT4, v_ext, v_extO, v_k_ext, v_olD, v_olV, v_ixO, v_ixOO, v_lenO, v_lenOO, v_neg, v_lwT, v_lwF, v_lwK_nx, v_lwK_ct, v_lwK_bk, v_lwK_rt, v_while, v_par3, v_k_par3b, v_k_par3c, v_aug, v_augO, v_k_aug, v_augN, v_addI, v_cat, v_k_cat, v_k_catb, v_catO, v_ownD, v_odD, v_inD, v_inDO, v_k_inD, v_getD, v_getDO, v_k_getD, v_putD, v_putDO, v_k_putD, v_k_putDb, v_res, v_resOk, v_resEx, v_resN, v_raise, List.map_cons, List.map_nil, List.cons_append, List.nil_append, List.length_cons, List.length_nil, List.getElem?_cons_zero, List.getElem?_cons_succ, List.set_cons_zero, List.set_cons_succ, List.replicate_succ, List.replicate_zero, Nat.reduceAdd, Nat.reduceSub, ↓reduceIte, Bool.not_true, Bool.not_false, Bool.false_eq_true, Nat.zero_add, reduceCtorEq, LIM, Int.cast_ofNat_Int, Int.reduceEq, Int.reduceLT, Int.reduceLE, decide_true, decide_false, Nat.reduceLeDiff, List.all_cons, List.all_nil, id_eq, Bool.and_self, Bool.and_true, Bool.true_and, Bool.false_and, Bool.and_false, Bool.true_or, Bool.or_true, Bool.false_or, Bool.or_false, Bool.or_self, Nat.reduceLT]
  refine loop_all (fun ρ => ∃ a2 a3 a4 a5 a6 a7 a8 a9 a10 : Sl, ρ = [.v dScr, .v dTown, a2, a3, a4, a5, a6, a7, a8, a9, a10]) ?_ ⟨_, _, _, _, _, _, _, _, _, rfl⟩ ?_
  · rintro d - ρ τ ⟨a2, a3, a4, a5, a6, a7, a8, a9, a10, rfl⟩
    refine ⟨_, rfl, ?_⟩
    obtain ⟨s, τ1, hs, h1⟩ := law_sign_ok ns τ
    obtain ⟨t, τ2, ht, h2⟩ := law_sign_ok ns τ1
    obtain ⟨i, τ3, h3⟩ := draw4 ns τ2
    obtain ⟨j, τ4, h4⟩ := draw4 ns τ3
    have hl := k1_loop s t
    have ho := @k1_oloop s hs
    unfold k1T at hl
    unfold k1OB k1O at ho
    simp only [v_k_ret, v_iteT, v_iteF, v_k_if, v_k_expr, v_k_asg, v_k_par, v_k_own, v_k_app, v_k_1, v_k_2b, v_k_2, v_k_consb, v_k_cons, v_k_tup, v_k_lst, v_k_asB, v_k_ofB, v_k_tru, v_k_and, v_k_or, v_k_not, v_k_bAnd, v_k_bOr, v_k_bNot, v_k_eIf, v_k_chb, v_k_ch, v_k_oSome, v_k_slc, v_k_slb, v_k_sl, v_k_call, v_k_iSeq, v_k_iRng, v_k_iEnum, v_k_iZipb, v_k_iZip, v_k_comp, v_k_compc, v_iteCT, v_iteCF, v_k_compb, v_k_for, v_bind_ok, v_bind_ex, v_opt, v_seq, v_seqK_nx, v_seqK_rt, v_seqK_bk, v_seqK_ct, v_next, v_brk, v_cont, v_ret, v_retN, v_if, v_expr, v_nxO, v_asg, v_asgN, v_asgT, v_asgs0, v_asgsN, v_par, v_setAll0, v_setAllN, v_own, v_app, v_appO, v_var, v_varO, v_C, v_1, v_2, v_nil, v_cons, v_tup, v_lst, v_F, v_asB, v_ofB, v_tru, v_and, v_or, v_andO, v_orO, v_not, v_bAnd, v_bOr, v_bNot, v_eIf, v_chain, v_chO, v_oNone, v_oSome, v_sl, v_call, v_iSeq, v_iRng, v_iEnum, v_iZip, v_yes, v_comp, v_comp0, v_compO, v_noex, v_noOwn0, v_noOwnV, v_noOwnN, v_noOwnL, v_wp0, v_wpN, v_fz0, v_fzN, v_fz1, v_fzO_ol, v_fzO_v, v_fzO_no, v_for, v_run, v_fin_nx, v_fin_rt, v_loop0, v_lpO, v_lpK_nx, v_lpK_ct, v_lpK_bk, v_lpK_rt, v_iteAnd, v_iteOr, v_iteAndB, v_iteOrB, v_dB, v_dTru, v_omap, v_obind, v_dInt, v_lenT, v_lenL, v_isN0, v_isNs, v_isNt, v_isNl, v_isNi, v_notN0, v_notNs, v_notNt, v_notNl, v_notNi, v_isiTT, v_isiTL, v_isiTN, v_isiTS, v_isiTI, v_isiLT, v_isiLL, v_add, v_sub, v_lt, v_le, v_gt, v_ge, v_eqI, v_neI, v_all, v_dBs0, v_dBsN, v_tupL, v_tupT, v_listL, v_listT, v_itemsL, v_itemsT, v_rng5, v_rng0, v_rng1, v_rng2, v_rng3, v_rng4, v_rng6, v_rng7, v_rng8, v_rng9, v_rng10, v_rng11, v_rng12, v_rng5l, v_enum5, v_ixT0, v_ixT1, v_ixT2, v_ixT3, v_ixT4, v_ext, v_extO, v_k_ext, v_olD, v_olV, v_ixO, v_ixOO, v_lenO, v_lenOO, v_neg, v_lwT, v_lwF, v_lwK_nx, v_lwK_ct, v_lwK_bk, v_lwK_rt, v_while, v_par3, v_k_par3b, v_k_par3c, v_aug, v_augO, v_k_aug, v_augN, v_addI, v_cat, v_k_cat, v_k_catb, v_catO, v_ownD, v_odD, v_inD, v_inDO, v_k_inD, v_getD, v_getDO, v_k_getD, v_putD, v_putDO, v_k_putD, v_k_putDb, v_res, v_resOk, v_resEx, v_resN, v_raise, List.map_cons, List.map_nil, List.cons_append, List.nil_append, List.length_cons, List.length_nil, List.getElem?_cons_zero, List.getElem?_cons_succ, List.set_cons_zero, List.set_cons_succ, List.replicate_succ, List.replicate_zero, Nat.reduceAdd, Nat.reduceSub, ↓reduceIte, Bool.not_true, Bool.not_false, Bool.false_eq_true, Nat.zero_add, reduceCtorEq, LIM, Int.cast_ofNat_Int, Int.reduceEq, Int.reduceLT, Int.reduceLE, decide_true, decide_false, Nat.reduceLeDiff, List.all_cons, List.all_nil, id_eq, Bool.and_self, Bool.and_true, Bool.true_and, Bool.false_and, Bool.and_false, Bool.true_or, Bool.or_true, Bool.false_or, Bool.or_false, Bool.or_self, Nat.reduceLT, v_noOwnA, M_law_draw, h1, h2, is_sign_ok, hs, k1_is, k1_list, k1_lst, hl, h3, h4, ix_abcd, ix_iolr, k1_sl4, k1_ht, can_rest_ok s i j hs, ho, k1_rest0, k1_dif0, k1_dif1 hs, k1_e1, k1_n1, k1_m1, k1_add, k1_addL]
    exact ⟨_, _, rfl, _, _, _, _, _, _, _, _, _, rfl⟩
  · rintro ρ τ -
    simp only [v_k_ret, v_iteT, v_iteF, v_k_if, v_k_expr, v_k_asg, v_k_par, v_k_own, v_k_app, v_k_1, v_k_2b, v_k_2, v_k_consb, v_k_cons, v_k_tup, v_k_lst, v_k_asB, v_k_ofB, v_k_tru, v_k_and, v_k_or, v_k_not, v_k_bAnd, v_k_bOr, v_k_bNot, v_k_eIf, v_k_chb, v_k_ch, v_k_oSome, v_k_slc, v_k_slb, v_k_sl, v_k_call, v_k_iSeq, v_k_iRng, v_k_iEnum, v_k_iZipb, v_k_iZip, v_k_comp, v_k_compc, v_iteCT, v_iteCF, v_k_compb, v_k_for, v_bind_ok, v_bind_ex, v_opt, v_seq, v_seqK_nx, v_seqK_rt, v_seqK_bk, v_seqK_ct, v_next, v_brk, v_cont, v_ret, v_retN, v_if, v_expr, v_nxO, v_asg, v_asgN, v_asgT, v_asgs0, v_asgsN, v_par, v_setAll0, v_setAllN, v_own, v_app, v_appO, v_var, v_varO, v_C, v_1, v_2, v_nil, v_cons, v_tup, v_lst, v_F, v_asB, v_ofB, v_tru, v_and, v_or, v_andO, v_orO, v_not, v_bAnd, v_bOr, v_bNot, v_eIf, v_chain, v_chO, v_oNone, v_oSome, v_sl, v_call, v_iSeq, v_iRng, v_iEnum, v_iZip, v_yes, v_comp, v_comp0, v_compO, v_noex, v_noOwn0, v_noOwnV, v_noOwnN, v_noOwnL, v_wp0, v_wpN, v_fz0, v_fzN, v_fz1, v_fzO_ol, v_fzO_v, v_fzO_no, v_for, v_run, v_fin_nx, v_fin_rt, v_loop0, v_lpO, v_lpK_nx, v_lpK_ct, v_lpK_bk, v_lpK_rt, v_iteAnd, v_iteOr, v_iteAndB, v_iteOrB, v_dB, v_dTru, v_omap, v_obind, v_dInt, v_lenT, v_lenL, v_isN0, v_isNs, v_isNt, v_isNl, v_isNi, v_notN0, v_notNs, v_notNt, v_notNl, v_notNi, v_isiTT, v_isiTL, v_isiTN, v_isiTS, v_isiTI, v_isiLT, v_isiLL, v_add, v_sub, v_lt, v_le, v_gt, v_ge, v_eqI, v_neI, v_all, v_dBs0, v_dBsN, v_tupL, v_tupT, v_listL, v_listT, v_itemsL, v_itemsT, v_rng5, v_rng0, v_rng1, v_rng2, v_rng3, v_rng4, v_rng6, v_rng7, v_rng8, v_rng9, v_rng10, v_rng11, v_rng12, v_rng5l, v_enum5, v_ixT0, v_ixT1, v_ixT2, v_ixT3, v_ixT4, v_ext, v_extO, v_k_ext, v_olD, v_olV, v_ixO, v_ixOO, v_lenO, v_lenOO, v_neg, v_lwT, v_lwF, v_lwK_nx, v_lwK_ct, v_lwK_bk, v_lwK_rt, v_while, v_par3, v_k_par3b, v_k_par3c, v_aug, v_augO, v_k_aug, v_augN, v_addI, v_cat, v_k_cat, v_k_catb, v_catO, v_ownD, v_odD, v_inD, v_inDO, v_k_inD, v_getD, v_getDO, v_k_getD, v_putD, v_putDO, v_k_putD, v_k_putDb, v_res, v_resOk, v_resEx, v_resN, v_raise, List.map_cons, List.map_nil, List.cons_append, List.nil_append, List.length_cons, List.length_nil, List.getElem?_cons_zero, List.getElem?_cons_succ, List.set_cons_zero, List.set_cons_succ, List.replicate_succ, List.replicate_zero, Nat.reduceAdd, Nat.reduceSub, ↓reduceIte, Bool.not_true, Bool.not_false, Bool.false_eq_true, Nat.zero_add, reduceCtorEq, LIM, Int.cast_ofNat_Int, Int.reduceEq, Int.reduceLT, Int.reduceLE, decide_true, decide_false, Nat.reduceLeDiff, List.all_cons, List.all_nil, id_eq, Bool.and_self, Bool.and_true, Bool.true_and, Bool.false_and, Bool.and_false, Bool.true_or, Bool.or_true, Bool.false_or, Bool.or_false, Bool.or_self, Nat.reduceLT, k1_count, k1_many, k1_odd]
    exact ⟨τ, rfl⟩
end SG

namespace SG
open PySem PySem.Spec PyProof.Rows L2
theorem all_mk {l : PySem.W.OpenLaw} {w : World} {K : PySem.W.Frag} {h : Heap} {mg : Str → Option Value} {fa : Addr} (KX : K.In h) (G : h.Ns mainGlobals mg) (hfa : mg (Str.ofString "law") = some (.ref fa)) (own : ∀ m ∈ [(Str.ofString "_law_odd"), (Str.ofString "law")], ∀ fb, mg m = some (.ref fb) → LamX.OwnTab K fb h) {f0 : Addr} {oc0 : Value} {od0 an0 : Option Addr} {osl0 : Array (Option Value)} {kV0 dc0 pm0 ct0 : Value} {cd0 : Value}
    (a0 : PySem.W.nsIn K mainGlobals (Str.ofString "is_between") = some (some (.ref f0)))
    (l0 : K.lookup f0 = some ⟨oc0, od0, .func (PySem.W.fnOf (Str.ofString "is_between") (Str.ofString "is_between") (defArgs s_is_between) (defBody s_is_between) (defScope s_is_between) .none kV0 dc0 pm0 an0 cd0 ct0), osl0⟩)
    (c0 : PySem.W.codeIn K cd0 (Str.ofString "is_between") = true)
    (k0 : PySem.W.keepIn K (.ref f0) = true)
    {f1 : Addr} {oc1 : Value} {od1 an1 : Option Addr} {osl1 : Array (Option Value)} {kV1 dc1 pm1 ct1 : Value} {cd1 : Value}
    (a1 : PySem.W.nsIn K mainGlobals (Str.ofString "is_letter") = some (some (.ref f1)))
    (l1 : K.lookup f1 = some ⟨oc1, od1, .func (PySem.W.fnOf (Str.ofString "is_letter") (Str.ofString "is_letter") (defArgs s_is_letter) (defBody s_is_letter) (defScope s_is_letter) .none kV1 dc1 pm1 an1 cd1 ct1), osl1⟩)
    (c1 : PySem.W.codeIn K cd1 (Str.ofString "is_letter") = true)
    (k1 : PySem.W.keepIn K (.ref f1) = true)
    {f2 : Addr} {oc2 : Value} {od2 an2 : Option Addr} {osl2 : Array (Option Value)} {kV2 dc2 pm2 ct2 : Value} {cd2 : Value}
    (a2 : PySem.W.nsIn K mainGlobals (Str.ofString "is_hand") = some (some (.ref f2)))
    (l2 : K.lookup f2 = some ⟨oc2, od2, .func (PySem.W.fnOf (Str.ofString "is_hand") (Str.ofString "is_hand") (defArgs s_is_hand) (defBody s_is_hand) (defScope s_is_hand) .none kV2 dc2 pm2 an2 cd2 ct2), osl2⟩)
    (c2 : PySem.W.codeIn K cd2 (Str.ofString "is_hand") = true)
    (k2 : PySem.W.keepIn K (.ref f2) = true)
    {f3 : Addr} {oc3 : Value} {od3 an3 : Option Addr} {osl3 : Array (Option Value)} {kV3 dc3 pm3 ct3 : Value} {cd3 : Value}
    (a3 : PySem.W.nsIn K mainGlobals (Str.ofString "is_entry") = some (some (.ref f3)))
    (l3 : K.lookup f3 = some ⟨oc3, od3, .func (PySem.W.fnOf (Str.ofString "is_entry") (Str.ofString "is_entry") (defArgs s_is_entry) (defBody s_is_entry) (defScope s_is_entry) .none kV3 dc3 pm3 an3 cd3 ct3), osl3⟩)
    (c3 : PySem.W.codeIn K cd3 (Str.ofString "is_entry") = true)
    (k3 : PySem.W.keepIn K (.ref f3) = true)
    {f4 : Addr} {oc4 : Value} {od4 an4 : Option Addr} {osl4 : Array (Option Value)} {kV4 dc4 pm4 ct4 : Value} {cd4 : Value}
    (a4 : PySem.W.nsIn K mainGlobals (Str.ofString "do_go_together") = some (some (.ref f4)))
    (l4 : K.lookup f4 = some ⟨oc4, od4, .func (PySem.W.fnOf (Str.ofString "do_go_together") (Str.ofString "do_go_together") (defArgs s_do_go_together) (defBody s_do_go_together) (defScope s_do_go_together) .none kV4 dc4 pm4 an4 cd4 ct4), osl4⟩)
    (c4 : PySem.W.codeIn K cd4 (Str.ofString "do_go_together") = true)
    (k4 : PySem.W.keepIn K (.ref f4) = true)
    {f5 : Addr} {oc5 : Value} {od5 an5 : Option Addr} {osl5 : Array (Option Value)} {kV5 dc5 pm5 ct5 : Value} {cd5 : Value}
    (a5 : PySem.W.nsIn K mainGlobals (Str.ofString "is_sign") = some (some (.ref f5)))
    (l5 : K.lookup f5 = some ⟨oc5, od5, .func (PySem.W.fnOf (Str.ofString "is_sign") (Str.ofString "is_sign") (defArgs s_is_sign) (defBody s_is_sign) (defScope s_is_sign) .none kV5 dc5 pm5 an5 cd5 ct5), osl5⟩)
    (c5 : PySem.W.codeIn K cd5 (Str.ofString "is_sign") = true)
    (k5 : PySem.W.keepIn K (.ref f5) = true)
    {f6 : Addr} {oc6 : Value} {od6 an6 : Option Addr} {osl6 : Array (Option Value)} {kV6 dc6 pm6 ct6 : Value} {cd6 : Value}
    (a6 : PySem.W.nsIn K mainGlobals (Str.ofString "check_sign") = some (some (.ref f6)))
    (l6 : K.lookup f6 = some ⟨oc6, od6, .func (PySem.W.fnOf (Str.ofString "check_sign") (Str.ofString "check_sign") (defArgs s_check_sign) (defBody s_check_sign) (defScope s_check_sign) .none kV6 dc6 pm6 an6 cd6 ct6), osl6⟩)
    (c6 : PySem.W.codeIn K cd6 (Str.ofString "check_sign") = true)
    (k6 : PySem.W.keepIn K (.ref f6) = true)
    {f7 : Addr} {oc7 : Value} {od7 an7 : Option Addr} {osl7 : Array (Option Value)} {kV7 dc7 pm7 ct7 : Value} {cd7 : Value}
    (a7 : PySem.W.nsIn K mainGlobals (Str.ofString "all_hands") = some (some (.ref f7)))
    (l7 : K.lookup f7 = some ⟨oc7, od7, .func (PySem.W.fnOf (Str.ofString "all_hands") (Str.ofString "all_hands") (defArgs s_all_hands) (defBody s_all_hands) (defScope s_all_hands) .none kV7 dc7 pm7 an7 cd7 ct7), osl7⟩)
    (c7 : PySem.W.codeIn K cd7 (Str.ofString "all_hands") = true)
    (k7 : PySem.W.keepIn K (.ref f7) = true)
    {f8 : Addr} {oc8 : Value} {od8 an8 : Option Addr} {osl8 : Array (Option Value)} {kV8 dc8 pm8 ct8 : Value} {cd8 : Value}
    (a8 : PySem.W.nsIn K mainGlobals (Str.ofString "entries") = some (some (.ref f8)))
    (l8 : K.lookup f8 = some ⟨oc8, od8, .func (PySem.W.fnOf (Str.ofString "entries") (Str.ofString "entries") (defArgs s_entries) (defBody s_entries) (defScope s_entries) .none kV8 dc8 pm8 an8 cd8 ct8), osl8⟩)
    (c8 : PySem.W.codeIn K cd8 (Str.ofString "entries") = true)
    (k8 : PySem.W.keepIn K (.ref f8) = true)
    {f9 : Addr} {oc9 : Value} {od9 an9 : Option Addr} {osl9 : Array (Option Value)} {kV9 dc9 pm9 ct9 : Value} {cd9 : Value}
    (a9 : PySem.W.nsIn K mainGlobals (Str.ofString "count_signs") = some (some (.ref f9)))
    (l9 : K.lookup f9 = some ⟨oc9, od9, .func (PySem.W.fnOf (Str.ofString "count_signs") (Str.ofString "count_signs") (defArgs s_count_signs) (defBody s_count_signs) (defScope s_count_signs) .none kV9 dc9 pm9 an9 cd9 ct9), osl9⟩)
    (c9 : PySem.W.codeIn K cd9 (Str.ofString "count_signs") = true)
    (k9 : PySem.W.keepIn K (.ref f9) = true)
    {f10 : Addr} {oc10 : Value} {od10 an10 : Option Addr} {osl10 : Array (Option Value)} {kV10 dc10 pm10 ct10 : Value} {cd10 : Value}
    (a10 : PySem.W.nsIn K mainGlobals (Str.ofString "can_hold") = some (some (.ref f10)))
    (l10 : K.lookup f10 = some ⟨oc10, od10, .func (PySem.W.fnOf (Str.ofString "can_hold") (Str.ofString "can_hold") (defArgs s_can_hold) (defBody s_can_hold) (defScope s_can_hold) .none kV10 dc10 pm10 an10 cd10 ct10), osl10⟩)
    (c10 : PySem.W.codeIn K cd10 (Str.ofString "can_hold") = true)
    (k10 : PySem.W.keepIn K (.ref f10) = true)
    {f11 : Addr} {oc11 : Value} {od11 an11 : Option Addr} {osl11 : Array (Option Value)} {kV11 dc11 pm11 ct11 : Value} {cd11 : Value}
    (a11 : PySem.W.nsIn K mainGlobals (Str.ofString "can_rest") = some (some (.ref f11)))
    (l11 : K.lookup f11 = some ⟨oc11, od11, .func (PySem.W.fnOf (Str.ofString "can_rest") (Str.ofString "can_rest") (defArgs s_can_rest) (defBody s_can_rest) (defScope s_can_rest) .none kV11 dc11 pm11 an11 cd11 ct11), osl11⟩)
    (c11 : PySem.W.codeIn K cd11 (Str.ofString "can_rest") = true)
    (k11 : PySem.W.keepIn K (.ref f11) = true)
    {f12 : Addr} {oc12 : Value} {od12 an12 : Option Addr} {osl12 : Array (Option Value)} {kV12 dc12 pm12 ct12 : Value} {cd12 : Value}
    (a12 : PySem.W.nsIn K mainGlobals (Str.ofString "check_two") = some (some (.ref f12)))
    (l12 : K.lookup f12 = some ⟨oc12, od12, .func (PySem.W.fnOf (Str.ofString "check_two") (Str.ofString "check_two") (defArgs s_check_two) (defBody s_check_two) (defScope s_check_two) .none kV12 dc12 pm12 an12 cd12 ct12), osl12⟩)
    (c12 : PySem.W.codeIn K cd12 (Str.ofString "check_two") = true)
    (k12 : PySem.W.keepIn K (.ref f12) = true)
    {f13 : Addr} {oc13 : Value} {od13 an13 : Option Addr} {osl13 : Array (Option Value)} {kV13 dc13 pm13 ct13 : Value} {cd13 : Value}
    (a13 : PySem.W.nsIn K mainGlobals (Str.ofString "unlike_in") = some (some (.ref f13)))
    (l13 : K.lookup f13 = some ⟨oc13, od13, .func (PySem.W.fnOf (Str.ofString "unlike_in") (Str.ofString "unlike_in") (defArgs s_unlike_in) (defBody s_unlike_in) (defScope s_unlike_in) .none kV13 dc13 pm13 an13 cd13 ct13), osl13⟩)
    (c13 : PySem.W.codeIn K cd13 (Str.ofString "unlike_in") = true)
    (k13 : PySem.W.keepIn K (.ref f13) = true)
    {f14 : Addr} {oc14 : Value} {od14 an14 : Option Addr} {osl14 : Array (Option Value)} {kV14 dc14 pm14 ct14 : Value} {cd14 : Value}
    (a14 : PySem.W.nsIn K mainGlobals (Str.ofString "differences") = some (some (.ref f14)))
    (l14 : K.lookup f14 = some ⟨oc14, od14, .func (PySem.W.fnOf (Str.ofString "differences") (Str.ofString "differences") (defArgs s_differences) (defBody s_differences) (defScope s_differences) .none kV14 dc14 pm14 an14 cd14 ct14), osl14⟩)
    (c14 : PySem.W.codeIn K cd14 (Str.ofString "differences") = true)
    (k14 : PySem.W.keepIn K (.ref f14) = true)
    {f15 : Addr} {oc15 : Value} {od15 an15 : Option Addr} {osl15 : Array (Option Value)} {kV15 dc15 pm15 ct15 : Value} {cd15 : Value}
    (a15 : PySem.W.nsIn K mainGlobals (Str.ofString "swapped") = some (some (.ref f15)))
    (l15 : K.lookup f15 = some ⟨oc15, od15, .func (PySem.W.fnOf (Str.ofString "swapped") (Str.ofString "swapped") (defArgs s_swapped) (defBody s_swapped) (defScope s_swapped) .none kV15 dc15 pm15 an15 cd15 ct15), osl15⟩)
    (c15 : PySem.W.codeIn K cd15 (Str.ofString "swapped") = true)
    (k15 : PySem.W.keepIn K (.ref f15) = true)
    {f16 : Addr} {oc16 : Value} {od16 an16 : Option Addr} {osl16 : Array (Option Value)} {kV16 dc16 pm16 ct16 : Value} {cd16 : Value}
    (a16 : PySem.W.nsIn K mainGlobals (Str.ofString "turned_over") = some (some (.ref f16)))
    (l16 : K.lookup f16 = some ⟨oc16, od16, .func (PySem.W.fnOf (Str.ofString "turned_over") (Str.ofString "turned_over") (defArgs s_turned_over) (defBody s_turned_over) (defScope s_turned_over) .none kV16 dc16 pm16 an16 cd16 ct16), osl16⟩)
    (c16 : PySem.W.codeIn K cd16 (Str.ofString "turned_over") = true)
    (k16 : PySem.W.keepIn K (.ref f16) = true)
    {f17 : Addr} {oc17 : Value} {od17 an17 : Option Addr} {osl17 : Array (Option Value)} {kV17 dc17 pm17 ct17 : Value} {cd17 : Value}
    (a17 : PySem.W.nsIn K mainGlobals (Str.ofString "mirrored") = some (some (.ref f17)))
    (l17 : K.lookup f17 = some ⟨oc17, od17, .func (PySem.W.fnOf (Str.ofString "mirrored") (Str.ofString "mirrored") (defArgs s_mirrored) (defBody s_mirrored) (defScope s_mirrored) .none kV17 dc17 pm17 an17 cd17 ct17), osl17⟩)
    (c17 : PySem.W.codeIn K cd17 (Str.ofString "mirrored") = true)
    (k17 : PySem.W.keepIn K (.ref f17) = true)
    {f18 : Addr} {oc18 : Value} {od18 an18 : Option Addr} {osl18 : Array (Option Value)} {kV18 dc18 pm18 ct18 : Value} {cd18 : Value}
    (a18 : PySem.W.nsIn K mainGlobals (Str.ofString "_law_result") = some (some (.ref f18)))
    (l18 : K.lookup f18 = some ⟨oc18, od18, .func (PySem.W.fnOf (Str.ofString "_law_result") (Str.ofString "_law_result") (defArgs s_law_result) (defBody s_law_result) (defScope s_law_result) .none kV18 dc18 pm18 an18 cd18 ct18), osl18⟩)
    (c18 : PySem.W.codeIn K cd18 (Str.ofString "_law_result") = true)
    (k18 : PySem.W.keepIn K (.ref f18) = true)
    {f19 : Addr} {oc19 : Value} {od19 an19 : Option Addr} {osl19 : Array (Option Value)} {kV19 dc19 pm19 ct19 : Value} {cd19 : Value}
    (a19 : PySem.W.nsIn K mainGlobals (Str.ofString "_law_is") = some (some (.ref f19)))
    (l19 : K.lookup f19 = some ⟨oc19, od19, .func (PySem.W.fnOf (Str.ofString "_law_is") (Str.ofString "_law_is") (defArgs s_law_is) (defBody s_law_is) (defScope s_law_is) .none kV19 dc19 pm19 an19 cd19 ct19), osl19⟩)
    (c19 : PySem.W.codeIn K cd19 (Str.ofString "_law_is") = true)
    (k19 : PySem.W.keepIn K (.ref f19) = true)
    {f20 : Addr} {oc20 : Value} {od20 an20 : Option Addr} {osl20 : Array (Option Value)} {kV20 dc20 pm20 ct20 : Value} {cd20 : Value}
    (a20 : PySem.W.nsIn K mainGlobals (Str.ofString "_law_draw") = some (some (.ref f20)))
    (l20 : K.lookup f20 = some ⟨oc20, od20, .func (PySem.W.fnOf (Str.ofString "_law_draw") (Str.ofString "_law_draw") (defArgs s_law_draw) (defBody s_law_draw) (defScope s_law_draw) .none kV20 dc20 pm20 an20 cd20 ct20), osl20⟩)
    (c20 : PySem.W.codeIn K cd20 (Str.ofString "_law_draw") = true)
    (k20 : PySem.W.keepIn K (.ref f20) = true)
    {f21 : Addr} {oc21 : Value} {od21 an21 : Option Addr} {osl21 : Array (Option Value)} {kV21 dc21 pm21 ct21 : Value} {cd21 : Value}
    (a21 : PySem.W.nsIn K mainGlobals (Str.ofString "_law_begun") = some (some (.ref f21)))
    (l21 : K.lookup f21 = some ⟨oc21, od21, .func (PySem.W.fnOf (Str.ofString "_law_begun") (Str.ofString "_law_begun") (defArgs s_law_begun) (defBody s_law_begun) (defScope s_law_begun) .none kV21 dc21 pm21 an21 cd21 ct21), osl21⟩)
    (c21 : PySem.W.codeIn K cd21 (Str.ofString "_law_begun") = true)
    (k21 : PySem.W.keepIn K (.ref f21) = true)
    {f22 : Addr} {oc22 : Value} {od22 an22 : Option Addr} {osl22 : Array (Option Value)} {kV22 dc22 pm22 ct22 : Value} {cd22 : Value}
    (a22 : PySem.W.nsIn K mainGlobals (Str.ofString "_law_sign") = some (some (.ref f22)))
    (l22 : K.lookup f22 = some ⟨oc22, od22, .func (PySem.W.fnOf (Str.ofString "_law_sign") (Str.ofString "_law_sign") (defArgs s_law_sign) (defBody s_law_sign) (defScope s_law_sign) .none kV22 dc22 pm22 an22 cd22 ct22), osl22⟩)
    (c22 : PySem.W.codeIn K cd22 (Str.ofString "_law_sign") = true)
    (k22 : PySem.W.keepIn K (.ref f22) = true)
    {f23 : Addr} {oc23 : Value} {od23 an23 : Option Addr} {osl23 : Array (Option Value)} {kV23 dc23 pm23 ct23 : Value} {cd23 : Value}
    (a23 : PySem.W.nsIn K mainGlobals (Str.ofString "_law_good") = some (some (.ref f23)))
    (l23 : K.lookup f23 = some ⟨oc23, od23, .func (PySem.W.fnOf (Str.ofString "_law_good") (Str.ofString "_law_good") (defArgs s_law_good) (defBody s_law_good) (defScope s_law_good) .none kV23 dc23 pm23 an23 cd23 ct23), osl23⟩)
    (c23 : PySem.W.codeIn K cd23 (Str.ofString "_law_good") = true)
    (k23 : PySem.W.keepIn K (.ref f23) = true)
    {f24 : Addr} {oc24 : Value} {od24 an24 : Option Addr} {osl24 : Array (Option Value)} {kV24 dc24 pm24 ct24 : Value} {cA_law_odd : Addr}
    (a24 : PySem.W.nsIn K mainGlobals (Str.ofString "_law_odd") = some (some (.ref f24)))
    (l24 : K.lookup f24 = some ⟨oc24, od24, .func (PySem.W.fnOf (Str.ofString "_law_odd") (Str.ofString "_law_odd") (defArgs s_law_odd) (defBody s_law_odd) (defScope s_law_odd) .none kV24 dc24 pm24 an24 (.ref cA_law_odd) ct24), osl24⟩)
    (c24 : PySem.W.codeIn K (.ref cA_law_odd) (Str.ofString "_law_odd") = true)
    (k24 : PySem.W.keepIn K (.ref f24) = true)
    {f25 : Addr} {oc25 : Value} {od25 an25 : Option Addr} {osl25 : Array (Option Value)} {kV25 dc25 pm25 ct25 : Value} {cd25 : Value}
    (a25 : PySem.W.nsIn K mainGlobals (Str.ofString "_law_many") = some (some (.ref f25)))
    (l25 : K.lookup f25 = some ⟨oc25, od25, .func (PySem.W.fnOf (Str.ofString "_law_many") (Str.ofString "_law_many") (defArgs s_law_many) (defBody s_law_many) (defScope s_law_many) .none kV25 dc25 pm25 an25 cd25 ct25), osl25⟩)
    (c25 : PySem.W.codeIn K cd25 (Str.ofString "_law_many") = true)
    (k25 : PySem.W.keepIn K (.ref f25) = true)
    {f26 : Addr} {oc26 : Value} {od26 an26 : Option Addr} {osl26 : Array (Option Value)} {kV26 dc26 pm26 ct26 : Value} {cA_law : Addr}
    (a26 : PySem.W.nsIn K mainGlobals (Str.ofString "law") = some (some (.ref f26)))
    (l26 : K.lookup f26 = some ⟨oc26, od26, .func (PySem.W.fnOf (Str.ofString "law") (Str.ofString "law") (defArgs s_law) (defBody s_law) (defScope s_law) .none kV26 dc26 pm26 an26 (.ref cA_law) ct26), osl26⟩)
    (c26 : PySem.W.codeIn K (.ref cA_law) (Str.ofString "law") = true)
    (k26 : PySem.W.keepIn K (.ref f26) = true)
    {PA_law_odd : Addr} {cdd_law_odd : Option Addr} {cvs_law_odd : Array Value} {csl_law_odd : Array (Option Value)} {cfi_law_odd : Str} {ctf_law_odd ctg_law_odd ctt_law_odd : Tok} {cfl_law_odd ctx_law_odd : Int} {cin_law_odd : Bool}
    (kc_law_odd : K.lookup cA_law_odd = some ⟨.type "code", cdd_law_odd, .fields cvs_law_odd, csl_law_odd⟩)
    (k11_law_odd : cvs_law_odd[11]? = some (.ref PA_law_odd))
    (kp_law_odd : K.lookup PA_law_odd = none)
    (k18_law_odd : cvs_law_odd.getD 18 .none = .str cfi_law_odd ctf_law_odd)
    (k7_law_odd : cvs_law_odd.getD 7 .none = .int cfl_law_odd ctg_law_odd)
    (k9_law_odd : cvs_law_odd.getD 9 .none = .bool cin_law_odd)
    (k10_law_odd : cvs_law_odd.getD 10 .none = .int ctx_law_odd ctt_law_odd)
    {PA_law : Addr} {cdd_law : Option Addr} {cvs_law : Array Value} {csl_law : Array (Option Value)} {cfi_law : Str} {ctf_law ctg_law ctt_law : Tok} {cfl_law ctx_law : Int} {cin_law : Bool}
    (kc_law : K.lookup cA_law = some ⟨.type "code", cdd_law, .fields cvs_law, csl_law⟩)
    (k11_law : cvs_law[11]? = some (.ref PA_law))
    (kp_law : K.lookup PA_law = none)
    (k18_law : cvs_law.getD 18 .none = .str cfi_law ctf_law)
    (k7_law : cvs_law.getD 7 .none = .int cfl_law ctg_law)
    (k9_law : cvs_law.getD 9 .none = .bool cin_law)
    (k10_law : cvs_law.getD 10 .none = .int ctx_law ctt_law)
    (pn_law_odd_law : PA_law_odd ≠ PA_law)
    {cA_HandError : Addr}
    (q_HandError : PySem.W.nsIn K mainGlobals (Str.ofString "HandError") = some (some (.ref cA_HandError)))
    {cA_InvalidSign : Addr}
    (q_InvalidSign : PySem.W.nsIn K mainGlobals (Str.ofString "InvalidSign") = some (some (.ref cA_InvalidSign)))
    {cA_InvalidHand : Addr}
    (q_InvalidHand : PySem.W.nsIn K mainGlobals (Str.ofString "InvalidHand") = some (some (.ref cA_InvalidHand)))
    {cA_InvalidSigns : Addr}
    (q_InvalidSigns : PySem.W.nsIn K mainGlobals (Str.ofString "InvalidSigns") = some (some (.ref cA_InvalidSigns)))
    {cA_InvalidRow : Addr}
    (q_InvalidRow : PySem.W.nsIn K mainGlobals (Str.ofString "InvalidRow") = some (some (.ref cA_InvalidRow)))
    {cA_InvalidStyle : Addr}
    (q_InvalidStyle : PySem.W.nsIn K mainGlobals (Str.ofString "InvalidStyle") = some (some (.ref cA_InvalidStyle)))
    {cA_InvalidView : Addr}
    (q_InvalidView : PySem.W.nsIn K mainGlobals (Str.ofString "InvalidView") = some (some (.ref cA_InvalidView)))
    {cA_InvalidGlances : Addr}
    (q_InvalidGlances : PySem.W.nsIn K mainGlobals (Str.ofString "InvalidGlances") = some (some (.ref cA_InvalidGlances)))
    {cA_InvalidPlace : Addr}
    (q_InvalidPlace : PySem.W.nsIn K mainGlobals (Str.ofString "InvalidPlace") = some (some (.ref cA_InvalidPlace)))
    {cA_InvalidNumber : Addr}
    (q_InvalidNumber : PySem.W.nsIn K mainGlobals (Str.ofString "InvalidNumber") = some (some (.ref cA_InvalidNumber)))
    {cA_InvalidText : Addr}
    (q_InvalidText : PySem.W.nsIn K mainGlobals (Str.ofString "InvalidText") = some (some (.ref cA_InvalidText)))
    {cA_TooLong : Addr}
    (q_TooLong : PySem.W.nsIn K mainGlobals (Str.ofString "TooLong") = some (some (.ref cA_TooLong)))
    {cA_NothingToUndo : Addr}
    (q_NothingToUndo : PySem.W.nsIn K mainGlobals (Str.ofString "NothingToUndo") = some (some (.ref cA_NothingToUndo)))
    (x1_InvalidSign : PySem.W.excIn K cA_InvalidSign mroV "ValueError.__new__" = true)
    (x2_InvalidSign : PySem.W.keepIn K (.ref cA_InvalidSign) = true)
    (x3_InvalidSign : PySem.W.subIn K (.ref cA_InvalidSign) (.type "BaseException") = some true)
    (x4_InvalidSign : PySem.W.typeIn K (.ref cA_InvalidSign) = some (.type "type"))
    (e0_InvalidSign : PySem.W.exmOne K (.ref cA_InvalidSign) (.ref cA_HandError) = some true)
    (e1_InvalidSign : PySem.W.findIn K (.ref cA_InvalidSign) "__getattribute__" = some (some (.builtin "BaseException.__getattribute__")))
    (e2_InvalidSign : PySem.W.findIn K (.ref cA_InvalidSign) "__getattr__" = some none)
    (e4_InvalidSign : PySem.W.hasDictIn K cA_InvalidSign = true)
    (e5_InvalidSign : PySem.W.findIn K (.ref cA_InvalidSign) "__class__" = some (some (.builtin "object.__class__")))
    (e8_InvalidSign : PySem.W.mroIn K cA_InvalidSign (.type "object") = some true)
    (ev_InvalidSign : PySem.W.kitOne K (.ref cA_InvalidSign) (.type "ValueError") = some true)
    (kt_InvalidSign_0 : PySem.W.kitOne K (.ref cA_InvalidSign) (.ref cA_InvalidSign) = some true)
    (kt_InvalidSign_1 : PySem.W.kitOne K (.ref cA_InvalidSign) (.ref cA_InvalidHand) = some false)
    (kt_InvalidSign_2 : PySem.W.kitOne K (.ref cA_InvalidSign) (.ref cA_InvalidSigns) = some false)
    (kt_InvalidSign_3 : PySem.W.kitOne K (.ref cA_InvalidSign) (.ref cA_InvalidRow) = some false)
    (kt_InvalidSign_4 : PySem.W.kitOne K (.ref cA_InvalidSign) (.ref cA_InvalidStyle) = some false)
    (kt_InvalidSign_5 : PySem.W.kitOne K (.ref cA_InvalidSign) (.ref cA_InvalidView) = some false)
    (kt_InvalidSign_6 : PySem.W.kitOne K (.ref cA_InvalidSign) (.ref cA_InvalidGlances) = some false)
    (kt_InvalidSign_7 : PySem.W.kitOne K (.ref cA_InvalidSign) (.ref cA_InvalidPlace) = some false)
    (kt_InvalidSign_8 : PySem.W.kitOne K (.ref cA_InvalidSign) (.ref cA_InvalidNumber) = some false)
    (kt_InvalidSign_9 : PySem.W.kitOne K (.ref cA_InvalidSign) (.ref cA_InvalidText) = some false)
    (kt_InvalidSign_10 : PySem.W.kitOne K (.ref cA_InvalidSign) (.ref cA_TooLong) = some false)
    (kt_InvalidSign_11 : PySem.W.kitOne K (.ref cA_InvalidSign) (.ref cA_NothingToUndo) = some false)
    (x1_InvalidHand : PySem.W.excIn K cA_InvalidHand mroV "ValueError.__new__" = true)
    (x2_InvalidHand : PySem.W.keepIn K (.ref cA_InvalidHand) = true)
    (x3_InvalidHand : PySem.W.subIn K (.ref cA_InvalidHand) (.type "BaseException") = some true)
    (x4_InvalidHand : PySem.W.typeIn K (.ref cA_InvalidHand) = some (.type "type"))
    (e0_InvalidHand : PySem.W.exmOne K (.ref cA_InvalidHand) (.ref cA_HandError) = some true)
    (e1_InvalidHand : PySem.W.findIn K (.ref cA_InvalidHand) "__getattribute__" = some (some (.builtin "BaseException.__getattribute__")))
    (e2_InvalidHand : PySem.W.findIn K (.ref cA_InvalidHand) "__getattr__" = some none)
    (e4_InvalidHand : PySem.W.hasDictIn K cA_InvalidHand = true)
    (e5_InvalidHand : PySem.W.findIn K (.ref cA_InvalidHand) "__class__" = some (some (.builtin "object.__class__")))
    (e8_InvalidHand : PySem.W.mroIn K cA_InvalidHand (.type "object") = some true)
    (ev_InvalidHand : PySem.W.kitOne K (.ref cA_InvalidHand) (.type "ValueError") = some true)
    (kt_InvalidHand_0 : PySem.W.kitOne K (.ref cA_InvalidHand) (.ref cA_InvalidSign) = some false)
    (kt_InvalidHand_1 : PySem.W.kitOne K (.ref cA_InvalidHand) (.ref cA_InvalidHand) = some true)
    (kt_InvalidHand_2 : PySem.W.kitOne K (.ref cA_InvalidHand) (.ref cA_InvalidSigns) = some false)
    (kt_InvalidHand_3 : PySem.W.kitOne K (.ref cA_InvalidHand) (.ref cA_InvalidRow) = some false)
    (kt_InvalidHand_4 : PySem.W.kitOne K (.ref cA_InvalidHand) (.ref cA_InvalidStyle) = some false)
    (kt_InvalidHand_5 : PySem.W.kitOne K (.ref cA_InvalidHand) (.ref cA_InvalidView) = some false)
    (kt_InvalidHand_6 : PySem.W.kitOne K (.ref cA_InvalidHand) (.ref cA_InvalidGlances) = some false)
    (kt_InvalidHand_7 : PySem.W.kitOne K (.ref cA_InvalidHand) (.ref cA_InvalidPlace) = some false)
    (kt_InvalidHand_8 : PySem.W.kitOne K (.ref cA_InvalidHand) (.ref cA_InvalidNumber) = some false)
    (kt_InvalidHand_9 : PySem.W.kitOne K (.ref cA_InvalidHand) (.ref cA_InvalidText) = some false)
    (kt_InvalidHand_10 : PySem.W.kitOne K (.ref cA_InvalidHand) (.ref cA_TooLong) = some false)
    (kt_InvalidHand_11 : PySem.W.kitOne K (.ref cA_InvalidHand) (.ref cA_NothingToUndo) = some false)
    (e6 : PySem.W.specialIn K (.builtin "object.__class__") "__get__" = some (some (.builtin "getset_descriptor.__get__")))
    (e7 : PySem.W.takesIn K (.builtin "object.__class__") = some true)
    (z_ValueError : PySem.W.nsIn K mainGlobals (Str.ofString "ValueError") = some none)
    (z_all : PySem.W.nsIn K mainGlobals (Str.ofString "all") = some none)
    (z_bool : PySem.W.nsIn K mainGlobals (Str.ofString "bool") = some none)
    (z_enumerate : PySem.W.nsIn K mainGlobals (Str.ofString "enumerate") = some none)
    (z_int : PySem.W.nsIn K mainGlobals (Str.ofString "int") = some none)
    (z_isinstance : PySem.W.nsIn K mainGlobals (Str.ofString "isinstance") = some none)
    (z_len : PySem.W.nsIn K mainGlobals (Str.ofString "len") = some none)
    (z_list : PySem.W.nsIn K mainGlobals (Str.ofString "list") = some none)
    (z_range : PySem.W.nsIn K mainGlobals (Str.ofString "range") = some none)
    (z_str : PySem.W.nsIn K mainGlobals (Str.ofString "str") = some none)
    (z_tuple : PySem.W.nsIn K mainGlobals (Str.ofString "tuple") = some none)
    {tk_MOVES : Tok}
    (y_MOVES : PySem.W.nsIn K mainGlobals (Str.ofString "MOVES") = some (some (.str (Str.ofString "nuwlr") tk_MOVES)))
    {tk_PLACES : Tok}
    (y_PLACES : PySem.W.nsIn K mainGlobals (Str.ofString "PLACES") = some (some (.int 3 tk_PLACES)))
    {tk_SHAPES : Tok}
    (y_SHAPES : PySem.W.nsIn K mainGlobals (Str.ofString "SHAPES") = some (some (.str (Str.ofString "abcd") tk_SHAPES)))
    {tk_SIMPLE : Tok}
    (y_SIMPLE : PySem.W.nsIn K mainGlobals (Str.ofString "SIMPLE") = some (some (.str (Str.ofString "ab") tk_SIMPLE)))
    {tk_TURNS : Tok}
    (y_TURNS : PySem.W.nsIn K mainGlobals (Str.ofString "TURNS") = some (some (.str (Str.ofString "iolr") tk_TURNS))) :
    LamX.LawAtS l w K (L2.CX l.prog w) 10 63 (Str.ofString "script") mg fa h := by
  have e1 := ref_in KX G a26
  rw [e1] at hfa
  cases hfa
  have hErr : ∀ p ∈ errL, ∃ C, mg p.1 = some (.ref C) ∧ ErrK K (.ref cA_HandError) [.ref cA_InvalidSign, .ref cA_InvalidHand, .ref cA_InvalidSigns, .ref cA_InvalidRow, .ref cA_InvalidStyle, .ref cA_InvalidView, .ref cA_InvalidGlances, .ref cA_InvalidPlace, .ref cA_InvalidNumber, .ref cA_InvalidText, .ref cA_TooLong, .ref cA_NothingToUndo] C p.2 := by
    intro p hp
    simp only [errL, List.mem_cons, List.not_mem_nil, or_false] at hp
    rcases hp with rfl | rfl
    · exact ⟨_, ref_in KX G q_InvalidSign, ⟨e0_InvalidSign, ⟨e1_InvalidSign, e2_InvalidSign, x3_InvalidSign, e4_InvalidSign, e5_InvalidSign, e6, e7, e8_InvalidSign⟩, ev_InvalidSign, rfl, [true, false, false, false, false, false, false, false, false, false, false, false], rfl, by
        intro p hp
        simp only [List.zip_cons_cons, List.zip_nil_right, List.mem_cons, List.not_mem_nil, or_false] at hp
        rcases hp with rfl | rfl | rfl | rfl | rfl | rfl | rfl | rfl | rfl | rfl | rfl | rfl
        · exact kt_InvalidSign_0
        · exact kt_InvalidSign_1
        · exact kt_InvalidSign_2
        · exact kt_InvalidSign_3
        · exact kt_InvalidSign_4
        · exact kt_InvalidSign_5
        · exact kt_InvalidSign_6
        · exact kt_InvalidSign_7
        · exact kt_InvalidSign_8
        · exact kt_InvalidSign_9
        · exact kt_InvalidSign_10
        · exact kt_InvalidSign_11, rfl⟩⟩
    · exact ⟨_, ref_in KX G q_InvalidHand, ⟨e0_InvalidHand, ⟨e1_InvalidHand, e2_InvalidHand, x3_InvalidHand, e4_InvalidHand, e5_InvalidHand, e6, e7, e8_InvalidHand⟩, ev_InvalidHand, rfl, [false, true, false, false, false, false, false, false, false, false, false, false], rfl, by
        intro p hp
        simp only [List.zip_cons_cons, List.zip_nil_right, List.mem_cons, List.not_mem_nil, or_false] at hp
        rcases hp with rfl | rfl | rfl | rfl | rfl | rfl | rfl | rfl | rfl | rfl | rfl | rfl
        · exact kt_InvalidHand_0
        · exact kt_InvalidHand_1
        · exact kt_InvalidHand_2
        · exact kt_InvalidHand_3
        · exact kt_InvalidHand_4
        · exact kt_InvalidHand_5
        · exact kt_InvalidHand_6
        · exact kt_InvalidHand_7
        · exact kt_InvalidHand_8
        · exact kt_InvalidHand_9
        · exact kt_InvalidHand_10
        · exact kt_InvalidHand_11, rfl⟩⟩
  refine ⟨PySem.W.fnOf (Str.ofString "law") (Str.ofString "law") (defArgs s_law) (defBody s_law) (defScope s_law) .none kV26 dc26 pm26 an26 (.ref cA_law) ct26, [(cA_law_odd, PA_law_odd), (cA_law, PA_law)], spLaw K (tabT PA_law_odd PA_law), ?_, ?_, ?_, fun s u => .of_eq rfl, fun H a ns hl _ hH hS => ⟨a, ns, rfl, hS, ?_, hl, fun _ => rfl⟩, fun base KB GB TB => t_law (P := l.prog) (w := w) ⟨TB (cA_law_odd, PA_law_odd) (.head _), TB (cA_law, PA_law) (.tail _ (.head _)), pn_law_odd_law, ⟨_, ref_in KX G q_InvalidSign, ⟨x1_InvalidSign, x2_InvalidSign, x3_InvalidSign, x4_InvalidSign⟩⟩, ⟨_, ref_in KX G q_InvalidHand, ⟨x1_InvalidHand, x2_InvalidHand, x3_InvalidHand, x4_InvalidHand⟩⟩, ⟨cA_HandError, cA_InvalidSign, cA_InvalidHand, cA_InvalidSigns, cA_InvalidRow, cA_InvalidStyle, cA_InvalidView, cA_InvalidGlances, cA_InvalidPlace, cA_InvalidNumber, cA_InvalidText, cA_TooLong, cA_NothingToUndo, ref_in KX G q_HandError, ref_in KX G q_InvalidSign, ref_in KX G q_InvalidHand, ref_in KX G q_InvalidSigns, ref_in KX G q_InvalidRow, ref_in KX G q_InvalidStyle, ref_in KX G q_InvalidView, ref_in KX G q_InvalidGlances, ref_in KX G q_InvalidPlace, ref_in KX G q_InvalidNumber, ref_in KX G q_InvalidText, ref_in KX G q_TooLong, ref_in KX G q_NothingToUndo, hErr⟩, no_in KX G z_ValueError, fun_in KX G a0 l0 c0 k0, fun_in KX G a1 l1 c1 k1, fun_in KX G a2 l2 c2 k2, fun_in KX G a3 l3 c3 k3, fun_in KX G a4 l4 c4 k4, fun_in KX G a5 l5 c5 k5, fun_in KX G a6 l6 c6 k6, fun_in KX G a7 l7 c7 k7, fun_in KX G a8 l8 c8 k8, fun_in KX G a9 l9 c9 k9, fun_in KX G a10 l10 c10 k10, fun_in KX G a11 l11 c11 k11, fun_in KX G a12 l12 c12 k12, fun_in KX G a13 l13 c13 k13, fun_in KX G a14 l14 c14 k14, fun_in KX G a15 l15 c15 k15, fun_in KX G a16 l16 c16 k16, fun_in KX G a17 l17 c17 k17, fun_in KX G a18 l18 c18 k18, fun_in KX G a19 l19 c19 k19, fun_in KX G a20 l20 c20 k20, fun_in KX G a21 l21 c21 k21, fun_in KX G a22 l22 c22 k22, fun_in KX G a23 l23 c23 k23, ⟨_, _, ref_in KX G a24, func_in l24 c24 k24⟩, fun_in KX G a25 l25 c25 k25, ⟨_, _, ref_in KX G a26, func_in l26 c26 k26⟩, no_in KX G z_all, no_in KX G z_bool, no_in KX G z_enumerate, no_in KX G z_int, no_in KX G z_isinstance, no_in KX G z_len, no_in KX G z_list, no_in KX G z_range, no_in KX G z_str, no_in KX G z_tuple, str_in KX G y_MOVES, int_in KX G y_PLACES, str_in KX G y_SHAPES, str_in KX G y_SIMPLE, str_in KX G y_TURNS⟩ pure_law (func_in l26 c26 k26)⟩
  · intro p hp
    simp only [List.mem_cons, List.not_mem_nil, or_false] at hp
    rcases hp with rfl | rfl
    · exact tab_empty (mg := mg) (func_in l24 c24 k24) (own _ (by simp) _ (ref_in KX G a24)) kc_law_odd k11_law_odd
    · exact tab_empty (mg := mg) (func_in l26 c26 k26) (own _ (by simp) _ (ref_in KX G a26)) kc_law k11_law
  · intro p hp
    simp only [List.mem_cons, List.not_mem_nil, or_false] at hp
    rcases hp with rfl | rfl
    · exact kp_law_odd
    · exact kp_law
  · intro p hp
    simp only [List.mem_cons, List.not_mem_nil, or_false] at hp
    rcases hp with rfl | rfl
    · exact codeHd_in KX kc_law_odd k11_law_odd kp_law_odd k18_law_odd k7_law_odd k9_law_odd k10_law_odd
    · exact codeHd_in KX kc_law k11_law kp_law k18_law k7_law k9_law k10_law
  · intro p hp
    simp only [tabT, List.mem_cons, List.not_mem_nil, or_false] at hp
    rcases hp with rfl | rfl
    · exact hH (cA_law_odd, PA_law_odd) (by simp)
    · exact hH (cA_law, PA_law) (by simp)
end SG
open PySem PySem.W PyProof.Rows
theorem PySem.Challenge.cw_signscribes_k01_not_signs_holds : PySem.Challenge.rw_signscribes_k01_not_signs.Holds := by
  w_on; o_law; k_head; (case hw => w_witness2)
  k_fill
  refine SG.walk_tabs (l := PySem.Challenge.rw_signscribes_k01_not_signs) (n := 63) (k := 10) (x := "script") (CX := fun w => L2.CX PySem.Challenge.rw_signscribes_k01_not_signs.prog w) [(Str.ofString "_law_odd"), (Str.ofString "law")] rfl (by decide) rfl ⟨rfl, by decide, by decide⟩ ?rec (fun w h Y => by first | exact PySem.W.km_in_of Y | exact PySem.W.kIn_of Y) ?F (fun _ _ _ _ _ h => SG.noCX h)
  case rec =>
    intro m hm
    simp only [List.mem_cons, List.not_mem_nil, or_false] at hm
    rcases hm with rfl | rfl <;> rfl
  case F =>
    intro w mg fa h KX G hmg own
    refine' SG.all_mk KX G hmg own ?a0 ?l0 ?c0 ?k0 ?a1 ?l1 ?c1 ?k1 ?a2 ?l2 ?c2 ?k2 ?a3 ?l3 ?c3 ?k3 ?a4 ?l4 ?c4 ?k4 ?a5 ?l5 ?c5 ?k5 ?a6 ?l6 ?c6 ?k6 ?a7 ?l7 ?c7 ?k7 ?a8 ?l8 ?c8 ?k8 ?a9 ?l9 ?c9 ?k9 ?a10 ?l10 ?c10 ?k10 ?a11 ?l11 ?c11 ?k11 ?a12 ?l12 ?c12 ?k12 ?a13 ?l13 ?c13 ?k13 ?a14 ?l14 ?c14 ?k14 ?a15 ?l15 ?c15 ?k15 ?a16 ?l16 ?c16 ?k16 ?a17 ?l17 ?c17 ?k17 ?a18 ?l18 ?c18 ?k18 ?a19 ?l19 ?c19 ?k19 ?a20 ?l20 ?c20 ?k20 ?a21 ?l21 ?c21 ?k21 ?a22 ?l22 ?c22 ?k22 ?a23 ?l23 ?c23 ?k23 ?a24 ?l24 ?c24 ?k24 ?a25 ?l25 ?c25 ?k25 ?a26 ?l26 ?c26 ?k26 ?kc_law_odd ?k11_law_odd ?kp_law_odd ?k18_law_odd ?k7_law_odd ?k9_law_odd ?k10_law_odd ?kc_law ?k11_law ?kp_law ?k18_law ?k7_law ?k9_law ?k10_law ?pn_law_odd_law ?q_HandError ?q_InvalidSign ?q_InvalidHand ?q_InvalidSigns ?q_InvalidRow ?q_InvalidStyle ?q_InvalidView ?q_InvalidGlances ?q_InvalidPlace ?q_InvalidNumber ?q_InvalidText ?q_TooLong ?q_NothingToUndo ?x1_InvalidSign ?x2_InvalidSign ?x3_InvalidSign ?x4_InvalidSign ?e0_InvalidSign ?e1_InvalidSign ?e2_InvalidSign ?e4_InvalidSign ?e5_InvalidSign ?e8_InvalidSign ?ev_InvalidSign ?kt_InvalidSign_0 ?kt_InvalidSign_1 ?kt_InvalidSign_2 ?kt_InvalidSign_3 ?kt_InvalidSign_4 ?kt_InvalidSign_5 ?kt_InvalidSign_6 ?kt_InvalidSign_7 ?kt_InvalidSign_8 ?kt_InvalidSign_9 ?kt_InvalidSign_10 ?kt_InvalidSign_11 ?x1_InvalidHand ?x2_InvalidHand ?x3_InvalidHand ?x4_InvalidHand ?e0_InvalidHand ?e1_InvalidHand ?e2_InvalidHand ?e4_InvalidHand ?e5_InvalidHand ?e8_InvalidHand ?ev_InvalidHand ?kt_InvalidHand_0 ?kt_InvalidHand_1 ?kt_InvalidHand_2 ?kt_InvalidHand_3 ?kt_InvalidHand_4 ?kt_InvalidHand_5 ?kt_InvalidHand_6 ?kt_InvalidHand_7 ?kt_InvalidHand_8 ?kt_InvalidHand_9 ?kt_InvalidHand_10 ?kt_InvalidHand_11 ?e6 ?e7 ?z_ValueError ?z_all ?z_bool ?z_enumerate ?z_int ?z_isinstance ?z_len ?z_list ?z_range ?z_str ?z_tuple ?y_MOVES ?y_PLACES ?y_SHAPES ?y_SIMPLE ?y_TURNS
    (case a0 => k_is); (case l0 => k_is); (case c0 => k_is); (case k0 => k_is); (case a1 => k_is); (case l1 => k_is); (case c1 => k_is); (case k1 => k_is); (case a2 => k_is); (case l2 => k_is); (case c2 => k_is); (case k2 => k_is); (case a3 => k_is); (case l3 => k_is); (case c3 => k_is); (case k3 => k_is); (case a4 => k_is); (case l4 => k_is); (case c4 => k_is); (case k4 => k_is); (case a5 => k_is); (case l5 => k_is); (case c5 => k_is); (case k5 => k_is); (case a6 => k_is); (case l6 => k_is); (case c6 => k_is); (case k6 => k_is); (case a7 => k_is); (case l7 => k_is); (case c7 => k_is); (case k7 => k_is); (case a8 => k_is); (case l8 => k_is); (case c8 => k_is); (case k8 => k_is); (case a9 => k_is); (case l9 => k_is); (case c9 => k_is); (case k9 => k_is); (case a10 => k_is); (case l10 => k_is); (case c10 => k_is); (case k10 => k_is); (case a11 => k_is); (case l11 => k_is); (case c11 => k_is); (case k11 => k_is); (case a12 => k_is); (case l12 => k_is); (case c12 => k_is); (case k12 => k_is); (case a13 => k_is); (case l13 => k_is); (case c13 => k_is); (case k13 => k_is); (case a14 => k_is); (case l14 => k_is); (case c14 => k_is); (case k14 => k_is); (case a15 => k_is); (case l15 => k_is); (case c15 => k_is); (case k15 => k_is); (case a16 => k_is); (case l16 => k_is); (case c16 => k_is); (case k16 => k_is); (case a17 => k_is); (case l17 => k_is); (case c17 => k_is); (case k17 => k_is); (case a18 => k_is); (case l18 => k_is); (case c18 => k_is); (case k18 => k_is); (case a19 => k_is); (case l19 => k_is); (case c19 => k_is); (case k19 => k_is); (case a20 => k_is); (case l20 => k_is); (case c20 => k_is); (case k20 => k_is); (case a21 => k_is); (case l21 => k_is); (case c21 => k_is); (case k21 => k_is); (case a22 => k_is); (case l22 => k_is); (case c22 => k_is); (case k22 => k_is); (case a23 => k_is); (case l23 => k_is); (case c23 => k_is); (case k23 => k_is); (case a24 => k_is); (case l24 => k_is); (case c24 => k_is); (case k24 => k_is); (case a25 => k_is); (case l25 => k_is); (case c25 => k_is); (case k25 => k_is); (case a26 => k_is); (case l26 => k_is); (case c26 => k_is); (case k26 => k_is); (case kc_law_odd => k_is); (case k11_law_odd => rfl); (case kp_law_odd => kernel_rfl); (case k18_law_odd => rfl); (case k7_law_odd => rfl); (case k9_law_odd => rfl); (case k10_law_odd => rfl); (case kc_law => k_is); (case k11_law => rfl); (case kp_law => kernel_rfl); (case k18_law => rfl); (case k7_law => rfl); (case k9_law => rfl); (case k10_law => rfl); (case pn_law_odd_law => decide); (case q_HandError => k_is); (case q_InvalidSign => k_is); (case q_InvalidHand => k_is); (case q_InvalidSigns => k_is); (case q_InvalidRow => k_is); (case q_InvalidStyle => k_is); (case q_InvalidView => k_is); (case q_InvalidGlances => k_is); (case q_InvalidPlace => k_is); (case q_InvalidNumber => k_is); (case q_InvalidText => k_is); (case q_TooLong => k_is); (case q_NothingToUndo => k_is); (case x1_InvalidSign => (first | k_is | k_exc)); (case x2_InvalidSign => k_is); (case x3_InvalidSign => k_is); (case x4_InvalidSign => k_is); (case e0_InvalidSign => (first | kts_exm | kernel_rfl)); (case e1_InvalidSign => k_is); (case e2_InvalidSign => k_is); (case e4_InvalidSign => k_is); (case e5_InvalidSign => k_is); (case e8_InvalidSign => k_is); (case ev_InvalidSign => (first | kit_is | kernel_rfl)); (case kt_InvalidSign_0 => (first | kit_is | kernel_rfl)); (case kt_InvalidSign_1 => (first | kit_is | kernel_rfl)); (case kt_InvalidSign_2 => (first | kit_is | kernel_rfl)); (case kt_InvalidSign_3 => (first | kit_is | kernel_rfl)); (case kt_InvalidSign_4 => (first | kit_is | kernel_rfl)); (case kt_InvalidSign_5 => (first | kit_is | kernel_rfl)); (case kt_InvalidSign_6 => (first | kit_is | kernel_rfl)); (case kt_InvalidSign_7 => (first | kit_is | kernel_rfl)); (case kt_InvalidSign_8 => (first | kit_is | kernel_rfl)); (case kt_InvalidSign_9 => (first | kit_is | kernel_rfl)); (case kt_InvalidSign_10 => (first | kit_is | kernel_rfl)); (case kt_InvalidSign_11 => (first | kit_is | kernel_rfl)); (case x1_InvalidHand => (first | k_is | k_exc)); (case x2_InvalidHand => k_is); (case x3_InvalidHand => k_is); (case x4_InvalidHand => k_is); (case e0_InvalidHand => (first | kts_exm | kernel_rfl)); (case e1_InvalidHand => k_is); (case e2_InvalidHand => k_is); (case e4_InvalidHand => k_is); (case e5_InvalidHand => k_is); (case e8_InvalidHand => k_is); (case ev_InvalidHand => (first | kit_is | kernel_rfl)); (case kt_InvalidHand_0 => (first | kit_is | kernel_rfl)); (case kt_InvalidHand_1 => (first | kit_is | kernel_rfl)); (case kt_InvalidHand_2 => (first | kit_is | kernel_rfl)); (case kt_InvalidHand_3 => (first | kit_is | kernel_rfl)); (case kt_InvalidHand_4 => (first | kit_is | kernel_rfl)); (case kt_InvalidHand_5 => (first | kit_is | kernel_rfl)); (case kt_InvalidHand_6 => (first | kit_is | kernel_rfl)); (case kt_InvalidHand_7 => (first | kit_is | kernel_rfl)); (case kt_InvalidHand_8 => (first | kit_is | kernel_rfl)); (case kt_InvalidHand_9 => (first | kit_is | kernel_rfl)); (case kt_InvalidHand_10 => (first | kit_is | kernel_rfl)); (case kt_InvalidHand_11 => (first | kit_is | kernel_rfl)); (case e6 => k_is); (case e7 => k_is); (case z_ValueError => k_is); (case z_all => k_is); (case z_bool => k_is); (case z_enumerate => k_is); (case z_int => k_is); (case z_isinstance => k_is); (case z_len => k_is); (case z_list => k_is); (case z_range => k_is); (case z_str => k_is); (case z_tuple => k_is); (case y_MOVES => k_is); (case y_PLACES => k_is); (case y_SHAPES => k_is); (case y_SIMPLE => k_is); (case y_TURNS => k_is)
